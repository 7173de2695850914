import PyProof.Rows.All
import PySem.Challenge.RW_matesline_k08_steps_walked
import HandS.ForMost
import HandS.ForExc
import HandS.TupAny
import HandS.TupMul
import HandS.More
import HandS.Style
import HandS.IsInst
import HandS.Deep
import KE.DataEq
import HandS.RaiseMore
import KE.KIndexOf
import PyProof.SeqIndex
import PyProof.EqAt
import HandS.Iter
import HandS.Zip
import HandS.Rev
import KE.GoesMore
import KE.GoesEnum
import HandS.Comp
import HandS.WordsExc
import HandS.ExcOwn
import PyProof.ReprReads
import PyProof.ReprRoads
import HandS.Ends
import HandS.Dict
import KE.KRevSl
import HandS.AnyAll
import HandS.Text
import PyProof.ReprLen
import PyProof.Rows.ReprOcc
import HandS.StrMore
import HandS.Strs
import HandS.SetFor
import HandS.Steps
import HandS.ExcInit
import HandS.ExcField
import HandS.ExcIs
import HandS.Small
import KE.KIsAll
import HandS.Star
import HandS.SortInts
import HandS.TupSets
import HandS.Conv
import HandS.SortRule
import PyProof.ListStr
import HandS.Flow
import HandS.Lambda
import HandS.EndTab
import KE.KNest
import HandS.EndOwn
import HandS.HotCalls
import HandS.Defaults
import HandS.CallSlots
import HandS.Replace
import KE.DataMinMax
import HandS.NoneIn
import PyProof.EqKinds
import KE.KEqDict
import PyProof.Rows.SortShellAny
import KE.KDictZip
import KE.KItemsList
import HandS.ListItems
import KE.KDictList
import HandS.Keys
import Flt.Ops
import PyProof.FString5
import HandS.SetTxt0
import KE.SortKeyed
import KE.SortData
import HandS.GenList
import HandS.GenOver
set_option Elab.async false
set_option linter.all false
set_option maxRecDepth 100000
set_option maxHeartbeats 4000000
namespace VL
open PySem PySem.Spec PyProof.Rows L2
/-! ## tuples whose very object is known (so that it has no dict of its own) -/
abbrev tob (its : List Value) : Obj := { cls := .type "tuple", data := .seq its.toArray }
/-- a held tuple -/
abbrev HO.th (o : Obj) (xs : List V) : HO := .frz o (.tup xs)
theorem th_ok {P : Program} {w : World} {H : Hp} {h : Heap} {a : Addr} {xs : List V} {its : List Value} (hz : xs.length ≤ sizeLine) (r : Vals xs its) (e : h.get? a = some (tob its)) : ObjOk P w H h a (HO.th (tob its) xs) :=
  ⟨e, hz, its, r, ⟨_, e, rfl, _, rfl⟩⟩
theorem SqT.th {K : PySem.W.Frag} {H : Hp} {a : Addr} {o : Obj} {xs : List V} (h : H a = some (HO.th o xs)) : SqT K H a xs := .inl (.inr ⟨o, h⟩)
/-- what is wanted of a new tuple -/
abbrev NewT (H : Hp) (xs : List V) (Q : VK) : Prop := ∀ (p : Addr) (o : Obj), H p = none → o.dict = none → Q (.ref p) (upd H p (HO.th o xs))
section
variable {X : Cx} {e : Expr} {es : List Expr} {te : TE} {t : TA} {pos : Pos} {pins : List (Addr × Obj)} {σ : L2.St} {H : Hp} {s : Shared} {Q : VK}
theorem new_th {xs : List V} {its : List Value} {tk : Nat} (I : Inv X pins σ H s) (hz : xs.length ≤ sizeLine) (r : Vals xs its) (q : NewT H xs Q) : EP X pins σ Q (.ref s.heap.objs.size) { s with heap := s.heap.push (tob its), toks := tk } :=
  ⟨.ref s.heap.objs.size, upd H s.heap.objs.size (HO.th (tob its) xs), I.laid (t' := tk) (fun _ _ e => Heap.get?_push_of_some _ e) (Nat.le_refl _) (th_ok hz r (Heap.get?_push_size _ rfl)), rfl, q _ _ (I.hok.fresh (Nat.le_refl _)) rfl⟩
def tTupF (t : TA) : TE := fun σ H Q => t σ H fun xs H1 => xs.length ≤ sizeLine ∧ NewT H1 xs Q
theorem pe_tupF {x1} (h : PA X es t) : PE X (.Tuple es x1 pos) (tTupF t) := by
  refine ⟨fun pins s σ H Q I hq => wpAny_Tuple_spliced (thn (h.run pos pins s σ H _ I hq) ?_)⟩
  rintro us s1 ⟨xs, H1, I1, r, z, q⟩
  exact ⟨Nat.le_trans (Nat.le_of_eq r.length.symm) z, new_th (tk := s1.toks) I1 z r q⟩
def rCatF (K : PySem.W.Frag) : R2 := fun x y H Q => ∃ a c xs ys, x = .ref a ∧ y = .ref c ∧ SqT K H a xs ∧ SqT K H c ys ∧ xs.length + ys.length ≤ sizeLine ∧
  (xs = [] → Q (.ref c) H) ∧ (xs ≠ [] → ys = [] → Q (.ref a) H) ∧ (xs ≠ [] → ys ≠ [] → NewT H (xs ++ ys) Q)
theorem op_catF : OpR X (binaryOp .Add) (rCatF X.K) := by
  intro pins s σ H x y v u Q I rx ry ⟨a, c, xs, ys, ex, ey, ha, hc, hz, q0, q1, q2⟩
  subst ex ey
  obtain rfl : v = .ref a := rx
  obtain rfl : u = .ref c := ry
  obtain ⟨i1, r1, p1, _⟩ := I.tuple ha
  obtain ⟨i2, r2, p2, _⟩ := I.tuple hc
  cases xs with
  | nil =>
    cases r1
    exact cat_tup0 p1 p2 ⟨.ref c, H, I, rfl, q0 rfl⟩
  | cons x0 xr =>
    have hx : x0 :: xr ≠ [] := by simp
    refine HT.cat_tup p1 p2 (fun z => hx (r1.nil_iff.mp z)) (fun z => ⟨.ref a, H, I, rfl, q1 hx (r2.nil_iff.mp z)⟩) (fun z => ?_) (by have h1 := r1.length; have h2 := r2.length; omega)
    exact new_th (tk := s.toks) I (by rw [List.length_append]; exact hz) (r1.append r2) (q2 hx fun w => z (r2.nil_iff.mpr w))
def rSlF (K : PySem.W.Frag) : V → Option Int → Option Int → Hp → VK → Prop := fun x lo hi H Q => ∃ a xs, x = .ref a ∧ SqT K H a xs ∧
  (HT.sIx xs.length 0 lo = 0 ∧ HT.sIx xs.length xs.length hi = xs.length → Q (.ref a) H) ∧ (¬ (HT.sIx xs.length 0 lo = 0 ∧ HT.sIx xs.length xs.length hi = xs.length) → NewT H (cutV xs lo hi) Q)
theorem sl_tupF : SlR X (rSlF X.K) := by
  intro pins s σ H x v vl vu lo hi sl Q I rx hs pl pu ⟨a, xs, ex, hx, q1, q2⟩
  subst ex
  obtain rfl : v = .ref a := rx
  obtain ⟨its, r, ht, hz⟩ := I.tuple hx
  have hn : its.toArray.size = xs.length := by rw [List.size_toArray, r.length]
  refine ⟨"tuple", _, PyProof.Rows.slot_tuple_getitem.lookup, ht.typeIs, ?_⟩
  by_cases hw : HT.sIx xs.length 0 lo = 0 ∧ HT.sIx xs.length xs.length hi = xs.length
  · exact getItem_tuple_whole ht hs pl pu (by rw [hn]; exact hw) ⟨.ref a, H, I, rfl, q1 hw⟩
  · refine HT.getItem_tuple_cut ht hs pl pu (by rw [hn]; exact hw) ?_ (by rw [hn]; exact hz)
    rw [hn]
    exact new_th (tk := s.toks) I (Nat.le_trans (cutV_length xs lo hi) hz) ((r.drop _).take _) (q2 hw)
def rTupOf (K : PySem.W.Frag) : List V → Hp → VK → Prop := fun xs H Q => ∃ p ys, xs = [.ref p] ∧ ((SqL K H p ys ∧ NewT H ys Q) ∨ (SqT K H p ys ∧ Q (.ref p) H))
theorem call_tupF : CallR X (.type "tuple") (rTupOf X.K) := by
  intro pins s σ H xs us Q I r ⟨p, ys, ex, h⟩
  subst ex
  obtain ⟨u, rfl, ru⟩ := vals1 r
  obtain rfl : u = .ref p := ru
  rcases h with ⟨hq, q⟩ | ⟨hq, q⟩
  · obtain ⟨its, r', pl, hz⟩ := I.list hq
    refine call_tuple_list pl.isList (fun h' kp => ?_) (by rw [List.size_toArray, ← r'.length]; exact hz)
    exact new_th (s := { s with heap := h' }) (tk := s.toks) (I.kept (t' := s.toks) kp) hz r' q
  · obtain ⟨its, r', pl, hz⟩ := I.tuple hq
    exact call_tuple_same pl ⟨.ref p, H, I, rfl, q⟩
def rRepF (K : PySem.W.Frag) : R2 := fun x y H Q => ∃ l k xs, x = .ref l ∧ y = .int k ∧ SqT K H l xs ∧ xs ≠ [] ∧ 2 ≤ k ∧ k ≤ 1000 ∧ xs.length ≤ 1000 ∧ NewT H (List.replicate k.toNat xs).flatten Q
theorem op_repF : OpR X (binaryOp .Mult) (rRepF X.K) := by
  intro pins s σ H x y v u Q I rx ry ⟨l, k, xs, ex, ey, hT, hne, h2, h3, hz, q⟩
  subst ex ey
  obtain rfl : v = .ref l := rx
  obtain ⟨t, rfl⟩ := ry
  obtain ⟨its, r, ⟨o, ho, hc, n, hd⟩, hs⟩ := I.tuple hT
  obtain ⟨oc, dd, dt, slt⟩ := o
  obtain rfl : oc = .type "tuple" := hc
  obtain rfl : dt = .seq its.toArray n := hd
  have hle : its.length = xs.length := r.length.symm
  have hi : its.toArray.isEmpty = false := by
    cases xs with
    | nil => exact absurd rfl hne
    | cons _ _ => cases r; rfl
  have hsz : its.toArray.size = xs.length := by rw [List.size_toArray, hle]
  have hm : ((its.toArray.size : Nat) : Int) * k ≤ 1000000 := by
    rw [hsz]
    exact Int.le_trans (Int.mul_le_mul_of_nonneg_right (show ((xs.length : Nat) : Int) ≤ 1000 by omega) (by omega)) (by omega)
  have fl : (List.replicate k.toNat xs).flatten.length ≤ sizeLine := by
    rw [PyProof.Rows.lm_len_rep_flat, sizeLine_eq]
    exact Nat.le_trans (Nat.mul_le_mul (show k.toNat ≤ 1000 by omega) hz) (by decide)
  have fl2 : (List.replicate k.toNat its).flatten.length ≤ sizeLine := by
    rw [PyProof.Rows.lm_len_rep_flat, hle, ← PyProof.Rows.lm_len_rep_flat]
    exact fl
  have c1 : (its.toArray.isEmpty || k == 1) = false := by simp only [hi, Bool.false_or]; exact beq_eq_false_iff_ne.mpr (by omega)
  have c2 : (decide (k ≤ 0) || its.toArray.isEmpty) = false := by simp only [hi, Bool.or_false]; exact decide_eq_false (by omega)
  have c4 : Builtin.Tuple.tupleTooMany (((its.toArray.size : Nat) : Int) * k) = false := by
    unfold Builtin.Tuple.tupleTooMany
    simp only [sizeLine_eq]
    exact decide_eq_false (by omega)
  have road := tuple_mulW l its.toArray n dd slt k t (by simp; omega) c1 c2 (by omega) c4 (by rw [size_rep, List.size_toArray]; exact fl2)
  refine wpAny_binaryOp_repeat_ref (U := "int") (T := "tuple") (by decide) ⟨_, ho, rfl⟩ (typeIs_int · k t) noFill_tuple_mul F.fills_int_mul F.slot_int_rmul repeat_tuple F.slot_int_index.lookup ?_
  refine call_meets F.slot_int_rmul (typeIs_int s k t) F.entry_int_rmul (F.args_int_rmul_2 _ _) (int_rmul_tuple k t l its.toArray n dd slt) ⟨ho, rfl, ⟨_, ho, rfl⟩, ?_⟩
  refine call_meets F.slot_tuple_mul ⟨_, ho, rfl⟩ F.entry_tuple_mul (F.args_tuple_mul_2 _ _) road ⟨ho, ?_⟩
  rw [size_rep]
  exact new_th (tk := s.toks) I fl (r.rep k.toNat) q
end
end VL
set_option Elab.async false
set_option linter.all false
set_option maxRecDepth 100000
set_option maxHeartbeats 4000000
namespace VL
open PySem PySem.Spec PyProof.Rows L2
/-- things that no rule here writes -/
def still : HO → Prop
  | .ext _ => True
  | .frz _ (.lst _) => True
  | _ => False
/-- any other thing, by what is true of it at its address -/
structure Abs where
  R : (Addr → Prop) → Hp → Addr → Prop
  at_ : ∀ {Z H a}, R Z H a → ∃ o, H a = some o
  noext : ∀ {Z H a}, R Z H a → ∀ o : HO, still o → H a ≠ some o
  mono : ∀ {Z Z' : Addr → Prop} {H H' : Hp} {a : Addr}, (∀ a, Z' a → Z a ∨ H a = none) → (∀ a o, H a = some o → ¬ Z a → H' a = some o) → (∀ o, H a = some o → H' a = some o) → R Z H a → R Z' H' a
/-- what a value is worth: plain data, an own object of plain data that stands still, a value as it is -/
inductive D where
  | py (p : PyData)
  | obj (a : Addr) (n : Str) (fs : List (Str × PyData))
  | raw (v : V)
  | err (a : Addr) (d : Option Addr) (n : Str) (fs : List (Str × PyData))
  | abs (A : Abs)
@[simp] def kD : Key → PyData
  | .inl i => .int i
  | .inr x => .str x
mutual
/-- v is worth d in H; nothing that it reaches lies in Z -/
inductive Rq (Z : Addr → Prop) (H : Hp) : V → PyData → Prop
  | non : Rq Z H .non .none
  | bl (k : Bool) : Rq Z H (.bl k) (.bool k)
  | int (i : Int) : Rq Z H (.int i) (.int i)
  | str (x : Str) : Rq Z H (.str x) (.str x)
  | lst {a : Addr} {xs : List V} {ds : List PyData} : H a = some (.lst xs) → ¬ Z a → Rqs Z H xs ds → Rq Z H (.ref a) (.list ds)
  | tup {a : Addr} {o : Obj} {xs : List V} {ds : List PyData} : H a = some (HO.th o xs) → o.dict = none → ¬ Z a → Rqs Z H xs ds → Rq Z H (.ref a) (.tuple ds)
  | dct {a : Addr} {kvs : List (Key × V)} {ds : List (PyData × PyData)} : H a = some (.dK kvs) → ¬ Z a → Rqk Z H kvs ds → Rq Z H (.ref a) (.dict ds)
inductive Rqs (Z : Addr → Prop) (H : Hp) : List V → List PyData → Prop
  | nil : Rqs Z H [] []
  | cons {v : V} {d : PyData} {vs : List V} {ds : List PyData} : Rq Z H v d → Rqs Z H vs ds → Rqs Z H (v :: vs) (d :: ds)
inductive Rqk (Z : Addr → Prop) (H : Hp) : List (Key × V) → List (PyData × PyData) → Prop
  | nil : Rqk Z H [] []
  | cons {k : Key} {v : V} {d : PyData} {vs : List (Key × V)} {ds : List (PyData × PyData)} : Rq Z H v d → Rqk Z H vs ds → Rqk Z H ((k, v) :: vs) ((kD k, d) :: ds)
end
section
variable {Z Z' : Addr → Prop} {H H' : Hp}
mutual
theorem Rq.mono (hz : ∀ a, Z' a → Z a ∨ H a = none) (hs : ∀ a o, H a = some o → ¬ Z a → H' a = some o) : ∀ {v : V} {d : PyData}, Rq Z H v d → Rq Z' H' v d
  | _, _, .non => .non
  | _, _, .bl k => .bl k
  | _, _, .int i => .int i
  | _, _, .str x => .str x
  | _, _, .lst e n r => .lst (hs _ _ e n) (fun z => (hz _ z).elim n fun q => by rw [e] at q; cases q) (Rqs.mono hz hs r)
  | _, _, .tup e d n r => .tup (hs _ _ e n) d (fun z => (hz _ z).elim n fun q => by rw [e] at q; cases q) (Rqs.mono hz hs r)
  | _, _, .dct e n r => .dct (hs _ _ e n) (fun z => (hz _ z).elim n fun q => by rw [e] at q; cases q) (Rqk.mono hz hs r)
theorem Rqs.mono (hz : ∀ a, Z' a → Z a ∨ H a = none) (hs : ∀ a o, H a = some o → ¬ Z a → H' a = some o) : ∀ {v : List V} {d : List PyData}, Rqs Z H v d → Rqs Z' H' v d
  | _, _, .nil => .nil
  | _, _, .cons r t => .cons (Rq.mono hz hs r) (Rqs.mono hz hs t)
theorem Rqk.mono (hz : ∀ a, Z' a → Z a ∨ H a = none) (hs : ∀ a o, H a = some o → ¬ Z a → H' a = some o) : ∀ {v : List (Key × V)} {d : List (PyData × PyData)}, Rqk Z H v d → Rqk Z' H' v d
  | _, _, .nil => .nil
  | _, _, .cons r t => .cons (Rq.mono hz hs r) (Rqk.mono hz hs t)
end
theorem Rqs.length : ∀ {v : List V} {d : List PyData}, Rqs Z H v d → v.length = d.length
  | _, _, .nil => rfl
  | _, _, .cons _ t => congrArg (· + 1) (Rqs.length t)
theorem Rqk.length : ∀ {v : List (Key × V)} {d : List (PyData × PyData)}, Rqk Z H v d → v.length = d.length
  | _, _, .nil => rfl
  | _, _, .cons _ t => congrArg (· + 1) (Rqk.length t)
theorem Rqs.append : ∀ {v w : List V} {d e : List PyData}, Rqs Z H v d → Rqs Z H w e → Rqs Z H (v ++ w) (d ++ e)
  | _, _, _, _, .nil, s => s
  | _, _, _, _, .cons r t, s => .cons r (Rqs.append t s)
theorem Rqs.get : ∀ {v : List V} {d : List PyData} {i : Nat} {x : PyData}, Rqs Z H v d → d[i]? = some x → ∃ u, v[i]? = some u ∧ Rq Z H u x
  | _, _, _, _, .nil, e => by simp at e
  | _, _, 0, _, .cons r _, e => by simp at e; subst e; exact ⟨_, rfl, r⟩
  | _, _, i + 1, x, .cons _ t, e => by
    obtain ⟨u, h1, h2⟩ := Rqs.get (i := i) (x := x) t (by simpa using e)
    exact ⟨u, by simpa using h1, h2⟩
theorem Rqs.take : ∀ {v : List V} {d : List PyData} (n : Nat), Rqs Z H v d → Rqs Z H (v.take n) (d.take n)
  | _, _, 0, _ => .nil
  | _, _, _ + 1, .nil => .nil
  | _, _, n + 1, .cons r t => .cons r (Rqs.take n t)
theorem Rqs.drop : ∀ {v : List V} {d : List PyData} (n : Nat), Rqs Z H v d → Rqs Z H (v.drop n) (d.drop n)
  | _, _, 0, r => r
  | _, _, _ + 1, .nil => .nil
  | _, _, n + 1, .cons _ t => Rqs.drop n t
theorem Rqs.reverse {v : List V} {d : List PyData} (r : Rqs Z H v d) : Rqs Z H v.reverse d.reverse := by
  have go : ∀ {v w : List V} {d e : List PyData}, Rqs Z H v d → Rqs Z H w e → Rqs Z H (v.reverse ++ w) (d.reverse ++ e) := by
    intro v
    induction v with
    | nil => intro w d e r s; cases r; exact s
    | cons x v ih =>
      intro w d e r s
      cases r with
      | cons r t =>
        rw [List.reverse_cons, List.reverse_cons, List.append_assoc, List.append_assoc]
        exact ih t (.cons r s)
  have := go r (Rqs.nil (Z := Z) (H := H))
  simpa using this
theorem Rqs.rep {v : List V} {d : List PyData} (r : Rqs Z H v d) : ∀ n : Nat, Rqs Z H (List.replicate n v).flatten (List.replicate n d).flatten
  | 0 => .nil
  | n + 1 => by rw [List.replicate_succ, List.replicate_succ, List.flatten_cons, List.flatten_cons]; exact r.append (Rqs.rep r n)
/-- ints are ints -/
theorem Rqs.ints : ∀ {v : List V} {ns : List Int}, Rqs Z H v (ns.map PyData.int) → v = ns.map V.int
  | _, [], .nil => rfl
  | _, n :: ns, .cons r t => by
    cases r
    rw [List.map_cons, Rqs.ints t]
theorem Rqs.strs : ∀ {v : List V} {ns : List Str}, Rqs Z H v (ns.map PyData.str) → v = ns.map V.str
  | _, [], .nil => rfl
  | _, n :: ns, .cons r t => by
    cases r
    rw [List.map_cons, Rqs.strs t]
theorem Rqs.of_ints : ∀ (ns : List Int), Rqs Z H (ns.map V.int) (ns.map PyData.int)
  | [] => .nil
  | n :: ns => .cons (.int n) (Rqs.of_ints ns)
end
/-- what surrounds the code: the classes' addresses, what others may change (B) while G stands -/
structure Bg where
  cls : Str → Addr
  B : Addr → Prop
  G : Hp → Prop
  loc : ∀ H H' : Hp, (∀ a, B a → H' a = H a) → (∀ a o, still o → H a = some o → H' a = some o) → G H → G H'
  dom : ∀ (H : Hp) (a : Addr), G H → B a → H a ≠ none
/-- an error: its class's name, its fields -/
structure Er where
  n : Str
  fs : List (Str × PyData)
/-- fields -/
inductive Rqf (Z : Addr → Prop) (H : Hp) : List (Str × V) → List (Str × PyData) → Prop
  | nil : Rqf Z H [] []
  | cons {k : Str} {v : V} {d : PyData} {vs : List (Str × V)} {ds : List (Str × PyData)} : Rq Z H v d → Rqf Z H vs ds → Rqf Z H ((k, v) :: vs) ((k, d) :: ds)
section
variable {Z Z' : Addr → Prop} {H H' : Hp}
theorem Rqf.mono (hz : ∀ a, Z' a → Z a ∨ H a = none) (hs : ∀ a o, H a = some o → ¬ Z a → H' a = some o) : ∀ {v : List (Str × V)} {d : List (Str × PyData)}, Rqf Z H v d → Rqf Z' H' v d
  | _, _, .nil => .nil
  | _, _, .cons r t => .cons (r.mono hz hs) (Rqf.mono hz hs t)
theorem Rqf.look : ∀ {v : List (Str × V)} {d : List (Str × PyData)} {f : Str} {x : PyData}, Rqf Z H v d → d.lookup f = some x → ∃ u, v.lookup f = some u ∧ Rq Z H u x
  | _, _, _, _, .nil, e => by simp at e
  | _, _, f, x, .cons (k := k) r t, e => by
    rw [List.lookup_cons] at e
    rw [List.lookup_cons]
    cases h : f == k with
    | true => rw [h] at e; cases e; exact ⟨_, rfl, r⟩
    | false => rw [h] at e; exact Rqf.look t e
end
/-- v is worth d -/
def Rp (b : Bg) (Z : Addr → Prop) (H : Hp) (v : V) : D → Prop
  | .py p => Rq Z H v p
  | .obj a n fs => ∃ dx xs, v = .ref a ∧ H a = some (.ins (b.cls n) dx xs) ∧ ¬ Z a ∧ Rqf Z H xs fs
  | .abs A => ∃ a, v = .ref a ∧ ¬ Z a ∧ A.R Z H a
  | .raw u => v = u
  | .err a d _ fs => v = .ref a ∧ ((d = none ∧ fs = []) ∨ ∃ dd xs, d = some dd ∧ H dd = some (.xd xs) ∧ ¬ Z dd ∧ Rqf Z H xs fs)
inductive Rps (b : Bg) (Z : Addr → Prop) (H : Hp) : List V → List D → Prop
  | nil : Rps b Z H [] []
  | cons {v : V} {d : D} {vs : List V} {ds : List D} : Rp b Z H v d → Rps b Z H vs ds → Rps b Z H (v :: vs) (d :: ds)
section
variable {b : Bg} {Z Z' : Addr → Prop} {H H' : Hp}
theorem Rp.mono (hz : ∀ a, Z' a → Z a ∨ H a = none) (hs : ∀ a o, H a = some o → ¬ Z a → H' a = some o) {v : V} {d : D} (r : Rp b Z H v d) : Rp b Z' H' v d := by
  cases d with
  | py p => exact Rq.mono hz hs r
  | abs A =>
    obtain ⟨a, e, nz, q⟩ := r
    obtain ⟨o, h⟩ := A.at_ q
    exact ⟨a, e, fun z => (hz _ z).elim nz (fun q => by rw [h] at q; cases q), A.mono hz hs (fun o h => hs _ _ h nz) q⟩
  | obj a n fs =>
    obtain ⟨dx, xs, e, h, nz, q⟩ := r
    exact ⟨dx, xs, e, hs _ _ h nz, fun z => (hz _ z).elim nz (fun q => by rw [h] at q; cases q), q.mono hz hs⟩
  | raw u => exact r
  | err a d n fs =>
    obtain ⟨e, r⟩ := r
    refine ⟨e, r.imp id ?_⟩
    rintro ⟨dd, xs, e1, h, nz, q⟩
    exact ⟨dd, xs, e1, hs _ _ h nz, fun z => (hz _ z).elim nz (fun q => by rw [h] at q; cases q), q.mono hz hs⟩
theorem Rps.mono (hz : ∀ a, Z' a → Z a ∨ H a = none) (hs : ∀ a o, H a = some o → ¬ Z a → H' a = some o) : ∀ {v : List V} {d : List D}, Rps b Z H v d → Rps b Z' H' v d
  | _, _, .nil => .nil
  | _, _, .cons r t => .cons (r.mono hz hs) (Rps.mono hz hs t)
theorem Rps.length : ∀ {v : List V} {d : List D}, Rps b Z H v d → v.length = d.length
  | _, _, .nil => rfl
  | _, _, .cons _ t => congrArg (· + 1) (Rps.length t)
theorem Rps.pys : ∀ {v : List V} {d : List PyData}, Rps b Z H v (d.map D.py) → Rqs Z H v d
  | _, [], .nil => .nil
  | _, x :: d, .cons r t => .cons r (Rps.pys t)
theorem Rqs.to : ∀ {v : List V} {d : List PyData}, Rqs Z H v d → Rps b Z H v (d.map D.py)
  | _, _, .nil => .nil
  | _, _, .cons r t => .cons r (Rqs.to t)
end
/-- an owned object: it lies in Z itself, its items do not -/
def Ow (b : Bg) (Z : Addr → Prop) (H : Hp) (a : Addr) : D → Prop
  | .py (.list ds) => ∃ xs, H a = some (.lst xs) ∧ Rqs Z H xs ds
  | .py (.dict ds) => ∃ kvs, H a = some (.dK kvs) ∧ Rqk Z H kvs ds
  | .obj c n fs => a = c ∧ ∃ dx xs, H a = some (.ins (b.cls n) dx xs) ∧ Rqf Z H xs fs
  | .abs A => A.R Z H a
  | _ => False
section
variable {b : Bg} {Z Z' : Addr → Prop} {H H' : Hp} {a : Addr} {d : D}
theorem Ow.noext (h : Ow b Z H a d) (o : HO) (ho : still o) : H a ≠ some o := fun z => by
  cases d with
  | py p =>
    cases p with
    | list ds => obtain ⟨xs, e, _⟩ := h; rw [e] at z; cases z; exact ho
    | dict ds => obtain ⟨xs, e, _⟩ := h; rw [e] at z; cases z; exact ho
    | _ => exact False.elim h
  | obj c n fs => obtain ⟨_, _, _, e, _⟩ := h; rw [e] at z; cases z; exact ho
  | abs A => exact A.noext h o ho z
  | _ => exact False.elim h
theorem Ow.at (h : Ow b Z H a d) : ∃ o, H a = some o := by
  cases d with
  | py p =>
    cases p with
    | list ds => obtain ⟨xs, e, _⟩ := h; exact ⟨_, e⟩
    | dict ds => obtain ⟨xs, e, _⟩ := h; exact ⟨_, e⟩
    | _ => exact False.elim h
  | obj c n fs => obtain ⟨_, dx, xs, e, _⟩ := h; exact ⟨_, e⟩
  | abs A => exact A.at_ h
  | raw u => exact False.elim h
  | err _ _ _ _ => exact False.elim h
theorem Ow.mono (hz : ∀ a, Z' a → Z a ∨ H a = none) (hs : ∀ a o, H a = some o → ¬ Z a → H' a = some o) (ha : ∀ o, H a = some o → H' a = some o) (h : Ow b Z H a d) : Ow b Z' H' a d := by
  cases d with
  | py p =>
    cases p with
    | list ds => obtain ⟨xs, e, r⟩ := h; exact ⟨xs, ha _ e, r.mono hz hs⟩
    | dict ds => obtain ⟨xs, e, r⟩ := h; exact ⟨xs, ha _ e, r.mono hz hs⟩
    | _ => exact False.elim h
  | obj c n fs => obtain ⟨ec, dx, xs, e, r⟩ := h; exact ⟨ec, dx, xs, ha _ e, r.mono hz hs⟩
  | abs A => exact A.mono hz hs ha h
  | raw u => exact False.elim h
  | err _ _ _ _ => exact False.elim h
/-- given away -/
theorem Ow.rp (hz : ∀ a, Z' a → Z a) (na : ¬ Z' a) (h : Ow b Z H a d) : Rp b Z' H (.ref a) d := by
  have hm : ∀ a, Z' a → Z a ∨ H a = none := fun a z => .inl (hz a z)
  cases d with
  | py p =>
    cases p with
    | list ds => obtain ⟨xs, e, r⟩ := h; exact Rq.lst e na (r.mono hm fun _ _ e _ => e)
    | dict ds => obtain ⟨xs, e, r⟩ := h; exact Rq.dct e na (r.mono hm fun _ _ e _ => e)
    | _ => exact False.elim h
  | obj c n fs => obtain ⟨ec, dx, xs, e, r⟩ := h; subst ec; exact ⟨dx, xs, rfl, e, na, r.mono hm fun _ _ e _ => e⟩
  | abs A => exact ⟨a, rfl, na, A.mono hm (fun _ _ e _ => e) (fun _ e => e) h⟩
  | raw u => exact False.elim h
  | err _ _ _ _ => exact False.elim h
end
end VL
set_option Elab.async false
set_option linter.all false
set_option maxRecDepth 100000
set_option maxHeartbeats 4000000
namespace VL
open PySem PySem.Spec PyProof.Rows L2
/-- a name's slot: nothing known, a shared value, an object that nobody else holds -/
inductive Slot where
  | un | shr (d : D) | own (d : D)
abbrev VEnv := List Slot
/-- all that stood and may not be changed by others stands -/
def Ex (b : Bg) (H H' : Hp) : Prop := ∀ a o, H a = some o → ¬ b.B a → H' a = some o
section
variable {b : Bg} {H H1 H2 : Hp}
theorem Ex.refl : Ex b H H := fun _ _ e _ => e
theorem Ex.trans (x : Ex b H H1) (y : Ex b H1 H2) : Ex b H H2 := fun a o e n => y a o (x a o e n) n
theorem Ex.new {a : Addr} {o : HO} (h : H a = none) : Ex b H (upd H a o) := fun c u e _ => by
  rw [upd_ne (ne_of_none e h)]
  exact e
theorem Bg.new {a : Addr} {o : HO} (g : b.G H) (h : H a = none) : b.G (upd H a o) :=
  b.loc H _ (fun c hc => upd_ne fun e => b.dom H c g hc (by rw [e]; exact h)) (fun c o _ e => by rw [upd_ne (ne_of_none e h)]; exact e) g
end
/-- the names' values and what they own. Zo: what the callers own, and B; Z: all that is owned now -/
structure VOk (b : Bg) (Zo Z : Addr → Prop) (σ : L2.St) (H : Hp) (ρ : VEnv) : Prop where
  g : b.G H
  zb : ∀ a, b.B a → Zo a
  zo : ∀ a, Zo a → Z a
  dom : ∀ a, Z a → H a ≠ none
  zi : ∀ a, Z a → Zo a ∨ ∃ (i : Nat) (d : D), ρ[i]? = some (.own d) ∧ σ[i]? = some (some (.ref a))
  own : ∀ (i : Nat) (d : D), ρ[i]? = some (.own d) → ∃ a, σ[i]? = some (some (.ref a)) ∧ Z a ∧ ¬ Zo a ∧ Ow b Z H a d
  inj : ∀ (i j : Nat) (d e : D) (a : Addr), ρ[i]? = some (.own d) → ρ[j]? = some (.own e) → σ[i]? = some (some (.ref a)) → σ[j]? = some (some (.ref a)) → i = j
  shr : ∀ (i : Nat) (d : D), ρ[i]? = some (.shr d) → ∃ v, σ[i]? = some (some v) ∧ Rp b Z H v d
  len : ρ.length = σ.length
section
variable {b : Bg} {Zo Z : Addr → Prop} {σ : L2.St} {H H' : Hp} {ρ : VEnv}
theorem VOk.nb (v : VOk b Zo Z σ H ρ) {a : Addr} (h : ¬ Z a) : ¬ b.B a := fun z => h (v.zo _ (v.zb _ z))
theorem VOk.fresh (v : VOk b Zo Z σ H ρ) {a : Addr} (h : H a = none) : ¬ Z a := fun z => v.dom a z h
theorem VOk.keep (v : VOk b Zo Z σ H ρ) (x : Ex b H H') : ∀ a o, H a = some o → ¬ Z a → H' a = some o := fun a o e n => x a o e (v.nb n)
theorem VOk.rp (v : VOk b Zo Z σ H ρ) (x : Ex b H H') {u : V} {d : D} (r : Rp b Z H u d) : Rp b Z H' u d := r.mono (fun a z => .inl z) (v.keep x)
theorem VOk.rq (v : VOk b Zo Z σ H ρ) (x : Ex b H H') {u : V} {d : PyData} (r : Rq Z H u d) : Rq Z H' u d := r.mono (fun a z => .inl z) (v.keep x)
theorem VOk.rqs (v : VOk b Zo Z σ H ρ) (x : Ex b H H') {u : List V} {d : List PyData} (r : Rqs Z H u d) : Rqs Z H' u d := r.mono (fun a z => .inl z) (v.keep x)
/-- behind an expression -/
theorem VOk.ex (v : VOk b Zo Z σ H ρ) (x : Ex b H H') (g : b.G H') : VOk b Zo Z σ H' ρ where
  g := g
  zb := v.zb
  zo := v.zo
  dom := fun a z => by
    by_cases hb : b.B a
    · exact b.dom H' a g hb
    · cases e : H a with
      | none => exact absurd e (v.dom a z)
      | some o => rw [x a o e hb]; simp
  zi := v.zi
  own := fun i d e => by
    obtain ⟨a, h1, h2, h3, h4⟩ := v.own i d e
    exact ⟨a, h1, h2, h3, h4.mono (fun _ z => .inl z) (v.keep x) fun o q => x a o q fun z => h3 (v.zb a z)⟩
  inj := v.inj
  shr := fun i d e => by
    obtain ⟨u, h1, h2⟩ := v.shr i d e
    exact ⟨u, h1, v.rp x h2⟩
  len := v.len
end
/-! ### readings -/
abbrev VT := VEnv → (D → Prop) → (Er → Prop) → Prop
abbrev VB := VEnv → (Bool → Prop) → (Er → Prop) → Prop
abbrev VA := VEnv → (List D → Prop) → (Er → Prop) → Prop
/-- an error as it lies: its class, its own dict -/
def ErRp (b : Bg) (Z : Addr → Prop) (H : Hp) (c : Value) (d : Option Addr) (er : Er) : Prop :=
  c = .ref (b.cls er.n) ∧ ((d = none ∧ er.fs = []) ∨ ∃ a xs, d = some a ∧ H a = some (.xd xs) ∧ ¬ Z a ∧ Rqf Z H xs er.fs)
/-- a borrowed value: it may be an owned object itself -/
def Rb (b : Bg) (Z : Addr → Prop) (H : Hp) (v : V) (d : D) : Prop := Rp b Z H v d ∨ ∃ a, v = .ref a ∧ ¬ b.B a ∧ Z a ∧ Ow b Z H a d
/-- a new object that nobody holds -/
def Rn (b : Bg) (Z : Addr → Prop) (H0 H : Hp) (v : V) (d : D) : Prop := ∃ a, v = .ref a ∧ H0 a = none ∧ Ow b (fun c => Z c ∨ c = a) H a d
/-- how a reading over values is one over the heap -/
def LE (b : Bg) (W : WX) (R : (Addr → Prop) → Hp → Hp → V → D → Prop) (t : VT) : TE := fun σ H Q => ∃ Zo Z ρ Qd Ed, VOk b Zo Z σ H ρ ∧ t ρ Qd Ed ∧
  (∀ v H' d, Ex b H H' → b.G H' → R Z H H' v d → Qd d → Q v H') ∧ ∀ c x H' er, Ex b H H' → b.G H' → ErRp b Z H' c x er → Ed er → W c x σ H'
def LB (b : Bg) (W : WX) (t : VB) : TT := fun σ H Q => ∃ Zo Z ρ Qd Ed, VOk b Zo Z σ H ρ ∧ t ρ Qd Ed ∧
  (∀ k H', Ex b H H' → b.G H' → Qd k → Q k H') ∧ ∀ c x H' er, Ex b H H' → b.G H' → ErRp b Z H' c x er → Ed er → W c x σ H'
def LA (b : Bg) (W : WX) (t : VA) : TA := fun σ H Q => ∃ Zo Z ρ Qd Ed, VOk b Zo Z σ H ρ ∧ t ρ Qd Ed ∧
  (∀ v H' d, Ex b H H' → b.G H' → Rps b Z H' v d → Qd d → Q v H') ∧ ∀ c x H' er, Ex b H H' → b.G H' → ErRp b Z H' c x er → Ed er → W c x σ H'
/-- an expression: its value; borrowed; new -/
def VE (X : Cx) (b : Bg) (W : WX) (e : Expr) (t : VT) : Prop := PE X e (LE b W (fun Z _ H v d => Rp b Z H v d) t)
def VX (X : Cx) (b : Bg) (W : WX) (e : Expr) (t : VT) : Prop := PE X e (LE b W (fun Z _ H v d => Rb b Z H v d) t)
def VN (X : Cx) (b : Bg) (W : WX) (e : Expr) (t : VT) : Prop := PE X e (LE b W (fun Z H0 H v d => Rn b Z H0 H v d) t)
def VTe (X : Cx) (b : Bg) (W : WX) (e : Expr) (t : VB) : Prop := PT X e (LB b W t)
def VAs (X : Cx) (b : Bg) (W : WX) (es : List Expr) (t : VA) : Prop := PA X es (LA b W t)
theorem pe_mono {X : Cx} {e : Expr} {t t' : TE} (h : PE X e t) (m : ∀ σ H Q, t' σ H Q → t σ H Q) : PE X e t' :=
  ⟨fun pins s σ H Q I q => h.run pins s σ H Q I (m σ H Q q)⟩
theorem pt_mono {X : Cx} {e : Expr} {t t' : TT} (h : PT X e t) (m : ∀ σ H Q, t' σ H Q → t σ H Q) : PT X e t' :=
  ⟨fun pins s σ H Q I q => h.run pins s σ H Q I (m σ H Q q)⟩
theorem pa_mono {X : Cx} {e : List Expr} {t t' : TA} (h : PA X e t) (m : ∀ σ H Q, t' σ H Q → t σ H Q) : PA X e t' :=
  ⟨fun pos pins s σ H Q I q => h.run pos pins s σ H Q I (m σ H Q q)⟩
theorem ps_mono {X : Cx} {e : Stmt} {t t' : TS} (h : PS X e t) (m : ∀ D σ H, t' D σ H → t D σ H) : PS X e t' :=
  ⟨fun pins s σ H D I q => h.run pins s σ H D I (m D σ H q)⟩
theorem pss_mono {X : Cx} {e : List Stmt} {t t' : TS} (h : PSs X e t) (m : ∀ D σ H, t' D σ H → t D σ H) : PSs X e t' :=
  ⟨fun pins s σ H D I q => h.run pins s σ H D I (m D σ H q)⟩
section
variable {X : Cx} {b : Bg} {W : WX} {e e1 e2 : Expr} {es : List Expr} {t t1 t2 : VT} {pos : Pos}
theorem VE.toX (h : VE X b W e t) : VX X b W e t := pe_mono h fun σ H Q ⟨Zo, Z, ρ, Qd, Ed, v, q, l, m⟩ => ⟨Zo, Z, ρ, Qd, Ed, v, q, fun u H' d x g r => l u H' d x g (.inl r), m⟩
theorem VN.toE (h : VN X b W e t) : VE X b W e t := pe_mono h fun σ H Q ⟨Zo, Z, ρ, Qd, Ed, v, q, l, m⟩ => ⟨Zo, Z, ρ, Qd, Ed, v, q, fun u H' d x g ⟨a, e, n, o⟩ => by
  subst e
  exact l _ H' d x g (o.rp (fun _ z => .inl z) (v.fresh n)), m⟩
theorem VN.toX (h : VN X b W e t) : VX X b W e t := VE.toX (VN.toE h)
/-! ### names, constants -/
@[simp] def vVar (i : Nat) : VT := fun ρ Q _ => ∃ d, ρ[i]? = some (.shr d) ∧ Q d
@[simp] def vBor (i : Nat) : VT := fun ρ Q _ => ∃ d, (ρ[i]? = some (.shr d) ∨ ρ[i]? = some (.own d)) ∧ Q d
@[simp] def vC (d : D) : VT := fun _ Q _ => Q d
theorem ve_var {i : Nat} (h : PE X e (tVar i)) : VE X b W e (vVar i) := pe_mono h fun σ H Q ⟨Zo, Z, ρ, Qd, Ed, v, ⟨d, e, q⟩, l, _⟩ => by
  obtain ⟨u, h1, h2⟩ := v.shr i d e
  exact ⟨u, h1, l u H d Ex.refl v.g h2 q⟩
theorem vx_var {i : Nat} (h : PE X e (tVar i)) : VX X b W e (vBor i) := pe_mono h fun σ H Q ⟨Zo, Z, ρ, Qd, Ed, v, ⟨d, e, q⟩, l, _⟩ => by
  rcases e with e | e
  · obtain ⟨u, h1, h2⟩ := v.shr i d e
    exact ⟨u, h1, l u H d Ex.refl v.g (.inl h2) q⟩
  · obtain ⟨a, h1, h2, h3, h4⟩ := v.own i d e
    exact ⟨.ref a, h1, l _ H d Ex.refl v.g (.inr ⟨a, rfl, fun z => h3 (v.zb a z), h2, h4⟩) q⟩
theorem ve_const {v : V} {p : PyData} (h : PE X e (tC v)) (r : ∀ (Z : Addr → Prop) (H : Hp), Rq Z H v p) : VE X b W e (vC (.py p)) :=
  pe_mono h fun σ H Q ⟨Zo, Z, ρ, Qd, Ed, v, q, l, _⟩ => l _ H (.py p) Ex.refl v.g (r Z H) q
theorem ve_int {i : Int} {j} : VE X b W (.Constant (.int i) j pos) (vC (.py (.int i))) := ve_const pe_int fun _ _ => .int i
theorem ve_bl {k : Bool} {j} : VE X b W (.Constant (.bool k) j pos) (vC (.py (.bool k))) := ve_const pe_bl fun _ _ => .bl k
theorem ve_non {j} : VE X b W (.Constant .none j pos) (vC (.py .none)) := ve_const pe_non fun _ _ => .non
theorem ve_str {x : Str} {j} : VE X b W (.Constant (.str x) j pos) (vC (.py (.str x))) := ve_const pe_str fun _ _ => .str x
theorem ve_raw {v : V} (h : PE X e (tC v)) : VE X b W e (vC (.raw v)) :=
  pe_mono h fun σ H Q ⟨Zo, Z, ρ, Qd, Ed, u, q, l, _⟩ => l v H (.raw v) Ex.refl u.g rfl q
/-! ### argument lists, displays -/
@[simp] def vNil : VA := fun _ Q _ => Q []
@[simp] def vCons (t : VT) (u : VA) : VA := fun ρ Q E => t ρ (fun d => u ρ (fun ds => Q (d :: ds)) E) E
theorem va_nil : VAs X b W [] vNil := pa_mono pa_nil fun σ H Q ⟨Zo, Z, ρ, Qd, Ed, v, q, l, _⟩ => l [] H [] Ex.refl v.g .nil q
theorem va_cons {u : VA} (h : VE X b W e t) (k : VAs X b W es u) (hs : starEach (e :: es) X.env = (false, eval e X.env) :: starEach es X.env := by rfl) : VAs X b W (e :: es) (vCons t u) :=
  pa_mono (pa_cons h k hs) fun σ H Q ⟨Zo, Z, ρ, Qd, Ed, v, q, l, m⟩ => ⟨Zo, Z, ρ, _, Ed, v, q, fun x H1 d x1 g1 r1 q1 =>
    ⟨Zo, Z, ρ, _, Ed, v.ex x1 g1, q1, fun xs H2 ds x2 g2 r2 q2 => l (x :: xs) H2 (d :: ds) (x1.trans x2) g2 (.cons ((v.ex x1 g1).rp x2 r1) r2) q2, fun c y H2 er x2 g2 r2 q2 => m c y H2 er (x1.trans x2) g2 r2 q2⟩, m⟩
@[simp] def pys : List D → Option (List PyData)
  | [] => some []
  | .py p :: ds => (pys ds).map (p :: ·)
  | _ :: _ => none
theorem pys_of : ∀ {ds : List D} {ps : List PyData}, pys ds = some ps → ds = ps.map D.py
  | [], ps, h => by cases h; rfl
  | .py p :: ds, ps, h => by
    cases e : pys ds with
    | none => rw [pys, e] at h; cases h
    | some qs => rw [pys, e] at h; cases h; rw [List.map_cons, ← pys_of e]
  | .obj _ _ _ :: _, _, h => by cases h
  | .abs _ :: _, _, h => by cases h
  | .raw _ :: _, _, h => by cases h
  | .err _ _ _ _ :: _, _, h => by cases h
theorem Rqs.up' {Z : Addr → Prop} {H : Hp} {a : Addr} {o : HO} {v : List V} {ds : List PyData} (r : Rqs Z H v ds) (h : H a = none) : Rqs (fun c => Z c ∨ c = a) (upd H a o) v ds :=
  r.mono (fun c z => z.imp id fun e => by rw [e]; exact h) fun c u e _ => by
    rw [upd_ne (ne_of_none e h)]
    exact e
/-- a tuple, a list of written items -/
@[simp] def vTup (u : VA) : VT := fun ρ Q E => u ρ (fun ds => ∃ ps, pys ds = some ps ∧ ps.length ≤ sizeLine ∧ Q (.py (.tuple ps))) E
@[simp] def vLst (u : VA) : VT := fun ρ Q E => u ρ (fun ds => ∃ ps, pys ds = some ps ∧ ps.length ≤ sizeLine ∧ Q (.py (.list ps))) E
theorem Rps.pyL {Z : Addr → Prop} {H : Hp} {v : List V} {ds : List D} {ps : List PyData} (r : Rps b Z H v ds) (e : VL.pys ds = some ps) : Rqs Z H v ps := by
  rw [pys_of e] at r
  exact r.pys
theorem up {Z : Addr → Prop} {H : Hp} {a : Addr} {o : HO} (h : H a = none) : ∀ c u, H c = some u → ¬ Z c → upd H a o c = some u := fun c u e _ => by
  rw [upd_ne (ne_of_none e h)]
  exact e
theorem Rqs.up {Z : Addr → Prop} {H : Hp} {a : Addr} {o : HO} {v : List V} {ds : List PyData} (r : Rqs Z H v ds) (h : H a = none) : Rqs Z (upd H a o) v ds := r.mono (fun _ z => .inl z) (VL.up h)
theorem ve_tup {u : VA} {x1} (k : VAs X b W es u) : VE X b W (.Tuple es x1 pos) (vTup u) :=
  pe_mono (pe_tupF k) fun σ H Q ⟨Zo, Z, ρ, Qd, Ed, v, q, l, m⟩ => ⟨Zo, Z, ρ, _, Ed, v, q, fun xs H1 ds x1 g1 r1 ⟨ps, e, hl, q1⟩ => by
    have r2 := r1.pyL e
    refine ⟨by rw [r2.length]; exact hl, fun p o hp ho => l _ _ _ (x1.trans (Ex.new hp)) (Bg.new g1 hp) ?_ q1⟩
    exact Rq.tup upd_same ho ((v.ex x1 g1).fresh hp) (r2.up hp), m⟩
theorem vn_lst {u : VA} (k : VAs X b W es u) : VN X b W (.List es pos) (vLst u) :=
  pe_mono (pe_lst k) fun σ H Q ⟨Zo, Z, ρ, Qd, Ed, v, q, l, m⟩ => ⟨Zo, Z, ρ, _, Ed, v, q, fun xs H1 ds x1 g1 r1 ⟨ps, e, hl, q1⟩ => (by
    have r2 := r1.pyL e
    refine ⟨by rw [r2.length]; exact hl, fun p hp => l _ _ (.py (.list ps)) (x1.trans (Ex.new hp)) (Bg.new g1 hp) ⟨p, rfl, ?_, xs, upd_same, r2.up' hp⟩ q1⟩
    cases e : H p with
    | none => rfl
    | some o =>
      by_cases hb : b.B p
      · exact absurd hp (b.dom _ _ g1 hb)
      · rw [x1 p o e hb] at hp; cases hp), m⟩
end
end VL
set_option Elab.async false
set_option linter.all false
set_option maxRecDepth 100000
set_option maxHeartbeats 4000000
namespace VL
open PySem PySem.Spec PyProof.Rows L2
/-! ### what a borrowed value is -/
section
variable {b : Bg} {Z : Addr → Prop} {H : Hp} {v : V}
theorem Rb.list {ds : List PyData} (r : Rb b Z H v (.py (.list ds))) : ∃ a xs, v = .ref a ∧ H a = some (.lst xs) ∧ Rqs Z H xs ds := by
  rcases r with r | ⟨a, e, _, _, xs, h, q⟩
  · cases r with
    | lst e n q => exact ⟨_, _, rfl, e, q⟩
  · exact ⟨a, xs, e, h, q⟩
theorem Rb.dict {ds : List (PyData × PyData)} (r : Rb b Z H v (.py (.dict ds))) : ∃ a xs, v = .ref a ∧ H a = some (.dK xs) ∧ Rqk Z H xs ds := by
  rcases r with r | ⟨a, e, _, _, xs, h, q⟩
  · cases r with
    | dct e n q => exact ⟨_, _, rfl, e, q⟩
  · exact ⟨a, xs, e, h, q⟩
theorem Rb.tuple {ds : List PyData} (r : Rb b Z H v (.py (.tuple ds))) : ∃ a o xs, v = .ref a ∧ H a = some (HO.th o xs) ∧ o.dict = none ∧ ¬ Z a ∧ Rqs Z H xs ds := by
  rcases r with r | ⟨a, e, _, _, q⟩
  · cases r with
    | tup e d n q => exact ⟨_, _, _, rfl, e, d, n, q⟩
  · exact q.elim
theorem Rb.int {i : Int} (r : Rb b Z H v (.py (.int i))) : v = .int i := by
  rcases r with r | ⟨a, e, _, _, q⟩
  · cases r; rfl
  · exact q.elim
theorem Rb.str {i : Str} (r : Rb b Z H v (.py (.str i))) : v = .str i := by
  rcases r with r | ⟨a, e, _, _, q⟩
  · cases r; rfl
  · exact q.elim
theorem Rb.bool {i : Bool} (r : Rb b Z H v (.py (.bool i))) : v = .bl i := by
  rcases r with r | ⟨a, e, _, _, q⟩
  · cases r; rfl
  · exact q.elim
theorem Rb.none (r : Rb b Z H v (.py .none)) : v = .non := by
  rcases r with r | ⟨a, e, _, _, q⟩
  · cases r; rfl
  · exact q.elim
theorem Rb.obj {a : Addr} {n : Str} {fs : List (Str × PyData)} (r : Rb b Z H v (.obj a n fs)) : ∃ dx xs, v = .ref a ∧ H a = some (.ins (b.cls n) dx xs) ∧ Rqf Z H xs fs := by
  rcases r with ⟨dx, xs, e, h, _, q⟩ | ⟨a, e, _, _, rfl, dx, xs, h, q⟩
  · exact ⟨dx, xs, e, h, q⟩
  · exact ⟨dx, xs, e, h, q⟩
theorem Rb.ex {H' : Hp} (hk : ∀ a o, H a = some o → ¬ Z a → H' a = some o) (x : Ex b H H') {d : D} (r : Rb b Z H v d) : Rb b Z H' v d := by
  rcases r with r | ⟨a, e, nb, z, q⟩
  · exact .inl (r.mono (fun _ z => .inl z) hk)
  · exact .inr ⟨a, e, nb, z, q.mono (fun _ z => .inl z) hk fun o h => x a o h nb⟩
end
/-- the ground of a rule by values: G stands, B lies in Z, Z is there -/
structure Gd (b : Bg) (Z : Addr → Prop) (H : Hp) : Prop where
  g : b.G H
  zb : ∀ a, b.B a → Z a
  dom : ∀ a, Z a → H a ≠ none
theorem VOk.gd {b : Bg} {Zo Z : Addr → Prop} {σ : L2.St} {H : Hp} {ρ : VEnv} (v : VOk b Zo Z σ H ρ) : Gd b Z H := ⟨v.g, fun a z => v.zo a (v.zb a z), v.dom⟩
section
variable {b : Bg} {Z : Addr → Prop} {H : Hp}
theorem Gd.fresh (g : Gd b Z H) {a : Addr} (h : H a = none) : ¬ Z a := fun z => g.dom a z h
theorem Gd.new (g : Gd b Z H) {a : Addr} {o : HO} (h : H a = none) : b.G (upd H a o) := Bg.new g.g h
end
/-- a rule by the heap's values serves a reading g over values; R: what comes of it -/
def OpD (b : Bg) (R : (Addr → Prop) → Hp → Hp → V → D → Prop) (r : R2) (g : D → D → (D → Prop) → Prop) : Prop :=
  ∀ (Z : Addr → Prop) (H : Hp) (x y : V) (dx dy : D) (Q : VK) (Qd : D → Prop), Gd b Z H → Rb b Z H x dx → Rb b Z H y dy → g dx dy Qd →
    (∀ v H' d, Ex b H H' → b.G H' → R Z H H' v d → Qd d → Q v H') → r x y H Q
abbrev RE (b : Bg) : (Addr → Prop) → Hp → Hp → V → D → Prop := fun Z _ H v d => Rp b Z H v d
abbrev RN (b : Bg) : (Addr → Prop) → Hp → Hp → V → D → Prop := fun Z H0 H v d => Rn b Z H0 H v d
@[simp] def vBin (g : D → D → (D → Prop) → Prop) (ta tb : VT) : VT := fun ρ Q E => ta ρ (fun x => tb ρ (fun y => g x y Q) E) E
@[simp] def vUn (g : D → (D → Prop) → Prop) (ta : VT) : VT := fun ρ Q E => ta ρ (fun x => g x Q) E
section
variable {X : Cx} {b : Bg} {W : WX} {e e1 e2 e3 : Expr} {es : List Expr} {t t1 t2 t3 : VT} {pos : Pos} {r : R2} {g : D → D → (D → Prop) → Prop}
/-- the core of all rules of two values -/
theorem core2 {R : (Addr → Prop) → Hp → Hp → V → D → Prop} (hR : ∀ Z H H1 H2 v d, b.G H1 → Ex b H H1 → R Z H1 H2 v d → R Z H H2 v d) (hd : OpD b R r g) :
    ∀ σ H Q, LE b W R (vBin g t1 t2) σ H Q → tOp r (LE b W (fun Z _ H v d => Rb b Z H v d) t1) (LE b W (fun Z _ H v d => Rb b Z H v d) t2) σ H Q :=
  fun σ H Q ⟨Zo, Z, ρ, Qd, Ed, v, q, l, m⟩ => ⟨Zo, Z, ρ, _, Ed, v, q, fun x H1 d x1 g1 r1 q1 =>
    ⟨Zo, Z, ρ, _, Ed, v.ex x1 g1, q1, fun y H2 d2 x2 g2 r2 q2 =>
      hd Z H2 x y d d2 Q Qd ((v.ex x1 g1).ex x2 g2).gd (r1.ex ((v.ex x1 g1).keep x2) x2) r2 q2 fun u H3 d3 x3 g3 r3 q3 => l u H3 d3 ((x1.trans x2).trans x3) g3 (hR _ _ _ _ _ _ g2 (x1.trans x2) r3) q3,
      fun c z H2 er x2 g2 r2 q2 => m c z H2 er (x1.trans x2) g2 r2 q2⟩, m⟩
theorem hRE : ∀ (Z : Addr → Prop) (H H1 H2 : Hp) (v : V) (d : D), b.G H1 → Ex b H H1 → RE b Z H1 H2 v d → RE b Z H H2 v d := fun _ _ _ _ _ _ _ _ r => r
theorem ve_op {op : Operator} (ho : OpR X (binaryOp op) r) (hd : OpD b (RE b) r g) (h1 : VX X b W e1 t1) (h2 : VX X b W e2 t2) : VE X b W (.BinOp e1 op e2 pos) (vBin g t1 t2) :=
  pe_mono (pe_op ho h1 h2) (core2 hRE hd)
theorem ve_cmp {op : CmpOp} (ho : OpR X (compareOp op) r) (hd : OpD b (RE b) r g) (h1 : VX X b W e1 t1) (h2 : VX X b W e2 t2) (hm : behindInMarks op e2 = false) : VE X b W (.Compare e1 [op] [e2] pos) (vBin g t1 t2) :=
  pe_mono (pe_cmpR ho h1 h2 hm) (core2 hRE hd)
/-- a value that is a bool, as a test -/
@[simp] def vTst (t : VT) : VB := fun ρ Q E => t ρ (fun d => ∃ k, d = .py (.bool k) ∧ Q k) E
theorem core2t (hd : OpD b (RE b) r g) : ∀ σ H Q, LB b W (vTst (vBin g t1 t2)) σ H Q → tTest (tOp r (LE b W (fun Z _ H v d => Rb b Z H v d) t1) (LE b W (fun Z _ H v d => Rb b Z H v d) t2)) σ H Q :=
  fun σ H Q ⟨Zo, Z, ρ, Qd, Ed, v, q, l, m⟩ => core2 (t1 := t1) (t2 := t2) hRE hd σ H _ ⟨Zo, Z, ρ, _, Ed, v, q, fun x H1 d x1 g1 r1 ⟨k, e, q1⟩ => ⟨k, by
    subst e
    exact Rb.bool (b := b) (.inl r1), l k H1 x1 g1 q1⟩, m⟩
theorem vt_cmp {op : CmpOp} (ho : OpR X (compareOp op) r) (hd : OpD b (RE b) r g) (h1 : VX X b W e1 t1) (h2 : VX X b W e2 t2) (hm : behindInMarks op e2 = false) : VTe X b W (.Compare e1 [op] [e2] pos) (vTst (vBin g t1 t2)) :=
  pt_mono (pt_cmpR ho h1 h2 hm) (core2t hd)
/-- any expression whose value is a bool, as a test -/
theorem vt_val (h : VX X b W e t) (he : ∀ whole, isTrue e X.env whole = (do let v ← whole; standAt e.pos; holding [v] (truthy v)) := by intro _; rfl) : VTe X b W e (vTst t) :=
  pt_mono (pt_val h he) fun σ H Q ⟨Zo, Z, ρ, Qd, Ed, v, q, l, m⟩ => ⟨Zo, Z, ρ, _, Ed, v, q, fun x H1 d x1 g1 r1 ⟨k, e, q1⟩ => ⟨k, by
    subst e
    exact r1.bool, l k H1 x1 g1 q1⟩, m⟩
/-! ### arithmetic -/
@[simp] def gAdd : D → D → (D → Prop) → Prop
  | .py (.int i), .py (.int j), Q => Q (.py (.int (i + j)))
  | .py (.str x), .py (.str y), Q => x.length + y.length ≤ sizeLine ∧ Q (.py (.str (x ++ y)))
  | .py (.list x), .py (.list y), Q => x.length + y.length ≤ sizeLine ∧ Q (.py (.list (x ++ y)))
  | .py (.tuple x), .py (.tuple y), Q => x.length + y.length ≤ sizeLine ∧ Q (.py (.tuple (x ++ y)))
  | _, _, _ => False
@[simp] def gCat : D → D → (D → Prop) → Prop
  | .py (.list x), .py (.list y), Q => x.length + y.length ≤ sizeLine ∧ Q (.py (.list (x ++ y)))
  | _, _, _ => False
theorem rn_catL : OpD b (RN b) rCat gCat := by
  intro Z H x y dx dy Q Qd gd rx ry h k
  match dx, dy, h, rx, ry with
  | .py (.list xs), .py (.list ys), ⟨hl, h⟩, rx, ry =>
    obtain ⟨a, us, rfl, ha, qa⟩ := rx.list
    obtain ⟨c, ws, rfl, hc, qc⟩ := ry.list
    refine ⟨a, c, us, ws, rfl, rfl, ha, hc, by rw [qa.length, qc.length]; exact hl, fun p hp => k _ _ (.py (.list (xs ++ ys))) (Ex.new hp) (gd.new hp) ⟨p, rfl, hp, _, upd_same, (qa.append qc).up' hp⟩ h⟩
theorem OpD.toE {r : R2} {g : D → D → (D → Prop) → Prop} (h : OpD b (RN b) r g) : OpD b (RE b) r g := fun Z H x y dx dy Q Qd gd rx ry q k =>
  h Z H x y dx dy Q Qd gd rx ry q fun v H' d x1 g1 ⟨a, e, n, o⟩ q1 => k v H' d x1 g1 (by subst e; exact o.rp (fun _ z => .inl z) (gd.fresh n)) q1
theorem rd_add : OpD b (RE b) (fun x y H Q => rI0 (fun i j => .int (i + j)) x y H Q ∨ (fun x y H Q => (∃ i j, x = .str i ∧ y = .str j ∧ i.length + j.length ≤ sizeLine ∧ Q (.str (i ++ j)) H) ∨ (fun x y H Q => rCat x y H Q ∨ rCatF X.K x y H Q) x y H Q) x y H Q) gAdd := by
  intro Z H x y dx dy Q Qd gd rx ry h k
  match dx, dy, h, rx, ry with
  | .py (.int i), .py (.int j), h, rx, ry =>
    rw [rx.int, ry.int]
    exact .inl ⟨i, j, rfl, rfl, k _ H (.py (.int (i + j))) Ex.refl gd.g (.int _) h⟩
  | .py (.str i), .py (.str j), ⟨hl, h⟩, rx, ry =>
    rw [rx.str, ry.str]
    exact .inr (.inl ⟨i, j, rfl, rfl, hl, k _ H (.py (.str (i ++ j))) Ex.refl gd.g (.str _) h⟩)
  | .py (.list xs), .py (.list ys), h, rx, ry =>
    exact .inr (.inr (.inl (OpD.toE rn_catL Z H x y (.py (.list xs)) (.py (.list ys)) Q Qd gd rx ry h k)))
  | .py (.tuple xs), .py (.tuple ys), ⟨hl, h⟩, rx, ry =>
    obtain ⟨a, oa, us, rfl, ha, da, na, qa⟩ := rx.tuple
    obtain ⟨c, oc, ws, rfl, hc, dc, nc, qc⟩ := ry.tuple
    refine .inr (.inr (.inr ⟨a, c, us, ws, rfl, rfl, SqT.th ha, SqT.th hc, by rw [qa.length, qc.length]; exact hl, fun e => ?_, fun _ e => ?_, fun _ _ p o hp ho => ?_⟩))
    · subst e
      cases qa
      exact k _ H (.py (.tuple ys)) Ex.refl gd.g (.tup hc dc nc qc) h
    · subst e
      cases qc
      rw [List.append_nil] at h
      exact k _ H (.py (.tuple xs)) Ex.refl gd.g (.tup ha da na qa) h
    · exact k _ _ (.py (.tuple (xs ++ ys))) (Ex.new hp) (gd.new hp) (.tup upd_same ho (gd.fresh hp) ((qa.append qc).up hp)) h
theorem ve_add (h1 : VX X b W e1 t1) (h2 : VX X b W e2 t2) : VE X b W (.BinOp e1 .Add e2 pos) (vBin gAdd t1 t2) := ve_op (OpR.or op_add (OpR.or op_add_str (OpR.or op_cat op_catF))) rd_add h1 h2
/-- ints in, under C; a plain value out -/
@[simp] def gI (C : Int → Int → Prop) (f : Int → Int → PyData) : D → D → (D → Prop) → Prop
  | .py (.int i), .py (.int j), Q => C i j ∧ Q (.py (f i j))
  | _, _, _ => False
theorem rd_I {C : Int → Int → Prop} {f : Int → Int → V} {f' : Int → Int → PyData} (hf : ∀ (Z : Addr → Prop) (H : Hp) i j, Rq Z H (f i j) (f' i j)) : OpD b (RE b) (rI C f) (gI C f') := by
  intro Z H x y dx dy Q Qd gd rx ry h k
  match dx, dy, h, rx, ry with
  | .py (.int i), .py (.int j), ⟨hc, h⟩, rx, ry =>
    rw [rx.int, ry.int]
    exact ⟨i, j, rfl, rfl, hc, k _ H (.py (f' i j)) Ex.refl gd.g (hf Z H i j) h⟩
/-- .. without a condition -/
@[simp] def gI0 (f : Int → Int → PyData) : D → D → (D → Prop) → Prop
  | .py (.int i), .py (.int j), Q => Q (.py (f i j))
  | _, _, _ => False
theorem rd_I0 {f : Int → Int → V} {f' : Int → Int → PyData} (hf : ∀ (Z : Addr → Prop) (H : Hp) i j, Rq Z H (f i j) (f' i j)) : OpD b (RE b) (rI0 f) (gI0 f') := by
  intro Z H x y dx dy Q Qd gd rx ry h k
  match dx, dy, h, rx, ry with
  | .py (.int i), .py (.int j), h, rx, ry =>
    rw [rx.int, ry.int]
    exact ⟨i, j, rfl, rfl, k _ H (.py (f' i j)) Ex.refl gd.g (hf Z H i j) h⟩
abbrev gSub := gI0 fun i j => .int (i - j)
abbrev gFdiv := gI CDivN fun i j => .int (i.fdiv j)
abbrev gMod := gI (fun _ j => 0 < j) fun i j => .int (i % j)
abbrev gPow := gI CPow fun i j => .int (i ^ j.toNat)
abbrev gGt := gI0 fun i j => .bool (decide (j < i))
abbrev gGe := gI0 fun i j => .bool (decide (j ≤ i))
theorem ve_sub (h1 : VX X b W e1 t1) (h2 : VX X b W e2 t2) : VE X b W (.BinOp e1 .Sub e2 pos) (vBin gSub t1 t2) := ve_op op_sub (rd_I0 fun _ _ _ _ => .int _) h1 h2
theorem ve_fdiv (h1 : VX X b W e1 t1) (h2 : VX X b W e2 t2) : VE X b W (.BinOp e1 .FloorDiv e2 pos) (vBin gFdiv t1 t2) := ve_op op_fdivN (rd_I fun _ _ _ _ => .int _) h1 h2
theorem ve_mod (h1 : VX X b W e1 t1) (h2 : VX X b W e2 t2) : VE X b W (.BinOp e1 .Mod e2 pos) (vBin gMod t1 t2) := ve_op op_mod (rd_I fun _ _ _ _ => .int _) h1 h2
theorem ve_pow (h1 : VX X b W e1 t1) (h2 : VX X b W e2 t2) : VE X b W (.BinOp e1 .Pow e2 pos) (vBin gPow t1 t2) := ve_op op_pow (rd_I fun _ _ _ _ => .int _) h1 h2
theorem ve_gt (h1 : VX X b W e1 t1) (h2 : VX X b W e2 t2) : VE X b W (.Compare e1 [.Gt] [e2] pos) (vBin gGt t1 t2) := ve_cmp op_gt (rd_I0 fun _ _ _ _ => .bl _) h1 h2 (nobehind _ (by decide) (by decide))
theorem vt_gt (h1 : VX X b W e1 t1) (h2 : VX X b W e2 t2) : VTe X b W (.Compare e1 [.Gt] [e2] pos) (vTst (vBin gGt t1 t2)) := vt_cmp op_gt (rd_I0 fun _ _ _ _ => .bl _) h1 h2 (nobehind _ (by decide) (by decide))
theorem vt_ge (h1 : VX X b W e1 t1) (h2 : VX X b W e2 t2) : VTe X b W (.Compare e1 [.GtE] [e2] pos) (vTst (vBin gGe t1 t2)) := vt_cmp op_ge (rd_I0 fun _ _ _ _ => .bl _) h1 h2 (nobehind _ (by decide) (by decide))
end
end VL
set_option Elab.async false
set_option linter.all false
set_option maxRecDepth 100000
set_option maxHeartbeats 4000000
namespace VL
open PySem PySem.Spec PyProof.Rows L2
abbrev nz : Addr → Prop := fun _ => False
section
variable {X : Cx} {pins : List (Addr × Obj)} {σ : L2.St} {H : Hp} {s : Shared} {Z : Addr → Prop}
theorem keys_read {h : Heap} {P : Program} {w : World} : ∀ {es : List DictEntry} {kvs : List (Key × V)} {vs : List (Key × Value)}, KV kvs vs → Pairs (mixKind P w) es vs →
    ReadsAll h (es.map (·.key)) (kvs.map fun p => kD p.1) [] ∧ Vals (kvs.map (·.2)) (es.map (·.val))
  | _, _, _, .nil, .nil => ⟨.nil, .nil⟩
  | _, _, _, .cons (a := p) (b := q) r t, .cons (e := e) hk hv hp => by
    obtain ⟨i1, i2⟩ := keys_read (h := h) t hp
    obtain ⟨p1, p2⟩ := p
    obtain ⟨q1, q2⟩ := q
    obtain ⟨e1, e2⟩ := r
    have e1' : p1 = q1 := e1
    subst e1'
    refine ⟨?_, .cons (show L2.RelV p2 e.val by rw [hv]; exact e2) i2⟩
    have hk' : keyIs p1 e.key = true := hk
    rcases keyIs_shape hk' with ⟨i, u, a1, a2⟩ | ⟨x, u, a1, a2⟩
    · subst a1
      rw [List.map_cons, List.map_cons, a2]
      exact ReadsAll.cons (as := []) (Reads.int i u) i1
    · subst a1
      rw [List.map_cons, List.map_cons, a2]
      exact ReadsAll.cons (as := []) (Reads.str x u) i1
mutual
theorem Rq.reads (I : Inv X pins σ H s) : ∀ {v : V} {d : PyData}, Rq Z H v d → ∀ u, RelV v u → ∃ as, Reads s.heap u d as ∧ ∀ a ∈ as, H a ≠ none
  | _, _, .non, _, r => by cases r; exact ⟨_, Reads.none, fun _ h => nomatch h⟩
  | _, _, .bl k, _, r => by cases r; exact ⟨_, Reads.bool k, fun _ h => nomatch h⟩
  | _, _, .int i, _, r => by obtain ⟨t, rfl⟩ := r; exact ⟨_, Reads.int i t, fun _ h => nomatch h⟩
  | _, _, .str x, _, r => by obtain ⟨t, rfl⟩ := r; exact ⟨_, Reads.str x t, fun _ h => nomatch h⟩
  | _, _, .lst (a := a) e n q, _, r => by
    cases r
    obtain ⟨its, rv, ⟨o, m, ho, hc, _, hd⟩, _⟩ := I.list (SqL.of e)
    obtain ⟨as, h1, h2⟩ := Rqs.reads I q _ rv
    refine ⟨_, Reads.list ho hc hd h1, fun b hb => ?_⟩
    rcases List.mem_cons.mp hb with rfl | hb
    · rw [e]; simp
    · exact h2 b hb
  | _, _, .tup (a := a) e _ n q, _, r => by
    cases r
    obtain ⟨its, rv, ⟨o, ho, hc, m, hd⟩, _⟩ := I.tuple (SqT.th e)
    obtain ⟨as, h1, h2⟩ := Rqs.reads I q _ rv
    exact ⟨_, Reads.tuple ho hc hd h1, h2⟩
  | _, _, .dct (a := a) (kvs := kvs) (ds := ds) e n q, _, r => by
    cases r
    obtain ⟨_, _, vs, kv, o, es, ep, ho, he, hd, _, hp, _⟩ := dk_of I.hok e
    obtain ⟨k1, k2⟩ := keys_read (h := s.heap) kv hp
    obtain ⟨bs, h1, h2, h3⟩ := Rqk.reads I q _ k2
    rw [h3] at k1
    refine ⟨_, Reads.dict ho he.1 hd k1 h1, fun b hb => ?_⟩
    rcases List.mem_append.mp hb with hb | hb
    · rw [List.mem_singleton.mp hb, e]; simp
    · exact h2 b hb
theorem Rqs.reads (I : Inv X pins σ H s) : ∀ {v : List V} {d : List PyData}, Rqs Z H v d → ∀ u, Vals v u → ∃ as, ReadsAll s.heap u d as ∧ ∀ a ∈ as, H a ≠ none
  | _, _, .nil, _, r => by cases r; exact ⟨_, ReadsAll.nil, fun _ h => nomatch h⟩
  | _, _, .cons q t, _, r => by
    cases r with
    | cons r rr =>
      obtain ⟨as, h1, h2⟩ := Rq.reads I q _ r
      obtain ⟨bs, h3, h4⟩ := Rqs.reads I t _ rr
      exact ⟨_, ReadsAll.cons h1 h3, fun a ha => (List.mem_append.mp ha).elim (h2 a) (h4 a)⟩
theorem Rqk.reads (I : Inv X pins σ H s) : ∀ {v : List (Key × V)} {d : List (PyData × PyData)}, Rqk Z H v d → ∀ u, Vals (v.map (·.2)) u → ∃ as, ReadsAll s.heap u (d.map (·.2)) as ∧ (∀ a ∈ as, H a ≠ none) ∧ v.map (fun p => kD p.1) = d.map (·.1)
  | _, _, .nil, _, r => by cases r; exact ⟨_, ReadsAll.nil, fun _ h => (nomatch h), rfl⟩
  | _, _, .cons q t, _, r => by
    cases r with
    | cons r rr =>
      obtain ⟨as, h1, h2⟩ := Rq.reads I q _ r
      obtain ⟨bs, h3, h4, h5⟩ := Rqk.reads I t _ rr
      exact ⟨_, ReadsAll.cons h1 h3, fun a ha => (List.mem_append.mp ha).elim (h2 a) (h4 a), by rw [List.map_cons, List.map_cons, h5]⟩
end
end
/-- a borrowed plain value, as data -/
theorem Rb.q {b : Bg} {Z : Addr → Prop} {H : Hp} {v : V} {p : PyData} (r : Rb b Z H v (.py p)) : Rq nz H v p := by
  rcases r with r | ⟨a, e, _, _, q⟩
  · exact Rq.mono (fun _ z => z.elim) (fun _ _ e _ => e) r
  · subst e
    exact Ow.rp (b := b) (d := .py p) (Z' := nz) (fun _ z => z.elim) (fun z => z) q
/-! ### ==, in -/
section
variable {X : Cx}
def rEqP : R2 := fun x y H Q => ∃ p q, Rq nz H x p ∧ Rq nz H y q ∧ p.plain = true ∧ q.plain = true ∧ (p.depth ≤ 60 ∨ q.depth ≤ 60) ∧ Q (.bl (p.eqv q)) H
def rNeP : R2 := fun x y H Q => ∃ p q, Rq nz H x p ∧ Rq nz H y q ∧ p.plain = true ∧ q.plain = true ∧ (p.depth ≤ 60 ∨ q.depth ≤ 60) ∧ Q (.bl (!p.eqv q)) H
theorem op_eqP (hu : X.A.units + 64 < cLine) : OpR X (compareOp .Eq) rEqP := by
  intro pins s σ H x y v u Q I rx ry ⟨p, q, hp, hq, p1, q1, hd, h⟩
  obtain ⟨as, r1, _⟩ := hp.reads I _ rx
  obtain ⟨bs, r2, _⟩ := hq.reads I _ ry
  exact SeqAt.eq_plain r1 r2 p1 q1 (by omega) ⟨.bl _, H, I, rfl, h⟩
theorem op_neP (hu : X.A.units + 64 < cLine) : OpR X (compareOp .NotEq) rNeP := by
  intro pins s σ H x y v u Q I rx ry ⟨p, q, hp, hq, p1, q1, hd, h⟩
  obtain ⟨as, r1, _⟩ := hp.reads I _ rx
  obtain ⟨bs, r2, _⟩ := hq.reads I _ ry
  exact SeqAt.ne_plain r1 r2 p1 q1 (by omega) ⟨.bl _, H, I, rfl, h⟩
def rInP (neg : Bool) : R2 := fun x y H Q => ∃ p qs, Rq nz H x p ∧ (Rq nz H y (.list qs) ∨ Rq nz H y (.tuple qs)) ∧ p.plain = true ∧ PyData.plainAll qs = true ∧ (p.depth ≤ 60 ∨ PyData.depthAll qs ≤ 60) ∧ Q (.bl (neg ^^ qs.any fun y => PyData.eqv y p)) H
theorem op_inP (hu : X.A.units + 64 < cLine) : OpR X (compareOp .In) (rInP false) := by
  intro pins s σ H x y v u Q I rx ry ⟨p, q, hp, hq, p1, q1, hd, h⟩
  obtain ⟨as, r1, _⟩ := hp.reads I _ rx
  rw [Bool.false_xor] at h
  rcases hq with hq | hq
  · obtain ⟨bs, r2, _⟩ := hq.reads I _ ry
    exact SeqAt.in_list_data r2 r1 q1 p1 (by omega) ⟨.bl _, H, I, rfl, h⟩
  · obtain ⟨bs, r2, _⟩ := hq.reads I _ ry
    exact SeqAt.in_tuple_data r2 r1 q1 p1 (by omega) ⟨.bl _, H, I, rfl, h⟩
theorem op_notInP (hu : X.A.units + 64 < cLine) : OpR X (compareOp .NotIn) (rInP true) := by
  intro pins s σ H x y v u Q I rx ry ⟨p, q, hp, hq, p1, q1, hd, h⟩
  obtain ⟨as, r1, _⟩ := hp.reads I _ rx
  rw [Bool.true_xor] at h
  rcases hq with hq | hq
  · obtain ⟨bs, r2, _⟩ := hq.reads I _ ry
    exact SeqAt.notIn_list_data r2 r1 q1 p1 (by omega) ⟨.bl _, H, I, rfl, h⟩
  · obtain ⟨bs, r2, _⟩ := hq.reads I _ ry
    exact SeqAt.notIn_tuple_data r2 r1 q1 p1 (by omega) ⟨.bl _, H, I, rfl, h⟩
end
/-- p == q, whatever plain data they are -/
@[simp] def gEq : D → D → (D → Prop) → Prop
  | .py (.tuple xs), .py (.tuple []), Q => Q (.py (.bool xs.isEmpty))
  | .py (.list xs), .py (.list []), Q => Q (.py (.bool xs.isEmpty))
  | .py p, .py q, Q => p.plain = true ∧ q.plain = true ∧ (p.depth ≤ 60 ∨ q.depth ≤ 60) ∧ Q (.py (.bool (p.eqv q)))
  | _, _, _ => False
@[simp] def gNe : D → D → (D → Prop) → Prop
  | .py (.tuple xs), .py (.tuple []), Q => Q (.py (.bool (!xs.isEmpty)))
  | .py (.list xs), .py (.list []), Q => Q (.py (.bool (!xs.isEmpty)))
  | .py p, .py q, Q => p.plain = true ∧ q.plain = true ∧ (p.depth ≤ 60 ∨ q.depth ≤ 60) ∧ Q (.py (.bool (!p.eqv q)))
  | _, _, _ => False
/-- x in c, c a list, a tuple, a text -/
@[simp] def gIn (neg : Bool) : D → D → (D → Prop) → Prop
  | .py (.str x), .py (.str y), Q => Q (.py (.bool (neg ^^ Txt.contains y x)))
  | .py p, .py (.list q), Q => p.plain = true ∧ PyData.plainAll q = true ∧ (p.depth ≤ 60 ∨ PyData.depthAll q ≤ 60) ∧ Q (.py (.bool (neg ^^ q.any fun y => PyData.eqv y p)))
  | .py p, .py (.tuple q), Q => p.plain = true ∧ PyData.plainAll q = true ∧ (p.depth ≤ 60 ∨ PyData.depthAll q ≤ 60) ∧ Q (.py (.bool (neg ^^ q.any fun y => PyData.eqv y p)))
  | _, _, _ => False
section
variable {X : Cx} {b : Bg} {W : WX} {e e1 e2 e3 : Expr} {es : List Expr} {t t1 t2 t3 : VT} {pos : Pos} {r : R2} {g : D → D → (D → Prop) → Prop}
/-- beside an empty one: no item is looked at -/
def rZ (K : PySem.W.Frag) (f : Bool → Bool) : R2 := fun x y H Q => ∃ a c xs, x = .ref a ∧ y = .ref c ∧ ((SqL K H a xs ∧ SqL K H c []) ∨ (SqT K H a xs ∧ SqT K H c [])) ∧ Q (.bl (f xs.isEmpty)) H
theorem op_eqZ (hu : X.A.units + 64 < cLine) : OpR X (compareOp .Eq) (rZ X.K id) := by
  intro pins s σ H x y v u Q I rx ry ⟨a, c, xs, ex, ey, hh, q⟩
  subst ex ey
  obtain rfl : v = .ref a := rx
  obtain rfl : u = .ref c := ry
  rcases hh with ⟨h1, h2⟩ | ⟨h1, h2⟩
  · obtain ⟨its, r, p, _⟩ := I.list h1
    obtain ⟨its2, r2, p2, _⟩ := I.list h2
    cases r2
    cases r with
    | nil => exact SeqAt.eq_listAt (e := fun _ => true) p.isList p2.isList rfl (by omega) (fun j h => absurd h (Nat.not_lt_zero j)) ⟨.bl _, H, I, rfl, q⟩
    | cons r rs => exact SeqAt.eq_list_lengthsAt p.isList p2.isList rfl (by omega) ⟨.bl _, H, I, rfl, q⟩
  · obtain ⟨its, r, p, _⟩ := I.tuple h1
    obtain ⟨its2, r2, p2, _⟩ := I.tuple h2
    cases r2
    refine SeqAt.eq_tupleAt (e := fun _ => true) p p2 (by omega) (fun j h1 h2 => absurd h2 (Nat.not_lt_zero j)) ⟨.bl _, H, I, ?_, q⟩
    cases r <;> simp [L2.RelV]
theorem op_neZ (hu : X.A.units + 64 < cLine) : OpR X (compareOp .NotEq) (rZ X.K not) := by
  intro pins s σ H x y v u Q I rx ry ⟨a, c, xs, ex, ey, hh, q⟩
  subst ex ey
  obtain rfl : v = .ref a := rx
  obtain rfl : u = .ref c := ry
  rcases hh with ⟨h1, h2⟩ | ⟨h1, h2⟩
  · obtain ⟨its, r, p, _⟩ := I.list h1
    obtain ⟨its2, r2, p2, _⟩ := I.list h2
    cases r2
    cases r with
    | nil => exact SeqAt.RcNeAt.lists (e := fun _ => true) p.isList p2.isList rfl (by omega) (fun j h => absurd h (Nat.not_lt_zero j)) _ _ _ _ ⟨.bl _, H, I, rfl, q⟩
    | cons r rs => exact SeqAt.RcNeAt.lists_lengths p.isList p2.isList rfl (by omega) _ _ _ _ ⟨.bl _, H, I, rfl, q⟩
  · obtain ⟨its, r, p, _⟩ := I.tuple h1
    obtain ⟨its2, r2, p2, _⟩ := I.tuple h2
    cases r2
    refine SeqAt.RcNeAt.tuples (e := fun _ => true) p p2 (by omega) (fun j h1 h2 => absurd h2 (Nat.not_lt_zero j)) _ _ _ _ ⟨.bl _, H, I, ?_, q⟩
    cases r <;> simp [L2.RelV]
theorem rz_of {f : Bool → Bool} {K : PySem.W.Frag} {Z : Addr → Prop} {H : Hp} {x y : V} {Q : VK} {Qd : D → Prop} {xs : List PyData} (gd : Gd b Z H) (h : Qd (.py (.bool (f xs.isEmpty)))) (k : ∀ v H' d, Ex b H H' → b.G H' → RE b Z H H' v d → Qd d → Q v H') :
    (Rb b Z H x (.py (.list xs)) → Rb b Z H y (.py (.list [])) → rZ K f x y H Q) ∧ (Rb b Z H x (.py (.tuple xs)) → Rb b Z H y (.py (.tuple [])) → rZ K f x y H Q) := by
  have ee : ∀ {us : List V}, Rqs Z H us xs → xs.isEmpty = us.isEmpty := fun q => by cases q <;> rfl
  refine ⟨fun rx ry => ?_, fun rx ry => ?_⟩
  · obtain ⟨a, us, rfl, ha, qa⟩ := rx.list
    obtain ⟨c, ws, rfl, hc, qc⟩ := ry.list
    cases qc
    exact ⟨a, c, us, rfl, rfl, .inl ⟨SqL.of ha, SqL.of hc⟩, k _ H (.py (.bool _)) Ex.refl gd.g (by rw [← ee qa]; exact .bl _) h⟩
  · obtain ⟨a, oa, us, rfl, ha, _, _, qa⟩ := rx.tuple
    obtain ⟨c, oc, ws, rfl, hc, _, _, qc⟩ := ry.tuple
    cases qc
    exact ⟨a, c, us, rfl, rfl, .inr ⟨SqT.th ha, SqT.th hc⟩, k _ H (.py (.bool _)) Ex.refl gd.g (by rw [← ee qa]; exact .bl _) h⟩
theorem rd_eq : OpD b (RE b) (fun x y H Q => rEqP x y H Q ∨ rZ X.K id x y H Q) gEq := by
  intro Z H x y dx dy Q Qd gd rx ry h k
  unfold gEq at h
  split at h
  · exact .inr ((rz_of (f := id) gd h k).2 rx ry)
  · exact .inr ((rz_of (f := id) gd h k).1 rx ry)
  · obtain ⟨h1, h2, h3, h⟩ := h
    exact .inl ⟨_, _, rx.q, ry.q, h1, h2, h3, k _ H (.py (.bool _)) Ex.refl gd.g (.bl _) h⟩
  · exact h.elim
theorem rd_ne : OpD b (RE b) (fun x y H Q => rNeP x y H Q ∨ rZ X.K not x y H Q) gNe := by
  intro Z H x y dx dy Q Qd gd rx ry h k
  unfold gNe at h
  split at h
  · exact .inr ((rz_of (f := not) gd h k).2 rx ry)
  · exact .inr ((rz_of (f := not) gd h k).1 rx ry)
  · obtain ⟨h1, h2, h3, h⟩ := h
    exact .inl ⟨_, _, rx.q, ry.q, h1, h2, h3, k _ H (.py (.bool _)) Ex.refl gd.g (.bl _) h⟩
  · exact h.elim
theorem vt_eq (hu : X.A.units + 64 < cLine) (h1 : VX X b W e1 t1) (h2 : VX X b W e2 t2) : VTe X b W (.Compare e1 [.Eq] [e2] pos) (vTst (vBin gEq t1 t2)) := vt_cmp (OpR.or (op_eqP hu) (op_eqZ hu)) rd_eq h1 h2 (nobehind _ (by decide) (by decide))
theorem vt_ne (hu : X.A.units + 64 < cLine) (h1 : VX X b W e1 t1) (h2 : VX X b W e2 t2) : VTe X b W (.Compare e1 [.NotEq] [e2] pos) (vTst (vBin gNe t1 t2)) := vt_cmp (OpR.or (op_neP hu) (op_neZ hu)) rd_ne h1 h2 (nobehind _ (by decide) (by decide))
def rInS2 : R2 := fun x y H Q => ∃ i j, x = .str i ∧ y = .str j ∧ Q (.bl (Txt.contains j i)) H
def rNotInS2 : R2 := fun x y H Q => ∃ i j, x = .str i ∧ y = .str j ∧ Q (.bl (!Txt.contains j i)) H
theorem op_inS2 : OpR X (compareOp .In) rInS2 := fun pins s σ H x y v u Q I rx ry ⟨i, j, e1, e2, q⟩ => op_in_str pins s σ H x y v u Q I rx ry ⟨i, j, e1, e2, q⟩
theorem op_notInS2 : OpR X (compareOp .NotIn) rNotInS2 := fun pins s σ H x y v u Q I rx ry ⟨i, j, e1, e2, q⟩ => op_notIn_str pins s σ H x y v u Q I rx ry ⟨i, j, e1, e2, by
  have e : (Builtin.Str.occurrences j i 0 j.length 1).isEmpty = !Txt.contains j i := by unfold Txt.contains; rw [Bool.not_not]
  first | exact q | (rw [e]; exact q)⟩
theorem rd_in {neg : Bool} (r0 : R2) (h0 : ∀ (H : Hp) (i j : Str) (Q : VK), Q (.bl (neg ^^ Txt.contains j i)) H → r0 (.str i) (.str j) H Q) : OpD b (RE b) (fun x y H Q => r0 x y H Q ∨ rInP neg x y H Q) (gIn neg) := by
  intro Z H x y dx dy Q Qd gd rx ry h k
  have lst : ∀ {p : PyData} {q : List PyData}, Rb b Z H x (.py p) → Rb b Z H y (.py (.list q)) → (p.plain = true ∧ PyData.plainAll q = true ∧ (p.depth ≤ 60 ∨ PyData.depthAll q ≤ 60) ∧ Qd (.py (.bool (neg ^^ q.any fun y => PyData.eqv y p)))) → rInP neg x y H Q :=
    fun {p q} rx ry ⟨h1, h2, h3, h⟩ => ⟨p, q, rx.q, .inl ry.q, h1, h2, h3, k _ H (.py (.bool _)) Ex.refl gd.g (.bl _) h⟩
  have tup : ∀ {p : PyData} {q : List PyData}, Rb b Z H x (.py p) → Rb b Z H y (.py (.tuple q)) → (p.plain = true ∧ PyData.plainAll q = true ∧ (p.depth ≤ 60 ∨ PyData.depthAll q ≤ 60) ∧ Qd (.py (.bool (neg ^^ q.any fun y => PyData.eqv y p)))) → rInP neg x y H Q :=
    fun {p q} rx ry ⟨h1, h2, h3, h⟩ => ⟨p, q, rx.q, .inr ry.q, h1, h2, h3, k _ H (.py (.bool _)) Ex.refl gd.g (.bl _) h⟩
  match dx, dy, h, rx, ry with
  | .py (.str i), .py (.str j), h, rx, ry =>
    rw [rx.str, ry.str]
    exact .inl (h0 H i j Q (k _ H (.py (.bool _)) Ex.refl gd.g (.bl _) h))
  | .py .none, .py (.list q), h, rx, ry => exact .inr (lst rx ry h)
  | .py (.bool _), .py (.list q), h, rx, ry => exact .inr (lst rx ry h)
  | .py (.int _), .py (.list q), h, rx, ry => exact .inr (lst rx ry h)
  | .py (.str _), .py (.list q), h, rx, ry => exact .inr (lst rx ry h)
  | .py (.list _), .py (.list q), h, rx, ry => exact .inr (lst rx ry h)
  | .py (.tuple _), .py (.list q), h, rx, ry => exact .inr (lst rx ry h)
  | .py .none, .py (.tuple q), h, rx, ry => exact .inr (tup rx ry h)
  | .py (.bool _), .py (.tuple q), h, rx, ry => exact .inr (tup rx ry h)
  | .py (.int _), .py (.tuple q), h, rx, ry => exact .inr (tup rx ry h)
  | .py (.str _), .py (.tuple q), h, rx, ry => exact .inr (tup rx ry h)
  | .py (.list _), .py (.tuple q), h, rx, ry => exact .inr (tup rx ry h)
  | .py (.tuple _), .py (.tuple q), h, rx, ry => exact .inr (tup rx ry h)
  | .py (.dict _), .py (.list q), h, rx, ry => exact .inr (lst rx ry h)
  | .py (.dict _), .py (.tuple q), h, rx, ry => exact .inr (tup rx ry h)
theorem vt_in (hu : X.A.units + 64 < cLine) (h1 : VX X b W e1 t1) (h2 : VX X b W e2 t2) (hm : behindInMarks .In e2 = false := by rfl) : VTe X b W (.Compare e1 [.In] [e2] pos) (vTst (vBin (gIn false) t1 t2)) :=
  vt_cmp (OpR.or op_inS2 (op_inP hu)) (rd_in rInS2 fun H i j Q q => ⟨i, j, rfl, rfl, by rw [Bool.false_xor] at q; exact q⟩) h1 h2 hm
theorem vt_notIn (hu : X.A.units + 64 < cLine) (h1 : VX X b W e1 t1) (h2 : VX X b W e2 t2) (hm : behindInMarks .NotIn e2 = false := by rfl) : VTe X b W (.Compare e1 [.NotIn] [e2] pos) (vTst (vBin (gIn true) t1 t2)) :=
  vt_cmp (OpR.or op_notInS2 (op_notInP hu)) (rd_in rNotInS2 fun H i j Q q => ⟨i, j, rfl, rfl, by rw [Bool.true_xor] at q; exact q⟩) h1 h2 hm
/-! ### is None -/
@[simp] def isNn : PyData → Bool
  | .none => true
  | _ => false
@[simp] def gIsN (neg : Bool) : D → D → (D → Prop) → Prop
  | .py p, .py .none, Q => Q (.py (.bool (neg ^^ isNn p)))
  | .raw v, .py .none, Q => Q (.py (.bool (neg ^^ decide (v = V.non))))
  | .obj _ _ _, .py .none, Q => Q (.py (.bool neg))
  | _, _, _ => False
theorem Rq.isN {Z : Addr → Prop} {H : Hp} {v : V} {p : PyData} (r : Rq Z H v p) : decide (v = V.non) = isNn p := by
  cases r <;> rfl
theorem rd_isN {neg : Bool} {f : Bool → Bool} (hf : ∀ k, f k = (neg ^^ k)) : OpD b (RE b) (fun x y H Q => y = .non ∧ Q (.bl (f (decide (x = .non)))) H) (gIsN neg) := by
  intro Z H x y dx dy Q Qd gd rx ry h k
  match dx, dy, h, rx, ry with
  | .py p, .py .none, h, rx, ry =>
    refine ⟨ry.none, ?_⟩
    rw [rx.q.isN, hf]
    exact k _ H (.py (.bool _)) Ex.refl gd.g (.bl _) h
  | .raw v, .py .none, h, rx, ry =>
    refine ⟨ry.none, ?_⟩
    have e : x = v := by
      rcases rx with r | ⟨a, e, _, _, q⟩
      · exact r
      · exact q.elim
    rw [hf, e]
    exact k _ H (.py (.bool _)) Ex.refl gd.g (.bl _) h
  | .obj _ _ _, .py .none, h, rx, ry =>
    refine ⟨ry.none, ?_⟩
    obtain ⟨dx, xs, e, _⟩ := rx.obj
    subst e
    rw [hf, decide_eq_false (by intro h; cases h), Bool.xor_false]
    exact k _ H (.py (.bool _)) Ex.refl gd.g (.bl _) h
theorem vt_notN (h1 : VX X b W e1 t1) (h2 : VX X b W e2 t2) : VTe X b W (.Compare e1 [.IsNot] [e2] pos) (vTst (vBin (gIsN true) t1 t2)) := vt_cmp op_notN (rd_isN (f := not) fun k => by rw [Bool.true_xor]) h1 h2 (nobehind _ (by decide) (by decide))
/-! ### chains, and, or, not, if -/
@[simp] def vChain (g g' : D → D → (D → Prop) → Prop) (ta tb tc : VT) : VT := fun ρ Q E => ta ρ (fun x => tb ρ (fun y => g x y fun z => ∃ k, z = .py (.bool k) ∧ if k = true then tc ρ (fun w => g' y w Q) E else Q (.py (.bool false))) E) E
@[simp] def vAnd (ta tb : VT) : VT := fun ρ Q E => ta ρ (fun x => ∃ k, x = .py (.bool k) ∧ if k = true then tb ρ Q E else Q (.py (.bool false))) E
@[simp] def vOr (ta tb : VT) : VT := fun ρ Q E => ta ρ (fun x => ∃ k, x = .py (.bool k) ∧ if k = true then Q (.py (.bool true)) else tb ρ Q E) E
@[simp] def vNot (ta : VT) : VT := fun ρ Q E => ta ρ (fun x => ∃ k, x = .py (.bool k) ∧ Q (.py (.bool (!k)))) E
theorem ve_one {op} (h : VE X b W e t) : VE X b W (.BoolOp op [e] pos) t := pe_one h
theorem ve_and (h1 : VX X b W e1 t1) (h2 : VE X b W (.BoolOp .And (e2 :: es) pos) t2) : VE X b W (.BoolOp .And (e1 :: e2 :: es) pos) (vAnd t1 t2) :=
  pe_mono (pe_and h1 h2) fun σ H Q ⟨Zo, Z, ρ, Qd, Ed, v, q, l, m⟩ => ⟨Zo, Z, ρ, _, Ed, v, q, fun x H1 d x1 g1 r1 ⟨k, e, q1⟩ => by
    subst e
    refine ⟨k, r1.bool, ?_⟩
    cases k with
    | false => exact l _ H1 (.py (.bool false)) x1 g1 (Rq.bl false) q1
    | true => exact ⟨Zo, Z, ρ, _, Ed, v.ex x1 g1, q1, fun y H2 d2 x2 g2 r2 q2 => l y H2 d2 (x1.trans x2) g2 r2 q2, fun c z H2 er x2 g2 r2 q2 => m c z H2 er (x1.trans x2) g2 r2 q2⟩, m⟩
theorem ve_not (h1 : VX X b W e1 t1) : VE X b W (.UnaryOp .Not e1 pos) (vNot t1) :=
  pe_mono (pe_not h1) fun σ H Q ⟨Zo, Z, ρ, Qd, Ed, v, q, l, m⟩ => ⟨Zo, Z, ρ, _, Ed, v, q, fun x H1 d x1 g1 r1 ⟨k, e, q1⟩ => by
    subst e
    exact ⟨k, r1.bool, l _ H1 (.py (.bool _)) x1 g1 (Rq.bl _) q1⟩, m⟩
@[simp] def vIf (c : VB) (ta tb : VT) : VT := fun ρ Q E => c ρ (fun k => if k = true then ta ρ Q E else tb ρ Q E) E
theorem ve_if {c : Expr} {tc : VB} (hc : VTe X b W c tc) (h1 : VE X b W e1 t1) (h2 : VE X b W e2 t2) : VE X b W (.IfExp c e1 e2 pos) (vIf tc t1 t2) :=
  pe_mono (pe_ifExp hc h1 h2) fun σ H Q ⟨Zo, Z, ρ, Qd, Ed, v, q, l, m⟩ => ⟨Zo, Z, ρ, _, Ed, v, q, fun k H1 x1 g1 q1 => by
    cases k with
    | true => exact ⟨Zo, Z, ρ, _, Ed, v.ex x1 g1, q1, fun y H2 d2 x2 g2 r2 q2 => l y H2 d2 (x1.trans x2) g2 r2 q2, fun c z H2 er x2 g2 r2 q2 => m c z H2 er (x1.trans x2) g2 r2 q2⟩
    | false => exact ⟨Zo, Z, ρ, _, Ed, v.ex x1 g1, q1, fun y H2 d2 x2 g2 r2 q2 => l y H2 d2 (x1.trans x2) g2 r2 q2, fun c z H2 er x2 g2 r2 q2 => m c z H2 er (x1.trans x2) g2 r2 q2⟩, m⟩
/-! ### tests -/
@[simp] def wAnd (t u : VB) : VB := fun ρ Q E => t ρ (fun c => if c = true then u ρ Q E else Q false) E
@[simp] def wOr (t u : VB) : VB := fun ρ Q E => t ρ (fun c => if c = true then Q true else u ρ Q E) E
@[simp] def wNot (t : VB) : VB := fun ρ Q E => t ρ (fun c => Q (!c)) E
/-- and, or: whatever their whole is -/
def VWe (X : Cx) (b : Bg) (W : WX) (e : Expr) (t : VB) : Prop := PW X e (LB b W t)
theorem pw_mono {e : Expr} {t t' : TT} (h : PW X e t) (m : ∀ σ H Q, t' σ H Q → t σ H Q) : PW X e t' := ⟨fun w pins s σ H Q I q => h.run w pins s σ H Q I (m σ H Q q)⟩
theorem VWe.pt {t : VB} (h : VWe X b W e t) : VTe X b W e t := PW.pt h
theorem lb_then {k : Bool} {u : VB} {Zo Z : Addr → Prop} {σ : L2.St} {H H1 : Hp} {ρ : VEnv} {Q : Bool → Hp → Prop} {Qd : Bool → Prop} {Ed : Er → Prop} (v : VOk b Zo Z σ H ρ) (l : ∀ k H', Ex b H H' → b.G H' → Qd k → Q k H') (m : ∀ c x H' er, Ex b H H' → b.G H' → ErRp b Z H' c x er → Ed er → W c x σ H')
    (x1 : Ex b H H1) (g1 : b.G H1) (q : u ρ Qd Ed) : LB b W u σ H1 Q :=
  ⟨Zo, Z, ρ, _, Ed, v.ex x1 g1, q, fun k H2 x2 g2 q2 => l k H2 (x1.trans x2) g2 q2, fun c z H2 er x2 g2 r2 q2 => m c z H2 er (x1.trans x2) g2 r2 q2⟩
theorem vw_and1 {t : VB} (h : VTe X b W e t) : VWe X b W (.BoolOp .And [e] pos) t := pw_and1 h
theorem vw_or1 {t : VB} (h : VTe X b W e t) : VWe X b W (.BoolOp .Or [e] pos) t := pw_or1 h
theorem vw_and {t u : VB} (h1 : VTe X b W e1 t) (h2 : VWe X b W (.BoolOp .And (e2 :: es) pos) u) : VWe X b W (.BoolOp .And (e1 :: e2 :: es) pos) (wAnd t u) :=
  pw_mono (pw_and h1 h2) fun σ H Q ⟨Zo, Z, ρ, Qd, Ed, v, q, l, m⟩ => ⟨Zo, Z, ρ, _, Ed, v, q, fun k H1 x1 g1 q1 => by
    cases k with
    | true => exact lb_then (k := true) v l m x1 g1 q1
    | false => exact l false H1 x1 g1 q1, m⟩
theorem vw_or {t u : VB} (h1 : VTe X b W e1 t) (h2 : VWe X b W (.BoolOp .Or (e2 :: es) pos) u) : VWe X b W (.BoolOp .Or (e1 :: e2 :: es) pos) (wOr t u) :=
  pw_mono (pw_or h1 h2) fun σ H Q ⟨Zo, Z, ρ, Qd, Ed, v, q, l, m⟩ => ⟨Zo, Z, ρ, _, Ed, v, q, fun k H1 x1 g1 q1 => by
    cases k with
    | false => exact lb_then (k := true) v l m x1 g1 q1
    | true => exact l true H1 x1 g1 q1, m⟩
theorem vt_not {t : VB} (h1 : VTe X b W e1 t) : VTe X b W (.UnaryOp .Not e1 pos) (wNot t) :=
  pt_mono (pt_not h1) fun σ H Q ⟨Zo, Z, ρ, Qd, Ed, v, q, l, m⟩ => ⟨Zo, Z, ρ, _, Ed, v, q, fun k H1 x1 g1 q1 => l _ H1 x1 g1 q1, m⟩
end
end VL
set_option Elab.async false
set_option linter.all false
set_option maxRecDepth 100000
set_option maxHeartbeats 4000000
namespace VL
open PySem PySem.Spec PyProof.Rows L2
/-- a text by its signs -/
abbrev mkS (l : List Nat) : Str := ⟨l.toArray⟩
abbrev sl (x : Str) : List Nat := x.cps.toList
/-! ### many borrowed values -/
inductive Rbs (b : Bg) (Z : Addr → Prop) (H : Hp) : List V → List D → Prop
  | nil : Rbs b Z H [] []
  | cons {v : V} {d : D} {vs : List V} {ds : List D} : Rb b Z H v d → Rbs b Z H vs ds → Rbs b Z H (v :: vs) (d :: ds)
def LAX (b : Bg) (W : WX) (t : VA) : TA := fun σ H Q => ∃ Zo Z ρ Qd Ed, VOk b Zo Z σ H ρ ∧ t ρ Qd Ed ∧
  (∀ v H' d, Ex b H H' → b.G H' → Rbs b Z H' v d → Qd d → Q v H') ∧ ∀ c x H' er, Ex b H H' → b.G H' → ErRp b Z H' c x er → Ed er → W c x σ H'
def VXs (X : Cx) (b : Bg) (W : WX) (es : List Expr) (t : VA) : Prop := PA X es (LAX b W t)
/-- a rule of a list of values -/
def CalD (b : Bg) (R : (Addr → Prop) → Hp → Hp → V → D → Prop) (r : List V → Hp → VK → Prop) (g : List D → (D → Prop) → Prop) : Prop :=
  ∀ (Z : Addr → Prop) (H : Hp) (x : List V) (dx : List D) (Q : VK) (Qd : D → Prop), Gd b Z H → Rbs b Z H x dx → g dx Qd → (∀ v H' d, Ex b H H' → b.G H' → R Z H H' v d → Qd d → Q v H') → r x H Q
@[simp] def vCal (g : List D → (D → Prop) → Prop) (ta : VA) : VT := fun ρ Q E => ta ρ (fun ds => g ds Q) E
@[simp] def vMet (g : D → List D → (D → Prop) → Prop) (to : VT) (ta : VA) : VT := fun ρ Q E => to ρ (fun d => ta ρ (fun ds => g d ds Q) E) E
section
variable {X : Cx} {b : Bg} {W : WX} {e e1 e2 e3 : Expr} {es : List Expr} {t t1 t2 t3 : VT} {u : VA} {pos p : Pos} {r : List V → Hp → VK → Prop} {g : List D → (D → Prop) → Prop} {x : Str} {id T : String}
theorem vxs_nil : VXs X b W [] vNil := pa_mono pa_nil fun σ H Q ⟨Zo, Z, ρ, Qd, Ed, v, q, l, _⟩ => l [] H [] Ex.refl v.g .nil q
theorem vxs_cons (h : VX X b W e t) (k : VXs X b W es u) (hs : starEach (e :: es) X.env = (false, eval e X.env) :: starEach es X.env := by rfl) : VXs X b W (e :: es) (vCons t u) :=
  pa_mono (pa_cons h k hs) fun σ H Q ⟨Zo, Z, ρ, Qd, Ed, v, q, l, m⟩ => ⟨Zo, Z, ρ, _, Ed, v, q, fun x H1 d x1 g1 r1 q1 =>
    ⟨Zo, Z, ρ, _, Ed, v.ex x1 g1, q1, fun xs H2 ds x2 g2 r2 q2 => l (x :: xs) H2 (d :: ds) (x1.trans x2) g2 (.cons (r1.ex ((v.ex x1 g1).keep x2) x2) r2) q2, fun c y H2 er x2 g2 r2 q2 => m c y H2 er (x1.trans x2) g2 r2 q2⟩, m⟩
theorem coreC {R : (Addr → Prop) → Hp → Hp → V → D → Prop} (hR : ∀ Z H H1 H2 v d, b.G H1 → Ex b H H1 → R Z H1 H2 v d → R Z H H2 v d) (hd : CalD b R r g) : ∀ σ H Q, LE b W R (vCal g u) σ H Q → tCB r (LAX b W u) σ H Q :=
  fun σ H Q ⟨Zo, Z, ρ, Qd, Ed, v, q, l, m⟩ => ⟨Zo, Z, ρ, _, Ed, v, q, fun xs H1 ds x1 g1 r1 q1 => hd Z H1 xs ds Q Qd (v.ex x1 g1).gd r1 q1 fun w H2 d x2 g2 r2 q2 => l w H2 d (x1.trans x2) g2 (hR _ _ _ _ _ _ g1 x1 r2) q2, m⟩
theorem ve_callB (hc : CallR X (.builtin id) r) (hd : CalD b (RE b) r g) (hg : Gl X x) (hm : X.mg x = none) (hv : bootBuiltins x = some (.builtin id)) (ha : VXs X b W (e :: es) u) (hn : x ≠ "__name__" := by decide) (hdb : (x == ("__debug__" : Str)) = false := by decide)
    (he : starEach (e :: es) X.env = (false, eval e X.env) :: starEach es X.env := by rfl) (hpl : (backTo pos (starEach es X.env)).any (·.1) = false := by rfl) : VE X b W (.Call (.Name x p) (e :: es) [] pos) (vCal g u) :=
  pe_mono (pe_callB hc hg hm hv ha hn hdb he hpl) (coreC hRE hd)
theorem ve_callTy (hc : CallR X (.type T) r) (hd : CalD b (RE b) r g) (hg : Gl X x) (hm : X.mg x = none) (hv : bootBuiltins x = some (.type T)) (ha : VXs X b W (e :: es) u) (hn : x ≠ "__name__" := by decide) (hdb : (x == ("__debug__" : Str)) = false := by decide)
    (he : starEach (e :: es) X.env = (false, eval e X.env) :: starEach es X.env := by rfl) (hpl : (backTo pos (starEach es X.env)).any (·.1) = false := by rfl) : VE X b W (.Call (.Name x p) (e :: es) [] pos) (vCal g u) :=
  pe_mono (pe_callTy hc hg hm hv ha hn hdb he hpl) (coreC hRE hd)
/-! ### items -/
@[simp] def gIx : D → D → (D → Prop) → Prop
  | .py (.list xs), .py (.int i), Q => ∃ d, atI xs i = some d ∧ Q (.py d)
  | .py (.tuple xs), .py (.int i), Q => ∃ d, atI xs i = some d ∧ Q (.py d)
  | .py (.str z), .py (.int i), Q => z.length ≤ sizeLine ∧ ∃ c, atI z.cps.toList i = some c ∧ Q (.py (.str (mkS [c])))
  | _, _, _ => False
theorem Rqs.atI {Z : Addr → Prop} {H : Hp} {v : List V} {d : List PyData} {i : Int} {x : PyData} (r : Rqs Z H v d) (h : L2.atI d i = some x) : ∃ u, L2.atI v i = some u ∧ Rq Z H u x := by
  unfold L2.atI at h ⊢
  rw [r.length]
  cases e : ixN d.length i with
  | none => rw [e] at h; cases h
  | some j =>
    rw [e] at h
    exact r.get h
theorem rd_ix {K : PySem.W.Frag} : OpD b (RE b) (rIx K) gIx := by
  intro Z H x y dx dy Q Qd gd rx ry h k
  match dx, dy, h, rx, ry with
  | .py (.list xs), .py (.int i), ⟨d, e, h⟩, rx, ry =>
    obtain ⟨a, us, rfl, ha, qa⟩ := rx.list
    obtain ⟨w, e1, r1⟩ := qa.atI e
    exact .inl ⟨a, us, i, w, rfl, ry.int, SqL.of ha, e1, k w H (.py d) Ex.refl gd.g r1 h⟩
  | .py (.tuple xs), .py (.int i), ⟨d, e, h⟩, rx, ry =>
    obtain ⟨a, oa, us, rfl, ha, da, na, qa⟩ := rx.tuple
    obtain ⟨w, e1, r1⟩ := qa.atI e
    exact .inr (.inl ⟨a, us, i, w, rfl, ry.int, SqT.th ha, e1, k w H (.py d) Ex.refl gd.g r1 h⟩)
  | .py (.str z), .py (.int i), ⟨hl, c, e, h⟩, rx, ry =>
    exact .inr (.inr ⟨z, i, c, rx.str, ry.int, hl, e, k _ H (.py (.str (mkS [c]))) Ex.refl gd.g (.str _) h⟩)
theorem ve_ix (h1 : VX X b W e1 t1) (h2 : VX X b W e2 t2) (hs : PlainIx e2 := by exact fun _ _ => rfl) : VE X b W (.Subscript e1 e2 pos) (vBin gIx t1 t2) :=
  pe_mono (pe_ix ix_seq h1 h2 hs) (core2 hRE rd_ix)
/-! ### slices -/
def cutL {α : Type} (xs : List α) (lo hi : Option Int) : List α := (xs.drop (HT.sIx xs.length 0 lo)).take (HT.sIx xs.length xs.length hi - HT.sIx xs.length 0 lo)
theorem Rqs.cut {Z : Addr → Prop} {H : Hp} {v : List V} {d : List PyData} (lo hi : Option Int) (r : Rqs Z H v d) : Rqs Z H (cutV v lo hi) (cutL d lo hi) := by
  unfold cutV cutL
  rw [r.length]
  exact (r.drop _).take _
theorem cutL_whole {α : Type} {xs : List α} {lo hi : Option Int} (h : HT.sIx xs.length 0 lo = 0 ∧ HT.sIx xs.length xs.length hi = xs.length) : cutL xs lo hi = xs := by
  unfold cutL
  rw [h.1, h.2]
  simp
abbrev VO := VEnv → (Option Int → Prop) → (Er → Prop) → Prop
def LO (b : Bg) (W : WX) (t : VO) : TO := fun σ H Q => ∃ Zo Z ρ Qd Ed, VOk b Zo Z σ H ρ ∧ t ρ Qd Ed ∧
  (∀ k H', Ex b H H' → b.G H' → Qd k → Q k H') ∧ ∀ c x H' er, Ex b H H' → b.G H' → ErRp b Z H' c x er → Ed er → W c x σ H'
def VPt (X : Cx) (b : Bg) (W : WX) (e : Option Expr) (t : VO) : Prop := PO X e (LO b W t)
theorem po_mono {e : Option Expr} {t t' : TO} (h : PO X e t) (m : ∀ σ H Q, t' σ H Q → t σ H Q) : PO X e t' := ⟨fun pins s σ H Q I q => h.run pins s σ H Q I (m σ H Q q)⟩
@[simp] def oNo : VO := fun _ Q _ => Q none
@[simp] def oAt (t : VT) : VO := fun ρ Q E => t ρ (fun d => ∃ i, d = .py (.int i) ∧ Q (some i)) E
theorem vo_no : VPt X b W none oNo := po_mono po_none fun σ H Q ⟨Zo, Z, ρ, Qd, Ed, v, q, l, m⟩ => l none H Ex.refl v.g q
theorem vo_at (h : VX X b W e t) : VPt X b W (some e) (oAt t) := po_mono (po_some h) fun σ H Q ⟨Zo, Z, ρ, Qd, Ed, v, q, l, m⟩ => ⟨Zo, Z, ρ, _, Ed, v, q, fun x H1 d x1 g1 r1 ⟨i, e, q1⟩ => by
    subst e
    exact ⟨i, r1.int, l _ H1 x1 g1 q1⟩, m⟩
@[simp] def gSl : D → Option Int → Option Int → (D → Prop) → Prop
  | .py (.list xs), lo, hi, Q => Q (.py (.list (cutL xs lo hi)))
  | .py (.tuple xs), lo, hi, Q => Q (.py (.tuple (cutL xs lo hi)))
  | .py (.str z), lo, hi, Q => z.length ≤ sizeLine ∧ Q (.py (.str (mkS (cutL z.cps.toList lo hi))))
  | _, _, _, _ => False
@[simp] def gSlL : D → Option Int → Option Int → (D → Prop) → Prop
  | .py (.list xs), lo, hi, Q => Q (.py (.list (cutL xs lo hi)))
  | _, _, _, _ => False
@[simp] def vSl (g : D → Option Int → Option Int → (D → Prop) → Prop) (t : VT) (tl th : VO) : VT := fun ρ Q E => t ρ (fun x => tl ρ (fun lo => th ρ (fun hi => g x lo hi Q) E) E) E
def SliD (b : Bg) (R : (Addr → Prop) → Hp → Hp → V → D → Prop) (r : V → Option Int → Option Int → Hp → VK → Prop) (g : D → Option Int → Option Int → (D → Prop) → Prop) : Prop :=
  ∀ (Z : Addr → Prop) (H : Hp) (x : V) (lo hi : Option Int) (dx : D) (Q : VK) (Qd : D → Prop), Gd b Z H → Rb b Z H x dx → g dx lo hi Qd → (∀ v H' d, Ex b H H' → b.G H' → R Z H H' v d → Qd d → Q v H') → r x lo hi H Q
theorem coreS {R : (Addr → Prop) → Hp → Hp → V → D → Prop} {r : V → Option Int → Option Int → Hp → VK → Prop} {g : D → Option Int → Option Int → (D → Prop) → Prop} {tl th : VO} (hR : ∀ Z H H1 H2 v d, b.G H1 → Ex b H H1 → R Z H1 H2 v d → R Z H H2 v d) (hd : SliD b R r g) :
    ∀ σ H Q, LE b W R (vSl g t tl th) σ H Q → tSl r (LE b W (fun Z _ H v d => Rb b Z H v d) t) (LO b W tl) (LO b W th) σ H Q :=
  fun σ H Q ⟨Zo, Z, ρ, Qd, Ed, v, q, l, m⟩ => ⟨Zo, Z, ρ, _, Ed, v, q, fun x H1 d x1 g1 r1 q1 =>
    ⟨Zo, Z, ρ, _, Ed, v.ex x1 g1, q1, fun lo H2 x2 g2 q2 => ⟨Zo, Z, ρ, _, Ed, (v.ex x1 g1).ex x2 g2, q2, fun hi H3 x3 g3 q3 =>
        hd Z H3 x lo hi d Q Qd (((v.ex x1 g1).ex x2 g2).ex x3 g3).gd ((r1.ex ((v.ex x1 g1).keep x2) x2).ex (((v.ex x1 g1).ex x2 g2).keep x3) x3) q3 fun u H4 d4 x4 g4 r4 q4 => l u H4 d4 (((x1.trans x2).trans x3).trans x4) g4 (hR _ _ _ _ _ _ g3 ((x1.trans x2).trans x3) r4) q4,
        fun c z H3 er x3 g3 r3 q3 => m c z H3 er ((x1.trans x2).trans x3) g3 r3 q3⟩,
      fun c z H2 er x2 g2 r2 q2 => m c z H2 er (x1.trans x2) g2 r2 q2⟩, m⟩
theorem rd_slL {K : PySem.W.Frag} : SliD b (RN b) (rSlL K) gSlL := by
  intro Z H x lo hi dx Q Qd gd rx h k
  match dx, h, rx with
  | .py (.list xs), h, rx =>
    obtain ⟨a, us, rfl, ha, qa⟩ := rx.list
    exact ⟨a, us, rfl, SqL.of ha, fun p hp => k _ _ (.py (.list (cutL xs lo hi))) (Ex.new hp) (gd.new hp) ⟨p, rfl, hp, _, upd_same, (qa.cut lo hi).up' hp⟩ h⟩
theorem cutS_eq (z : Str) (lo hi : Option Int) : cutS z lo hi = mkS (cutL z.cps.toList lo hi) := by
  unfold cutS cutL
  first | rfl | simp [Str.length]
theorem rd_sl {K : PySem.W.Frag} : SliD b (RE b) (fun x lo hi H Q => rSlL K x lo hi H Q ∨ (fun x lo hi H Q => rSlF K x lo hi H Q ∨ rSlS x lo hi H Q) x lo hi H Q) gSl := by
  intro Z H x lo hi dx Q Qd gd rx h k
  match dx, h, rx with
  | .py (.list xs), h, rx =>
    refine .inl (rd_slL Z H x lo hi (.py (.list xs)) Q Qd gd rx h fun v H' d x1 g1 ⟨a, e, n, o⟩ q1 => k v H' d x1 g1 ?_ q1)
    subst e
    exact o.rp (fun _ z => .inl z) (gd.fresh n)
  | .py (.tuple xs), h, rx =>
    obtain ⟨a, oa, us, rfl, ha, da, na, qa⟩ := rx.tuple
    refine .inr (.inl ⟨a, us, rfl, SqT.th ha, fun hw => ?_, fun _ p o hp ho => ?_⟩)
    · rw [qa.length] at hw
      have h : Qd (.py (.tuple (cutL xs lo hi))) := h
      rw [cutL_whole hw] at h
      exact k _ H (.py (.tuple xs)) Ex.refl gd.g (.tup ha da na qa) h
    · exact k _ _ (.py (.tuple (cutL xs lo hi))) (Ex.new hp) (gd.new hp) (.tup upd_same ho (gd.fresh hp) ((qa.cut lo hi).up hp)) h
  | .py (.str z), ⟨hl, h⟩, rx =>
    refine .inr (.inr ⟨z, rx.str, hl, ?_⟩)
    rw [cutS_eq]
    exact k _ H (.py (.str _)) Ex.refl gd.g (.str _) h
theorem ve_sl {lo hi : Option Expr} {tl th : VO} {p2 : Pos} (h : VX X b W e t) (h1 : VPt X b W lo tl) (h2 : VPt X b W hi th) : VE X b W (.Subscript e (.Slice lo hi none p2) pos) (vSl gSl t tl th) :=
  pe_mono (pe_slice (sl_list.or (sl_tupF.or sl_str)) h h1 h2) (coreS hRE rd_sl)
end
end VL
set_option Elab.async false
set_option linter.all false
set_option maxRecDepth 100000
set_option maxHeartbeats 4000000
namespace VL
open PySem PySem.Spec PyProof.Rows L2
section
variable {X : Cx} {b : Bg} {W : WX} {e e1 e2 e3 o : Expr} {es : List Expr} {t t1 t2 t3 : VT} {u : VA} {pos p apos cpos : Pos} {x name : Str} {id T : String}
theorem Rbs.one {Z : Addr → Prop} {H : Hp} {v : List V} {d : D} (r : Rbs b Z H v [d]) : ∃ x, v = [x] ∧ Rb b Z H x d := by
  cases r with
  | cons r t => cases t; exact ⟨_, rfl, r⟩
theorem Rbs.two {Z : Addr → Prop} {H : Hp} {v : List V} {d d2 : D} (r : Rbs b Z H v [d, d2]) : ∃ x y, v = [x, y] ∧ Rb b Z H x d ∧ Rb b Z H y d2 := by
  cases r with
  | cons r t =>
    cases t with
    | cons r2 t => cases t; exact ⟨_, _, rfl, r, r2⟩
/-! ### built-in functions -/
@[simp] def gLen : List D → (D → Prop) → Prop
  | [.py (.list xs)], Q => Q (.py (.int xs.length))
  | [.py (.tuple xs)], Q => Q (.py (.int xs.length))
  | [.py (.str z)], Q => z.length ≤ sizeLine ∧ Q (.py (.int z.length))
  | [.py (.dict xs)], Q => Q (.py (.int xs.length))
  | _, _ => False
def rLen (K : PySem.W.Frag) : List V → Hp → VK → Prop := fun xs H Q => (fun xs H Q => ∃ x n, xs = [x] ∧ LenV K x H n ∧ Q (.int n) H) xs H Q ∨ (fun xs H Q => ∃ a kvs, xs = [V.ref a] ∧ H a = some (.dK kvs) ∧ Q (.int kvs.length) H) xs H Q
theorem rd_len : CalD b (RE b) (rLen X.K) gLen := by
  intro Z H vs ds Q Qd gd rx h k
  match ds, h, rx with
  | [.py (.list xs)], h, rx =>
    obtain ⟨x, rfl, r⟩ := rx.one
    obtain ⟨a, us, rfl, ha, qa⟩ := r.list
    exact .inl ⟨_, us.length, rfl, .inl ⟨us, SqL.of ha, rfl⟩, k _ H (.py (.int us.length)) Ex.refl gd.g (.int _) (by rw [qa.length]; exact h)⟩
  | [.py (.tuple xs)], h, rx =>
    obtain ⟨x, rfl, r⟩ := rx.one
    obtain ⟨a, oa, us, rfl, ha, da, na, qa⟩ := r.tuple
    exact .inl ⟨_, us.length, rfl, .inr ⟨us, SqT.th ha, rfl⟩, k _ H (.py (.int us.length)) Ex.refl gd.g (.int _) (by rw [qa.length]; exact h)⟩
  | [.py (.str z)], ⟨hl, h⟩, rx =>
    obtain ⟨x, rfl, r⟩ := rx.one
    exact .inl ⟨_, z.length, rfl, (by rw [r.str]; exact ⟨hl, rfl⟩), k _ H (.py (.int z.length)) Ex.refl gd.g (.int _) h⟩
  | [.py (.dict xs)], h, rx =>
    obtain ⟨x, rfl, r⟩ := rx.one
    obtain ⟨a, us, rfl, ha, qa⟩ := r.dict
    exact .inr ⟨a, us, rfl, ha, k _ H (.py (.int us.length)) Ex.refl gd.g (.int _) (by rw [qa.length]; exact h)⟩
theorem ve_len (hg : Gl X "len") (hm : X.mg "len" = none) (ha : VXs X b W [e] u) (he : starEach [e] X.env = (false, eval e X.env) :: starEach [] X.env := by rfl) (hpl : (backTo pos (starEach [] X.env)).any (·.1) = false := by rfl) :
    VE X b W (.Call (.Name "len" p) [e] [] pos) (vCal gLen u) := ve_callB (CallR.or call_len call_lenD) rd_len hg hm PySem.boot_len ha (by decide) (by decide) he hpl
@[simp] def gAbs : List D → (D → Prop) → Prop
  | [.py (.int i)], Q => Q (.py (.int (if i < 0 then -i else i)))
  | _, _ => False
@[simp] def gInt : List D → (D → Prop) → Prop
  | [.py (.int i)], Q => Q (.py (.int i))
  | [.py (.bool k)], Q => Q (.py (.int (if k then 1 else 0)))
  | [.py (.str z)], Q => ∃ n, intText? z = some n ∧ z.length ≤ 640 ∧ Q (.py (.int n))
  | _, _ => False
theorem rd_int : CalD b (RE b) (fun xs H Q => (fun xs H Q => (∃ i, xs = [.int i] ∧ Q (.int i) H) ∨ ∃ k, xs = [.bl k] ∧ Q (.int (if k then 1 else 0)) H) xs H Q ∨ (fun xs H Q => ∃ a n, xs = [.str a] ∧ PySem.intText? a = some n ∧ a.length ≤ 640 ∧ Q (.int n) H) xs H Q) gInt := by
  intro Z H vs ds Q Qd gd rx h k
  match ds, h, rx with
  | [.py (.int i)], h, rx =>
    obtain ⟨x, rfl, r⟩ := rx.one
    exact .inl (.inl ⟨i, by rw [r.int], k _ H (.py (.int i)) Ex.refl gd.g (.int i) h⟩)
  | [.py (.bool i)], h, rx =>
    obtain ⟨x, rfl, r⟩ := rx.one
    exact .inl (.inr ⟨i, by rw [r.bool], k _ H (.py (.int _)) Ex.refl gd.g (.int _) h⟩)
  | [.py (.str z)], ⟨n, h1, h2, h⟩, rx =>
    obtain ⟨x, rfl, r⟩ := rx.one
    exact .inr ⟨z, n, by rw [r.str], h1, h2, k _ H (.py (.int n)) Ex.refl gd.g (.int n) h⟩
@[simp] def gStr : List D → (D → Prop) → Prop
  | [.py (.int i)], Q => i.natAbs.log2 < 1920 ∧ Q (.py (.str (toString i)))
  | [.py (.str z)], Q => Q (.py (.str z))
  | _, _ => False
@[simp] def gBool : List D → (D → Prop) → Prop
  | [.py (.int i)], Q => Q (.py (.bool (i != 0)))
  | [.py (.bool k)], Q => Q (.py (.bool k))
  | _, _ => False
@[simp] def gTuple : List D → (D → Prop) → Prop
  | [.py (.list xs)], Q => Q (.py (.tuple xs))
  | [.py (.tuple xs)], Q => Q (.py (.tuple xs))
  | _, _ => False
theorem rd_tuple {K : PySem.W.Frag} : CalD b (RE b) (rTupOf K) gTuple := by
  intro Z H vs ds Q Qd gd rx h k
  match ds, h, rx with
  | [.py (.list xs)], h, rx =>
    obtain ⟨x, rfl, r⟩ := rx.one
    obtain ⟨a, us, rfl, ha, qa⟩ := r.list
    exact ⟨a, us, rfl, .inl ⟨SqL.of ha, fun p o hp ho => k _ _ (.py (.tuple xs)) (Ex.new hp) (gd.new hp) (.tup upd_same ho (gd.fresh hp) (qa.up hp)) h⟩⟩
  | [.py (.tuple xs)], h, rx =>
    obtain ⟨x, rfl, r⟩ := rx.one
    obtain ⟨a, oa, us, rfl, ha, da, na, qa⟩ := r.tuple
    exact ⟨a, us, rfl, .inr ⟨SqT.th ha, k _ H (.py (.tuple xs)) Ex.refl gd.g (.tup ha da na qa) h⟩⟩
@[simp] def gList : List D → (D → Prop) → Prop
  | [.py (.list xs)], Q => Q (.py (.list xs))
  | [.py (.tuple xs)], Q => Q (.py (.list xs))
  | _, _ => False
def allB : List PyData → Option (List Bool)
  | [] => some []
  | .bool k :: r => (allB r).map (k :: ·)
  | _ :: _ => none
def allI : List PyData → Option (List Int)
  | [] => some []
  | .int k :: r => (allI r).map (k :: ·)
  | _ :: _ => none
def allS : List PyData → Option (List Str)
  | [] => some []
  | .str k :: r => (allS r).map (k :: ·)
  | _ :: _ => none
theorem allI_of : ∀ {l : List PyData} {bs : List Int}, allI l = some bs → l = bs.map PyData.int
  | [], _, h => by cases h; rfl
  | .int k :: r, bs, h => by
    cases e : allI r with
    | none => rw [allI, e] at h; cases h
    | some q => rw [allI, e] at h; cases h; rw [List.map_cons, ← allI_of e]
  | .none :: _, _, h | .bool _ :: _, _, h | .str _ :: _, _, h | .list _ :: _, _, h | .tuple _ :: _, _, h | .dict _ :: _, _, h => by cases h
theorem allS_of : ∀ {l : List PyData} {bs : List Str}, allS l = some bs → l = bs.map PyData.str
  | [], _, h => by cases h; rfl
  | .str k :: r, bs, h => by
    cases e : allS r with
    | none => rw [allS, e] at h; cases h
    | some q => rw [allS, e] at h; cases h; rw [List.map_cons, ← allS_of e]
  | .none :: _, _, h | .bool _ :: _, _, h | .int _ :: _, _, h | .list _ :: _, _, h | .tuple _ :: _, _, h | .dict _ :: _, _, h => by cases h
@[simp] def gSum : List D → (D → Prop) → Prop
  | [.py (.list xs)], Q => ∃ ns, allI xs = some ns ∧ Q (.py (.int ns.sum))
  | _, _ => False
@[simp] def gAll : List D → (D → Prop) → Prop
  | [.py (.list xs)], Q => ∃ ns, allB xs = some ns ∧ Q (.py (.bool (ns.all fun k => k)))
  | _, _ => False
@[simp] def gAny : List D → (D → Prop) → Prop
  | [.py (.list xs)], Q => ∃ ns, allB xs = some ns ∧ Q (.py (.bool (ns.any fun k => k)))
  | _, _ => False
/-- the greatest, the least -/
def maxL : List Int → Int
  | [] => 0
  | [a] => a
  | a :: r => max a (maxL r)
def minL : List Int → Int
  | [] => 0
  | [a] => a
  | a :: r => min a (minL r)
@[simp] def gMax : List D → (D → Prop) → Prop
  | [.py (.list xs)], Q => ∃ ns, allI xs = some ns ∧ ns ≠ [] ∧ Q (.py (.int (maxL ns)))
  | [.py (.int i), .py (.int j)], Q => Q (.py (.int (max i j)))
  | _, _ => False
@[simp] def gMin : List D → (D → Prop) → Prop
  | [.py (.list xs)], Q => ∃ ns, allI xs = some ns ∧ ns ≠ [] ∧ Q (.py (.int (minL ns)))
  | [.py (.int i), .py (.int j)], Q => Q (.py (.int (min i j)))
  | _, _ => False
/-! ### isinstance of built-in kinds -/
/-- is data of that built-in class? -/
@[simp] def dInt : PyData → Bool
  | .int _ => true | .bool _ => true | _ => false
@[simp] def dBool : PyData → Bool
  | .bool _ => true | _ => false
@[simp] def dStr : PyData → Bool
  | .str _ => true | _ => false
@[simp] def dTuple : PyData → Bool
  | .tuple _ => true | _ => false
@[simp] def dList : PyData → Bool
  | .list _ => true | _ => false
def isK (T : String) (d : PyData) : Option Bool := if T = "int" then some (dInt d) else if T = "bool" then some (dBool d) else if T = "str" then some (dStr d) else if T = "tuple" then some (dTuple d) else if T = "list" then some (dList d) else none
@[simp] theorem isK_int (d : PyData) : isK "int" d = some (dInt d) := rfl
@[simp] theorem isK_bool (d : PyData) : isK "bool" d = some (dBool d) := rfl
@[simp] theorem isK_str (d : PyData) : isK "str" d = some (dStr d) := rfl
@[simp] theorem isK_tuple (d : PyData) : isK "tuple" d = some (dTuple d) := rfl
@[simp] theorem isK_list (d : PyData) : isK "list" d = some (dList d) := rfl
def tyName : PyData → String
  | .none => "NoneType" | .bool _ => "bool" | .int _ => "int" | .str _ => "str" | .list _ => "list" | .tuple _ => "tuple" | .dict _ => "dict"
theorem isi_int (d : PyData) : kitB (tyName d) "int" = some (dInt d) := by cases d <;> (simp only [tyName, dInt]; decide +kernel)
theorem isi_bool (d : PyData) : kitB (tyName d) "bool" = some (dBool d) := by cases d <;> (simp only [tyName, dBool]; decide +kernel)
theorem isi_str (d : PyData) : kitB (tyName d) "str" = some (dStr d) := by cases d <;> (simp only [tyName, dStr]; decide +kernel)
theorem isi_tuple (d : PyData) : kitB (tyName d) "tuple" = some (dTuple d) := by cases d <;> (simp only [tyName, dTuple]; decide +kernel)
theorem isi_list (d : PyData) : kitB (tyName d) "list" = some (dList d) := by cases d <;> (simp only [tyName, dList]; decide +kernel)
theorem isi_of {T : String} {d : PyData} {c : Bool} (h : isK T d = some c) : kitB (tyName d) T = some c := by
  unfold isK at h
  split at h
  · subst T; rw [isi_int]; exact h
  split at h
  · subst T; rw [isi_bool]; exact h
  split at h
  · subst T; rw [isi_str]; exact h
  split at h
  · subst T; rw [isi_tuple]; exact h
  split at h
  · subst T; rw [isi_list]; exact h
  · cases h
theorem tyx_of {K : PySem.W.Frag} {Z : Addr → Prop} {H : Hp} {v : V} {d : PyData} (r : Rq Z H v d) : TyX K H v (.type (tyName d)) := by
  cases r with
  | non => exact .base .non
  | bl k => exact .base (.bl k)
  | int i => exact .base (.int i)
  | str x => exact .base (.str x)
  | lst e n q => exact .base (.lst e)
  | tup e h n q => exact .fTuple e
  | dct e n q => exact .base (.dK e)
@[simp] def gIsi : List D → (D → Prop) → Prop
  | [.py d, .raw (.ty T)], Q => ∃ k, isK T d = some k ∧ Q (.py (.bool k))
  | _, _ => False
theorem rd_isi {K : PySem.W.Frag} : CalD b (RE b) (rIsi K) gIsi := by
  intro Z H vs ds Q Qd gd rx h k
  match ds, h, rx with
  | [.py d, .raw (.ty T)], ⟨c, e, h⟩, rx =>
    obtain ⟨x, y, rfl, r1, r2⟩ := rx.two
    have ey : y = .ty T := by
      rcases r2 with r | ⟨a, e, _, _, q⟩
      · exact r
      · exact q.elim
    subst ey
    exact ⟨x, .ty T, _, .type T, c, rfl, .ty T, tyx_of r1.q, kit_ty (isi_of e), k _ H (.py (.bool c)) Ex.refl gd.g (.bl c) h⟩
/-- the built-in class as a value -/
theorem ve_ty {T : String} {x : Str} (hg : Gl X x) (hm : X.mg x = none) (hv : bootBuiltins x = some (.type T)) (hn : x ≠ "__name__" := by decide) (hd : (x == ("__debug__" : Str)) = false := by decide) : VE X b W (.Name x pos) (vC (.raw (.ty T))) :=
  ve_raw (pe_bltn hg hm hv rfl hn hd)
end
end VL
set_option Elab.async false
set_option linter.all false
set_option maxRecDepth 100000
set_option maxHeartbeats 4000000
namespace VL
open PySem PySem.Spec PyProof.Rows L2
/-- VOk in a running def: H0 the heap at its entry (or a loop's), M what may have been written since -/
structure FOk (b : Bg) (H0 : Hp) (M Zo Z : Addr → Prop) (σ : L2.St) (H : Hp) (ρ : VEnv) : Prop where
  v : VOk b Zo Z σ H ρ
  ext : ∀ a o, H0 a = some o → ¬ b.B a → ¬ M a → H a = some o
  fr : ∀ (i : Nat) (d : D) (a : Addr), ρ[i]? = some (.own d) → σ[i]? = some (some (.ref a)) → M a ∨ H0 a = none
structure VEnds where
  nx : VEnv → Prop
  rt : D → Prop
  bk : VEnv → Prop
  ct : VEnv → Prop
  ex : VEnv → Er → Prop
abbrev VS := VEnv → VEnds → Prop
/-- what the ends of a reading mean over the heap -/
structure Lk (b : Bg) (W : WX) (H0 : Hp) (M Zo : Addr → Prop) (De : VEnds) (D : Ends) : Prop where
  nx : ∀ Z σ H ρ, FOk b H0 M Zo Z σ H ρ → De.nx ρ → D.nx σ H
  rt : ∀ v H d, (∀ a o, H0 a = some o → ¬ b.B a → ¬ M a → H a = some o) → b.G H → Rp b Zo H v d → De.rt d → D.rt v H
  bk : ∀ Z σ H ρ, FOk b H0 M Zo Z σ H ρ → De.bk ρ → D.bk σ H
  ct : ∀ Z σ H ρ, FOk b H0 M Zo Z σ H ρ → De.ct ρ → D.ct σ H
  ex : ∀ c x Z σ H ρ er, FOk b H0 M Zo Z σ H ρ → ErRp b Z H c x er → De.ex ρ er → W c x σ H
def LS (b : Bg) (W : WX) (t : VS) : TS := fun D σ H => ∃ H0 M Zo Z ρ De, FOk b H0 M Zo Z σ H ρ ∧ t ρ De ∧ Lk b W H0 M Zo De D
def VSt (X : Cx) (b : Bg) (W : WX) (st : Stmt) (t : VS) : Prop := PS X st (LS b W t)
def VSs (X : Cx) (b : Bg) (W : WX) (st : List Stmt) (t : VS) : Prop := PSs X st (LS b W t)
section
variable {b : Bg} {W : WX} {H0 : Hp} {M Zo Z : Addr → Prop} {σ : L2.St} {H H' : Hp} {ρ : VEnv} {De : VEnds} {Dn : Ends}
theorem FOk.ex (f : FOk b H0 M Zo Z σ H ρ) (x : Ex b H H') (g : b.G H') : FOk b H0 M Zo Z σ H' ρ := ⟨f.v.ex x g, fun a o e nb nm => x a o (f.ext a o e nb nm) nb, f.fr⟩
/-- the error link of an expression -/
theorem Lk.er (l : Lk b W H0 M Zo De Dn) (f : FOk b H0 M Zo Z σ H ρ) : ∀ c x H' er, Ex b H H' → b.G H' → ErRp b Z H' c x er → De.ex ρ er → W c x σ H' := fun c x H' er x1 g1 r q => l.ex c x Z σ H' ρ er (f.ex x1 g1) r q
/-- the owned addresses but slot i's -/
def zBut (Zo : Addr → Prop) (σ : L2.St) (ρ : VEnv) (i : Nat) : Addr → Prop := fun a => Zo a ∨ ∃ (j : Nat) (e : D), j ≠ i ∧ ρ[j]? = some (.own e) ∧ σ[j]? = some (some (.ref a))
theorem VOk.but (v : VOk b Zo Z σ H ρ) (i : Nat) : ∀ a, zBut Zo σ ρ i a → Z a := fun a z => by
  rcases z with z | ⟨j, e, _, h1, h2⟩
  · exact v.zo a z
  · obtain ⟨c, h3, h4, _⟩ := v.own j e h1
    rw [h2] at h3; cases h3; exact h4
theorem FOk.set (f : FOk b H0 M Zo Z σ H ρ) {i : Nat} {u : V} {d : D} (hi : i < ρ.length) (r : Rp b Z H u d) : FOk b H0 M Zo (zBut Zo σ ρ i) (σ.set i (some u)) H (ρ.set i (.shr d)) := by
  have v := f.v
  have sub := v.but i
  have hiσ : i < σ.length := by rw [← v.len]; exact hi
  have ow : ∀ {j : Nat} {e : D}, (ρ.set i (.shr d))[j]? = some (.own e) → j ≠ i ∧ ρ[j]? = some (.own e) := fun {j e} h => by
    by_cases hj : j = i
    · subst hj
      rw [List.getElem?_set_self hi] at h; cases h
    · rw [List.getElem?_set_ne (Ne.symm hj)] at h
      exact ⟨hj, h⟩
  refine ⟨⟨v.g, v.zb, fun a z => .inl z, fun a z => v.dom a (sub a z), fun a z => ?_, fun j e h => ?_, fun j k e e2 a h1 h2 h3 h4 => ?_, fun j e h => ?_, by simpa using v.len⟩, f.ext, fun j e a h1 h2 => ?_⟩
  · rcases z with z | ⟨j, e, hj, h1, h2⟩
    · exact .inl z
    · exact .inr ⟨j, e, by rw [List.getElem?_set_ne (Ne.symm hj)]; exact h1, by rw [List.getElem?_set_ne (Ne.symm hj)]; exact h2⟩
  · obtain ⟨hj, h⟩ := ow h
    obtain ⟨a, h1, h2, h3, h4⟩ := v.own j e h
    exact ⟨a, by rw [List.getElem?_set_ne (Ne.symm hj)]; exact h1, .inr ⟨j, e, hj, h, h1⟩, h3, h4.mono (fun c z => .inl (sub c z)) (fun _ _ e _ => e) fun _ e => e⟩
  · obtain ⟨hj, h1⟩ := ow h1
    obtain ⟨hk, h2⟩ := ow h2
    rw [List.getElem?_set_ne (Ne.symm hj)] at h3
    rw [List.getElem?_set_ne (Ne.symm hk)] at h4
    exact v.inj j k e e2 a h1 h2 h3 h4
  · by_cases hj : j = i
    · subst hj
      rw [List.getElem?_set_self hi] at h; cases h
      exact ⟨u, List.getElem?_set_self hiσ, r.mono (fun c z => .inl (sub c z)) fun _ _ e _ => e⟩
    · rw [List.getElem?_set_ne (Ne.symm hj)] at h
      obtain ⟨w, h1, h2⟩ := v.shr j e h
      exact ⟨w, by rw [List.getElem?_set_ne (Ne.symm hj)]; exact h1, h2.mono (fun c z => .inl (sub c z)) fun _ _ e _ => e⟩
  · obtain ⟨hj, h1⟩ := ow h1
    rw [List.getElem?_set_ne (Ne.symm hj)] at h2
    exact f.fr j e a h1 h2
/-- a new object given to slot i -/
theorem FOk.setN (f : FOk b H0 M Zo Z σ H ρ) {i : Nat} {u : V} {d : D} (hi : i < ρ.length) (x : Ex b H H') (g : b.G H') (r : Rn b Z H H' u d) : ∃ Z', FOk b H0 M Zo Z' (σ.set i (some u)) H' (ρ.set i (.own d)) := by
  obtain ⟨a, rfl, hn, o⟩ := r
  have v := f.v
  have v' := v.ex x g
  have sub := v.but i
  have nz : ¬ Z a := v.fresh hn
  have hiσ : i < σ.length := by rw [← v.len]; exact hi
  have hz : ∀ c, (zBut Zo σ ρ i c ∨ c = a) → Z c ∨ H c = none := fun c z => z.elim (fun z => .inl (sub c z)) fun e => .inr (by rw [e]; exact hn)
  have ow : ∀ {j : Nat} {e : D}, (ρ.set i (.own d))[j]? = some (.own e) → (j = i ∧ e = d) ∨ (j ≠ i ∧ ρ[j]? = some (.own e)) := fun {j e} h => by
    by_cases hj : j = i
    · subst hj
      rw [List.getElem?_set_self hi] at h; cases h; exact .inl ⟨rfl, rfl⟩
    · rw [List.getElem?_set_ne (Ne.symm hj)] at h
      exact .inr ⟨hj, h⟩
  have na : ∀ (j : Nat) (e : D) (c : Addr), ρ[j]? = some (.own e) → σ[j]? = some (some (.ref c)) → c ≠ a := fun j e c h1 h2 q => by
    obtain ⟨c', h3, h4, _⟩ := v.own j e h1
    rw [h2] at h3; cases h3; rw [q] at h4; exact nz h4
  refine ⟨fun c => zBut Zo σ ρ i c ∨ c = a, ⟨g, v.zb, fun c z => .inl (.inl z), fun c z => ?_, fun c z => ?_, fun j e h => ?_, fun j k e e2 c h1 h2 h3 h4 => ?_, fun j e h => ?_, by simpa using v.len⟩, fun c o e nb nm => x c o (f.ext c o e nb nm) nb, fun j e c h1 h2 => ?_⟩
  · rcases z with z | rfl
    · exact v'.dom c (sub c z)
    · obtain ⟨o', e⟩ := o.at
      rw [e]; simp
  · rcases z with (z | ⟨j, e, hj, h1, h2⟩) | rfl
    · exact .inl z
    · exact .inr ⟨j, e, by rw [List.getElem?_set_ne (Ne.symm hj)]; exact h1, by rw [List.getElem?_set_ne (Ne.symm hj)]; exact h2⟩
    · exact .inr ⟨i, d, List.getElem?_set_self hi, List.getElem?_set_self hiσ⟩
  · rcases ow h with ⟨rfl, rfl⟩ | ⟨hj, h⟩
    · exact ⟨a, List.getElem?_set_self hiσ, .inr rfl, fun z => nz (v.zo _ z), o.mono (fun c z => .inl (z.imp (sub c) id)) (fun _ _ e _ => e) fun _ e => e⟩
    · obtain ⟨c, h1, h2, h3, h4⟩ := v.own j e h
      exact ⟨c, by rw [List.getElem?_set_ne (Ne.symm hj)]; exact h1, .inl (.inr ⟨j, e, hj, h, h1⟩), h3, h4.mono hz (v.keep x) fun o q => x c o q fun z => h3 (v.zb c z)⟩
  · rcases ow h1 with ⟨q1, _⟩ | ⟨hj, p1⟩
    · rcases ow h2 with ⟨q2, _⟩ | ⟨hk, p2⟩
      · rw [q1, q2]
      · rw [q1, List.getElem?_set_self hiσ] at h3; cases h3
        rw [List.getElem?_set_ne (Ne.symm hk)] at h4
        exact absurd rfl (na k e2 _ p2 h4)
    · rw [List.getElem?_set_ne (Ne.symm hj)] at h3
      rcases ow h2 with ⟨q2, _⟩ | ⟨hk, p2⟩
      · rw [q2, List.getElem?_set_self hiσ] at h4; cases h4
        exact absurd rfl (na j e _ p1 h3)
      · rw [List.getElem?_set_ne (Ne.symm hk)] at h4
        exact v.inj j k e e2 c p1 p2 h3 h4
  · by_cases hj : j = i
    · subst hj
      rw [List.getElem?_set_self hi] at h; cases h
    · rw [List.getElem?_set_ne (Ne.symm hj)] at h
      obtain ⟨w, h1, h2⟩ := v.shr j e h
      exact ⟨w, by rw [List.getElem?_set_ne (Ne.symm hj)]; exact h1, h2.mono hz (v.keep x)⟩
  · rcases ow h1 with ⟨rfl, rfl⟩ | ⟨hj, h1⟩
    · rw [List.getElem?_set_self hiσ] at h2; cases h2
      cases q : H0 a with
      | none => exact .inr rfl
      | some u0 =>
        by_cases hb : b.B a
        · exact absurd hn (b.dom _ _ v.g hb)
        · by_cases hm : M a
          · exact .inl hm
          · have := f.ext a u0 q hb hm
            rw [hn] at this; cases this
    · rw [List.getElem?_set_ne (Ne.symm hj)] at h2
      exact f.fr j e c h1 h2
/-- slot i's object is changed -/
theorem FOk.mut (f : FOk b H0 M Zo Z σ H ρ) {i : Nat} {a : Addr} {d d' : D} {o : HO} (hr : ρ[i]? = some (.own d)) (hs : σ[i]? = some (some (.ref a))) (new : Ow b Z (upd H a o) a d') : FOk b H0 M Zo Z σ (upd H a o) (ρ.set i (.own d')) := by
  have v := f.v
  obtain ⟨c, h1, hz, hzo, how⟩ := v.own i d hr
  rw [hs] at h1; cases h1
  have hi : i < ρ.length := (List.getElem?_eq_some_iff.mp hr).1
  have nb : ¬ b.B a := fun z => hzo (v.zb a z)
  have keep : ∀ c o', H c = some o' → ¬ Z c → upd H a o c = some o' := fun c o' e n => by
    rw [upd_ne (fun q => n (by rw [q]; exact hz))]
    exact e
  have ow : ∀ {j : Nat} {e : D}, (ρ.set i (.own d'))[j]? = some (.own e) → (j = i ∧ e = d') ∨ (j ≠ i ∧ ρ[j]? = some (.own e)) := fun {j e} h => by
    by_cases hj : j = i
    · subst hj
      rw [List.getElem?_set_self hi] at h; cases h; exact .inl ⟨rfl, rfl⟩
    · rw [List.getElem?_set_ne (Ne.symm hj)] at h
      exact .inr ⟨hj, h⟩
  have old : ∀ {j : Nat} {e : D}, (ρ.set i (.own d'))[j]? = some (.own e) → ∃ e', ρ[j]? = some (.own e') := fun {j e} h => by
    rcases ow h with ⟨rfl, rfl⟩ | ⟨_, h⟩
    · exact ⟨d, hr⟩
    · exact ⟨e, h⟩
  refine ⟨⟨b.loc H _ (fun c hc => upd_ne fun q => nb (by rw [← q]; exact hc)) (fun c o ho e => by rw [upd_ne (fun q => how.noext o ho (by rw [← q]; exact e))]; exact e) v.g, v.zb, v.zo, fun c z => ?_, fun c z => ?_, fun j e h => ?_, fun j k e e2 c h1 h2 h3 h4 => ?_, fun j e h => ?_, by simpa using v.len⟩, fun c o' e nb' nm => ?_, fun j e c h1 h2 => ?_⟩
  · by_cases q : c = a
    · rw [q, upd_same]; simp
    · rw [upd_ne q]; exact v.dom c z
  · rcases v.zi c z with z | ⟨j, e, h1, h2⟩
    · exact .inl z
    · by_cases hj : j = i
      · subst hj
        exact .inr ⟨j, d', List.getElem?_set_self hi, h2⟩
      · exact .inr ⟨j, e, by rw [List.getElem?_set_ne (Ne.symm hj)]; exact h1, h2⟩
  · rcases ow h with ⟨rfl, rfl⟩ | ⟨hj, h⟩
    · exact ⟨a, hs, hz, hzo, new⟩
    · obtain ⟨c, h1, h2, h3, h4⟩ := v.own j e h
      have hca : c ≠ a := fun q => hj (v.inj j i e d a h hr (by rw [← q]; exact h1) hs)
      exact ⟨c, h1, h2, h3, h4.mono (fun _ z => .inl z) keep fun o' q => by rw [upd_ne hca]; exact q⟩
  · obtain ⟨e', h1⟩ := old h1
    obtain ⟨e2', h2⟩ := old h2
    exact v.inj j k e' e2' c h1 h2 h3 h4
  · by_cases hj : j = i
    · subst hj
      rw [List.getElem?_set_self hi] at h; cases h
    · rw [List.getElem?_set_ne (Ne.symm hj)] at h
      obtain ⟨w, h1, h2⟩ := v.shr j e h
      exact ⟨w, h1, h2.mono (fun _ z => .inl z) keep⟩
  · have h := f.ext c o' e nb' nm
    by_cases q : c = a
    · subst q
      rcases f.fr i d c hr hs with z | z
      · exact absurd z nm
      · rw [z] at e; cases e
    · rw [upd_ne q]; exact h
  · obtain ⟨e', h1⟩ := old h1
    exact f.fr j e' c h1 h2
/-- slot i's object is shared from now on -/
@[simp] def frz (i : Nat) (ρ : VEnv) : VEnv := match ρ[i]? with
  | some (.own d) => ρ.set i (.shr d)
  | _ => ρ
theorem FOk.frz (f : FOk b H0 M Zo Z σ H ρ) (i : Nat) : ∃ Z', FOk b H0 M Zo Z' σ H (VL.frz i ρ) := by
  unfold VL.frz
  cases hr : ρ[i]? with
  | none => exact ⟨Z, f⟩
  | some s =>
    cases s with
    | un => exact ⟨Z, f⟩
    | shr d => exact ⟨Z, f⟩
    | own d =>
      have v := f.v
      obtain ⟨a, hs, hz, hzo, ho⟩ := v.own i d hr
      have hi : i < ρ.length := (List.getElem?_eq_some_iff.mp hr).1
      have sub := v.but i
      have na : ¬ zBut Zo σ ρ i a := fun z => by
        rcases z with z | ⟨j, e, hj, h1, h2⟩
        · exact hzo z
        · exact hj (v.inj j i e d a h1 hr h2 hs)
      have rp : Rp b (zBut Zo σ ρ i) H (.ref a) d := ho.rp sub na
      have eσ : σ.set i (some (.ref a)) = σ := by
        apply List.ext_getElem?
        intro j
        by_cases hj : j = i
        · subst hj
          rw [List.getElem?_set_self (List.getElem?_eq_some_iff.mp hs).1, hs]
        · rw [List.getElem?_set_ne (Ne.symm hj)]
      refine ⟨zBut Zo σ ρ i, ?_⟩
      -- as FOk.set, but the value is no longer owned
      have ow : ∀ {j : Nat} {e : D}, (ρ.set i (.shr d))[j]? = some (.own e) → j ≠ i ∧ ρ[j]? = some (.own e) := fun {j e} h => by
        by_cases hj : j = i
        · subst hj
          rw [List.getElem?_set_self hi] at h; cases h
        · rw [List.getElem?_set_ne (Ne.symm hj)] at h
          exact ⟨hj, h⟩
      refine ⟨⟨v.g, v.zb, fun a z => .inl z, fun a z => v.dom a (sub a z), fun c z => ?_, fun j e h => ?_, fun j k e e2 c h1 h2 h3 h4 => ?_, fun j e h => ?_, by simpa using v.len⟩, f.ext, fun j e c h1 h2 => f.fr j e c (ow h1).2 h2⟩
      · rcases z with z | ⟨j, e, hj, h1, h2⟩
        · exact .inl z
        · exact .inr ⟨j, e, by rw [List.getElem?_set_ne (Ne.symm hj)]; exact h1, h2⟩
      · obtain ⟨hj, h⟩ := ow h
        obtain ⟨c, h1, h2, h3, h4⟩ := v.own j e h
        exact ⟨c, h1, .inr ⟨j, e, hj, h, h1⟩, h3, h4.mono (fun c z => .inl (sub c z)) (fun _ _ e _ => e) fun _ e => e⟩
      · exact v.inj j k e e2 c (ow h1).2 (ow h2).2 h3 h4
      · by_cases hj : j = i
        · subst hj
          rw [List.getElem?_set_self hi] at h; cases h
          exact ⟨.ref a, hs, rp⟩
        · rw [List.getElem?_set_ne (Ne.symm hj)] at h
          obtain ⟨w, h1, h2⟩ := v.shr j e h
          exact ⟨w, h1, h2.mono (fun c z => .inl (sub c z)) fun _ _ e _ => e⟩
/-- a value that may leave -/
theorem FOk.out (f : FOk b H0 M Zo Z σ H ρ) {u : V} {d : D} (r : Rp b Z H u d) : Rp b Zo H u d := r.mono (fun c z => .inl (f.v.zo c z)) fun _ _ e _ => e
end
/-! ### statements -/
section
variable {X : Cx} {b : Bg} {W : WX} {e e1 e2 : Expr} {st : Stmt} {sts : List Stmt} {t t1 t2 : VT} {u : VA} {g h : VS} {pos pos' : Pos} {i : Nat} {x : Str}
@[simp] def sNext : VS := fun ρ De => De.nx ρ
@[simp] def sSeq (g h : VS) : VS := fun ρ De => g ρ { De with nx := fun ρ' => h ρ' De }
theorem vs_nil : VSs X b W [] sNext := pss_mono pss_nil fun D σ H ⟨H0, M, Zo, Z, ρ, De, f, q, l⟩ => l.nx Z σ H ρ f q
theorem vs_cons (h1 : VSt X b W st g) (h2 : VSs X b W sts h) : VSs X b W (st :: sts) (sSeq g h) :=
  pss_mono (pss_cons h1 h2) fun D σ H ⟨H0, M, Zo, Z, ρ, De, f, q, l⟩ => ⟨H0, M, Zo, Z, ρ, _, f, q, ⟨fun Z' σ' H' ρ' f' q' => ⟨H0, M, Zo, Z', ρ', De, f', q', l⟩, l.rt, l.bk, l.ct, l.ex⟩⟩
theorem vs_one (h1 : VSt X b W st g) : VSs X b W [st] g := pss_mono (pss_one h1) fun _ _ _ q => q
/-- from here on slot i's object may be shared -/
@[simp] def sFrz (i : Nat) (g : VS) : VS := fun ρ De => g (frz i ρ) De
theorem vs_frz (i : Nat) (h : VSt X b W st g) : VSt X b W st (sFrz i g) := ps_mono h fun D σ H ⟨H0, M, Zo, Z, ρ, De, f, q, l⟩ => by
  obtain ⟨Z', f'⟩ := f.frz i
  exact ⟨H0, M, Zo, Z', _, De, f', q, l⟩
@[simp] def sBrk : VS := fun ρ De => De.bk ρ
@[simp] def sCnt : VS := fun ρ De => De.ct ρ
theorem vs_break : VSt X b W (.Break pos) sBrk := ps_mono ps_break fun D σ H ⟨H0, M, Zo, Z, ρ, De, f, q, l⟩ => l.bk Z σ H ρ f q
/-- name = value -/
@[simp] def sSet (i : Nat) (t : VT) : VS := fun ρ De => i < ρ.length ∧ t ρ (fun d => De.nx (ρ.set i (.shr d))) (De.ex ρ)
@[simp] def sSetN (i : Nat) (t : VT) : VS := fun ρ De => i < ρ.length ∧ t ρ (fun d => De.nx (ρ.set i (.own d))) (De.ex ρ)
theorem vs_set {te : TE} (hp : PS X (.Assign [.Name x pos'] e pos) (tAsg te (gName i))) (hm : ∀ σ H Q, LE b W (RE b) t σ H Q → te σ H Q) : VSt X b W (.Assign [.Name x pos'] e pos) (sSet i t) :=
  ps_mono hp fun D σ H ⟨H0, M, Zo, Z, ρ, De, f, ⟨hi, q⟩, l⟩ => hm σ H _ ⟨Zo, Z, ρ, _, _, f.v, q, fun v H' d x g r q' => l.nx _ _ H' _ ((f.ex x g).set hi r) q', l.er f⟩
theorem vs_setN {te : TE} (hp : PS X (.Assign [.Name x pos'] e pos) (tAsg te (gName i))) (hm : ∀ σ H Q, LE b W (RN b) t σ H Q → te σ H Q) : VSt X b W (.Assign [.Name x pos'] e pos) (sSetN i t) :=
  ps_mono hp fun D σ H ⟨H0, M, Zo, Z, ρ, De, f, ⟨hi, q⟩, l⟩ => hm σ H _ ⟨Zo, Z, ρ, _, _, f.v, q, fun v H' d x g r q' => by
    obtain ⟨Z', f'⟩ := f.setN hi x g r
    exact l.nx _ _ H' _ f' q', l.er f⟩
theorem vs_asg (hN : X.N.Nodup) (hi : X.N[i]? = some x) (hx : Loc X.env.scope x) (he : VE X b W e t) (hs : swapsWith e (some (.Name x pos')) pos.line X.env = pure false := by rfl)
    (hf : X.fn x = true ∨ X.env.scope.names.lookup x = some .local := by first | exact .inl rfl | exact .inr rfl | assumption) : VSt X b W (.Assign [.Name x pos'] e pos) (sSet i t) :=
  vs_set (ps_set hN hi hx he hs hf) fun _ _ _ q => q
theorem vs_asgN (hN : X.N.Nodup) (hi : X.N[i]? = some x) (hx : Loc X.env.scope x) (he : VN X b W e t) (hs : swapsWith e (some (.Name x pos')) pos.line X.env = pure false := by rfl)
    (hf : X.fn x = true ∨ X.env.scope.names.lookup x = some .local := by first | exact .inl rfl | exact .inr rfl | assumption) : VSt X b W (.Assign [.Name x pos'] e pos) (sSetN i t) :=
  vs_setN (ps_set hN hi hx he hs hf) fun _ _ _ q => q
@[simp] def sExpr (t : VT) : VS := fun ρ De => t ρ (fun _ => De.nx ρ) (De.ex ρ)
theorem vs_expr (he : VE X b W e t) (hs : swapsWith e none pos.line X.env = pure false := by rfl) : VSt X b W (.Expr e pos) (sExpr t) :=
  ps_mono (ps_expr he hs) fun D σ H ⟨H0, M, Zo, Z, ρ, De, f, q, l⟩ => ⟨Zo, Z, ρ, _, _, f.v, q, fun v H' d x g r q' => l.nx _ _ H' _ (f.ex x g) q', l.er f⟩
@[simp] def sRet (t : VT) : VS := fun ρ De => t ρ De.rt (De.ex ρ)
theorem vs_ret (he : VE X b W e t) : VSt X b W (.Return (some e) pos) (sRet t) :=
  ps_mono (ps_ret he) fun D σ H ⟨H0, M, Zo, Z, ρ, De, f, q, l⟩ => ⟨Zo, Z, ρ, _, _, f.v, q, fun v H' d x g r q' => l.rt v H' d (f.ex x g).ext g ((f.ex x g).out r) q', l.er f⟩
@[simp] def sRetN : VS := fun _ De => De.rt (.py .none)
@[simp] def sIf (c : VB) (g h : VS) : VS := fun ρ De => c ρ (fun k => if k = true then g ρ De else h ρ De) (De.ex ρ)
theorem vs_if {c : Expr} {tc : VB} {xs ys : List Stmt} (hc : VTe X b W c tc) (h1 : VSs X b W xs g) (h2 : VSs X b W ys h) : VSt X b W (.If c xs ys pos) (sIf tc g h) :=
  ps_mono (ps_if hc h1 h2) fun D σ H ⟨H0, M, Zo, Z, ρ, De, f, q, l⟩ => ⟨Zo, Z, ρ, _, _, f.v, q, fun k H' x g q' => by
    cases k with
    | true => exact ⟨H0, M, Zo, Z, ρ, De, f.ex x g, q', l⟩
    | false => exact ⟨H0, M, Zo, Z, ρ, De, f.ex x g, q', l⟩, l.er f⟩
/-- name op= value -/
@[simp] def sAug (i : Nat) (g : D → D → (D → Prop) → Prop) (t : VT) : VS := fun ρ De => ∃ d, ρ[i]? = some (.shr d) ∧ t ρ (fun y => g d y fun z => De.nx (ρ.set i (.shr z))) (De.ex ρ)
/-! ### loops -/
/-- what an iterator gives: the items, one a turn, while what stood at H outside of Y stands -/
structure Wk (b : Bg) (Y Z : Addr → Prop) (H : Hp) (J : It) (ds : List D) : Prop where
  go : ∀ (k : Nat) (d : D) (H2 : Hp), ds[k]? = some d → (∀ a o, H a = some o → ¬ Y a → H2 a = some o) → b.G H2 → J.go k H2 ∧ ∀ v H3, J.yld k H2 v H3 → Ex b H2 H3 ∧ b.G H3 ∧ ∀ Z2 : Addr → Prop, (∀ a, Z2 a → Z a ∨ H a = none) → (∀ a, Z2 a → H2 a ≠ none) → Rp b Z2 H3 v d
  stop : ∀ (k : Nat) (H2 : Hp), ds.length = k → (∀ a o, H a = some o → ¬ Y a → H2 a = some o) → J.stop k H2
abbrev VIt := VEnv → (List D → Prop) → (Er → Prop) → Prop
def LI (b : Bg) (W : WX) (Y : (Addr → Prop) → Addr → Prop) (t : VIt) : TI := fun σ H R => ∃ Zo Z ρ Qd Ed, VOk b Zo Z σ H ρ ∧ t ρ Qd Ed ∧
  (∀ J H' ds, Ex b H H' → b.G H' → Wk b (Y Z) Z H' J ds → Qd ds → R J H') ∧ ∀ c x H' er, Ex b H H' → b.G H' → ErRp b Z H' c x er → Ed er → W c x σ H'
/-- for a loop: what is owned may change; for a block: nothing but the zone -/
def VI (X : Cx) (b : Bg) (W : WX) (tg iter : Expr) (t : VIt) : Prop := PI X tg iter (LI b W (fun Z => Z) t)
def VIb (X : Cx) (b : Bg) (W : WX) (tg iter : Expr) (t : VIt) : Prop := PI X tg iter (LI b W (fun _ => b.B) t)
/-- a target -/
abbrev VTg := D → VEnv → (VEnv → Prop) → Prop
abbrev VTgs := List D → VEnv → (VEnv → Prop) → Prop
/-- the slots but those at js are as they were -/
structure Same (js : List Nat) (σ σ' : L2.St) (ρ ρ' : VEnv) : Prop where
  len : σ'.length = σ.length
  out : ∀ j, j ∉ js → σ'[j]? = σ[j]?
  env : ∀ j, j ∉ js → ρ'[j]? = ρ[j]?
theorem Same.refl {js : List Nat} {σ : L2.St} {ρ : VEnv} : Same js σ σ ρ ρ := ⟨rfl, fun _ _ => rfl, fun _ _ => rfl⟩
theorem Same.trans {js ks : List Nat} {σ σ1 σ2 : L2.St} {ρ ρ1 ρ2 : VEnv} (h : Same js σ σ1 ρ ρ1) (k : Same ks σ1 σ2 ρ1 ρ2) : Same (js ++ ks) σ σ2 ρ ρ2 :=
  ⟨k.len.trans h.len, fun j hj => (k.out j fun m => hj (List.mem_append_right _ m)).trans (h.out j fun m => hj (List.mem_append_left _ m)), fun j hj => (k.env j fun m => hj (List.mem_append_right _ m)).trans (h.env j fun m => hj (List.mem_append_left _ m))⟩
def LG (b : Bg) (js : List Nat) (t : VTg) : TG := fun v σ H Q => ∃ H0 M Zo Z ρ d Qd, FOk b H0 M Zo Z σ H ρ ∧ Rp b Z H v d ∧ t d ρ Qd ∧ ∀ Z' σ' ρ', (∀ a, Z' a → Z a) → Same js σ σ' ρ ρ' → FOk b H0 M Zo Z' σ' H ρ' → Qd ρ' → Q σ' H
def VG (X : Cx) (b : Bg) (tg : Expr) (js : List Nat) (t : VTg) : Prop := PG X tg (LG b js t)
theorem pg_mono {e : Expr} {t t' : TG} (h : PG X e t) (m : ∀ v σ H Q, t' v σ H Q → t v σ H Q) : PG X e t' := ⟨fun pins s σ H v u Q I r q => h.run pins s σ H v u Q I r (m v σ H Q q)⟩
@[simp] def tgName (i : Nat) : VTg := fun d ρ Q => i < ρ.length ∧ Q (ρ.set i (.shr d))
theorem vg_name (hN : X.N.Nodup) (hi : X.N[i]? = some x) (hx : Loc X.env.scope x) (hf : X.fn x = true ∨ X.env.scope.names.lookup x = some .local := by first | exact .inl rfl | exact .inr rfl | assumption) : VG X b (.Name x pos) [i] (tgName i) :=
  pg_mono (pg_name hN hi hx hf) fun v σ H Q ⟨H0, M, Zo, Z, ρ, d, Qd, f, r, ⟨hl, q⟩, k⟩ => k _ _ _ (f.v.but i) ⟨List.length_set .., fun j hj => List.getElem?_set_ne fun e => hj (by rw [e]; exact List.mem_singleton.mpr rfl), fun j hj => List.getElem?_set_ne fun e => hj (by rw [e]; exact List.mem_singleton.mpr rfl)⟩ (f.set hl r) q
/-- several targets -/
def LGs (b : Bg) (js : List Nat) (t : VTgs) : TGs := fun v σ H Q => ∃ H0 M Zo Z ρ d Qd, FOk b H0 M Zo Z σ H ρ ∧ Rps b Z H v d ∧ t d ρ Qd ∧ ∀ Z' σ' ρ', (∀ a, Z' a → Z a) → Same js σ σ' ρ ρ' → FOk b H0 M Zo Z' σ' H ρ' → Qd ρ' → Q σ' H
def VGs (X : Cx) (b : Bg) (tg : List Expr) (js : List Nat) (t : VTgs) : Prop := PGs X tg (LGs b js t)
theorem pgs_mono {e : List Expr} {t t' : TGs} (h : PGs X e t) (m : ∀ v σ H Q, t' v σ H Q → t v σ H Q) : PGs X e t' := ⟨fun pins s σ H v u Q I r q => h.run pins s σ H v u Q I r (m v σ H Q q)⟩
@[simp] def tgNil : VTgs
  | [], ρ, Q => Q ρ
  | _, _, _ => False
@[simp] def tgCons (t : VTg) (u : VTgs) : VTgs
  | d :: r, ρ, Q => t d ρ fun ρ' => u r ρ' Q
  | _, _, _ => False
theorem vgs_nil : VGs X b [] [] tgNil := pgs_mono pgs_nil fun v σ H Q ⟨H0, M, Zo, Z, ρ, d, Qd, f, r, q, k⟩ => by
  cases r with
  | nil => exact ⟨rfl, k Z σ ρ (fun _ z => z) .refl f q⟩
  | cons _ _ => exact False.elim q
theorem vgs_cons {tg : Expr} {tgs : List Expr} {js ks : List Nat} {t : VTg} {u : VTgs} (h1 : VG X b tg js t) (h2 : VGs X b tgs ks u)
    (hs : (assignEach (tg :: tgs) X.env).map (·.2) = assign tg X.env :: (assignEach tgs X.env).map (·.2) := by rfl) : VGs X b (tg :: tgs) (js ++ ks) (tgCons t u) :=
  pgs_mono (pgs_cons h1 h2 hs) fun v σ H Q ⟨H0, M, Zo, Z, ρ, d, Qd, f, r, q, k⟩ => by
    cases r with
    | nil => exact False.elim q
    | @cons _ d1 _ dr r1 rr => exact ⟨_, _, rfl, H0, M, Zo, Z, ρ, d1, _, f, r1, q, fun Z' σ' ρ' sub sm f' q' => ⟨H0, M, Zo, Z', ρ', dr, Qd, f', rr.mono (fun a z => .inl (sub a z)) (fun _ _ e _ => e), q', fun Z2 σ2 ρ2 sub2 sm2 f2 q2 => k Z2 σ2 ρ2 (fun a z => sub a (sub2 a z)) (sm.trans sm2) f2 q2⟩⟩
@[simp] def tgTup (n : Nat) (u : VTgs) : VTg
  | .py (.tuple ps), ρ, Q => ps.length = n ∧ u (ps.map D.py) ρ Q
  | _, _, _ => False
theorem tgTup_ex {n : Nat} {u : VTgs} : ∀ {d : D} {ρ : VEnv} {Q : VEnv → Prop}, tgTup n u d ρ Q → ∃ ps, d = .py (.tuple ps) ∧ ps.length = n ∧ u (ps.map D.py) ρ Q
  | .py (.tuple ps), _, _, h => ⟨ps, rfl, h⟩
theorem vg_tup {tgs : List Expr} {k n : Nat} {js : List Nat} {u : VTgs} (hc : X.calm = true) (h : VGs X b tgs js u) (hn : (assignEach tgs X.env).length = n := by rfl) (hst : (assignEach tgs X.env).findIdx? (·.1) = none := by rfl) : VG X b (.Tuple tgs k pos) js (tgTup n u) :=
  pg_mono (pg_tup hc h hn hst) fun v σ H Q ⟨H0, M, Zo, Z, ρ, d, Qd, f, r, hh, k⟩ => by
    obtain ⟨ps, e, hl, q⟩ := tgTup_ex hh
    subst e
    obtain ⟨a, o, xs, rfl, ha, ho, na, qa⟩ := Rb.tuple (b := b) (.inl r)
    exact ⟨a, xs, rfl, SqT.th ha, by rw [qa.length]; exact hl, H0, M, Zo, Z, ρ, _, Qd, f, qa.to, q, k⟩
/-- target = value -/
@[simp] def sAsg (t : VT) (g : VTg) : VS := fun ρ De => t ρ (fun d => g d ρ De.nx) (De.ex ρ)
end
end VL
set_option Elab.async false
set_option linter.all false
set_option maxRecDepth 100000
set_option maxHeartbeats 4000000
namespace VL
open PySem PySem.Spec PyProof.Rows L2
/-! ### values some of which are new -/
inductive Rm (b : Bg) (Y : Addr → Prop) (H H' : Hp) : List V → List (Bool × D) → List Addr → Prop
  | nil : Rm b Y H H' [] [] []
  | sh {v : V} {d : D} {vs : List V} {ms : List (Bool × D)} {N : List Addr} : Rp b Y H' v d → Rm b Y H H' vs ms N → Rm b Y H H' (v :: vs) ((false, d) :: ms) N
  | nw {a : Addr} {d : D} {vs : List V} {ms : List (Bool × D)} {N : List Addr} : H a = none → a ∉ N → Ow b Y H' a d → Rm b Y H H' vs ms N → Rm b Y H H' (.ref a :: vs) ((true, d) :: ms) (a :: N)
abbrev VAm := VEnv → (List (Bool × D) → Prop) → (Er → Prop) → Prop
def LAm (b : Bg) (W : WX) (t : VAm) : TA := fun σ H Q => ∃ Zo Z ρ Qd Ed, VOk b Zo Z σ H ρ ∧ t ρ Qd Ed ∧
  (∀ vs H' ms N, Ex b H H' → b.G H' → Rm b (fun c => Z c ∨ c ∈ N) H H' vs ms N → Qd ms → Q vs H') ∧ ∀ c x H' er, Ex b H H' → b.G H' → ErRp b Z H' c x er → Ed er → W c x σ H'
def VMs (X : Cx) (b : Bg) (W : WX) (es : List Expr) (t : VAm) : Prop := PA X es (LAm b W t)
@[simp] def mNil : VAm := fun _ Q _ => Q []
@[simp] def mCons (k : Bool) (t : VT) (u : VAm) : VAm := fun ρ Q E => t ρ (fun d => u ρ (fun ds => Q ((k, d) :: ds)) E) E
section
variable {b : Bg} {Y Y' : Addr → Prop} {H H' H1 : Hp} {vs : List V} {ms : List (Bool × D)} {N : List Addr}
theorem Rm.sub (h : ∀ c, Y' c → Y c) : ∀ {vs : List V} {ms : List (Bool × D)} {N : List Addr}, Rm b Y H H' vs ms N → Rm b Y' H H' vs ms N
  | _, _, _, .nil => .nil
  | _, _, _, .sh r t => .sh (r.mono (fun c z => .inl (h c z)) fun _ _ e _ => e) (Rm.sub h t)
  | _, _, _, .nw hn hm o t => .nw hn hm (o.mono (fun c z => .inl (h c z)) (fun _ _ e _ => e) fun _ e => e) (Rm.sub h t)
theorem Rm.back (h : ∀ c, H1 c = none → H c = none) : ∀ {vs : List V} {ms : List (Bool × D)} {N : List Addr}, Rm b Y H1 H' vs ms N → Rm b Y H H' vs ms N
  | _, _, _, .nil => .nil
  | _, _, _, .sh r t => .sh r (Rm.back h t)
  | _, _, _, .nw hn hm o t => .nw (h _ hn) hm o (Rm.back h t)
theorem Rm.new : ∀ {vs : List V} {ms : List (Bool × D)} {N : List Addr}, Rm b Y H H' vs ms N → ∀ c ∈ N, H c = none ∧ H' c ≠ none
  | _, _, _, .nil, _, h => nomatch h
  | _, _, _, .sh _ t, c, h => Rm.new t c h
  | _, _, _, .nw hn _ o t, c, h => by
    rcases List.mem_cons.mp h with rfl | h
    · obtain ⟨u, e⟩ := o.at
      exact ⟨hn, by rw [e]; simp⟩
    · exact Rm.new t c h
theorem none_back (g : b.G H1) (x : Ex b H H1) (c : Addr) (h : H1 c = none) : H c = none := by
  cases q : H c with
  | none => rfl
  | some u =>
    by_cases hb : b.B c
    · exact absurd h (b.dom _ _ g hb)
    · rw [x c u q hb] at h; cases h
end
section
variable {b : Bg} {Zo Z : Addr → Prop} {σ : L2.St} {H H' : Hp} {ρ : VEnv}
/-- new addresses held apart by an outer one -/
theorem VOk.many (v : VOk b Zo Z σ H ρ) (x : Ex b H H') (g : b.G H') {N : List Addr} (hN : ∀ c ∈ N, H c = none ∧ H' c ≠ none) : VOk b (fun c => Zo c ∨ c ∈ N) (fun c => Z c ∨ c ∈ N) σ H' ρ := by
  have v' := v.ex x g
  have hz : ∀ c, (Z c ∨ c ∈ N) → Z c ∨ H c = none := fun c z => z.imp id fun m => (hN c m).1
  refine ⟨g, fun c z => .inl (v.zb c z), fun c z => z.imp (v.zo c) id, fun c z => z.elim (v'.dom c) fun m => (hN c m).2, fun c z => z.elim (fun z => (v.zi c z).imp .inl id) fun m => .inl (.inr m), fun i d e => ?_, v.inj, fun i d e => ?_, v.len⟩
  · obtain ⟨a, h1, h2, h3, h4⟩ := v.own i d e
    refine ⟨a, h1, .inl h2, fun z => z.elim h3 fun m => v.dom a h2 (hN a m).1, h4.mono hz (v.keep x) fun o q => x a o q fun z => h3 (v.zb a z)⟩
  · obtain ⟨u, h1, h2⟩ := v.shr i d e
    exact ⟨u, h1, h2.mono hz (v.keep x)⟩
end
section
variable {X : Cx} {b : Bg} {W : WX} {e e1 e2 : Expr} {es : List Expr} {t t1 t2 : VT} {u : VAm} {pos : Pos}
theorem vm_nil : VMs X b W [] mNil := pa_mono pa_nil fun σ H Q ⟨Zo, Z, ρ, Qd, Ed, v, q, l, _⟩ => l [] H [] [] Ex.refl v.g .nil q
theorem vm_sh (h : VE X b W e t) (k : VMs X b W es u) (hs : starEach (e :: es) X.env = (false, eval e X.env) :: starEach es X.env := by rfl) : VMs X b W (e :: es) (mCons false t u) :=
  pa_mono (pa_cons h k hs) fun σ H Q ⟨Zo, Z, ρ, Qd, Ed, v, q, l, m⟩ => ⟨Zo, Z, ρ, _, Ed, v, q, fun x H1 d x1 g1 r1 q1 =>
    ⟨Zo, Z, ρ, _, Ed, v.ex x1 g1, q1, fun xs H2 ms N x2 g2 r2 q2 => l (x :: xs) H2 ((false, d) :: ms) N (x1.trans x2) g2
        (.sh (r1.mono (fun c z => z.imp id fun m => (r2.new c m).1) ((v.ex x1 g1).keep x2)) (r2.back (none_back g1 x1))) q2,
      fun c y H2 er x2 g2 r2 q2 => m c y H2 er (x1.trans x2) g2 r2 q2⟩, m⟩
theorem vm_nw (h : VN X b W e t) (k : VMs X b W es u) (hs : starEach (e :: es) X.env = (false, eval e X.env) :: starEach es X.env := by rfl) : VMs X b W (e :: es) (mCons true t u) :=
  pa_mono (pa_cons h k hs) fun σ H Q ⟨Zo, Z, ρ, Qd, Ed, v, q, l, m⟩ => ⟨Zo, Z, ρ, _, Ed, v, q, fun x H1 d x1 g1 ⟨a, ex, hn, o⟩ q1 => by
    subst ex
    obtain ⟨oa, ea⟩ := o.at
    have h1 : H1 a ≠ none := by rw [ea]; simp
    have nb : ¬ b.B a := fun z => v.fresh hn (v.zo a (v.zb a z))
    have v1 := v.many x1 g1 (N := [a]) fun c hc => by rw [List.mem_singleton.mp hc]; exact ⟨hn, h1⟩
    refine ⟨_, _, ρ, _, Ed, v1, q1, fun xs H2 ms N x2 g2 r2 q2 => ?_, fun c y H2 er x2 g2 r2 q2 => m c y H2 er (x1.trans x2) g2 ?_ q2⟩
    · have hN : a ∉ N := fun hm => h1 (r2.new a hm).1
      refine l (.ref a :: xs) H2 ((true, d) :: ms) (a :: N) (x1.trans x2) g2 (.nw hn hN ?_ ((r2.sub fun c z => ?_).back (none_back g1 x1))) q2
      · refine o.mono (fun c z => ?_) (fun c oc ec nc => x2 c oc ec fun z => nc (.inl (v.zo c (v.zb c z)))) fun oc ec => x2 a oc ec nb
        rcases z with z | z
        · exact .inl (.inl z)
        · rcases List.mem_cons.mp z with rfl | z
          · exact .inl (.inr rfl)
          · exact .inr (r2.new c z).1
      · rcases z with z | z
        · exact .inl (.inl z)
        · rcases List.mem_cons.mp z with rfl | z
          · exact .inl (.inr (List.mem_singleton.mpr rfl))
          · exact .inr z
    · obtain ⟨h3, h4⟩ := r2
      refine ⟨h3, h4.imp id ?_⟩
      rintro ⟨c, ys, e1, e2, e3, e4⟩
      exact ⟨c, ys, e1, e2, fun z => e3 (.inl z), e4.mono (fun c z => .inl (.inl z)) fun _ _ e _ => e⟩, m⟩
end
/-! ### a, b, .. = values -/
def setA : List Nat → List V → L2.St → L2.St
  | i :: is, v :: vs, σ => setA is vs (σ.set i (some v))
  | _, _, σ => σ
@[simp] def setE : List Nat → List (Bool × D) → VEnv → VEnv
  | i :: is, (k, d) :: ms, ρ => setE is ms (ρ.set i (if k = true then .own d else .shr d))
  | _, _, ρ => ρ
section
variable {b : Bg} {W : WX} {H0 : Hp} {M Zo Z : Addr → Prop} {σ : L2.St} {H H' : Hp} {ρ : VEnv} {De : VEnds} {Dn : Ends}
theorem FOk.many (f : FOk b H0 M Zo Z σ H ρ) (x : Ex b H H') (g : b.G H') {N : List Addr} (hN : ∀ c ∈ N, H c = none ∧ H' c ≠ none) : FOk b H0 M (fun c => Zo c ∨ c ∈ N) (fun c => Z c ∨ c ∈ N) σ H' ρ :=
  ⟨f.v.many x g hN, fun a o e nb nm => x a o (f.ext a o e nb nm) nb, f.fr⟩
/-- an address held apart becomes slot i's own -/
theorem FOk.adopt {a : Addr} {N : List Addr} {d : D} {i : Nat} (f : FOk b H0 M (fun c => Zo c ∨ c ∈ a :: N) Z σ H ρ) (hzb : ∀ c, b.B c → Zo c) (hN : a ∉ N) (hz : ¬ Zo a) (hf : M a ∨ H0 a = none) (hi : i < ρ.length) (o : Ow b Z H a d) :
    ∃ Z', FOk b H0 M (fun c => Zo c ∨ c ∈ N) Z' (σ.set i (some (.ref a))) H (ρ.set i (.own d)) ∧ ∀ c, Z' c → Z c := by
  have v := f.v
  have hiσ : i < σ.length := by rw [← v.len]; exact hi
  have hza : Z a := v.zo a (.inr List.mem_cons_self)
  have low : ∀ c, (Zo c ∨ c ∈ N) → (Zo c ∨ c ∈ a :: N) := fun c z => z.imp id (List.mem_cons_of_mem _)
  let Z' : Addr → Prop := fun c => (zBut (fun c => Zo c ∨ c ∈ N) σ ρ i c) ∨ c = a
  have sub : ∀ c, Z' c → Z c := fun c z => by
    rcases z with (z | ⟨j, e, _, h1, h2⟩) | rfl
    · exact v.zo c (low c z)
    · obtain ⟨c', h3, h4, _⟩ := v.own j e h1
      rw [h2] at h3; cases h3; exact h4
    · exact hza
  have na : ∀ (j : Nat) (e : D) (c : Addr), ρ[j]? = some (.own e) → σ[j]? = some (some (.ref c)) → c ≠ a := fun j e c h1 h2 q => by
    obtain ⟨c', h3, _, h4, _⟩ := v.own j e h1
    rw [h2] at h3; cases h3; rw [q] at h4
    exact h4 (.inr List.mem_cons_self)
  have ow : ∀ {j : Nat} {e : D}, (ρ.set i (.own d))[j]? = some (.own e) → (j = i ∧ e = d) ∨ (j ≠ i ∧ ρ[j]? = some (.own e)) := fun {j e} h => by
    by_cases hj : j = i
    · subst hj
      rw [List.getElem?_set_self hi] at h; cases h; exact .inl ⟨rfl, rfl⟩
    · rw [List.getElem?_set_ne (Ne.symm hj)] at h
      exact .inr ⟨hj, h⟩
  refine ⟨Z', ⟨⟨v.g, fun c z => .inl (hzb c z), fun c z => .inl (.inl z), fun c z => v.dom c (sub c z), fun c z => ?_, fun j e h => ?_, fun j k e e2 c h1 h2 h3 h4 => ?_, fun j e h => ?_, by simpa using v.len⟩, f.ext, fun j e c h1 h2 => ?_⟩, sub⟩
  · rcases z with (z | ⟨j, e, hj, h1, h2⟩) | rfl
    · exact .inl z
    · exact .inr ⟨j, e, by rw [List.getElem?_set_ne (Ne.symm hj)]; exact h1, by rw [List.getElem?_set_ne (Ne.symm hj)]; exact h2⟩
    · exact .inr ⟨i, d, List.getElem?_set_self hi, List.getElem?_set_self hiσ⟩
  · rcases ow h with ⟨q1, q2⟩ | ⟨hj, p1⟩
    · rw [q1, q2]
      exact ⟨a, List.getElem?_set_self hiσ, .inr rfl, fun z => z.elim hz hN, o.mono (fun c z => .inl (sub c z)) (fun _ _ e _ => e) fun _ e => e⟩
    · obtain ⟨c, h1, h2, h3, h4⟩ := v.own j e p1
      exact ⟨c, by rw [List.getElem?_set_ne (Ne.symm hj)]; exact h1, .inl (.inr ⟨j, e, hj, p1, h1⟩), fun z => h3 (low c z), h4.mono (fun c z => .inl (sub c z)) (fun _ _ e _ => e) fun _ e => e⟩
  · rcases ow h1 with ⟨q1, _⟩ | ⟨hj, p1⟩
    · rcases ow h2 with ⟨q2, _⟩ | ⟨hk, p2⟩
      · rw [q1, q2]
      · rw [q1, List.getElem?_set_self hiσ] at h3; cases h3
        rw [List.getElem?_set_ne (Ne.symm hk)] at h4
        exact absurd rfl (na k e2 _ p2 h4)
    · rw [List.getElem?_set_ne (Ne.symm hj)] at h3
      rcases ow h2 with ⟨q2, _⟩ | ⟨hk, p2⟩
      · rw [q2, List.getElem?_set_self hiσ] at h4; cases h4
        exact absurd rfl (na j e _ p1 h3)
      · rw [List.getElem?_set_ne (Ne.symm hk)] at h4
        exact v.inj j k e e2 c p1 p2 h3 h4
  · by_cases hj : j = i
    · rw [hj, List.getElem?_set_self hi] at h; cases h
    · rw [List.getElem?_set_ne (Ne.symm hj)] at h
      obtain ⟨w, h1, h2⟩ := v.shr j e h
      exact ⟨w, by rw [List.getElem?_set_ne (Ne.symm hj)]; exact h1, h2.mono (fun c z => .inl (sub c z)) fun _ _ e _ => e⟩
  · rcases ow h1 with ⟨q1, _⟩ | ⟨hj, p1⟩
    · rw [q1, List.getElem?_set_self hiσ] at h2; cases h2
      exact hf
    · rw [List.getElem?_set_ne (Ne.symm hj)] at h2
      exact f.fr j e c p1 h2
/-- all of them, one after another -/
theorem FOk.setAll (hb : ∀ c, b.B c → Zo c) : ∀ (is : List Nat) (vs : List V) (ms : List (Bool × D)) (N : List Addr) (Z : Addr → Prop) (σ : L2.St) (ρ : VEnv), FOk b H0 M (fun c => Zo c ∨ c ∈ N) Z σ H' ρ → Rm b Z H H' vs ms N → (∀ c ∈ N, ¬ Zo c ∧ (M c ∨ H0 c = none)) →
    ms.length = is.length → (∀ i ∈ is, i < ρ.length) → ∃ Z', FOk b H0 M Zo Z' (VL.setA is vs σ) H' (setE is ms ρ) := by
  intro is
  induction is with
  | nil =>
    intro vs ms N Z σ ρ f r hN hl hi
    cases r with
    | nil =>
      refine ⟨Z, ?_⟩
      have e : (fun c => Zo c ∨ c ∈ ([] : List Addr)) = Zo := by funext c; simp
      rw [e] at f
      exact f
    | sh _ _ => simp at hl
    | nw _ _ _ _ => simp at hl
  | cons i is ih =>
    intro vs ms N Z σ ρ f r hN hl hi
    cases r with
    | nil => simp at hl
    | sh r t =>
      have f1 := f.set (hi i List.mem_cons_self) r
      exact ih _ _ _ _ _ _ f1 (t.sub (f.v.but i)) hN (by simpa using hl) fun j hj => by rw [List.length_set]; exact hi j (List.mem_cons_of_mem _ hj)
    | nw hn hm o t =>
      obtain ⟨Z1, f1, sub⟩ := f.adopt hb hm (hN _ List.mem_cons_self).1 (hN _ List.mem_cons_self).2 (hi i List.mem_cons_self) o
      exact ih _ _ _ _ _ _ f1 (t.sub sub) (fun c hc => hN c (List.mem_cons_of_mem _ hc)) (by simpa using hl) fun j hj => by rw [List.length_set]; exact hi j (List.mem_cons_of_mem _ hj)
theorem FOk.par (f : FOk b H0 M Zo Z σ H ρ) {is : List Nat} {vs : List V} {ms : List (Bool × D)} {N : List Addr} (x : Ex b H H') (g : b.G H') (r : Rm b (fun c => Z c ∨ c ∈ N) H H' vs ms N) (hl : ms.length = is.length) (hi : ∀ i ∈ is, i < ρ.length) : ∃ Z', FOk b H0 M Zo Z' (VL.setA is vs σ) H' (setE is ms ρ) := by
  refine FOk.setAll f.v.zb is vs ms N _ σ ρ (f.many x g r.new) r (fun c hc => ⟨fun z => f.v.dom c (f.v.zo c z) (r.new c hc).1, ?_⟩) hl hi
  have hn := (r.new c hc).1
  cases q : H0 c with
  | none => exact .inr rfl
  | some u =>
    by_cases hb : b.B c
    · exact absurd hn (b.dom _ _ f.v.g hb)
    · by_cases hm : M c
      · exact .inl hm
      · have := f.ext c u q hb hm
        rw [hn] at this; cases this
end
section
variable {X : Cx} {b : Bg} {W : WX} {e e1 e2 e3 : Expr} {es : List Expr} {t t1 t2 : VT} {u : VAm} {pos : Pos}
@[simp] def sPar (is : List Nat) (u : VAm) : VS := fun ρ De => (∀ i ∈ is, i < ρ.length) ∧ u ρ (fun ms => ms.length = is.length ∧ De.nx (setE is ms ρ)) (De.ex ρ)
theorem Rm.len {Y : Addr → Prop} {H H' : Hp} : ∀ {vs : List V} {ms : List (Bool × D)} {N : List Addr}, Rm b Y H H' vs ms N → vs.length = ms.length
  | _, _, _, .nil => rfl
  | _, _, _, .sh _ t => congrArg (· + 1) (Rm.len t)
  | _, _, _, .nw _ _ _ t => congrArg (· + 1) (Rm.len t)
theorem vs_par2 {i j : Nat} {x y : Str} {px py pt : Pos} {kt k2 pt2} (hc : X.calm = true) (hN : X.N.Nodup) (hi : X.N[i]? = some x) (hj : X.N[j]? = some y) (hij : i ≠ j)
    (hx : X.env.scope.names.lookup x = some .local) (hy : X.env.scope.names.lookup y = some .local) (ha : VMs X b W [e1, e2] u)
    (hw : swappedStores [.Tuple [.Name x px, .Name y py] kt pt] (.Tuple [e1, e2] k2 pt2) X.env = pure (some [x, y]))
    (hs : swapsWithSole [.Tuple [.Name x px, .Name y py] kt pt] (.Tuple [e1, e2] k2 pt2) pos.line X.env = pure false := by rfl) :
    VSt X b W (.Assign [.Tuple [.Name x px, .Name y py] kt pt] (.Tuple [e1, e2] k2 pt2) pos) (sPar [i, j] u) :=
  ps_mono (ps_par hc hN hi hj hij hx hy ha hw hs) fun D σ H ⟨H0, M, Zo, Z, ρ, De, f, ⟨hl, q⟩, l⟩ => ⟨Zo, Z, ρ, _, _, f.v, q, fun vs H' ms N x g r ⟨hm, q'⟩ => by
    obtain ⟨Z', f'⟩ := f.par (is := [i, j]) x g r hm hl
    match vs, r.len.trans hm with
    | [v, w], _ => exact ⟨v, w, rfl, l.nx Z' _ H' _ f' q'⟩, l.er f⟩
theorem vs_par3 {i j k : Nat} {x y z : Str} {px py pz pt : Pos} {kt k2 pt2} (hc : X.calm = true) (hN : X.N.Nodup) (hi : X.N[i]? = some x) (hj : X.N[j]? = some y) (hk : X.N[k]? = some z) (hij : i ≠ j) (hik : i ≠ k) (hjk : j ≠ k)
    (hx : X.env.scope.names.lookup x = some .local) (hy : X.env.scope.names.lookup y = some .local) (hz : X.env.scope.names.lookup z = some .local) (ha : VMs X b W [e1, e2, e3] u)
    (hw : swappedStores [.Tuple [.Name x px, .Name y py, .Name z pz] kt pt] (.Tuple [e1, e2, e3] k2 pt2) X.env = pure (some [x, y, z]))
    (hs : swapsWithSole [.Tuple [.Name x px, .Name y py, .Name z pz] kt pt] (.Tuple [e1, e2, e3] k2 pt2) pos.line X.env = pure false := by rfl) :
    VSt X b W (.Assign [.Tuple [.Name x px, .Name y py, .Name z pz] kt pt] (.Tuple [e1, e2, e3] k2 pt2) pos) (sPar [i, j, k] u) :=
  ps_mono (ps_par3 hc hN hi hj hk hij hik hjk hx hy hz ha hw hs) fun D σ H ⟨H0, M, Zo, Z, ρ, De, f, ⟨hl, q⟩, l⟩ => ⟨Zo, Z, ρ, _, _, f.v, q, fun vs H' ms N x g r ⟨hm, q'⟩ => by
    obtain ⟨Z', f'⟩ := f.par (is := [i, j, k]) x g r hm hl
    match vs, r.len.trans hm with
    | [v, w, y], _ => exact ⟨v, w, y, rfl, l.nx Z' _ H' _ f' q'⟩, l.er f⟩
/-- the targets' reading: names -/
def gNames : List Nat → TGs
  | [] => gNil
  | i :: is => gCons (gName i) (gNames is)
theorem gNames_set : ∀ {is : List Nat} {vs : List V} {σ : L2.St} {H : Hp} {Q : L2.St → Hp → Prop}, vs.length = is.length → Q (VL.setA is vs σ) H → gNames is vs σ H Q
  | [], [], _, _, _, _, q => ⟨rfl, q⟩
  | i :: is, v :: vs, σ, H, Q, h, q => ⟨v, vs, rfl, gNames_set (by simpa using h) q⟩
/-- by way of a tuple -/
theorem vs_parT {is : List Nat} {tgs : List Expr} {kt k2} {pt pt2 : Pos} (hc : X.calm = true) (hg : PGs X tgs (gNames is)) (ha : VMs X b W es u) (hn : (assignEach tgs X.env).length = is.length := by rfl) (hst : (assignEach tgs X.env).findIdx? (·.1) = none := by rfl)
    (hz : is.length ≤ 1000 := by decide) (hs : swapsWithSole [.Tuple tgs kt pt] (.Tuple es k2 pt2) pos.line X.env = pure false := by rfl) (hw : swappedStores [.Tuple tgs kt pt] (.Tuple es k2 pt2) X.env = pure none := by rfl)
    (h1 : (assignEach [.Tuple tgs kt pt] X.env).map (·.2) = [assign (.Tuple tgs kt pt) X.env] := by rfl) :
    VSt X b W (.Assign [.Tuple tgs kt pt] (.Tuple es k2 pt2) pos) (sPar is u) :=
  ps_mono (ps_asg (pe_tupF ha) (pg_tup hc hg hn hst) hs hw h1) fun D σ H ⟨H0, M, Zo, Z, ρ, De, f, ⟨hl, q⟩, l⟩ => ⟨Zo, Z, ρ, _, _, f.v, q, fun vs H' ms N x g r ⟨hm, q'⟩ => by
    obtain ⟨Z', f'⟩ := f.par (is := is) x g r hm hl
    have hv : vs.length = is.length := r.len.trans hm
    refine ⟨Nat.le_of_lt (small1000 (by rw [hv]; exact hz)), fun p o hp ho => ⟨p, vs, rfl, SqT.th upd_same, hv, gNames_set hv ?_⟩⟩
    exact l.nx Z' _ _ _ (f'.ex (Ex.new hp) (Bg.new g hp)) q', l.er f⟩
end
end VL
set_option Elab.async false
set_option linter.all false
set_option maxRecDepth 100000
set_option maxHeartbeats 4000000
namespace VL
open PySem PySem.Spec PyProof.Rows L2
/-! ### sources: a list, a tuple, a text -/
inductive Kd where
  | l (a : Addr) | t (a : Addr) | s (x : Str) (k : Tok)
def Kd.val : Kd → Value
  | .l a => .ref a | .t a => .ref a | .s x k => .str x k
def Kd.obj : Kd → Obj
  | .l a => { cls := .type "list_iterator", data := .fields #[.ref a, .int 0 0] }
  | .t a => { cls := .type "tuple_iterator", data := .fields #[.ref a, .int 0 0] }
  | .s x k => { cls := .type (strIterType x), data := .fields #[.str x k, .int 0 0] }
/-- the walker at it stands at item i -/
def Kd.At : Kd → Addr → Nat → Heap → Prop
  | .l a, it, i, h => h.IsListIter it a i
  | .t a, it, i, h => h.IsTupleIter it a i
  | .s x k, it, i, h => h.IsStrIter it (strIterType x) x k i
def Kd.ad : Kd → List Addr
  | .l a => [a] | .t a => [a] | .s _ _ => []
def signs (x : Str) : List V := x.cps.toList.map fun c => V.str (mkS [c])
def Kd.gives (K : PySem.W.Frag) (H : Hp) : Kd → List V → Prop
  | .l a, xs => SqL K H a xs
  | .t a, xs => SqT K H a xs
  | .s x _, xs => xs = signs x
theorem Kd.begins {X : Cx} {pins : List (Addr × Obj)} {σ : L2.St} {H : Hp} {s : Shared} (I : Inv X pins σ H s) {k : Kd} {xs : List V} (g : k.gives X.K H xs) : ∃ Hs, Begins k.val k.obj Hs ∧ Hs s.heap ∧ ∀ b ∈ k.ad, b < s.heap.objs.size := by
  cases k with
  | l a =>
    obtain ⟨its, _, p, _⟩ := I.list g
    exact ⟨_, begins_list a its.toArray, p.isList, fun b hb => by rw [List.mem_singleton.mp hb]; exact p.lt⟩
  | t a =>
    obtain ⟨its, _, p, _⟩ := I.tuple g
    obtain ⟨o, ho, _⟩ := id p
    exact ⟨_, begins_tuple a its.toArray, p, fun b hb => by rw [List.mem_singleton.mp hb]; exact Heap.lt_size ho⟩
  | s x t => exact ⟨_, begins_text x t, trivial, fun b hb => by cases hb⟩
theorem Kd.start {k : Kd} {it : Addr} {h : Heap} (e : h.get? it = some k.obj) : k.At it 0 h := by
  cases k with
  | l a => exact ⟨_, e, rfl, rfl⟩
  | t a => exact ⟨_, e, rfl, rfl⟩
  | s x t => exact ⟨_, e, rfl, rfl⟩
theorem Kd.At.at {k : Kd} {it : Addr} {i : Nat} {h h' : Heap} (st : k.At it i h) (e : ∀ o, h.get? it = some o → h'.get? it = some o) : k.At it i h' := by
  cases k with
  | l a => exact Heap.IsListIter.at st e
  | t a => exact Heap.IsTupleIter.at st e
  | s x t => obtain ⟨o, ho, r⟩ := st; exact ⟨o, e o ho, r⟩
theorem Kd.At.rec' {k : Kd} {it : Addr} {i : Nat} {h : Heap} (st : k.At it i h) : ∃ o vs, h.get? it = some o ∧ o.data = .fields vs := by
  cases k with
  | l a => obtain ⟨o, ho, _, hd⟩ := st; exact ⟨o, _, ho, hd⟩
  | t a => obtain ⟨o, ho, _, hd⟩ := st; exact ⟨o, _, ho, hd⟩
  | s x t => obtain ⟨o, ho, _, hd⟩ := st; exact ⟨o, _, ho, hd⟩
theorem signs_get {x : Str} {i : Nat} {c : Nat} (h : x.cps[i]? = some c) : (signs x)[i]? = some (V.str (mkS [c])) := by
  unfold signs
  rw [List.getElem?_map, Array.getElem?_toList, h]
  rfl
theorem vals_at : ∀ {xs : List V} {its : List Value} {i : Nat} {u : Value}, Vals xs its → its[i]? = some u → ∃ y, xs[i]? = some y ∧ RelV y u
  | _, _, _, _, .nil, e => by simp at e
  | _, _, 0, _, .cons r _, e => by simp at e; subst e; exact ⟨_, rfl, r⟩
  | _, _, i + 1, _, .cons _ t, e => by
    obtain ⟨y, h1, h2⟩ := vals_at (i := i) t (by simpa using e)
    exact ⟨y, by simpa using h1, h2⟩
/-- what a source draws -/
theorem Kd.draws {X : Cx} {pins : List (Addr × Obj)} {σ : L2.St} {H : Hp} {s : Shared} (I : Inv X pins σ H s) (hc : X.calm = true) {k : Kd} {xs : List V} (g : k.gives X.K H xs) (it : Addr) (hne : it ∉ k.ad) :
    ∃ (P : Nat → Value → Prop) (St : Nat → Heap → Prop), Draws X.prog X.w X.A.in1 it (it :: k.ad) xs.length P St ∧ (∀ i, k.At it i s.heap → St i s.heap) ∧ (∀ i h, St i h → k.At it i h) ∧ ∀ i v, P i v → ∃ y, xs[i]? = some y ∧ RelV y v := by
  have hh : X.A.in1.handled = none := I.ok.hd hc
  cases k with
  | l a =>
    obtain ⟨its, r, p, _⟩ := I.list g
    have hn : a ≠ it := fun e => hne (by rw [e]; exact List.mem_singleton.mpr rfl)
    have D := Draws.list (prog := X.prog) (w := X.w) (A := X.A.in1) hh it a hn its.toArray
    rw [List.size_toArray, ← r.length] at D
    exact ⟨_, _, D, fun i st => ⟨st, p.isList⟩, fun i h st => st.1, fun i v hv => vals_at r (by simpa using hv)⟩
  | t a =>
    obtain ⟨its, r, p, _⟩ := I.tuple g
    have hn : a ≠ it := fun e => hne (by rw [e]; exact List.mem_singleton.mpr rfl)
    have D := Draws.tuple (prog := X.prog) (w := X.w) (A := X.A.in1) hh it a hn its.toArray
    rw [List.size_toArray, ← r.length] at D
    exact ⟨_, _, D, fun i st => ⟨st, p⟩, fun i h st => st.1, fun i v hv => vals_at r (by simpa using hv)⟩
  | s x t =>
    obtain rfl : xs = signs x := g
    have D := Draws.text (prog := X.prog) (w := X.w) (A := X.A.in1) hh it x t
    have e : (signs x).length = x.cps.size := by unfold signs; simp
    rw [← e] at D
    refine ⟨_, _, D, fun i st => st, fun i h st => st, fun i v hv => ?_⟩
    obtain ⟨c, u, h1, rfl⟩ := hv
    exact ⟨_, signs_get h1, u, rfl⟩
theorem Kd.gives_inj {X : Cx} {pins : List (Addr × Obj)} {σ : L2.St} {H : Hp} {s : Shared} (I : Inv X pins σ H s) {k : Kd} {xs ys : List V} (g : k.gives X.K H xs) (g' : k.gives X.K H ys) : xs = ys := by
  cases k with
  | l a => exact I.list_inj g g'
  | t a => exact I.tuple_inj g g'
  | s x t => exact g.trans g'.symm
/-! ### a walk over a source -/
/-- what a walk of items gives -/
def Itk (K : PySem.W.Frag) (k : Kd) : It :=
  ⟨fun i H => ∃ xs x, k.gives K H xs ∧ xs[i]? = some x, fun i H x H' => H' = H ∧ ∀ xs, k.gives K H xs → xs[i]? = some x, fun i H => ∃ xs, k.gives K H xs ∧ xs.length ≤ i⟩
theorem Turn.imp {P : Program} {w : World} {K : PySem.W.Frag} {tg : Expr} {J J' : It} {fp : List Addr} {it : Addr} {tn : Nat → Heap → Prop} (T : Turn P w K tg J fp it tn) (h1 : ∀ i H, J'.go i H → J.go i H) (h2 : ∀ i H x H', J'.go i H → J.yld i H x H' → J'.yld i H x H') (h3 : ∀ i H, J'.stop i H → J.stop i H) : Turn P w K tg J' fp it tn where
  mem := T.mem
  obj := T.obj
  keep := T.keep
  item := fun X hP hw hK hc i pins s σ H E I hf st hg => thn (T.item X hP hw hK hc i pins s σ H E I hf st (h1 i H hg)) fun r s1 ⟨u, hr, q⟩ => ⟨u, hr, thn q fun _ s2 ⟨x, H', I', rx, y, st', f'⟩ => ⟨x, H', I', rx, h2 i H x H' hg y, st', f'⟩⟩
  done := fun X hP hw hK hc i pins s σ H E I hf st hg => T.done X hP hw hK hc i pins s σ H E I hf st (h3 i H hg)
  self := T.self
theorem turn_kd {P : Program} {w : World} {K : PySem.W.Frag} {tg : Expr} (k : Kd) (it : Addr) : Turn P w K tg (Itk K k) [it] it (fun i h => k.At it i h) := by
  cases k with
  | l a => exact Turn.imp (turn_list a it) (fun i H ⟨xs, x, h⟩ => ⟨xs, x, h⟩) (fun i H x H' _ h => h) fun i H h => h
  | t a => exact Turn.imp (turn_tuple a it) (fun i H ⟨xs, x, h⟩ => ⟨xs, x, h⟩) (fun i H x H' _ h => h) fun i H h => h
  | s x t =>
    have e : (signs x).length = x.cps.size := by unfold signs; simp
    refine Turn.imp (turn_str it x t (strIterType x) (by unfold strIterType; split <;> simp)) (fun i H ⟨xs, y, h, hy⟩ => ?_) (fun i H y H' _ h => ?_) fun i H ⟨xs, h, hl⟩ => ?_
    · obtain rfl : xs = signs x := h
      obtain ⟨hlt, _⟩ := List.getElem?_eq_some_iff.mp hy
      rw [e] at hlt
      exact hlt
    · obtain ⟨h1, c, hcx, hy⟩ := h
      refine ⟨h1, fun xs h => ?_⟩
      obtain rfl : xs = signs x := h
      rw [hy]
      exact signs_get hcx
    · obtain rfl : xs = signs x := h
      rw [e] at hl
      exact hl
/-- a source's value -/
inductive Src (K : PySem.W.Frag) (H : Hp) : V → List V → (Kd → Prop) → Prop
  | l {a : Addr} {xs : List V} : SqL K H a xs → Src K H (.ref a) xs fun k => k = .l a
  | t {a : Addr} {xs : List V} : SqT K H a xs → Src K H (.ref a) xs fun k => k = .t a
  | s {x : Str} : Src K H (.str x) (signs x) fun k => ∃ t, k = .s x t
theorem Src.kd {K : PySem.W.Frag} {H : Hp} {v : V} {xs : List V} {C : Kd → Prop} (h : Src K H v xs C) {u : Value} (r : RelV v u) : ∃ k, C k ∧ k.val = u ∧ k.gives K H xs := by
  cases h with
  | l h => cases r; exact ⟨_, rfl, rfl, h⟩
  | t h => cases r; exact ⟨_, rfl, rfl, h⟩
  | s => obtain ⟨t, rfl⟩ := r; exact ⟨_, ⟨t, rfl⟩, rfl, rfl⟩
section
variable {X : Cx} {tg e e2 e3 : Expr} {p pos : Pos}
def iSrc (K : PySem.W.Frag) (te : TE) : TI := fun σ H R => te σ H fun x H1 => ∃ xs C, Src K H1 x xs C ∧ ∀ k, C k → R (Itk K k) H1
theorem pi_src {te : TE} (he : PE X e te) : PI X tg e (iSrc X.K te) := by
  refine ⟨fun pins s σ H R I h => ?_⟩
  refine thn (he.run pins s σ H _ I h) fun v s1 ⟨y, H1, I1, r1, xs, C, sx, q⟩ => ?_
  obtain ⟨k, hk, rfl, g⟩ := sx.kd r1
  obtain ⟨Hs, B, hs, _⟩ := k.begins I1 g
  exact B.iter _ _ _ _ _ _ hs (pi_one (tk := s1.toks) I1 _ (turn_kd k _) (Kd.start (Heap.get?_push_size _ B.free)) (q k hk))
end
/-! ### enumerate -/
def Iek (K : PySem.W.Frag) (k : Kd) : It :=
  ⟨fun i H => ∃ xs x, k.gives K H xs ∧ xs[i]? = some x, fun i H v H' => ∃ T o x, v = .ref T ∧ H T = none ∧ o.dict = none ∧ H' = upd H T (HO.th o [.int (i : Nat), x]) ∧ ∀ xs, k.gives K H xs → xs[i]? = some x, fun i H => ∃ xs, k.gives K H xs ∧ xs.length = i⟩
theorem lt_of_get {h : Heap} {b : Addr} {o : Obj} (e : h.get? b = some o) : b < h.objs.size := Heap.lt_size e
theorem turn_ek {P : Program} {w : World} {K : PySem.W.Frag} {elts : List Expr} {kk : Nat} {tpos : Pos} (k : Kd) {en it : Addr} (hne : en ≠ it) (h1 : en ∉ k.ad) (h2 : it ∉ k.ad) :
    Turn P w K (.Tuple elts kk tpos) (Iek K k) [en, it] en (fun i h => (∃ old, IsEnum h en it ((i : Nat) : Int) old) ∧ k.At it i h) where
  mem := List.mem_cons_self
  obj := fun i h ⟨⟨old, he⟩, hi⟩ b hb => by
    rcases List.mem_cons.mp hb with rfl | hb
    · exact ⟨_, he, nofun⟩
    · rw [List.mem_singleton.mp hb]
      obtain ⟨o, vs, ho, hd⟩ := hi.rec'
      exact ⟨o, ho, fun v q => by rw [hd] at q; cases q⟩
  keep := fun i h h' ⟨⟨old, he⟩, hi⟩ kp => ⟨⟨old, kp en List.mem_cons_self _ he⟩, hi.at fun o q => kp it (by simp) o q⟩
  item := by
    rintro X rfl rfl rfl hc i pins s σ H E I hf ⟨⟨old, he⟩, hi⟩ ⟨xs, x, g, hx⟩
    obtain ⟨Pd, St, D, s1, s2, s3⟩ := k.draws I hc g it h2
    have hlt : i < xs.length := (List.getElem?_eq_some_iff.mp hx).1
    have hel := lt_of_get he
    obtain ⟨oi, vi, hoi, _⟩ := hi.rec'
    have hil := lt_of_get hoi
    refine wpAny_pyNext_enum_itemD D he (s1 i hi) hlt hne (by simp [hne, h1]) fun u h' tk hP ho st' hT hsz hk => ?_
    obtain ⟨y, hy, ru⟩ := s3 i u hP
    obtain rfl : x = y := Option.some.inj (hx.symm.trans hy)
    refine ⟨_, rfl, wpAny_letOwnedTupleGo_enum (s := { s with heap := h', toks := tk + 1 }) ho fun h'' he' sb => ?_⟩
    have hT2 := (sb.2 s.heap.objs.size (Nat.ne_of_gt hel)).trans hT
    have new : ObjOk X.prog X.w (upd H s.heap.objs.size (HO.th (tob [.int i tk, u]) [.int (i : Nat), x])) h'' s.heap.objs.size (HO.th (tob [.int i tk, u]) [.int (i : Nat), x]) :=
      th_ok (by show 2 ≤ sizeLine; decide) (.cons ⟨_, rfl⟩ (.cons ru .nil)) hT2
    have I1 : Inv X pins σ (upd H s.heap.objs.size (HO.th (tob [.int i tk, u]) [.int (i : Nat), x])) { s with heap := h'', toks := tk + 1 } :=
      I.turnedNew (ch := [en, it]) (fun b ob hb q => by
        have n1 : b ≠ en := fun z => hb (by simp [z])
        have n2 : b ≠ it := fun z => hb (by simp [z])
        exact (sb.2 b n1).trans (hk b ob n1 n2 q)) hf (Nat.le_refl _) new
    refine ⟨.ref s.heap.objs.size, _, I1, rfl, ⟨_, _, x, rfl, I.hok.fresh (Nat.le_refl _), rfl, rfl, fun ys hy => by rw [k.gives_inj I hy g]; exact hx⟩, ⟨⟨u, ?_⟩, (s2 _ _ st').at fun o q => (sb.2 it (Ne.symm hne)).trans q⟩, fun b hb => ?_⟩
    · have e1 : ((i + 1 : Nat) : Int) = (i : Int) + 1 := by omega
      rw [e1]; exact he'
    · have hb' : b < s.heap.objs.size := by
        rcases List.mem_cons.mp hb with rfl | hb
        · exact hel
        · rw [List.mem_singleton.mp hb]; exact hil
      rw [upd_ne (Nat.ne_of_lt hb')]
      exact (hf b hb).1
  done := by
    rintro X rfl rfl rfl hc i pins s σ H E I hf ⟨⟨old, he⟩, hi⟩ ⟨xs, g, hl⟩
    obtain ⟨Pd, St, D, s1, s2, s3⟩ := k.draws I hc g it h2
    obtain ⟨f0, f1, f2, f3, f4, f5⟩ := hf it (by simp)
    subst hl
    exact wpAny_pyNext_enum_endD D he (s1 _ hi) fun h' eb => ⟨rfl, I.turned (t' := s.toks) (fun b o hb q => eb b o hb q) f0 f1 f3 f4 f5⟩
  self := fun A i s Q E ⟨⟨_, he⟩, _⟩ h => wpAny_pyIter_enum he h
theorem enum_meets1 {v : Value} {o : Obj} {Hs : Heap → Prop} (B : Begins v o Hs) :
    Meets (Builtin.«enumerate.__new__» ⟨[.type "enumerate", v], []⟩) (fun _ R s => Hs s.heap ∧
      R (.ok (.ret (.ref (s.heap.push o).objs.size))) { s with heap := (s.heap.push o).push { cls := .type "enumerate", data := .fields #[.none, .bool false, .ref s.heap.objs.size, rawInt 0, .none, .none] } }) :=
  .of_wp fun prog w A R s hh => by
    obtain ⟨hp, gn, dr, tk, os⟩ := s
    obtain ⟨hv, h⟩ := hh
    have hsub := sub_enumerate
    have itv : ∀ {A' : Around} {E : Value → Shared → Prop} {Q : Value → Shared → Prop}, Q (.ref hp.objs.size) ⟨hp.push o, gn, dr, tk, os⟩ → wpAny (model prog w) A' (pyIter v) Q E ⟨hp, gn, dr, tk, os⟩ :=
      fun q => B.iter prog w _ _ ⟨hp, gn, dr, tk, os⟩ _ hv q
    wp_walk using itv
    refine wpAny_stack_any fun fr => wpAny_pure ?_
    split
    · rename_i c0 _ _ _ _ _
      cases (c0 == Value.type "enumerate") <;> (wp_walk using itv; exact ⟨_, rfl, h⟩)
    · wp_walk using itv
      exact ⟨_, rfl, h⟩
section
variable {prog : Program} {w : World} {A : Around} {E : Value → Shared → Prop} {s : Shared}
theorem enum_one {v : Value} {o : Obj} {Hs : Heap → Prop} {Q : Value → Shared → Prop} (B : Begins v o Hs) (hv : Hs s.heap)
    (h : ∀ h', IsEnum h' (s.heap.objs.size + 1) s.heap.objs.size 0 .none → h'.get? s.heap.objs.size = some o → (∀ b ob, s.heap.get? b = some ob → h'.get? b = some ob) → Q (.ref (s.heap.objs.size + 1)) { s with heap := h' }) :
    wpAny (model prog w) A (call (.type "enumerate") [v]) Q E s := by
  refine callType_new F.called_enumerate (by decide) (F.typeCall_enumerate_1 _) (F.newCall_enumerate_1 _) (fun obj => F.args_object_init_2 obj _) F.entry_enumerate_new (enum_meets1 B) ⟨hv, ?_⟩
  have z1 : (s.heap.push o).objs.size = s.heap.objs.size + 1 := Heap.size_push ..
  have g1 := Heap.get?_push_size (s.heap.push o) (o := { cls := .type "enumerate", data := .fields #[.none, .bool false, .ref s.heap.objs.size, rawInt 0, .none, .none] }) rfl
  show _ ∧ _
  rw [z1] at g1 ⊢
  exact ⟨⟨_, g1, rfl⟩, h _ g1 (Heap.get?_push_of_some _ (Heap.get?_push_size _ B.free)) fun b ob e => Heap.get?_push_of_some _ (Heap.get?_push_of_some _ e)⟩
end
section
variable {X : Cx} {tg e e2 e3 : Expr} {elts : List Expr} {kk : Nat} {p pos tpos : Pos}
def iEnumS (K : PySem.W.Frag) (ta : TA) : TI := fun σ H R => ta σ H fun vs H1 => ∃ x xs C, vs = [x] ∧ Src K H1 x xs C ∧ ∀ k, C k → R (Iek K k) H1
theorem pi_enumS {ta : TA} (hg : Gl X "enumerate") (hm : X.mg "enumerate" = none) (ha : PA X [e] ta) (hs : starEach [e] X.env = [(false, eval e X.env)] := by rfl) : PI X (.Tuple elts kk tpos) (.Call (.Name "enumerate" p) [e] [] pos) (iEnumS X.K ta) := by
  refine ⟨fun pins s σ H R I h => ?_⟩
  refine Call_ (ld_blt I hg hm boot_enumerate (PyProof.Rows.callWith_type1 (thn (ha.run pos pins s σ H _ I h) fun us s1 ⟨vs, H1, I1, r1, x, xs, C, ev, sx, q⟩ => ?_) hs rfl))
  subst ev
  obtain ⟨u, rfl, ru⟩ := vals1 r1
  obtain ⟨k, hk, rfl, g⟩ := sx.kd ru
  obtain ⟨Hs, B, hst, hlt⟩ := k.begins I1 g
  refine enum_one B hst fun h' he hit kp => wpAny_pyIter_enum he ?_
  have old : ∀ b ∈ k.ad, b ≠ s1.heap.objs.size ∧ b ≠ s1.heap.objs.size + 1 := fun b hb => by
    have z : (b : Nat) < s1.heap.objs.size := hlt b hb
    exact ⟨Nat.ne_of_lt z, Nat.ne_of_lt (Nat.lt_succ_of_lt z)⟩
  refine ⟨s1.heap.objs.size + 1, [s1.heap.objs.size + 1, s1.heap.objs.size], _, _, H1, rfl, I1.kept (t' := s1.toks) kp, turn_ek k (Nat.succ_ne_self _) (fun hm => (old _ hm).2 rfl) (fun hm => (old _ hm).1 rfl), ⟨⟨.none, he⟩, Kd.start hit⟩, fun b hb => ?_, q k hk⟩
  have hle : s1.heap.objs.size ≤ b := by
    rcases List.mem_cons.mp hb with z | z
    · rw [z]; exact Nat.le_succ _
    · rw [List.mem_singleton.mp z]; exact Nat.le_refl _
  exact I1.fpOk hle (I1.hok.fresh hle)
end
end VL
set_option Elab.async false
set_option linter.all false
set_option maxRecDepth 100000
set_option maxHeartbeats 4000000
namespace VL
open PySem PySem.Spec PyProof.Rows L2
/-! ### zip of two, of three sources -/
section
variable {X : Cx} {tg e e2 e3 : Expr} {elts : List Expr} {kk : Nat} {p pos tpos : Pos}
theorem vals2 {a b : V} {us : List Value} (h : Vals [a, b] us) : ∃ u v, us = [u, v] ∧ RelV a u ∧ RelV b v := by
  cases h with
  | cons r t => cases t with
    | cons r2 t => cases t; exact ⟨_, _, rfl, r, r2⟩
end
end VL
set_option Elab.async false
set_option linter.all false
set_option maxRecDepth 100000
set_option maxHeartbeats 4000000
namespace VL
open PySem PySem.Spec PyProof.Rows L2
/-! ### the items of plain data -/
def signsD (x : Str) : List PyData := x.cps.toList.map fun c => PyData.str (mkS [c])
@[simp] def itemsOf : PyData → Option (List PyData)
  | .list xs => some xs
  | .tuple xs => some xs
  | .str x => some (signsD x)
  | _ => none
def enumP (xs : List PyData) : List PyData := xs.zipIdx.map fun p => .tuple [.int (p.2 : Nat), p.1]
def zip2P (xs ys : List PyData) : List PyData := (xs.zip ys).map fun p => .tuple [p.1, p.2]
def zip3P (xs ys zs : List PyData) : List PyData := (xs.zip (ys.zip zs)).map fun p => .tuple [p.1, p.2.1, p.2.2]
def rangeP (i : Int) (n : Nat) : List PyData := (List.range n).map fun k => .int (i + (k : Nat))
theorem enumP_get {xs : List PyData} {k : Nat} {d : PyData} (h : (enumP xs)[k]? = some d) : ∃ x, xs[k]? = some x ∧ d = .tuple [.int (k : Nat), x] := by
  unfold enumP at h
  rw [List.getElem?_map, List.getElem?_zipIdx] at h
  cases e : xs[k]? with
  | none => rw [e] at h; cases h
  | some x => rw [e] at h; cases h; exact ⟨x, rfl, by simp⟩
theorem rangeP_get {i : Int} {n k : Nat} {d : PyData} (h : (rangeP i n)[k]? = some d) : k < n ∧ d = .int (i + (k : Nat)) := by
  unfold rangeP at h
  rw [List.getElem?_map] at h
  by_cases hk : k < n
  · rw [List.getElem?_range hk] at h; cases h; exact ⟨hk, rfl⟩
  · rw [List.getElem?_eq_none (by simp; omega)] at h; cases h
/-! ### the walks, over data -/
section
variable {b : Bg} {Y Z : Addr → Prop} {H : Hp} {K : PySem.W.Frag}
theorem rqs_signs {x : Str} : Rqs Z H (signs x) (signsD x) := by
  unfold signs signsD
  induction x.cps.toList with
  | nil => exact .nil
  | cons c l ih => exact .cons (.str _) ih
/-- a source: what stands there, and stays -/
structure SrcD (K : PySem.W.Frag) (Y Z : Addr → Prop) (H : Hp) (v : V) (xs : List PyData) (vs : List V) (C : Kd → Prop) : Prop where
  src : Src K H v vs C
  rq : Rqs Z H vs xs
  stay : ∀ k, C k → ∀ H2 : Hp, (∀ a o, H a = some o → ¬ Y a → H2 a = some o) → k.gives K H2 vs
theorem srcD {v : V} {p : PyData} {xs : List PyData} (r : Rb b Z H v (.py p)) (hn : ∀ a, v = .ref a → ¬ Y a) (e : itemsOf p = some xs) : ∃ vs C, SrcD K Y Z H v xs vs C := by
  cases p with
  | list ds =>
    cases e
    obtain ⟨a, us, rfl, ha, q⟩ := r.list
    exact ⟨us, _, .l (SqL.of ha), q, fun k hk H2 h2 => by rw [hk]; exact SqL.of (h2 a _ ha (hn a rfl))⟩
  | tuple ds =>
    cases e
    obtain ⟨a, o, us, rfl, ha, ho, na, q⟩ := r.tuple
    exact ⟨us, _, .t (SqT.th ha), q, fun k hk H2 h2 => by rw [hk]; exact SqT.th (h2 a _ ha (hn a rfl))⟩
  | str x =>
    cases e
    have ev := r.str
    subst ev
    exact ⟨signs x, _, .s, rqs_signs, fun k hk H2 h2 => by obtain ⟨t, rfl⟩ := hk; rfl⟩
  | _ => cases e
/-- what a source has at k -/
theorem SrcD.at {v : V} {xs : List PyData} {vs : List V} {C : Kd → Prop} (s : SrcD K Y Z H v xs vs C) (hY : ∀ a, ¬ Z a → ¬ Y a) {k : Nat} {d : PyData} (h : xs[k]? = some d) {H2 : Hp} (h2 : ∀ a o, H a = some o → ¬ Y a → H2 a = some o) :
    ∃ x, vs[k]? = some x ∧ ∀ Z2 : Addr → Prop, (∀ a, Z2 a → Z a ∨ H a = none) → Rq Z2 H2 x d := by
  obtain ⟨x, hx, r⟩ := s.rq.get h
  exact ⟨x, hx, fun Z2 hz => r.mono hz fun a o e n => h2 a o e (hY a n)⟩
theorem Rq.new2 {Z2 : Addr → Prop} {H2 : Hp} {T : Addr} {o : Obj} {vs : List V} {ds : List PyData} (hT : H2 T = none) (ho : o.dict = none) (hz : ∀ a, Z2 a → H2 a ≠ none) (r : Rqs Z2 H2 vs ds) : Rq Z2 (upd H2 T (HO.th o vs)) (.ref T) (.tuple ds) :=
  .tup upd_same ho (fun z => hz T z hT) (r.up hT)
theorem wk_src {v : V} {xs : List PyData} {vs : List V} {C : Kd → Prop} (s : SrcD K Y Z H v xs vs C) (hY : ∀ a, ¬ Z a → ¬ Y a) {k : Kd} (hk : C k) : Wk b Y Z H (Itk K k) (xs.map D.py) where
  go := fun i d H2 hd h2 g => by
    rw [List.getElem?_map] at hd
    cases e : xs[i]? with
    | none => rw [e] at hd; cases hd
    | some p =>
      rw [e] at hd; cases hd
      obtain ⟨x, hx, r⟩ := s.at hY e h2
      have gv := s.stay k hk H2 h2
      refine ⟨⟨vs, x, gv, hx⟩, fun v H3 y => ?_⟩
      obtain ⟨eH, y⟩ := y
      subst eH
      have : x = v := Option.some.inj (hx.symm.trans (y vs gv))
      subst this
      exact ⟨Ex.refl, g, fun Z2 hz _ => r Z2 hz⟩
  stop := fun i H2 hl h2 => ⟨vs, s.stay k hk H2 h2, by rw [s.rq.length, ← hl, List.length_map]; exact Nat.le_refl _⟩
theorem wk_enum {v : V} {xs : List PyData} {vs : List V} {C : Kd → Prop} (s : SrcD K Y Z H v xs vs C) (hY : ∀ a, ¬ Z a → ¬ Y a) {k : Kd} (hk : C k) : Wk b Y Z H (Iek K k) ((enumP xs).map D.py) where
  go := fun i d H2 hd h2 g => by
    rw [List.getElem?_map] at hd
    cases e : (enumP xs)[i]? with
    | none => rw [e] at hd; cases hd
    | some p =>
      rw [e] at hd; cases hd
      obtain ⟨q, hq, rfl⟩ := enumP_get e
      obtain ⟨x, hx, r⟩ := s.at hY hq h2
      have gv := s.stay k hk H2 h2
      refine ⟨⟨vs, x, gv, hx⟩, fun v H3 y => ?_⟩
      obtain ⟨T, o, x', rfl, hT, ho, eH, y⟩ := y
      subst eH
      have : x = x' := Option.some.inj (hx.symm.trans (y vs gv))
      subst this
      exact ⟨Ex.new hT, Bg.new g hT, fun Z2 hz h3 => Rq.new2 hT ho h3 (.cons (.int _) (.cons (r Z2 hz) .nil))⟩
  stop := fun i H2 hl h2 => ⟨vs, s.stay k hk H2 h2, by rw [s.rq.length, ← hl]; simp [enumP]⟩
theorem wk_range {lo : Int} {n : Nat} : Wk b Y Z H (Itr lo n) ((rangeP lo n).map D.py) where
  go := fun i d H2 hd h2 g => by
    rw [List.getElem?_map] at hd
    cases e : (rangeP lo n)[i]? with
    | none => rw [e] at hd; cases hd
    | some p =>
      rw [e] at hd; cases hd
      obtain ⟨hlt, rfl⟩ := rangeP_get e
      refine ⟨hlt, fun v H3 y => ?_⟩
      obtain ⟨eH, y⟩ := y
      subst eH y
      exact ⟨Ex.refl, g, fun Z2 hz _ => .int _⟩
  stop := fun i H2 hl h2 => by
    have e : n = i := by rw [← hl]; simp [rangeP]
    rw [e]
    exact Nat.le_refl _
end
/-! ### iterators as judgements -/
@[simp] def asO {α : Type} : Option α → (α → Prop) → Prop
  | some a, Q => Q a
  | none, _ => False
theorem asO_ex {α : Type} : ∀ {o : Option α} {Q : α → Prop}, asO o Q → ∃ a, o = some a ∧ Q a
  | some a, _, h => ⟨a, rfl, h⟩
@[simp] def asS : D → (List D → Prop) → Prop
  | .py p, Q => asO (itemsOf p) fun xs => Q (xs.map D.py)
  | _, _ => False
@[simp] def asEn : List D → (List D → Prop) → Prop
  | [.py p], Q => asO (itemsOf p) fun xs => Q ((enumP xs).map D.py)
  | _, _ => False
@[simp] def asZ2 : List D → (List D → Prop) → Prop
  | [.py p, .py q], Q => asO (itemsOf p) fun xs => asO (itemsOf q) fun ys => Q ((zip2P xs ys).map D.py)
  | _, _ => False
@[simp] def asZ3 : List D → (List D → Prop) → Prop
  | [.py p, .py q, .py r], Q => asO (itemsOf p) fun xs => asO (itemsOf q) fun ys => asO (itemsOf r) fun zs => Q ((zip3P xs ys zs).map D.py)
  | _, _ => False
abbrev small62 (i : Int) : Prop := -(2 ^ 62) ≤ i ∧ i < 2 ^ 62
@[simp] theorem small62_nat (n : Nat) : small62 (n : Int) ↔ n < 4611686018427387904 := by unfold small62; omega
@[simp] def asR1 : List D → (List D → Prop) → Prop
  | [.py (.int i)], Q => small62 i ∧ Q ((rangeP 0 i.toNat).map D.py)
  | _, _ => False
@[simp] def asR2 : List D → (List D → Prop) → Prop
  | [.py (.int i), .py (.int j)], Q => (small62 i ∧ small62 j) ∧ Q ((rangeP i (j - i).toNat).map D.py)
  | _, _ => False
theorem asS_ex : ∀ {d : D} {Q : List D → Prop}, asS d Q → ∃ p xs, d = .py p ∧ itemsOf p = some xs ∧ Q (xs.map D.py)
  | .py p, _, h => let ⟨xs, e, q⟩ := asO_ex h; ⟨p, xs, rfl, e, q⟩
theorem asEn_ex : ∀ {d : List D} {Q : List D → Prop}, asEn d Q → ∃ p xs, d = [.py p] ∧ itemsOf p = some xs ∧ Q ((enumP xs).map D.py)
  | [.py p], _, h => let ⟨xs, e, q⟩ := asO_ex h; ⟨p, xs, rfl, e, q⟩
theorem asR1_ex : ∀ {d : List D} {Q : List D → Prop}, asR1 d Q → ∃ i, d = [.py (.int i)] ∧ small62 i ∧ Q ((rangeP 0 i.toNat).map D.py)
  | [.py (.int i)], _, h => ⟨i, rfl, h⟩
@[simp] def iS (t : VT) : VIt := fun ρ Q E => t ρ (fun d => asS d Q) E
@[simp] def iEn (t : VA) : VIt := fun ρ Q E => t ρ (fun d => asEn d Q) E
@[simp] def iZ2 (t : VA) : VIt := fun ρ Q E => t ρ (fun d => asZ2 d Q) E
@[simp] def iZ3 (t : VA) : VIt := fun ρ Q E => t ρ (fun d => asZ3 d Q) E
@[simp] def iR1 (t : VA) : VIt := fun ρ Q E => t ρ (fun d => asR1 d Q) E
@[simp] def iR2 (t : VA) : VIt := fun ρ Q E => t ρ (fun d => asR2 d Q) E
theorem pi_mono {X : Cx} {tg iter : Expr} {t t' : TI} (h : PI X tg iter t) (m : ∀ σ H R, t' σ H R → t σ H R) : PI X tg iter t' := ⟨fun pins s σ H R I q => h.run pins s σ H R I (m σ H R q)⟩
section
variable {X : Cx} {b : Bg} {W : WX} {tg e e1 e2 e3 : Expr} {elts : List Expr} {kk : Nat} {t t1 t2 t3 : VT} {p pos tpos : Pos}
theorem Rp.ref {Z : Addr → Prop} {H : Hp} {v : V} {p : PyData} (r : Rp b Z H v (.py p)) : ∀ a, v = .ref a → ¬ Z a := fun a e => by
  subst e
  cases r <;> assumption
theorem Rb.ref {Z : Addr → Prop} {H : Hp} {v : V} {p : PyData} (g : Gd b Z H) (r : Rb b Z H v (.py p)) : ∀ a, v = .ref a → ¬ b.B a := fun a e => by
  rcases r with r | ⟨c, e1, n, _⟩
  · exact fun z => Rp.ref r a e (g.zb a z)
  · rw [e] at e1; cases e1; exact n
/-- a loop -/
theorem vi_src (h : VE X b W e t) : VI X b W tg e (iS t) := pi_mono (pi_src h) fun σ H R ⟨Zo, Z, ρ, Qd, Ed, v, q, l, m⟩ =>
  ⟨Zo, Z, ρ, _, Ed, v, q, fun x H1 d x1 g1 r1 hh => by
    obtain ⟨p, xs, ed, ei, q1⟩ := asS_ex hh
    subst ed
    obtain ⟨vs, C, s⟩ := srcD (K := X.K) (Y := Z) (.inl r1) (Rp.ref r1) ei
    exact ⟨vs, C, s.src, fun k hk => l _ H1 _ x1 g1 (wk_src s (fun _ n => n) hk) q1⟩, m⟩
theorem vib_src (h : VX X b W e t) : VIb X b W tg e (iS t) := pi_mono (pi_src h) fun σ H R ⟨Zo, Z, ρ, Qd, Ed, v, q, l, m⟩ =>
  ⟨Zo, Z, ρ, _, Ed, v, q, fun x H1 d x1 g1 r1 hh => by
    obtain ⟨p, xs, ed, ei, q1⟩ := asS_ex hh
    subst ed
    have gd := (v.ex x1 g1).gd
    obtain ⟨vs, C, s⟩ := srcD (K := X.K) (Y := b.B) r1 (Rb.ref gd r1) ei
    exact ⟨vs, C, s.src, fun k hk => l _ H1 _ x1 g1 (wk_src s (fun _ n z => n (gd.zb _ z)) hk) q1⟩, m⟩
theorem rbs1 {Z : Addr → Prop} {H : Hp} {v : List V} {d : D} (r : Rps b Z H v [d]) : ∃ x, v = [x] ∧ Rp b Z H x d := by
  cases r with
  | cons r t => cases t; exact ⟨_, rfl, r⟩
theorem rbs2 {Z : Addr → Prop} {H : Hp} {v : List V} {d d2 : D} (r : Rps b Z H v [d, d2]) : ∃ x y, v = [x, y] ∧ Rp b Z H x d ∧ Rp b Z H y d2 := by
  cases r with
  | cons r t => obtain ⟨y, rfl, r2⟩ := rbs1 t; exact ⟨_, y, rfl, r, r2⟩
variable {ta : VA}
theorem vi_enum (hg : Gl X "enumerate") (hm : X.mg "enumerate" = none) (h : VAs X b W [e] ta) (hs : starEach [e] X.env = [(false, eval e X.env)] := by rfl) : VI X b W (.Tuple elts kk tpos) (.Call (.Name "enumerate" p) [e] [] pos) (iEn ta) :=
  pi_mono (pi_enumS hg hm h hs) fun σ H R ⟨Zo, Z, ρ, Qd, Ed, v, q, l, m⟩ =>
    ⟨Zo, Z, ρ, _, Ed, v, q, fun x H1 d x1 g1 r1 hh => by
      obtain ⟨p, xs, ed, ei, q1⟩ := asEn_ex hh
      subst ed
      obtain ⟨w, rfl, r2⟩ := rbs1 r1
      obtain ⟨vs, C, s⟩ := srcD (K := X.K) (Y := Z) (.inl r2) (Rp.ref r2) ei
      exact ⟨w, vs, C, rfl, s.src, fun k hk => l _ H1 _ x1 g1 (wk_enum s (fun _ n => n) hk) q1⟩, m⟩
theorem vib_enum (hg : Gl X "enumerate") (hm : X.mg "enumerate" = none) (h : VXs X b W [e] ta) (hs : starEach [e] X.env = [(false, eval e X.env)] := by rfl) : VIb X b W (.Tuple elts kk tpos) (.Call (.Name "enumerate" p) [e] [] pos) (iEn ta) :=
  pi_mono (pi_enumS hg hm h hs) fun σ H R ⟨Zo, Z, ρ, Qd, Ed, v, q, l, m⟩ =>
    ⟨Zo, Z, ρ, _, Ed, v, q, fun x H1 d x1 g1 r1 hh => by
      obtain ⟨p, xs, ed, ei, q1⟩ := asEn_ex hh
      subst ed
      have gd := (v.ex x1 g1).gd
      obtain ⟨w, rfl, r2⟩ := Rbs.one r1
      obtain ⟨vs, C, s⟩ := srcD (K := X.K) (Y := b.B) r2 (Rb.ref gd r2) ei
      exact ⟨w, vs, C, rfl, s.src, fun k hk => l _ H1 _ x1 g1 (wk_enum s (fun _ n z => n (gd.zb _ z)) hk) q1⟩, m⟩
theorem pi_rng1 {Yf : (Addr → Prop) → Addr → Prop} (hg : Gl X "range") (hm : X.mg "range" = none) (h : VXs X b W [e] ta) (hs : starEach [e] X.env = [(false, eval e X.env)] := by rfl) : PI X tg (.Call (.Name "range" p) [e] [] pos) (LI b W Yf (iR1 ta)) :=
  pi_mono (pi_range1 hg hm h hs) fun σ H R ⟨Zo, Z, ρ, Qd, Ed, v, q, l, m⟩ =>
    ⟨Zo, Z, ρ, _, Ed, v, q, fun x H1 d x1 g1 r1 hh => by
      obtain ⟨i, ed, ⟨i1, i2⟩, q1⟩ := asR1_ex hh
      subst ed
      obtain ⟨w, rfl, r2⟩ := Rbs.one r1
      exact ⟨i, by rw [r2.int], i1, i2, l _ H1 _ x1 g1 wk_range q1⟩, m⟩
theorem vi_range1 (hg : Gl X "range") (hm : X.mg "range" = none) (h : VXs X b W [e] ta) (hs : starEach [e] X.env = [(false, eval e X.env)] := by rfl) : VI X b W tg (.Call (.Name "range" p) [e] [] pos) (iR1 ta) := pi_rng1 hg hm h hs
theorem vib_range1 (hg : Gl X "range") (hm : X.mg "range" = none) (h : VXs X b W [e] ta) (hs : starEach [e] X.env = [(false, eval e X.env)] := by rfl) : VIb X b W tg (.Call (.Name "range" p) [e] [] pos) (iR1 ta) := pi_rng1 hg hm h hs
end
end VL
set_option Elab.async false
set_option linter.all false
set_option maxRecDepth 100000
set_option maxHeartbeats 4000000
namespace VL
open PySem PySem.Spec PyProof.Rows L2
/-! ### from a loop's start on -/
section
variable {b : Bg} {W : WX} {H0 : Hp} {M Zo Z Z' : Addr → Prop} {σ σ' : L2.St} {H H' : Hp} {ρ ρ' : VEnv} {De : VEnds} {Dn : Ends}
/-- what a loop may write: its def's own objects -/
abbrev Mo (Zo Z : Addr → Prop) : Addr → Prop := fun a => Z a ∧ ¬ Zo a
theorem VOk.here (v : VOk b Zo Z σ H ρ) : FOk b H (Mo Zo Z) Zo Z σ H ρ :=
  ⟨v, fun _ _ e _ _ => e, fun i d a h1 h2 => by
    obtain ⟨c, h3, h4, h5, _⟩ := v.own i d h1
    rw [h2] at h3; cases h3
    exact .inl ⟨h4, h5⟩⟩
theorem FOk.mine (f : FOk b H0 M Zo Z σ H ρ) {a : Addr} (h : Mo Zo Z a) : M a ∨ H0 a = none := by
  rcases f.v.zi a h.1 with z | ⟨i, d, h1, h2⟩
  · exact absurd z h.2
  · exact f.fr i d a h1 h2
theorem FOk.extBack (f : FOk b H0 M Zo Z σ H ρ) (x : ∀ a o, H a = some o → ¬ b.B a → ¬ Mo Zo Z a → H' a = some o) : ∀ a o, H0 a = some o → ¬ b.B a → ¬ M a → H' a = some o := fun a o e nb nm =>
  x a o (f.ext a o e nb nm) nb fun mo => by
    rcases f.mine mo with z | z
    · exact nm z
    · rw [e] at z; cases z
theorem FOk.back (f : FOk b H0 M Zo Z σ H ρ) (f' : FOk b H (Mo Zo Z) Zo Z' σ' H' ρ') : FOk b H0 M Zo Z' σ' H' ρ' :=
  ⟨f'.v, f.extBack f'.ext, fun i d a h1 h2 => by
    rcases f'.fr i d a h1 h2 with z | z
    · exact f.mine z
    · cases q : H0 a with
      | none => exact .inr rfl
      | some o =>
        by_cases hb : b.B a
        · exact absurd z (b.dom _ _ f.v.g hb)
        · by_cases hm : M a
          · exact .inl hm
          · rw [f.ext a o q hb hm] at z; cases z⟩
theorem Lk.here (l : Lk b W H0 M Zo De Dn) (f : FOk b H0 M Zo Z σ H ρ) : Lk b W H (Mo Zo Z) Zo De Dn where
  nx := fun Z' σ' H' ρ' f' q => l.nx Z' σ' H' ρ' (f.back f') q
  rt := fun v H' d x g r q => l.rt v H' d (f.extBack x) g r q
  bk := fun Z' σ' H' ρ' f' q => l.bk Z' σ' H' ρ' (f.back f') q
  ct := fun Z' σ' H' ρ' f' q => l.ct Z' σ' H' ρ' (f.back f') q
  ex := fun c x Z' σ' H' ρ' er f' r q => l.ex c x Z' σ' H' ρ' er (f.back f') r q
/-- what is owned later was owned at the start, or is new -/
theorem FOk.young (f : FOk b H (Mo Zo Z) Zo Z' σ' H' ρ') (v : VOk b Zo Z σ H ρ) : ∀ a, Z' a → Z a ∨ H a = none := fun a z => by
  rcases f.v.zi a z with z | ⟨i, d, h1, h2⟩
  · exact .inl (v.zo a z)
  · exact (f.fr i d a h1 h2).imp (·.1) id
end
/-! ### for -/
@[simp] def forGo (g : VTg) (tb : VS) : List D → VEnv → VEnds → Prop
  | [], ρ, De => De.nx ρ
  | d :: ds, ρ, De => g d ρ fun ρ1 => tb ρ1 { De with nx := fun ρ2 => forGo g tb ds ρ2 De, ct := fun ρ2 => forGo g tb ds ρ2 De, bk := De.nx }
@[simp] def sFor (ti : VIt) (g : VTg) (tb : VS) : VS := fun ρ De => ti ρ (fun ds => forGo g tb ds ρ De) (De.ex ρ)
section
variable {X : Cx} {b : Bg} {W : WX} {tg iter : Expr} {body : List Stmt} {ti : VIt} {js : List Nat} {g : VTg} {tb : VS} {pos : Pos}
theorem vs_for (hp : PassesOwn (model X.prog X.w) X.A X.env X.xe) (hc : X.calm = true) (hi : VI X b W tg iter ti) (hg : VG X b tg js g) (hb : VSs X b W body tb)
    (hs : ∀ x, foldedSetIterable iter X.env x = pure x := by intro _; rfl) : VSt X b W (.For tg iter body [] pos) (sFor ti g tb) :=
  ps_mono (ps_for hp hc hi hg hb hs) fun Dn σ H ⟨H0, M, Zo, Z, ρ, De, f, q, l⟩ => ⟨Zo, Z, ρ, _, _, f.v, q, fun J H1 ds x1 g1 wk q1 => by
    have f1 := f.ex x1 g1
    have l1 := l.here f1
    have hZ : ∀ a, ¬ Z a → ¬ b.B a ∧ ¬ Mo Zo Z a := fun a n => ⟨fun z => n (f.v.zo _ (f.v.zb a z)), fun z => n z.1⟩
    refine ⟨fun i m σ' H' => m = ds.length - i ∧ i ≤ ds.length ∧ ∃ Z' ρ', FOk b H1 (Mo Zo Z) Zo Z' σ' H' ρ' ∧ forGo g tb (ds.drop i) ρ' De, ⟨ds.length, by simp, Nat.zero_le _, Z, ρ, f1.v.here, q1⟩, ?_⟩
    rintro i m σ' H' ⟨rfl, hi, Z', ρ', f', q'⟩
    have st : ∀ a o, H1 a = some o → ¬ Z a → H' a = some o := fun a o e n => f'.ext a o e (hZ a n).1 (hZ a n).2
    by_cases hlt : i < ds.length
    · rw [List.drop_eq_getElem_cons hlt] at q'
      obtain ⟨go, yl⟩ := wk.go i ds[i] H' (List.getElem?_eq_getElem hlt) st f'.v.g
      refine .inr ⟨go, fun σ2 H2 => ∃ Z2 ρ2, FOk b H1 (Mo Zo Z) Zo Z2 σ2 H2 ρ2 ∧ forGo g tb (ds.drop (i + 1)) ρ2 De, fun σ2 H2 h2 => ⟨ds.length - (i + 1), by omega, rfl, hlt, h2⟩, fun v H3 y => ?_⟩
      obtain ⟨x3, g3, r3⟩ := yl v H3 y
      refine ⟨H1, Mo Zo Z, Zo, Z', ρ', _, _, f'.ex x3 g3, r3 Z' (f'.young f1.v) f'.v.dom, q', fun Z4 σ4 ρ4 _ _ f4 q4 => ?_⟩
      exact ⟨H1, Mo Zo Z, Zo, Z4, ρ4, _, f4, q4, ⟨fun Z5 σ5 H5 ρ5 f5 q5 => ⟨Z5, ρ5, f5, q5⟩, l1.rt, fun Z5 σ5 H5 ρ5 f5 q5 => l1.nx Z5 σ5 H5 ρ5 f5 q5, fun Z5 σ5 H5 ρ5 f5 q5 => ⟨Z5, ρ5, f5, q5⟩, l1.ex⟩⟩
    · have e : ds.length = i := by omega
      rw [List.drop_eq_nil_of_le (by omega)] at q'
      exact .inl ⟨wk.stop i H' e st, l1.nx Z' σ' H' ρ' f' q'⟩, l.er f⟩
/-! ### while -/
def sWhile (c : VB) (tb : VS) : VS := fun ρ De => ∃ Iv : Nat → VEnv → Prop, (∃ m, Iv m ρ) ∧ ∀ m ρ, Iv m ρ →
  c ρ (fun k => if k = true then tb ρ { De with nx := fun ρ' => ∃ m', m' < m ∧ Iv m' ρ', ct := fun ρ' => ∃ m', m' < m ∧ Iv m' ρ', bk := De.nx } else De.nx ρ) (De.ex ρ)
theorem vs_while {c : Expr} {tc : VB} (hp : PassesOwn (model X.prog X.w) X.A X.env X.xe) (hc : VTe X b W c tc) (hb : VSs X b W body tb) : VSt X b W (.While c body [] pos) (sWhile tc tb) :=
  ps_mono (ps_while hp hc hb) fun Dn σ H ⟨H0, M, Zo, Z, ρ, De, f, ⟨Iv, ⟨m0, i0⟩, turn⟩, l⟩ => by
    refine ⟨fun m σ' H' => ∃ Z' ρ', FOk b H0 M Zo Z' σ' H' ρ' ∧ Iv m ρ', ⟨m0, Z, ρ, f, i0⟩, ?_⟩
    rintro m σ' H' ⟨Z', ρ', f', q'⟩
    refine ⟨Zo, Z', ρ', _, _, f'.v, turn m ρ' q', fun k H2 x g q2 => ?_, l.er f'⟩
    cases k with
    | true =>
      refine ⟨fun σ3 H3 => ∃ m', m' < m ∧ ∃ Z3 ρ3, FOk b H0 M Zo Z3 σ3 H3 ρ3 ∧ Iv m' ρ3, fun σ3 H3 ⟨m', hm, h3⟩ => ⟨m', hm, h3⟩, ?_⟩
      exact ⟨H0, M, Zo, Z', ρ', _, f'.ex x g, q2, ⟨fun Z5 σ5 H5 ρ5 f5 ⟨m', hm, q5⟩ => ⟨m', hm, Z5, ρ5, f5, q5⟩, l.rt, fun Z5 σ5 H5 ρ5 f5 q5 => l.nx Z5 σ5 H5 ρ5 f5 q5, fun Z5 σ5 H5 ρ5 f5 ⟨m', hm, q5⟩ => ⟨m', hm, Z5, ρ5, f5, q5⟩, l.ex⟩⟩
    | false => exact l.nx Z' σ' H2 ρ' (f'.ex x g) q2
end
/-! ### list comprehensions -/
abbrev noW : WX := fun _ _ _ _ => False
abbrev noE : Er → Prop := fun _ => False
@[simp] def wipeE (ρ : VEnv) : List Nat → VEnv
  | [] => ρ
  | v :: vs => (wipeE ρ vs).set v .un
@[simp] def wYes : VB := fun _ Q _ => Q true
@[simp] def lcGo (g : VTg) (tt : VB) (te : VT) (Q : D → Prop) : List D → List PyData → VEnv → Prop
  | [], acc, _ => Q (.py (.list acc))
  | d :: ds, acc, ρ => g d ρ fun ρ1 => tt ρ1 (fun k => if k = true then te ρ1 (fun y => ∃ p, y = .py p ∧ acc.length < sizeLine ∧ lcGo g tt te Q ds (acc ++ [p]) ρ) noE else lcGo g tt te Q ds acc ρ) noE
/-- no slot of these is owned -/
@[simp] def noOwn (ρ : VEnv) (vs : List Nat) : Prop := ∀ i ∈ vs, ∀ d, ρ[i]? ≠ some (.own d)
@[simp] def vLc (vs : List Nat) (ti : VIt) (g : VTg) (tt : VB) (te : VT) : VT := fun ρ Q E => noOwn ρ vs ∧ ti ρ (fun ds => lcGo g tt te Q ds [] (wipeE ρ vs)) E
theorem wipeE_len (ρ : VEnv) : ∀ vs : List Nat, (wipeE ρ vs).length = ρ.length
  | [] => rfl
  | v :: vs => by unfold wipeE; rw [List.length_set, wipeE_len ρ vs]
theorem wipeE_in {ρ : VEnv} {i : Nat} {s : Slot} : ∀ {vs : List Nat}, (wipeE ρ vs)[i]? = some s → (s = .un ∧ i ∈ vs) ∨ (ρ[i]? = some s ∧ i ∉ vs)
  | [], h => .inr ⟨h, by simp⟩
  | v :: vs, h => by
    unfold wipeE at h
    by_cases hi : v = i
    · subst hi
      by_cases hv : v < (wipeE ρ vs).length
      · rw [List.getElem?_set_self hv] at h; cases h; exact .inl ⟨rfl, List.mem_cons_self⟩
      · rw [List.getElem?_eq_none (by rw [List.length_set]; omega)] at h; cases h
    · rw [List.getElem?_set_ne hi] at h
      rcases wipeE_in h with ⟨h1, h2⟩ | ⟨h1, h2⟩
      · exact .inl ⟨h1, List.mem_cons_of_mem _ h2⟩
      · exact .inr ⟨h1, fun m => by
          rcases List.mem_cons.mp m with e | m
          · exact hi e.symm
          · exact h2 m⟩
theorem wipeE_out {ρ : VEnv} {i : Nat} {s : Slot} (h : ρ[i]? = some s) : ∀ {vs : List Nat}, i ∉ vs → (wipeE ρ vs)[i]? = some s
  | [], _ => h
  | v :: vs, hn => by
    unfold wipeE
    rw [List.getElem?_set_ne (fun e => hn (by rw [e]; exact List.mem_cons_self))]
    exact wipeE_out h fun m => hn (List.mem_cons_of_mem _ m)
theorem wipe_same {σ σ' : L2.St} {ρ ρ' : VEnv} {js : List Nat} (s : Same js σ σ' ρ ρ') : ∀ {vs : List Nat}, (∀ j ∈ js, j ∈ vs) → wipe σ' vs = wipe σ vs := fun {vs} h => by
  have wo : ∀ (τ : L2.St) (j : Nat) (vs : List Nat), j ∉ vs → (wipe τ vs)[j]? = τ[j]? := fun τ j vs => by
    induction vs with
    | nil => intro _; rfl
    | cons v vs ih =>
      intro hn
      show ((wipe τ vs).set v none)[j]? = _
      rw [List.getElem?_set_ne (fun e => hn (by rw [e]; exact List.mem_cons_self))]
      exact ih fun m => hn (List.mem_cons_of_mem _ m)
  have wi : ∀ (τ : L2.St) (j : Nat) (vs : List Nat), j ∈ vs → (wipe τ vs)[j]? = if j < τ.length then some none else none := fun τ j vs => by
    induction vs with
    | nil => intro h; cases h
    | cons v vs ih =>
      intro hm
      show ((wipe τ vs).set v none)[j]? = _
      by_cases e : v = j
      · subst e
        by_cases hl : v < τ.length
        · rw [List.getElem?_set_self (by rw [wipe_length]; exact hl), if_pos hl]
        · rw [List.getElem?_eq_none (by rw [List.length_set, wipe_length]; omega), if_neg hl]
      · rw [List.getElem?_set_ne e]
        exact ih ((List.mem_cons.mp hm).resolve_left fun q => e q.symm)
  apply List.ext_getElem?
  intro j
  by_cases hj : j ∈ vs
  · rw [wi σ' j vs hj, wi σ j vs hj, s.len]
  · rw [wo σ' j vs hj, wo σ j vs hj]
    exact s.out j fun m => hj (h j m)
theorem VOk.wiped {b : Bg} {Zo Z : Addr → Prop} {σ : L2.St} {H : Hp} {ρ : VEnv} (v : VOk b Zo Z σ H ρ) {vs : List Nat} (hn : noOwn ρ vs) : VOk b Zo Z (wipe σ vs) H (wipeE ρ vs) where
  g := v.g
  zb := v.zb
  zo := v.zo
  dom := v.dom
  zi := fun a z => by
    rcases v.zi a z with z | ⟨i, d, h1, h2⟩
    · exact .inl z
    · have hi : i ∉ vs := fun m => hn i m d h1
      exact .inr ⟨i, d, wipeE_out h1 hi, by rw [wipe_out hi]; exact h2⟩
  own := fun i d h => by
    rcases wipeE_in h with ⟨h1, _⟩ | ⟨h1, hi⟩
    · cases h1
    · obtain ⟨a, h2, h3⟩ := v.own i d h1
      exact ⟨a, by rw [wipe_out hi]; exact h2, h3⟩
  inj := fun i j d e a h1 h2 h3 h4 => by
    rcases wipeE_in h1 with ⟨q, _⟩ | ⟨h1, hi⟩
    · cases q
    · rcases wipeE_in h2 with ⟨q, _⟩ | ⟨h2, hj⟩
      · cases q
      · rw [wipe_out hi] at h3
        rw [wipe_out hj] at h4
        exact v.inj i j d e a h1 h2 h3 h4
  shr := fun i d h => by
    rcases wipeE_in h with ⟨h1, _⟩ | ⟨h1, hi⟩
    · cases h1
    · obtain ⟨u, h2, h3⟩ := v.shr i d h1
      exact ⟨u, by rw [wipe_out hi]; exact h2, h3⟩
  len := by rw [wipeE_len, wipe_length]; exact v.len
section
variable {b : Bg} {Z : Addr → Prop} {H : Hp} {a : Addr}
/-- one more address to be avoided: nothing that is known reaches a new one -/
theorem Rp.apart (ha : H a = none) {o : HO} {v : V} {d : D} (r : Rp b Z H v d) : Rp b (fun c => Z c ∨ c = a) (upd H a o) v d :=
  r.mono (fun c z => z.imp id fun e => by rw [e]; exact ha) fun c u e _ => by rw [upd_ne (ne_of_none e ha)]; exact e
theorem Ow.apart (ha : H a = none) {o : HO} {c : Addr} {d : D} (r : Ow b Z H c d) : Ow b (fun c => Z c ∨ c = a) (upd H a o) c d :=
  r.mono (fun c z => z.imp id fun e => by rw [e]; exact ha) (fun c u e _ => by rw [upd_ne (ne_of_none e ha)]; exact e) fun u e => by rw [upd_ne (ne_of_none e ha)]; exact e
theorem VOk.apart {Zo : Addr → Prop} {σ : L2.St} {ρ : VEnv} (v : VOk b Zo Z σ H ρ) (ha : H a = none) {o : HO} : VOk b (fun c => Zo c ∨ c = a) (fun c => Z c ∨ c = a) σ (upd H a o) ρ where
  g := Bg.new v.g ha
  zb := fun c z => .inl (v.zb c z)
  zo := fun c z => z.imp (v.zo c) id
  dom := fun c z => by
    by_cases e : c = a
    · rw [e, upd_same]; simp
    · rw [upd_ne e]; exact v.dom c (z.resolve_right e)
  zi := fun c z => z.elim (fun z => (v.zi c z).imp .inl id) fun e => .inl (.inr e)
  own := fun i d e => by
    obtain ⟨c, h1, h2, h3, h4⟩ := v.own i d e
    exact ⟨c, h1, .inl h2, fun z => z.elim h3 fun q => v.dom c h2 (by rw [q]; exact ha), h4.apart ha⟩
  inj := v.inj
  shr := fun i d e => by
    obtain ⟨u, h1, h2⟩ := v.shr i d e
    exact ⟨u, h1, h2.apart ha⟩
  len := v.len
/-- an object that is an outer one's is written: nothing here reaches it -/
theorem VOk.outer {Zo : Addr → Prop} {σ : L2.St} {ρ : VEnv} (v : VOk b Zo Z σ H ρ) (ha : Zo a) (nb : ¬ b.B a) (hx : ∀ o, still o → H a ≠ some o) {o : HO} : VOk b Zo Z σ (upd H a o) ρ := by
  have keep : ∀ c u, H c = some u → ¬ Z c → upd H a o c = some u := fun c u e n => by rw [upd_ne (fun q => n (by rw [q]; exact v.zo a ha))]; exact e
  refine ⟨b.loc H _ (fun c hc => upd_ne fun q => nb (by rw [← q]; exact hc)) (fun c o ho e => by rw [upd_ne (fun q => hx o ho (by rw [← q]; exact e))]; exact e) v.g, v.zb, v.zo, fun c z => ?_, v.zi, fun i d e => ?_, v.inj, fun i d e => ?_, v.len⟩
  · by_cases q : c = a
    · rw [q, upd_same]; simp
    · rw [upd_ne q]; exact v.dom c z
  · obtain ⟨c, h1, h2, h3, h4⟩ := v.own i d e
    exact ⟨c, h1, h2, h3, h4.mono (fun _ z => .inl z) keep fun u e => by rw [upd_ne (fun q => h3 (by rw [q]; exact ha))]; exact e⟩
  · obtain ⟨u, h1, h2⟩ := v.shr i d e
    exact ⟨u, h1, h2.mono (fun _ z => .inl z) keep⟩
end
section
variable {b : Bg} {W : WX} {ti : VIt} {js : List Nat} {g : VTg} {tt : VB} {te : VT} {vs : List Nat}
theorem lc_sound (hjs : ∀ j ∈ js, j ∈ vs) : ∀ σ H Q, LE b W (RN b) (vLc vs ti g tt te) σ H Q → tLc (LI b W (fun _ => b.B) ti) (LG b js g) (LB b noW tt) (LE b noW (RE b) te) vs σ H Q :=
  fun σ H Q ⟨Zo, Z, ρ, Qd, Ed, v, ⟨hno, q⟩, l, m⟩ => ⟨Zo, Z, ρ, _, _, v, q, fun J H1 ds x1 g1 wk q1 => by
    intro A hA
    have v1 := v.ex x1 g1
    have nzA : ¬ Z A := v1.fresh hA
    have nbA : ¬ b.B A := v1.nb nzA
    have hA0 : H A = none := none_back g1 x1 A hA
    have v2 := (v1.apart hA (o := .lst [])).wiped hno
    -- the invariant
    let Iv : Nat → Hp → Prop := fun i H' => ∃ xs acc, H' A = some (.lst xs) ∧ Rqs (fun c => Z c ∨ c = A) H' xs acc ∧ VOk b (fun c => Zo c ∨ c = A) (fun c => Z c ∨ c = A) (wipe σ vs) H' (wipeE ρ vs) ∧ (∀ a o, H1 a = some o → ¬ b.B a → H' a = some o) ∧ lcGo g tt te Qd (ds.drop i) acc (wipeE ρ vs)
    refine ⟨fun i m H' => m = ds.length - i ∧ i ≤ ds.length ∧ Iv i H', ⟨ds.length, by simp, Nat.zero_le _, [], [], upd_same, .nil, v2, fun a o e _ => by rw [upd_ne (ne_of_none e hA)]; exact e, q1⟩, ?_⟩
    rintro i m H' ⟨rfl, hi, xs, acc, hx, rx, v', st, q'⟩
    by_cases hlt : i < ds.length
    · rw [List.drop_eq_getElem_cons hlt] at q'
      obtain ⟨go, yl⟩ := wk.go i ds[i] H' (List.getElem?_eq_getElem hlt) st v'.g
      refine .inr ⟨go, Iv (i + 1), fun H2 h2 => ⟨ds.length - (i + 1), by omega, rfl, hlt, h2⟩, fun w H3 y => ?_⟩
      obtain ⟨x3, g3, r3⟩ := yl w H3 y
      have v3 := v'.ex x3 g3
      refine ⟨H3, fun _ => True, _, _, _, ds[i], _, ⟨v3, fun _ _ e _ _ => e, fun _ _ _ _ _ => .inl trivial⟩, r3 _ (fun a z => z.imp id fun e => by rw [e]; exact hA) v'.dom, q', fun Z4 σ4 ρ4 sub sm f4 q4 => ?_⟩
      have ww : wipe (wipe σ vs) vs = wipe σ vs := wipe_same (js := vs) (σ := σ) (ρ := ρ) (ρ' := ρ) ⟨by rw [wipe_length], fun j hj => wipe_out hj, fun _ _ => rfl⟩ fun j h => h
      refine ⟨(wipe_same sm hjs).trans ww, ?_⟩
      have st3 : ∀ a o, H1 a = some o → ¬ b.B a → H3 a = some o := fun a o e n => x3 a o (st a o e n) n
      have hx3 : H3 A = some (.lst xs) := x3 A _ hx nbA
      refine ⟨_, _, _, _, _, f4.v, q4, fun k H5 x5 g5 q5 => ?_, fun c z H5 er _ _ _ h => h.elim⟩
      have st5 : ∀ a o, H1 a = some o → ¬ b.B a → H5 a = some o := fun a o e n => x5 a o (st3 a o e n) n
      have hx5 : H5 A = some (.lst xs) := x5 A _ hx3 nbA
      have v5 := v3.ex x5 g5
      have rx5 : Rqs (fun c => Z c ∨ c = A) H5 xs acc := v3.rqs x5 (v'.rqs x3 rx)
      cases k with
      | false => exact ⟨xs, acc, hx5, rx5, v5, st5, q5⟩
      | true =>
        refine ⟨_, _, _, _, _, f4.v.ex x5 g5, q5, fun u H6 d6 x6 g6 r6 ⟨p, ep, hz, q6⟩ => ?_, fun c z H6 er _ _ _ h => h.elim⟩
        subst ep
        have hx6 : H6 A = some (.lst xs) := x6 A _ hx5 nbA
        have rx6 := v5.rqs x6 rx5
        have v6 := v5.ex x6 g6
        have zo4 : ∀ c, (Zo c ∨ c = A) → Z4 c := f4.v.zo
        have r7 : Rq (fun c => Z c ∨ c = A) H6 u p := by
          refine Rq.mono (fun c z => ?_) (fun _ _ e _ => e) r6
          -- what the block's names own is what the def owns
          rcases v'.zi c z with z' | ⟨j, dj, h1, h2⟩
          · exact .inl (zo4 c z')
          · rcases wipeE_in h1 with ⟨h1, _⟩ | ⟨h1, hj⟩
            · cases h1
            · have hj' : j ∉ js := fun m => hj (hjs j m)
              have e4 := sm.env j hj'
              rw [wipeE_out h1 hj] at e4
              obtain ⟨c', h3, h4, _⟩ := f4.v.own j dj e4
              rw [sm.out j hj', h2] at h3
              cases h3
              exact .inl h4
        refine ⟨xs, hx6, by rw [rx6.length]; exact hz, xs ++ [u], acc ++ [p], upd_same, ?_, v6.outer (.inr rfl) nbA (fun o ho z => by rw [hx6] at z; cases z; exact ho), fun a o e n => ?_, q6⟩
        · have mv : ∀ c o, H6 c = some o → ¬ (Z c ∨ c = A) → upd H6 A (.lst (xs ++ [u])) c = some o := fun c o e n => by rw [upd_ne (fun q => n (.inr q))]; exact e
          exact (rx6.mono (fun _ z => .inl z) mv).append (.cons (Rq.mono (fun _ z => .inl z) mv r7) .nil)
        · rw [upd_ne (ne_of_none e hA)]
          exact x6 a o (st5 a o e n) n
    · have e : ds.length = i := by omega
      rw [List.drop_eq_nil_of_le (by omega)] at q'
      refine .inl ⟨wk.stop i H' e st, ?_⟩
      have xx : Ex b H H' := fun a o e n => st a o (x1 a o e n) n
      exact l _ H' (.py (.list acc)) xx v'.g ⟨A, rfl, hA0, xs, hx, rx⟩ q', m⟩
end
section
variable {X : Cx} {b : Bg} {W : WX} {tg iter elt c : Expr} {ifs : List Expr} {scope : Scope} {own : List (Str × Nat)} {pos spos py : Pos} {ti : VIt} {js : List Nat} {g : VTg} {tt : VB} {te : VT} {i : Nat} {y : Str}
/-- a block's tests -/
def VTs (X : Cx) (b : Bg) (ifs : List Expr) (t : VB) : Prop := PTs X ifs (LB b noW t)
theorem pts_mono {t t' : TT} (h : PTs X ifs t) (m : ∀ σ H Q, t' σ H Q → t σ H Q) : PTs X ifs t' := ⟨fun pins s σ H Q I q => h.run pins s σ H Q I (m σ H Q q)⟩
theorem vts_nil : VTs X b [] wYes := pts_mono pts_nil fun σ H Q ⟨Zo, Z, ρ, Qd, Ed, v, q, l, _⟩ => l true H Ex.refl v.g q
theorem vts_one (h : VTe X b noW c tt) : VTs X b [c] tt := pts_one h
theorem vn_lc (hc : X.calm = true) (hN : X.N.Nodup) (hi : VIb X b W tg iter ti) (ok : BlkOk X.N X.env.scope scope own) (hjs : ∀ j ∈ js, j ∈ own.map (·.2))
    (hg : ∀ (s : Shared) (H : Hp) (C : Addr) (cl : List (Str × Addr)) (fp : List Addr), VG (X.blk s H scope (compEnvC scope cl C X.env) fp) b tg js g) (ht : ∀ (s : Shared) (H : Hp) (C : Addr) (cl : List (Str × Addr)) (fp : List Addr), VTs (X.blk s H scope (compEnvC scope cl C X.env) fp) b ifs tt)
    (he : ∀ (s : Shared) (H : Hp) (C : Addr) (cl : List (Str × Addr)) (fp : List Addr), VE (X.blk s H scope (compEnvC scope cl C X.env) fp) b noW elt te) (hs : ∀ x, foldedSetIterable iter X.env x = pure x := by intro _; rfl) :
    VN X b W (.ListComp elt [⟨tg, iter, ifs, 0⟩] scope pos) (vLc (own.map (·.2)) ti g tt te) :=
  pe_mono (pe_lc hc hN hi ok hg ht he hs) (lc_sound hjs)
end
end VL
set_option Elab.async false
set_option linter.all false
set_option maxRecDepth 100000
set_option maxHeartbeats 4000000
namespace VL
open PySem PySem.Spec PyProof.Rows L2
/-! ### what a def promises, by values -/
abbrev SV := List D → (D → Prop) → (Er → Prop) → Prop
def spV (b : Bg) (S : SV) : Sp := fun vs H Q E => ∃ Z ds Qd Ed, Gd b Z H ∧ Rps b Z H vs ds ∧ S ds Qd Ed ∧ (∀ v H' d, Ex b H H' → b.G H' → Rp b Z H' v d → Qd d → Q v H') ∧ ∀ c x H' er, Ex b H H' → b.G H' → ErRp b Z H' c x er → Ed er → E c x H'
/-- the ends of a def's body -/
@[simp] def fin (Q : D → Prop) (E : Er → Prop) : VEnds := { nx := fun _ => Q (.py .none), rt := Q, bk := fun _ => False, ct := fun _ => False, ex := fun _ => E }
/-- the names' values at the entry -/
@[simp] def envOf (n : Nat) (ds : List D) : VEnv := ds.map Slot.shr ++ List.replicate (n - ds.length) .un
theorem Rps.at {b : Bg} {Z : Addr → Prop} {H : Hp} : ∀ {vs : List V} {ds : List D} {i : Nat} {d : D}, Rps b Z H vs ds → ds[i]? = some d → ∃ v, vs[i]? = some v ∧ Rp b Z H v d
  | _, _, _, _, .nil, e => by simp at e
  | _, _, 0, _, .cons r _, e => by simp at e; subst e; exact ⟨_, rfl, r⟩
  | _, _, i + 1, _, .cons _ t, e => by
    obtain ⟨y, h1, h2⟩ := Rps.at (i := i) t (by simpa using e)
    exact ⟨y, by simpa using h1, h2⟩
theorem envOf_at {n i : Nat} {ds : List D} {s : Slot} (h : (envOf n ds)[i]? = some s) : s = .un ∨ ∃ d, s = .shr d ∧ ds[i]? = some d := by
  unfold envOf at h
  by_cases hi : i < ds.length
  · rw [List.getElem?_append_left (by simpa using hi), List.getElem?_map] at h
    cases e : ds[i]? with
    | none => rw [e] at h; cases h
    | some d => rw [e] at h; cases h; exact .inr ⟨d, rfl, rfl⟩
  · rw [List.getElem?_append_right (by simpa using hi), List.getElem?_replicate] at h
    split at h
    · cases h; exact .inl rfl
    · cases h
theorem VOk.entry {b : Bg} {Z : Addr → Prop} {H : Hp} {N : List Str} {vs : List V} {ds : List D} (g : Gd b Z H) (r : Rps b Z H vs ds) (hl : vs.length ≤ N.length) : VOk b Z Z (L2.start N vs) H (envOf N.length ds) where
  g := g.g
  zb := g.zb
  zo := fun _ z => z
  dom := g.dom
  zi := fun _ z => .inl z
  own := fun i d e => by
    rcases envOf_at e with h | ⟨d', h, _⟩ <;> cases h
  inj := fun i j d e a h1 _ _ _ => by
    rcases envOf_at h1 with h | ⟨d', h, _⟩ <;> cases h
  shr := fun i d e => by
    rcases envOf_at e with h | ⟨d', h, hd⟩
    · cases h
    · cases h
      obtain ⟨v, hv, rv⟩ := r.at hd
      refine ⟨v, ?_, rv⟩
      unfold L2.start
      have hi : i < vs.length := (List.getElem?_eq_some_iff.mp hv).1
      rw [List.getElem?_append_left (by simpa using hi), List.getElem?_map, hv]
      rfl
  len := by
    unfold envOf L2.start
    rw [List.length_append, List.length_map, List.length_replicate, List.length_append, List.length_map, List.length_replicate, ← r.length]
abbrev WF (E : XK) : WX := fun c d _ H => E c d H
section
variable {P : Program} {w : World} {K : PySem.W.Frag} {mg : Str → Option Value} {base : Heap} {b : Bg} {k : Nat} {x qual : Str} {st : Stmt} {f : Addr} {fd : FuncData} {N ps : List Str} {S : SV}
theorem fin_link {t : VS} {H : Hp} {vs : List V} {Q : VK} {E : XK} (hlaw : ∀ ds Q E, S ds Q E → t (envOf N.length ds) (fin Q E)) (hl : vs.length ≤ N.length) (h : spV b S vs H Q E) :
    LS b (WF E) t { nx := fun _ H' => Q .non H', rt := Q } (L2.start N vs) H := by
  obtain ⟨Z, ds, Qd, Ed, g, r, s, l, m⟩ := h
  have x : ∀ {H'}, (∀ a o, H a = some o → ¬ b.B a → ¬ False → H' a = some o) → Ex b H H' := fun h a o e n => h a o e n not_false
  refine ⟨H, fun _ => False, Z, Z, envOf N.length ds, fin Qd Ed, ⟨VOk.entry g r hl, fun _ _ e _ _ => e, fun i d a e _ => ?_⟩, hlaw ds Qd Ed s, ⟨fun Z' σ' H' ρ' f' q => l .non H' (.py .none) (x f'.ext) f'.v.g Rq.non q, fun v H' d x1 g1 r1 q => l v H' d (x x1) g1 r1 q, fun _ _ _ _ _ q => q.elim, fun _ _ _ _ _ q => q.elim, fun c y Z' σ' H' ρ' er f' r' q => m c y H' er (x f'.ext) f'.v.g ?_ q⟩⟩
  · rcases envOf_at e with h | ⟨d', h, _⟩ <;> cases h
  · obtain ⟨h1, h2⟩ := r'
    refine ⟨h1, h2.imp id ?_⟩
    rintro ⟨a, xs, e1, e2, e3, e4⟩
    exact ⟨a, xs, e1, e2, fun z => e3 (f'.v.zo a z), e4.mono (fun c z => .inl (f'.v.zo c z)) fun _ _ e _ => e⟩
/-- a def of the text, by its body -/
theorem fnV (F : Fun K x qual st f fd) (Sc : FnScope N ps (defScope st)) {t : VS} (hlen : ∀ ds Q E, S ds Q E → ds.length = ps.length) (hps : ps.length ≤ N.length)
    (hbody : ∀ (cdv : Value) (A : Around) (outer : List Env) (s : Shared) (H : Hp) (E : XK), Room k (A.deeper (envOfC qual (defScope st) s.heap.objs.size f cdv)) →
      Takes (cxOf (L2.CX P w) P w K mg base N qual (defScope st) f cdv A outer s H E) (WF E) → VSs (cxOf (L2.CX P w) P w K mg base N qual (defScope st) f cdv A outer s H E) b (WF E) (defBody st) t)
    (hlaw : ∀ ds Q E, S ds Q E → t (envOf N.length ds) (fin Q E)) : FnOk P w K mg base (L2.CX P w) (k + 1) f fd ps (spV b S) := by
  have len : ∀ vs H Q E, spV b S vs H Q E → vs.length = ps.length := fun vs H Q E ⟨Z, ds, Qd, Ed, g, r, s, _⟩ => r.length.trans (hlen ds Qd Ed s)
  refine F.okX Sc len fun cdv A outer s H vs Q E hr h => ⟨_, hbody cdv A outer s H E hr (takes_of rfl rfl rfl rfl), fin_link hlaw (Nat.le_trans (Nat.le_of_eq (len _ _ _ _ h)) hps) h⟩
end
/-! ### calls -/
@[simp] def vCall (S : SV) (u : VA) : VT := fun ρ Q E => u ρ (fun ds => S ds Q E) E
section
variable {X : Cx} {b : Bg} {W : WX} {k : Nat} {f : Addr} {fd : FuncData} {ps : List Str} {S : SV} {x : Str} {e : Expr} {es : List Expr} {u : VA} {p pos : Pos}
theorem call_core {sp : Sp} {t : TA} (hu : t = LA b W u) (hs : sp = spV b S) : ∀ σ H Q, LE b W (RE b) (vCall S u) σ H Q → tCallS sp (WE W) t σ H Q := by
  subst hu hs
  exact fun σ H Q ⟨Zo, Z, ρ, Qd, Ed, v, q, l, m⟩ => ⟨Zo, Z, ρ, _, Ed, v, q, fun vs H1 ds x1 g1 r1 q1 => by
    have v1 := v.ex x1 g1
    exact ⟨Z, ds, Qd, Ed, v1.gd, r1, q1, fun y H2 d x2 g2 r2 q2 => l y H2 d (x1.trans x2) g2 r2 q2, fun c z H2 er x2 g2 r2 q2 => m c z H2 er (x1.trans x2) g2 r2 q2⟩, m⟩
theorem ve_call (F : FnOk X.prog X.w X.K X.mg X.base (L2.CX X.prog X.w) k f fd ps (spV b S)) (hr : Room k X.A) (tk : Takes X W) (hg : Gl X x) (hm : X.mg x = some (.ref f)) (hk : PySem.W.keepIn X.K (.ref f) = true) (hb : Binds X.K fd ps [])
    (ha : VAs X b W (e :: es) u) (hdb : (x == ("__debug__" : Str)) = false := by decide) (he : starEach (e :: es) X.env = (false, eval e X.env) :: starEach es X.env := by rfl) (hpl : (backTo pos (starEach es X.env)).any (·.1) = false := by rfl) :
    VE X b W (.Call (.Name x p) (e :: es) [] pos) (vCall S u) := pe_mono (pe_callS F hr hg hm hk hb (passAt tk) ha hdb he hpl) (call_core rfl rfl)
/-- a constant of the module -/
theorem ve_glob {v : V} {d : PyData} {uu : Value} (hg : Gl X x) (hm : X.mg x = some uu) (r : RelV v uu) (rd : ∀ (Z : Addr → Prop) (H : Hp), Rq Z H v d) (hd : (x == ("__debug__" : Str)) = false := by decide) : VE X b W (.Name x pos) (vC (.py d)) :=
  ve_const (pe_glob hg hm r hd) rd
end
end VL
set_option Elab.async false
set_option linter.all false
set_option maxRecDepth 100000
set_option maxHeartbeats 4000000
namespace VL
open PySem PySem.Spec PyProof.Rows L2
/-! ### repr of plain data (dicts among it: none of the tracked dicts is the modules' own) -/
section
variable {X : Cx} {pins : List (Addr × Obj)} {σ : L2.St} {H : Hp} {s : Shared} {Z : Addr → Prop}
/-- what is known of a value to be shown -/
structure Shw (P : Program) (w : World) (h : Heap) (u : Value) (d : PyData) : Prop where
  rd : ∃ as, Reads h u d as
  rk : d.showable = true → d.shown.length ≤ sizeLine → ∃ bs, ReadAtMost h d.depth bs ∧ ReprK P w bs h d.depth u d.shown
  top : d.showable = true → d.shown.length ≤ sizeLine → ∀ (A : Around) (E : Value → Shared → Prop) (s : Shared) (Q : Value → Shared → Prop), A.guards = some [] → A.units + (d.depth + 1) < cLine → (∀ b o, h.get? b = some o → s.heap.get? b = some o) →
    (∀ h' u tk, (∀ b o, s.heap.get? b = some o → h'.get? b = some o) → Q (.str d.shown u) { s with heap := h', toks := tk }) → wpAny (model P w) A (call (.builtin "repr") [u]) Q E s
structure ShwA (P : Program) (w : World) (h : Heap) (us : List Value) (ds : List PyData) : Prop where
  rd : ∃ as, ReadsAll h us ds as
  rk : PyData.showableAll ds = true → (∀ t ∈ PyData.shownAll ds, t.length ≤ sizeLine) → ∃ bs, ReadAtMost h (PyData.depthAll ds) bs ∧ ReprAllK P w bs h (PyData.depthAll ds) us (PyData.shownAll ds)
theorem ShwA.nil {P : Program} {w : World} {h : Heap} : ShwA P w h [] [] := ⟨⟨_, .nil⟩, fun _ _ => ⟨[], (fun _ m => nomatch m), by simp only [PyData.shownAll]; exact .nil⟩⟩
theorem ShwA.cons {P : Program} {w : World} {h : Heap} {u : Value} {d : PyData} {us : List Value} {ds : List PyData} (a : Shw P w h u d) (l : ShwA P w h us ds) : ShwA P w h (u :: us) (d :: ds) := by
  refine ⟨?_, fun hs hz => ?_⟩
  · obtain ⟨as, ra⟩ := a.rd
    obtain ⟨bs, rb⟩ := l.rd
    exact ⟨_, .cons ra rb⟩
  · simp only [PyData.showableAll, Bool.and_eq_true] at hs
    simp only [PyData.shownAll] at hz
    obtain ⟨b1, m1, k1⟩ := a.rk hs.1 (hz _ List.mem_cons_self)
    obtain ⟨b2, m2, k2⟩ := l.rk hs.2 fun t ht => hz t (List.mem_cons_of_mem _ ht)
    have e1 : d.depth ≤ max d.depth (PyData.depthAll ds) := Nat.le_max_left _ _
    have e2 : PyData.depthAll ds ≤ max d.depth (PyData.depthAll ds) := Nat.le_max_right _ _
    refine ⟨b1 ++ b2, ?_, ?_⟩
    · simp only [PyData.depthAll]
      exact (m1.mono e1).append (m2.mono e2)
    · simp only [PyData.depthAll, PyData.shownAll]
      exact .cons ((k1.more fun b hb => List.mem_append.mpr (.inl hb)).level_le e1) (k2.more_le (fun b hb => List.mem_append.mpr (.inr hb)) e2)
section
variable {P : Program} {w : World} {h : Heap} {a : Addr} {o : Obj} {n : Nat}
theorem Shw.list {us : List Value} {ds : List PyData} (h1 : h.get? a = some o) (h2 : o.cls = .type "list") (h3 : o.data = .seq us.toArray n) (l : ShwA P w h us ds) : Shw P w h (.ref a) (.list ds) := by
  obtain ⟨as, ra⟩ := l.rd
  have r : Reads h (.ref a) (.list ds) _ := .list h1 h2 h3 ra
  refine ⟨⟨_, r⟩, fun hs hz => ?_, fun hs hz A E s Q hg hu hk hQ => ?_⟩
  rotate_left
  · simp only [PyData.showable] at hs
    simp only [PyData.shown] at hz hQ
    simp only [PyData.depth] at hu
    obtain ⟨bs, mb, kb⟩ := l.rk hs fun t ht => Nat.le_trans (listText_mem_le ht) hz
    have na : a ∉ bs := not_mem_of_deeper r (by simp only [PyData.depth]; omega) mb
    refine call_repr_slot (T := "list") (by omega) ⟨o, hk _ _ h1, h2⟩ F.slot_list_repr.toG ?_
    cases us with
    | nil =>
      cases ra
      simp only [PyData.shownAll, listText_nil] at hQ
      exact call_list_repr_empty ⟨o, hk _ _ h1, h2⟩ (hk _ _ h1) h3 ⟨_, _, rfl, hQ s.heap _ _ fun _ _ e => e⟩
    | cons u us => exact call_list_reprK h1 h2 h3 na (by simpa using kb.length_eq) (fun i y e => kb.item i y (by simpa using e)) hg (fun b _ => Clear.nil b) (by show A.units + 1 + _ < cLine; omega) hk (fun h' u tk kp => ⟨_, _, rfl, hQ h' u tk kp⟩) hz
  simp only [PyData.showable] at hs
  simp only [PyData.shown] at hz
  obtain ⟨bs, mb, kb⟩ := l.rk hs fun t ht => Nat.le_trans (listText_mem_le ht) hz
  have na : a ∉ bs := not_mem_of_deeper r (by simp only [PyData.depth]; omega) mb
  refine ⟨a :: bs, ReadAtMost.cons r (by simp only [PyData.depth]; omega) mb, ?_⟩
  simp only [PyData.depth, PyData.shown]
  cases us with
  | nil =>
    cases ra
    simp only [PyData.shownAll, listText_nil]
    exact ReprK.listEmpty h1 h2 h3
  | cons u us => exact ReprK.list h1 h2 h3 na (by simpa using kb.length_eq) fun i y e => kb.item i y (by simpa using e)
theorem Shw.tuple {us : List Value} {ds : List PyData} (h1 : h.get? a = some o) (h2 : o.cls = .type "tuple") (h3 : o.data = .seq us.toArray n) (l : ShwA P w h us ds) : Shw P w h (.ref a) (.tuple ds) := by
  obtain ⟨as, ra⟩ := l.rd
  have r : Reads h (.ref a) (.tuple ds) _ := .tuple h1 h2 h3 ra
  refine ⟨⟨_, r⟩, fun hs hz => ?_, fun hs hz A E s Q hg hu hk hQ => ?_⟩
  rotate_left
  · simp only [PyData.showable] at hs
    simp only [PyData.shown] at hz hQ
    simp only [PyData.depth] at hu
    obtain ⟨bs, mb, kb⟩ := l.rk hs fun t ht => Nat.le_trans (tupleText_mem_le ht) hz
    refine call_repr_slot (T := "tuple") (by omega) ⟨o, hk _ _ h1, h2⟩ F.slot_tuple_repr ?_
    exact call_tuple_reprK h1 h2 h3 (not_mem_of_deeper r (by simp only [PyData.depth]; omega) mb) kb hg (fun b _ => Clear.nil b) (by show A.units + 1 + _ < cLine; omega) hk (fun h' u tk kp => ⟨_, _, rfl, hQ h' u tk kp⟩) hz
  simp only [PyData.showable] at hs
  simp only [PyData.shown] at hz
  obtain ⟨bs, mb, kb⟩ := l.rk hs fun t ht => Nat.le_trans (tupleText_mem_le ht) hz
  refine ⟨a :: bs, ReadAtMost.cons r (by simp only [PyData.depth]; omega) mb, ?_⟩
  simp only [PyData.depth, PyData.shown]
  exact ReprK.tuple h1 h2 h3 (not_mem_of_deeper r (by simp only [PyData.depth]; omega) mb) kb
theorem Shw.dict {es : Array DictEntry} {ds : List (PyData × PyData)} (h1 : h.get? a = some o) (h2 : o.cls = .type "dict") (h3 : o.data = .dict es n) (lo : (a == sysModules) = false) (lk : ShwA P w h (es.toList.map (·.key)) (ds.map (·.1))) (lv : ShwA P w h (es.toList.map (·.val)) (ds.map (·.2))) : Shw P w h (.ref a) (.dict ds) := by
  obtain ⟨as, ra⟩ := lk.rd
  obtain ⟨bs, rb⟩ := lv.rd
  have r : Reads h (.ref a) (.dict ds) _ := .dict h1 h2 h3 ra rb
  refine ⟨⟨_, r⟩, fun hs hz => ?_, fun hs hz A E s Q hg hu hk hQ => ?_⟩
  rotate_left
  · simp only [PyData.showable] at hs
    simp only [PyData.shown] at hz
    simp only [PyData.shown, PyData.shownKv_eq] at hQ
    simp only [PyData.depth] at hu
    obtain ⟨s1, s2⟩ := PyData.showableKv_split ds hs
    obtain ⟨b1, m1, k1⟩ := lk.rk s1 fun t ht => let ⟨p, hp, hl⟩ := PyData.shownKv_key_le ds t ht; Nat.le_trans hl (Nat.le_trans (dictText_mem_le hp) hz)
    obtain ⟨b2, m2, k2⟩ := lv.rk s2 fun t ht => let ⟨p, hp, hl⟩ := PyData.shownKv_val_le ds t ht; Nat.le_trans hl (Nat.le_trans (dictText_mem_le hp) hz)
    have m : ReadAtMost h (PyData.depthKv ds) (b1 ++ b2) := (m1.mono (PyData.depthAll_keys_le ds)).append (m2.mono (PyData.depthAll_vals_le ds))
    refine call_repr_slot (T := "dict") (by omega) ⟨o, hk _ _ h1, h2⟩ F.slot_dict_repr ?_
    exact call_dict_reprK h1 h2 h3 lo (not_mem_of_deeper r (by simp only [PyData.depth]; omega) m) (ReprEntriesK.of_two es.toList _ _ (k1.more_le (fun b hb => List.mem_append.mpr (.inl hb)) (PyData.depthAll_keys_le ds)) (k2.more_le (fun b hb => List.mem_append.mpr (.inr hb)) (PyData.depthAll_vals_le ds)))
      hg (fun b _ => Clear.nil b) (by show A.units + 1 + _ < cLine; omega) hk (fun h' u tk kp => ⟨_, _, rfl, hQ h' u tk kp⟩) (by rw [← PyData.shownKv_eq]; exact hz)
  simp only [PyData.showable] at hs
  simp only [PyData.shown] at hz
  obtain ⟨s1, s2⟩ := PyData.showableKv_split ds hs
  obtain ⟨b1, m1, k1⟩ := lk.rk s1 fun t ht => let ⟨p, hp, hl⟩ := PyData.shownKv_key_le ds t ht; Nat.le_trans hl (Nat.le_trans (dictText_mem_le hp) hz)
  obtain ⟨b2, m2, k2⟩ := lv.rk s2 fun t ht => let ⟨p, hp, hl⟩ := PyData.shownKv_val_le ds t ht; Nat.le_trans hl (Nat.le_trans (dictText_mem_le hp) hz)
  have m : ReadAtMost h (PyData.depthKv ds) (b1 ++ b2) := (m1.mono (PyData.depthAll_keys_le ds)).append (m2.mono (PyData.depthAll_vals_le ds))
  refine ⟨a :: (b1 ++ b2), ReadAtMost.cons r (by simp only [PyData.depth]; omega) m, ?_⟩
  simp only [PyData.depth, PyData.shown, PyData.shownKv_eq]
  exact ReprK.dict h1 h2 h3 lo (not_mem_of_deeper r (by simp only [PyData.depth]; omega) m) (ReprEntriesK.of_two es.toList _ _ (k1.more_le (fun b hb => List.mem_append.mpr (.inl hb)) (PyData.depthAll_keys_le ds)) (k2.more_le (fun b hb => List.mem_append.mpr (.inr hb)) (PyData.depthAll_vals_le ds)))
theorem Shw.leaf {u : Value} {d : PyData} {as : List Addr} (r : Reads h u d as) (k : d.showable = true → d.shown.length ≤ sizeLine → ReprIs P w u d.shown)
    (t : d.showable = true → d.shown.length ≤ sizeLine → ∀ (A : Around) (E : Value → Shared → Prop) (s : Shared) (Q : Value → Shared → Prop), Q (.str d.shown s.toks) { s with toks := s.toks + 1 } → wpAny (model P w) A (call (.builtin "repr") [u]) Q E s) : Shw P w h u d :=
  ⟨⟨_, r⟩, fun hs hz => ⟨[], (fun _ m => nomatch m), .of_is (k hs hz) _ _ _⟩, fun hs hz A E s Q _ _ _ hQ => t hs hz A E s Q (hQ s.heap _ _ fun _ _ e => e)⟩
theorem Shw.none : Shw P w h .none .none := .leaf .none (fun _ _ => ReprIs.none) fun _ _ A E s Q q => PySem.P.repr_of_none q
theorem Shw.bool (k : Bool) : Shw P w h (.bool k) (.bool k) := .leaf (.bool k) (fun _ _ => ReprIs.bool k) fun _ _ A E s Q q => PySem.P.repr_of_bool q
theorem Shw.int (i : Int) (t : Tok) : Shw P w h (.int i t) (.int i) := .leaf (.int i t) (fun hs _ => ReprIs.int t (by simpa [PyData.showable] using hs)) fun hs _ A E s Q q => PySem.P.repr_of_int (by simpa [PyData.showable] using hs) q
theorem Shw.str (x : Str) (t : Tok) : Shw P w h (.str x t) (.str x) := .leaf (.str x t) (fun _ hz => ReprIs.str x t (by simpa only [PyData.shown] using hz)) fun _ hz A E s Q q => PySem.P.repr_of_str (by simpa only [PyData.shown] using q) (by simpa only [PyData.shown] using hz)
end
theorem shwKeys {P : Program} {w : World} {h : Heap} : ∀ {es : List DictEntry} {kvs : List (Key × V)} {vs : List (Key × Value)}, KV kvs vs → Pairs (mixKind P w) es vs → ShwA P w h (es.map (·.key)) (kvs.map fun p => kD p.1) ∧ Vals (kvs.map (·.2)) (es.map (·.val))
  | _, _, _, .nil, .nil => ⟨.nil, .nil⟩
  | _, _, _, .cons (a := p) (b := q) r t, .cons (e := en) hk hv hp => by
    obtain ⟨l1, l2⟩ := shwKeys (h := h) t hp
    obtain ⟨p1, p2⟩ := p
    obtain ⟨q1, q2⟩ := q
    obtain ⟨r1, r2⟩ := r
    have r1' : p1 = q1 := r1
    subst r1'
    refine ⟨?_, .cons (show L2.RelV p2 en.val by rw [hv]; exact r2) l2⟩
    rw [List.map_cons, List.map_cons]
    have kk : keyIs p1 en.key = true := hk
    rcases keyIs_shape kk with ⟨i, u, a1, a2⟩ | ⟨x, u, a1, a2⟩
    · subst a1
      rw [a2]
      exact .cons (.int i u) l1
    · subst a1
      rw [a2]
      exact .cons (.str x u) l1
mutual
theorem Rq.shw (I : Inv X pins σ H s) : ∀ {v : V} {d : PyData}, Rq Z H v d → ∀ u, RelV v u → Shw X.prog X.w s.heap u d
  | _, _, .non, _, r => by cases r; exact .none
  | _, _, .bl k, _, r => by cases r; exact .bool k
  | _, _, .int i, _, r => by obtain ⟨t, rfl⟩ := r; exact .int i t
  | _, _, .str x, _, r => by obtain ⟨t, rfl⟩ := r; exact .str x t
  | _, _, .lst e _ q, _, r => by
    cases r
    obtain ⟨its, rv, ⟨o, m, ho, hc, _, hd⟩, _⟩ := I.list (SqL.of e)
    exact .list ho hc hd (Rqs.shw I q _ rv)
  | _, _, .tup e _ _ q, _, r => by
    cases r
    obtain ⟨its, rv, ⟨o, ho, hc, m, hd⟩, _⟩ := I.tuple (SqT.th e)
    exact .tuple ho hc hd (Rqs.shw I q _ rv)
  | _, _, .dct e _ q, _, r => by
    cases r
    obtain ⟨_, lo, vs, kv, o, es, ep, ho, he, hd, _, hp, _⟩ := dk_of I.hok e
    obtain ⟨k1, k2⟩ := shwKeys (P := X.prog) (w := X.w) (h := s.heap) kv hp
    obtain ⟨l2, l3⟩ := Rqk.shw I q _ k2
    rw [l3] at k1
    exact .dict ho he.1 hd lo k1 l2
theorem Rqs.shw (I : Inv X pins σ H s) : ∀ {v : List V} {d : List PyData}, Rqs Z H v d → ∀ u, Vals v u → ShwA X.prog X.w s.heap u d
  | _, _, .nil, _, r => by cases r; exact .nil
  | _, _, .cons q t, _, r => by
    cases r with
    | cons r rr => exact .cons (Rq.shw I q _ r) (Rqs.shw I t _ rr)
theorem Rqk.shw (I : Inv X pins σ H s) : ∀ {v : List (Key × V)} {d : List (PyData × PyData)}, Rqk Z H v d → ∀ u, Vals (v.map (·.2)) u → ShwA X.prog X.w s.heap u (d.map (·.2)) ∧ v.map (fun p => kD p.1) = d.map (·.1)
  | _, _, .nil, _, r => by cases r; exact ⟨.nil, rfl⟩
  | _, _, .cons q t, _, r => by
    cases r with
    | cons r rr =>
      obtain ⟨h1, h2⟩ := Rqk.shw I t _ rr
      exact ⟨.cons (Rq.shw I q _ r) h1, by rw [List.map_cons, List.map_cons, h2]⟩
end
end
section
variable {X : Cx} {b : Bg} {W : WX} {e : Expr} {u : VA} {p pos : Pos}
/-- data that repr can show here -/
structure ReprOk (d : PyData) : Prop where
  sh : d.showable = true
  len : d.shown.length ≤ sizeLine
  dep : d.depth ≤ 40
@[simp] def gRepr : List D → (D → Prop) → Prop
  | [.py d], Q => ReprOk d ∧ Q (.py (.str d.shown))
  | _, _ => False
def rRepr : List V → Hp → VK → Prop := fun xs H Q => ∃ v d, xs = [v] ∧ Rq nz H v d ∧ d.showable = true ∧ d.shown.length ≤ sizeLine ∧ d.depth ≤ 40 ∧ Q (.str d.shown) H
theorem call_repr (hu : X.A.units + 64 < cLine) (hg : X.A.guards = some []) : CallR X (.builtin "repr") rRepr := by
  intro pins s σ H xs us Q I r ⟨v, d, e, q, h1, h2, h3, k⟩
  subst e
  obtain ⟨u, rfl, ru⟩ := vals1 r
  refine (Rq.shw I q _ ru).top h1 h2 X.A X.xe s _ hg (by omega) (fun _ _ e => e) fun h' t tk kp => ⟨.str d.shown, H, I.kept (t' := tk) kp, ⟨t, rfl⟩, k⟩
theorem rd_repr : CalD b (RE b) rRepr gRepr := by
  intro Z H vs ds Q Qd gd rx h k
  match ds, h, rx with
  | [.py d], ⟨⟨h1, h2, h3⟩, h⟩, rx =>
    obtain ⟨x, rfl, r⟩ := rx.one
    exact ⟨x, d, rfl, r.q, h1, h2, h3, k _ H (.py (.str _)) Ex.refl gd.g (.str _) h⟩
theorem ve_repr (hu : X.A.units + 64 < cLine) (hgd : X.A.guards = some []) (hg : Gl X "repr") (hm : X.mg "repr" = none) (ha : VXs X b W [e] u) (he : starEach [e] X.env = (false, eval e X.env) :: starEach [] X.env := by rfl) (hpl : (backTo pos (starEach [] X.env)).any (·.1) = false := by rfl) :
    VE X b W (.Call (.Name "repr" p) [e] [] pos) (vCal gRepr u) := ve_callB (call_repr hu hgd) rd_repr hg hm (by decide +kernel) ha (by decide) (by decide) he hpl
end
end VL
set_option Elab.async false
set_option linter.all false
set_option maxRecDepth 100000
set_option maxHeartbeats 4000000
namespace VL
open PySem PySem.Spec PyProof.Rows L2
/-! ### the law itself: called where nothing is being shown -/
structure FnG (P : Program) (w : World) (K : PySem.W.Frag) (mg : Str → Option Value) (base : Heap) (k : Nat) (f : Addr) (fd : FuncData) (ps : List Str) (sp : Sp) : Prop where
  run : ∀ (A : Around) (outer : List Env) (s : Shared) (H : Hp) (args : Args) (us : List Value) (vs : List V) (Q : VK) (E : XK), Room k A → A.guards = some [] → Env0 P w K mg base A outer s H → BindsTo s fd args (ps.zip us) → Vals vs us → sp vs H Q E →
    codeAny (model P w) A (.call (.ref f) args) (CR (L2.CX P w) outer P w H s Q E) s
section
variable {P : Program} {w : World} {K : PySem.W.Frag} {mg : Str → Option Value} {base : Heap} {k : Nat} {x qual : Str} {st : Stmt} {f : Addr} {fd : FuncData} {N ps : List Str} {sp : Sp}
theorem fnG (F : Fun K x qual st f fd) (S : FnScope N ps (defScope st)) (len : ∀ vs H Q E, sp vs H Q E → vs.length = ps.length)
    (hbody : ∀ (cdv : Value) (A : Around) (outer : List Env) (s : Shared) (H : Hp) (vs : List V) (Q : VK) (E : XK), Room k (A.deeper (envOfC qual (defScope st) s.heap.objs.size f cdv)) → (A.deeper (envOfC qual (defScope st) s.heap.objs.size f cdv)).guards = some [] → sp vs H Q E →
      ∃ t, PSs (cxOf (L2.CX P w) P w K mg base N qual (defScope st) f cdv A outer s H E) (defBody st) t ∧ t { nx := fun _ H' => Q .non H', rt := Q } (L2.start N vs) H) : FnG P w K mg base (k + 1) f fd ps sp := by
  obtain ⟨oc, od, kV, doc, pm, an, cdv, ct, osl, rfl, lk, hcd⟩ := F.ex
  refine ⟨fun A outer s H args us vs Q E hr hgd e0 hb rv hsp => ?_⟩
  have nl : s.heap.NoLimit := e0.mod.nolimit.keeps fun b o e => (e0.bs b o e).1
  have kin : K.In s.heap := e0.mod.kin.keeps fun b o e => (e0.bs b o e).1
  have kinds : ∀ y ∈ ps.zip us, (defScope st).names.lookup y.1 = some .local ∨ ((defScope st).names.lookup y.1 = some .cell ∧ ((cellsFrom (s.heap.objs.size + 1) (defScope st).names []).lookup y.1).isSome = true) := fun ⟨n, v⟩ hy =>
    (S.par n (List.of_mem_zip hy).1).imp id fun q => ⟨q, PySem.W.cellsFrom_some _ _ _ (.inl q)⟩
  refine codeAny_call_function hr.depth (kin _ _ lk) rfl S.co S.gen rfl (PySem.W.codeRec_of kin hcd) (hb _ _ _ _ (wpAny_newFunctionEnv_cells S.kind kinds fun env he s1 ic => ?_))
  subst he
  refine ⟨nl.keeps ic.toInCall.keep, codeAny_func ?_⟩
  obtain ⟨t, ht, hq⟩ := hbody cdv A outer s H vs Q E (hr.deeper _) hgd hsp
  refine wpAny_mono (ht.run [] s1 (L2.start N vs) H _ (inv_start S hr.hd e0 (len _ _ _ _ hsp) rv ic) hq) (fun fl s' hs => ?_) fun e s' hs => hs
  cases fl with
  | ret u =>
    obtain ⟨v, σ', H', J, rv', q⟩ := hs
    exact ⟨v, H', J.os, J.bare, J.base, J.hok, rv', q⟩
  | next =>
    obtain ⟨σ', H', J, q⟩ := hs
    exact ⟨.non, H', J.os, J.bare, J.base, J.hok, rfl, q⟩
  | brk => exact hs.elim fun _ h => h.elim fun _ h => h.2.elim
  | cont => exact hs.elim fun _ h => h.elim fun _ h => h.2.elim
end
/-- at the heap behind the top -/
theorem lawG {P : Program} {w : World} {K : PySem.W.Frag} {mg mb : Str → Option Value} {k : Nat} {fa a : Addr} {fd : FuncData} {x : Str} {sp : Sp} {s0 : Shared} {vs : List Value} {ns : List Int}
    (KX : K.In s0.heap) (hns : s0.heap.Ns mainGlobals mg) (hb : s0.heap.Ns builtinsNs mb) (hbb : ∀ x : Str, x ≠ "__name__" → mb x = bootBuiltins x) (hlim : s0.heap.NoLimit) (hgens : s0.gens = #[])
    (ha : s0.heap.get? a = some { cls := .type "list", data := .seq vs.toArray }) (hi : IntsAre vs ns) (hl : ns.length ≤ sizeLine) (hr : Room k callerA)
    (F : ∀ base : Heap, K.In base → base.Ns mainGlobals mg → FnG P w K mg base k fa fd [x] sp) (hbind : ∀ (s : Shared) (u : Value), BindsTo s fd ⟨[u], []⟩ [(x, u)])
    (hsp : ∀ H : Hp, Only H → SqL K H a (ns.map V.int) → sp [.ref a] H (fun v _ => v = .bl true) fun _ _ _ => False) :
    codeAny (model P w) callerA (.call (.ref fa) ⟨[.ref a], []⟩) (fun r s' => r = .ok (.ret (.bool true)) ∧ OldK s0.heap s'.heap ∧ s'.os = s0.os ∧ AllBare s'.gens) s0 := by
  have rv := vals_ints hi
  -- whatever is tracked is the script
  have go : ∀ H : Hp, Only H → SqL K H a (ns.map V.int) → HOk P w H s0.heap → (∀ b, H b ≠ none → b = a) → (H a ≠ none → K.lookup a = none) →
      codeAny (model P w) callerA (.call (.ref fa) ⟨[.ref a], []⟩) (fun r s' => r = .ok (.ret (.bool true)) ∧ OldK s0.heap s'.heap ∧ s'.os = s0.os ∧ AllBare s'.gens) s0 := by
    intro H hO hS hok hA hK
    have only_a : ∀ {b : Addr} {u : HO}, H b = some u → b = a := fun {b u} q => hA b (by rw [q]; simp)
    have low : ∀ {b : Addr} {o : Obj}, s0.heap.get? b = some o → H b = none → (hidT s0.heap H).get? b = some o := fun e n => hidT_get e n
    have nsk : ∀ {b : Addr} {m : Str → Option Value}, s0.heap.Ns b m → (hidT s0.heap H).Ns b m := fun {b m} ⟨o, es, ep, e, d, r⟩ => ⟨o, es, ep, low e (by
      cases q : H b with
      | none => rfl
      | some u =>
        rw [only_a q, ha] at e
        cases e
        have d' : Data.seq vs.toArray _ = Data.dict es ep := d
        cases d'), d, r⟩
    have kb : K.In (hidT s0.heap H) := fun b o e => low (KX b o e) (by
      cases q : H b with
      | none => rfl
      | some u =>
        have eb := only_a q
        subst eb
        rw [hK (by rw [q]; simp)] at e
        cases e)
    obtain ⟨mc, c1, c2⟩ := hlim
    have env : Env0 P w K mg (hidT s0.heap H) callerA [] s0 H := ⟨rfl, ⟨kb, nsk hns, ⟨mb, nsk hb, hbb⟩, ⟨mc, nsk c1, c2⟩⟩, fun b o e => of_hidT e, Nat.le_of_eq (hidT_size _ _), trivial, (fun b m => nomatch (show b ∈ ([] : List Addr) from m)), hok, .of_eq hgens⟩
    refine codeAny_mono ((F _ kb (nsk hns)).run callerA [] s0 H ⟨[.ref a], []⟩ [.ref a] [.ref a] _ _ hr rfl env (hbind s0 (.ref a)) (.cons rfl .nil) (hsp H hO hS)) fun r s' h => ?_
    match r, h with
    | .error e, h => obtain ⟨_, _, _, _, _, _, _, _, _, _, _, _, z⟩ := h; exact z.elim
    | .ok .next, h => exact (show False from h).elim
    | .ok .brk, h => exact (show False from h).elim
    | .ok .cont, h => exact (show False from h).elim
    | .ok (.ret u), h =>
      obtain ⟨v, H', os, bare, un, hok', r', q⟩ := h
      have ev : v = .bl true := q
      subst ev
      obtain rfl : u = Value.bool true := r'
      refine ⟨rfl, OldK.of_keep fun b o e => ?_, os, bare⟩
      cases q : H b with
      | none => exact un.keep b o e q (fun z => nomatch (show b ∈ ([] : List Addr) from z)) (by simp)
      | some u =>
        rcases hO b with z | ⟨ob, xs, z⟩
        · rw [q] at z; cases z
        · obtain ⟨e1, _⟩ := hok b _ z
          obtain ⟨e2, _⟩ := hok' b _ (un.frzs b ob _ z)
          rw [e] at e1; cases e1
          exact e2
  cases hk : K.lookup a with
  | some o =>
    have e := KX a o hk
    rw [ha] at e
    cases e
    refine go (fun _ => none) (fun _ => .inl rfl) (.inr ⟨_, vs.toArray, _, hk, rfl, rfl, rfl, by rw [List.size_toArray, hi.length]; exact hl, by simpa using rv⟩) (fun b u z => nomatch (show (none : Option HO) = some u from z)) (fun b z => absurd rfl z) fun z => absurd rfl z
  | none =>
    have at1 : ∀ b, b ≠ a → (if b = a then some (HO.frz { cls := .type "list", data := .seq vs.toArray } (.lst (ns.map V.int))) else none) = none := fun b hb => if_neg hb
    refine go (fun b => if b = a then some (.frz { cls := .type "list", data := .seq vs.toArray } (.lst (ns.map V.int))) else none) (fun b => ?_) (.inl (.inr ⟨_, if_pos rfl⟩)) (fun b u z => ?_) (fun b z => Classical.byContradiction fun n => z (at1 b n)) fun _ => hk
    · by_cases hb : b = a
      · exact .inr ⟨_, _, if_pos hb⟩
      · exact .inl (at1 b hb)
    · by_cases hb : b = a
      · have z' := (if_pos hb).symm.trans z
        cases z'
        subst hb
        exact ⟨ha, by rw [List.length_map]; exact hl, vs, _, rv, ha⟩
      · have z' := (at1 b hb).symm.trans z
        cases z'
/-- the end -/
theorem walkG {l : PySem.W.OpenLaw} {n k : Nat} {q : Program} {loose : List Str} {XP : (Str → Option Value) → Heap → Prop} {YP : World → Heap → Prop} {d : DefRec} {K : Params → PySem.W.Frag} {sp : World → Sp} {x : Str}
    (hn : l.most = some n) (hn2 : n ≤ sizeLine) (hdf : d.params.defaults = []) (hr : Room k callerA) (hY : ∀ (w : World) (h : Heap), YP w h → (K w.params).In h)
    (F : ∀ (w : World) (mg : Str → Option Value) (fa : Addr) (h : Heap), (K w.params).In h → h.Ns mainGlobals mg → mg d.name = some (.ref fa) →
      ∃ fd : FuncData, (∀ (s : Shared) (u : Value), BindsTo s fd ⟨[u], []⟩ [(x, u)]) ∧ ∀ base : Heap, (K w.params).In base → base.Ns mainGlobals mg → FnG l.prog w (K w.params) mg base k fa fd [x] (sp w))
    (hsp : ∀ (w : World) (H : Hp) (a : Addr) (ns : List Int), ns.length ≤ n → Only H → SqL (K w.params) H a (ns.map V.int) → sp w [.ref a] H (fun v _ => v = .bl true) fun _ _ _ => False) :
    PySem.W.WalkO q loose XP YP l.row.toRowW d [] (fun f vs => PySem.call f vs) := by
  refine Att.attach_call hn hdf fun w s s0 mg mb fa o pm cd doc a vs ns G Y ho hd hcd hmg hobj hints hlen hg => ?_
  obtain ⟨fd, hb, hF⟩ := F w mg fa _ (hY w _ Y) G.T.g hmg
  exact lawG (hY w _ Y) G.T.g G.T.b G.T.builtins G.T.nolimit hg hobj hints (Nat.le_trans hlen hn2) hr hF hb fun H hO hS => hsp w H a ns hlen hO hS
end VL
set_option Elab.async false
set_option linter.all false
set_option maxRecDepth 100000
set_option maxHeartbeats 4000000
namespace VL
open PySem PySem.Spec PyProof.Rows L2
/-! ### // by a divisor below 2 ** 200 -/
def CDivB (i j : Int) : Prop := j ≠ 0 ∧ j.natAbs < 1606938044258990275541962092341162602522202993782792835301376
theorem op_fdivB {X : Cx} : OpR X (binaryOp .FloorDiv) (rI CDivB fun i j => .int (i.fdiv j)) := opI fun i j _ _ _ _ _ hc q => floordiv_int hc.1 q (.inl (PyProof.noPylong_of_log2 (by
  have h0 : j.natAbs ≠ 0 := by have := hc.1; omega
  have h := hc.2
  have h200 : j.natAbs.log2 < 200 := (Nat.log2_lt h0).mpr h
  omega)))
/-! ### a bag of drawn numbers: a dict with two lists, its own -/
abbrev kG : Key := .inr "great"
abbrev kC : Key := .inr "cells"
abbrev kN : Key := .inr "drawn"
def bagAt (r l1 l2 : Addr) (gs ds : List Int) (n : Int) (H : Hp) : Prop :=
  H r = some (.dK [(kG, .ref l1), (kC, .ref l2), (kN, .int n)]) ∧ H l1 = some (.lst (gs.map V.int)) ∧ H l2 = some (.lst (ds.map V.int)) ∧ gs.length ≤ 63 ∧ ds ≠ [] ∧ l1 ≠ l2
theorem bagAt.rl1 {r l1 l2 : Addr} {gs ds : List Int} {n : Int} {H : Hp} (h : bagAt r l1 l2 gs ds n H) : r ≠ l1 := fun e => by rw [e] at h; have h1 := h.1; rw [h.2.1] at h1; cases h1
theorem bagAt.rl2 {r l1 l2 : Addr} {gs ds : List Int} {n : Int} {H : Hp} (h : bagAt r l1 l2 gs ds n H) : r ≠ l2 := fun e => by rw [e] at h; have h1 := h.1; rw [h.2.2.1] at h1; cases h1
/-- the surroundings: the classes, the bag -/
def bagB (cls : Str → Addr) (r l1 l2 : Addr) : Bg where
  cls := cls
  B := fun a => a = r ∨ a = l1 ∨ a = l2
  G := fun H => ∃ gs ds n, bagAt r l1 l2 gs ds n H
  loc := fun H H' h _ ⟨gs, ds, n, h1, h2, h3, h4⟩ => ⟨gs, ds, n, by rw [h r (.inl rfl)]; exact h1, by rw [h l1 (.inr (.inl rfl))]; exact h2, by rw [h l2 (.inr (.inr rfl))]; exact h3, h4⟩
  dom := fun H a ⟨gs, ds, n, h1, h2, h3, _⟩ h => by
    rcases h with rfl | rfl | rfl
    · rw [h1]; simp
    · rw [h2]; simp
    · rw [h3]; simp
/-- at a call: nothing but the bag is changed -/
def KeepB (r l1 l2 : Addr) (H H' : Hp) : Prop := ∀ a o, H a = some o → a ≠ r → a ≠ l1 → a ≠ l2 → H' a = some o
theorem KeepB.ex {cls : Str → Addr} {r l1 l2 : Addr} {H H' : Hp} (k : KeepB r l1 l2 H H') : Ex (bagB cls r l1 l2) H H' := fun a o e n => k a o e (fun h => n (.inl h)) (fun h => n (.inr (.inl h))) fun h => n (.inr (.inr h))
theorem KeepB.refl {r l1 l2 : Addr} {H : Hp} : KeepB r l1 l2 H H := fun _ _ e _ _ _ => e
theorem KeepB.upd {r l1 l2 p : Addr} {H H1 : Hp} {o : HO} (h : KeepB r l1 l2 H H1) (hp : p = r ∨ p = l1 ∨ p = l2 ∨ H1 p = none) : KeepB r l1 l2 H (upd H1 p o) := fun a u e n1 n2 n3 => by
  have e1 := h a u e n1 n2 n3
  rw [upd_ne (fun q => by
    subst q
    rcases hp with q | q | q | q
    · exact n1 q
    · exact n2 q
    · exact n3 q
    · rw [q] at e1; cases e1)]
  exact e1
/-- what the def that draws one number promises: below many, in the heap -/
def spTake : Sp := fun vs H Q _ => ∃ r l1 l2 gs ds n, ∃ m : Int, vs = [.ref r, .int m] ∧ bagAt r l1 l2 gs ds n H ∧ 0 < m ∧ m < 1606938044258990275541962092341162602522202993782792835301376 ∧ ∀ H' gs' n' x, KeepB r l1 l2 H H' → bagAt r l1 l2 gs' ds n' H' → 0 ≤ x → x < m → Q (.int x) H'
/-- .. over values -/
@[simp] def svTake (r : Addr) : SV
  | [.raw v, .py (.int m)], Q, _ => v = .ref r ∧ 0 < m ∧ m < 1606938044258990275541962092341162602522202993782792835301376 ∧ ∀ x : Int, 0 ≤ x → x < m → Q (.py (.int x))
  | _, _, _ => False
theorem svTake_ex {r : Addr} : ∀ {ds : List D} {Q : D → Prop} {E : Er → Prop}, svTake r ds Q E → ∃ m : Int, ds = [.raw (.ref r), .py (.int m)] ∧ 0 < m ∧ m < 1606938044258990275541962092341162602522202993782792835301376 ∧ ∀ x : Int, 0 ≤ x → x < m → Q (.py (.int x))
  | [.raw v, .py (.int m)], _, _, ⟨e, h⟩ => ⟨m, by rw [e], h⟩
theorem take_v {P : Program} {w : World} {K : PySem.W.Frag} {mg : Str → Option Value} {base : Heap} {k : Nat} {f : Addr} {fd : FuncData} {ps : List Str} {CX : CXT} {cls : Str → Addr} {r l1 l2 : Addr} (h : FnOk P w K mg base CX k f fd ps spTake) : FnOk P w K mg base CX k f fd ps (spV (bagB cls r l1 l2) (svTake r)) :=
  h.imp fun vs H Q E ⟨Z, ds, Qd, Ed, g, rp, hh, l, _⟩ => by
    obtain ⟨m, ed, h1, h2, q⟩ := svTake_ex hh
    subst ed
    obtain ⟨x, y, rfl, rx, ry⟩ := rbs2 rp
    have ex : x = .ref r := rx
    have ey : y = .int m := Rb.int (b := bagB cls r l1 l2) (.inl ry)
    subst ex ey
    obtain ⟨gs, ds, n, hb⟩ := g.g
    exact ⟨r, l1, l2, gs, ds, n, m, rfl, hb, h1, h2, fun H' gs' n' x kp b' x0 x1 => l (.int x) H' (.py (.int x)) kp.ex ⟨gs', ds, n', b'⟩ (.int x) (q x x0 x1)⟩
def AllIn (xs : List PyData) (R : PyData → Prop) : Prop := ∀ y ∈ xs, R y
theorem AllIn.of {xs : List PyData} {R S : PyData → Prop} (h : ∀ y ∈ xs, S y) (k : ∀ y, S y → R y) : AllIn xs R := fun y hy => k y (h y hy)
/-- an item of a list or tuple, by a drawn number -/
@[simp] def svPick (r : Addr) : SV
  | [.raw v, .py (.list xs)], Q, _ => v = .ref r ∧ xs ≠ [] ∧ xs.length < 1606938044258990275541962092341162602522202993782792835301376 ∧ AllIn xs fun y => Q (.py y)
  | [.raw v, .py (.tuple xs)], Q, _ => v = .ref r ∧ xs ≠ [] ∧ xs.length < 1606938044258990275541962092341162602522202993782792835301376 ∧ AllIn xs fun y => Q (.py y)
  | [.raw v, .py (.str z)], Q, _ => v = .ref r ∧ z.length ≤ sizeLine ∧ signsD z ≠ [] ∧ AllIn (signsD z) fun y => Q (.py y)
  | _, _, _ => False
theorem signsD_len (z : Str) : (signsD z).length = z.length := by unfold signsD; rw [List.length_map, Array.length_toList]; rfl
theorem svPick_ex {r : Addr} : ∀ {ds : List D} {Q : D → Prop} {E : Er → Prop}, svPick r ds Q E → ∃ p xs, ds = [.raw (.ref r), .py p] ∧ (p = .list xs ∨ p = .tuple xs ∨ ∃ z, p = .str z ∧ z.length ≤ sizeLine ∧ xs = signsD z) ∧ xs ≠ [] ∧ xs.length < 1606938044258990275541962092341162602522202993782792835301376 ∧ ∀ y, y ∈ xs → Q (.py y)
  | [.raw v, .py (.list xs)], _, _, ⟨e, h⟩ => ⟨_, xs, by rw [e], .inl rfl, h⟩
  | [.raw v, .py (.tuple xs)], _, _, ⟨e, h⟩ => ⟨_, xs, by rw [e], .inr (.inl rfl), h⟩
  | [.raw v, .py (.str z)], _, _, ⟨e, h1, h2, h3⟩ => ⟨_, _, by rw [e], .inr (.inr ⟨z, rfl, h1, rfl⟩), h2, by rw [signsD_len]; rw [sizeLine_eq] at h1; omega, h3⟩
/-- what the first def promises: a new bag -/
def spOpened (K : PySem.W.Frag) : Sp := fun vs H Q _ => ∃ (a : Addr) (ns : List Int), vs = [.ref a] ∧ SqL K H a (ns.map V.int) ∧ ns.length ≤ 63 ∧ ∀ r l1 l2 gs ds n H', (∀ c o, H c = some o → H' c = some o) → H r = none → H l1 = none → H l2 = none → bagAt r l1 l2 gs ds n H' → Q (.ref r) H'
end VL
namespace VL
open PySem
theorem plain_ints (l : List Int) : PyData.plainAll (l.map PyData.int) = true := by
  induction l with
  | nil => rfl
  | cons a l ih => simp [PyData.plainAll, PyData.plain, ih]
end VL
namespace VL
open PySem PySem.Spec PyProof.Rows L2
/-- no surroundings -/
def bg0 : Bg := ⟨fun _ => 0, fun _ => False, fun _ => True, fun _ _ _ _ _ => trivial, fun _ _ _ h => h.elim⟩
theorem VOk.plain {σ : L2.St} {H : Hp} {ρ : VEnv} (hl : ρ.length = σ.length) (h : ∀ (i : Nat) (s : Slot), ρ[i]? = some s → s = .un ∨ ∃ d v, s = .shr d ∧ σ[i]? = some (some v) ∧ Rp bg0 nz H v d) : VOk bg0 nz nz σ H ρ where
  g := trivial
  zb := fun _ z => z
  zo := fun _ z => z
  dom := fun _ z => z.elim
  zi := fun _ z => z.elim
  own := fun i d e => by rcases h i _ e with q | ⟨d', v, q, _⟩ <;> cases q
  inj := fun i j d e a h1 _ _ _ => by rcases h i _ h1 with q | ⟨d', v, q, _⟩ <;> cases q
  shr := fun i d e => by
    rcases h i _ e with q | ⟨d', v, q, h1, h2⟩
    · cases q
    · cases q; exact ⟨v, h1, h2⟩
  len := hl
theorem cut_ints (ns : List Int) (lo hi : Option Int) : ∃ ms : List Int, cutV (ns.map V.int) lo hi = ms.map V.int ∧ ms.length ≤ ns.length := by
  refine ⟨cutL ns lo hi, ?_, ?_⟩
  · unfold cutV cutL
    rw [List.length_map, List.map_take, List.map_drop]
  · unfold cutL
    rw [List.length_take, List.length_drop]
    omega
abbrev absI (i : Int) : Int := if i < 0 then -i else i
def bigs (k : Int) (cs : List Int) : List Int := cs.filter fun c => decide (k ≤ c)
theorem bigs_go {k : Int} {tt : VB} {te : VT} {ρ : VEnv} {Q : D → Prop} (h : 2 < ρ.length) (htt : ∀ (ρ : VEnv) (c : Int) (Q : Bool → Prop) (E : Er → Prop), ρ[2]? = some (.shr (.py (.int c))) → Q (decide (k ≤ c)) → tt ρ Q E)
    (hte : ∀ (ρ : VEnv) (d : D) (Q : D → Prop) (E : Er → Prop), ρ[2]? = some (.shr d) → Q d → te ρ Q E) : ∀ (cs acc : List Int), acc.length + cs.length ≤ 1000 → Q (.py (.list ((acc ++ bigs k cs).map PyData.int))) → lcGo (tgName 2) tt te Q ((cs.map PyData.int).map D.py) (acc.map PyData.int) ρ
  | [], acc, _, q => by rw [bigs, List.filter_nil, List.append_nil] at q; exact q
  | c :: cs, acc, hl, q => by
    refine ⟨h, htt _ c _ _ (List.getElem?_set_self h) (ite2 (fun hc => hte _ (.py (.int c)) _ _ (List.getElem?_set_self h) ⟨.int c, rfl, ?_, ?_⟩) fun hc => ?_)⟩
    · rw [List.length_map]
      rw [List.length_cons] at hl
      exact Nat.lt_of_le_of_lt (show acc.length ≤ 1000 by omega) (by decide)
    · have e : acc.map PyData.int ++ [PyData.int c] = (acc ++ [c]).map PyData.int := by simp
      rw [e]
      refine bigs_go h htt hte cs (acc ++ [c]) (by simp at hl ⊢; omega) ?_
      rw [bigs, List.filter_cons, if_pos hc] at q
      rw [List.append_assoc]
      exact q
    · refine bigs_go h htt hte cs acc (by simp at hl; omega) ?_
      rw [bigs, List.filter_cons, if_neg hc] at q
      exact q
end VL
set_option Elab.async false
set_option linter.all false
set_option maxRecDepth 100000
set_option maxHeartbeats 4000000
namespace VL
open PySem PySem.Spec PyProof.Rows L2
open Sem (wp)
/-! ### x[::-1] -/
section
variable {prog : Program} {w : World} {A : Around} {E : Value → Shared → Prop} {s : Shared}
theorem applied_back {sl : Addr} {tk : Tok} {n : Nat} {Q : Int × Int × Nat → Shared → Prop} (hs : s.heap.IsSliceOf sl .none .none (.int (-1) tk)) (h : Q ((n : Int) - 1, -1, n) s) : wpAny (model prog w) A (Builtin.Slice.sliceApplied (.ref sl) (pure (n : Int))) Q E s := by
  obtain ⟨os, hos, hcs, hds⟩ := id hs
  unfold Builtin.Slice.sliceApplied Builtin.Slice.sliceFields
  refine wpAny_bind (wpAny_bind (wpAny_field hos hds (x := .none) rfl (wpAny_bind (wpAny_field hos hds (x := .none) rfl (wpAny_bind (wpAny_field hos hds (x := .int (-1) tk) rfl (wpAny_pure ?_)))))))
  refine wpAny_bind (HT.slicePart_ (.int (-1) tk) ?_)
  show wpAny _ _ (if ((-1 : Int) == 0) = true then _ else _) _ _ s
  rw [if_neg (by decide)]
  refine wpAny_bind (HT.slicePart_ .none (wpAny_bind (HT.slicePart_ .none (wpAny_bind (wpAny_pure ?_)))))
  have e : Builtin.Slice.slicePlaces ((n : Int) - 1) (-1) (-1) = n := by
    unfold Builtin.Slice.slicePlaces
    rw [if_neg (by decide)]
    split
    · rw [Int.neg_neg, Int.ediv_one]; omega
    · omega
  show wpAny _ _ (pure ((n : Int) - 1, (-1 : Int), Builtin.Slice.slicePlaces ((n : Int) - 1) (-1) (-1))) _ _ s
  rw [e]
  exact wpAny_pure h
theorem pick_back (xs : Array Value) : ((List.range xs.size).filterMap fun (m : Nat) => xs[((xs.size : Int) - 1 + (m : Int) * (-1)).toNat]?).toArray = xs.toList.reverse.toArray := by
  have e : (fun (m : Nat) => xs[((xs.size : Int) - 1 + (m : Int) * (-1)).toNat]?) = (fun i => xs[i]?) ∘ fun (m : Nat) => ((xs.size : Int) - 1 + (m : Int) * (-1)).toNat := rfl
  rw [e, ← List.filterMap_map]
  have e2 : (List.range xs.size).map (fun (m : Nat) => ((xs.size : Int) - 1 + (m : Int) * (-1)).toNat) = (List.range xs.size).reverse := by
    rw [← PySem.W.krv_range]
    refine List.map_congr_left fun m hm => ?_
    have := List.mem_range.mp hm
    omega
  rw [e2, List.filterMap_reverse, PySem.W.krv_all]
theorem tuple_back {t sl : Addr} {tk : Tok} {items : Array Value} {Q : Value → Shared → Prop} (ht : IsTup s.heap t items) (hs : s.heap.IsSliceOf sl .none .none (.int (-1) tk)) (hsz : items.size ≤ sizeLine)
    (h : Q (.ref s.heap.objs.size) { s with heap := s.heap.push { cls := .type "tuple", data := .seq items.toList.reverse.toArray } }) : wpAny (model prog w) A (getItem (.ref t) (.ref sl)) Q E s := by
  obtain ⟨os, hos, hcs, hds⟩ := id hs
  have hTs : s.TypeIs (.ref sl) "slice" := ⟨os, hos, hcs⟩
  have hz : sizeOk (.seq items.toList.reverse.toArray) := by
    show items.toList.reverse.toArray.size ≤ sizeLine
    rw [List.size_toArray, List.length_reverse, Array.length_toList]
    exact hsz
  unfold getItem
  try with_reducible refine wpAny_holding ?_
  first | refine wpAny_bind (wpAny_pure ?_) | skip
  refine wpAny_bind (wpAny_sequenceKey ht.typeIs (by decide) ?_)
  refine wpAny_bind (wpAny_callSpecial?_slot (name := Str.ofString "__getitem__") ht.typeIs PyProof.Rows.slot_tuple_getitem (wpAny_call_entry PyProof.Rows.slot_tuple_getitem ht.typeIs PyProof.Rows.entry_tuple_getitem ?_ (PyProof.Rows.args_tuple_getitem _ _)))
  show wpAny _ _ (Builtin.Tuple.tupleItemsOf (.ref t) >>= _) _ _ s
  refine wpAny_bind (tupleItemsOf_ ht (wpAny_bind (wpAny_typeOf hTs ?_)))
  rw [if_pos (by decide)]
  refine wpAny_bind (applied_back hs ?_)
  show wpAny _ _ (if ((items.size : Int) - 1 == 0 && (-1 : Int) == 1 && items.size == items.size) = true then _ else _) _ _ s
  rw [if_neg (by rw [show ((-1 : Int) == 1) = false by decide, Bool.and_false, Bool.false_and]; exact Bool.false_ne_true), pick_back]
  first
    | exact wpAny_bind (m := Builtin.Tuple.tupleExact _) (wpAny_newObj_type (wpAny_pure ⟨_, rfl, wpAny_pure h⟩) hz)
    | exact wpAny_bind (m := Builtin.Tuple.tupleExact _) (wpAny_newObj_type (wpAny_bind (wpAny_pure (wpAny_pure ⟨_, rfl, wpAny_pure h⟩))) hz)
    | exact wpAny_bind (wpAny_bind (m := Builtin.Tuple.tupleExact _) (wpAny_newObj_type (wpAny_pure (wpAny_pure ⟨_, rfl, wpAny_pure h⟩)) hz))
    | exact wpAny_bind (wpAny_bind (m := Builtin.Tuple.tupleExact _) (wpAny_newObj_type (wpAny_pure ⟨_, rfl, wpAny_pure h⟩) hz))
end
section
variable {X : Cx} {e st : Expr} {te : TE} {tl : TO} {p2 pos : Pos}
/-- a rule for the backward slice of a value -/
def BkR (X : Cx) (r : V → Hp → VK → Prop) : Prop :=
  ∀ (pins : List (Addr × Obj)) (s : Shared) (σ : L2.St) (H : Hp) (x : V) (v : Value) (tk : Tok) (sl : Addr) (Q : VK), Inv X pins σ H s → RelV x v → s.heap.IsSliceOf sl .none .none (.int (-1) tk) → r x H Q →
    ∃ T id, typeLookup (.type T) "__getitem__" = pure (some (.builtin id)) ∧ s.TypeIs v T ∧ wpAny (model X.prog X.w) X.A (getItem v (.ref sl)) (EP X pins σ Q) X.xe s
theorem BkR.or {r r' : V → Hp → VK → Prop} (h : BkR X r) (h' : BkR X r') : BkR X (fun x H Q => r x H Q ∨ r' x H Q) := fun pins s σ H x v tk sl Q I rx hs q => q.elim (h pins s σ H x v tk sl Q I rx hs) (h' pins s σ H x v tk sl Q I rx hs)
def tBk (r : V → Hp → VK → Prop) (te : TE) (tl : TO) : TE := fun σ H Q => te σ H fun x H1 => tl σ H1 fun l H2 => l = some (-1) ∧ r x H2 Q
theorem pe_back {r : V → Hp → VK → Prop} (hr : BkR X r) (he : PE X e te) (hl : PO X (some st) tl) : PE X (.Subscript e (.Slice none none (some st) p2) pos) (tBk r te tl) := by
  refine ⟨fun pins s σ H Q I h => ?_⟩
  refine Subscript_ (thn (he.run pins s σ H _ I h) fun v s1 ⟨x, H1, I1, r1, q1⟩ => ?_)
  have hN : PO X none tNoPart := po_none
  refine wpAny_Slice (thn (hN.run pins s1 σ H1 _ I1 (show tNoPart σ H1 (fun l H2 => l = none ∧ H2 = H1) from ⟨rfl, rfl⟩)) fun vl s2 ⟨l, H2, I2, pl, el, eH⟩ => thn (hN.run pins s2 σ H2 _ I2 (show tNoPart σ H2 (fun l H3 => l = none ∧ H3 = H2) from ⟨rfl, rfl⟩)) fun vu s3 ⟨u, H3, I3, pu, eu, eH3⟩ => ?_)
  subst eH3 eH el eu
  cases pl
  cases pu
  refine thn (hl.run pins s3 σ _ _ I3 q1) fun vs s4 ⟨k, H4, I4, pk, ek, q4⟩ => ?_
  subst ek
  cases pk with
  | int i tk =>
    have I5 : Inv X pins σ H4 { s4 with heap := s4.heap.push { cls := .type "slice", data := .fields #[.none, .none, .int (-1) tk] } } := I4.kept (t' := s4.toks) fun b ob q => Heap.get?_push_of_some _ q
    obtain ⟨T, id, hT, ht, hg⟩ := hr pins _ σ H4 x v tk s4.heap.objs.size Q I5 r1 (Heap.IsSliceOf.new ..) q4
    exact tail_any (ops := [v, .ref s4.heap.objs.size]) ht hT hg (by with_unfolding_all rfl)
def rBkL (K : PySem.W.Frag) : V → Hp → VK → Prop := fun x H Q => ∃ a xs, x = .ref a ∧ SqL K H a xs ∧ ∀ p, H p = none → Q (.ref p) (upd H p (.lst xs.reverse))
def rBkT (K : PySem.W.Frag) : V → Hp → VK → Prop := fun x H Q => ∃ a xs, x = .ref a ∧ SqT K H a xs ∧ NewT H xs.reverse Q
theorem bk_list : BkR X (rBkL X.K) := by
  intro pins s σ H x v tk sl Q I rx hs ⟨a, xs, ex, hx, q⟩
  subst ex
  obtain rfl : v = .ref a := rx
  obtain ⟨its, r, pl, hz⟩ := I.list hx
  refine ⟨"list", _, list_getitem_lookup, pl.isList.typeIs, wpAny_getItem_list_slice pl.isList hs .none .none (.int (-1) tk) (by decide) ?_ (by rw [List.size_toArray, ← r.length]; exact hz)⟩
  rw [PySem.W.krv_pick]
  have rr : Vals xs.reverse its.reverse := r.reverse
  refine ⟨.ref s.heap.objs.size, _, I.laid (o := .lst xs.reverse) (t' := s.toks) (fun b o e => Heap.get?_push_of_some _ e) (Nat.le_refl _) ⟨by rw [List.length_reverse]; exact hz, its.reverse, 0, rr, Heap.get?_push_size _ rfl⟩, rfl, q _ (I.hok.fresh (Nat.le_refl _))⟩
theorem bk_tup : BkR X (rBkT X.K) := by
  intro pins s σ H x v tk sl Q I rx hs ⟨a, xs, ex, hx, q⟩
  subst ex
  obtain rfl : v = .ref a := rx
  obtain ⟨its, r, pl, hz⟩ := I.tuple hx
  refine ⟨"tuple", _, PyProof.Rows.slot_tuple_getitem.lookup, pl.typeIs, tuple_back pl hs (by rw [List.size_toArray, ← r.length]; exact hz) ?_⟩
  exact new_th (tk := s.toks) I (by rw [List.length_reverse]; exact hz) r.reverse q
end
section
variable {X : Cx} {b : Bg} {W : WX} {e e1 e2 st : Expr} {t t1 t2 : VT} {tl : VO} {p2 pos : Pos}
@[simp] def gBk : D → (D → Prop) → Prop
  | .py (.list xs), Q => Q (.py (.list xs.reverse))
  | .py (.tuple xs), Q => Q (.py (.tuple xs.reverse))
  | _, _ => False
@[simp] def vBk (t : VT) (tl : VO) : VT := fun ρ Q E => t ρ (fun x => tl ρ (fun k => k = some (-1) ∧ gBk x Q) E) E
/-! ### products, minus -/
@[simp] def gMul : D → D → (D → Prop) → Prop
  | .py (.int i), .py (.int j), Q => CMul i j ∧ Q (.py (.int (i * j)))
  | .py (.list xs), .py (.int k), Q => (-(2 ^ 63) ≤ k ∧ k < 2 ^ 63 ∧ xs.length * k.toNat ≤ sizeLine) ∧ Q (.py (.list (List.replicate k.toNat xs).flatten))
  | .py (.tuple xs), .py (.int k), Q => (xs ≠ [] ∧ 2 ≤ k ∧ k ≤ 1000 ∧ xs.length ≤ 1000) ∧ Q (.py (.tuple (List.replicate k.toNat xs).flatten))
  | _, _, _ => False
@[simp] def gRepL : D → D → (D → Prop) → Prop
  | .py (.list xs), .py (.int k), Q => (-(2 ^ 63) ≤ k ∧ k < 2 ^ 63 ∧ xs.length * k.toNat ≤ sizeLine) ∧ Q (.py (.list (List.replicate k.toNat xs).flatten))
  | _, _, _ => False
theorem rn_rep : OpD b (RN b) rRep gRepL := by
  intro Z H x y dx dy Q Qd gd rx ry h k
  match dx, dy, h, rx, ry with
  | .py (.list xs), .py (.int n), ⟨⟨h1, h2, h3⟩, h⟩, rx, ry =>
    obtain ⟨a, us, rfl, ha, qa⟩ := rx.list
    refine ⟨a, n, us, rfl, ry.int, ha, h1, h2, by rw [qa.length]; exact h3, fun p hp => k _ _ (.py (.list _)) (Ex.new hp) (gd.new hp) ⟨p, rfl, hp, _, upd_same, (qa.rep n.toNat).up' hp⟩ h⟩
theorem rd_mul : OpD b (RE b) (fun x y H Q => rI CMul (fun i j => .int (i * j)) x y H Q ∨ (fun x y H Q => rRep x y H Q ∨ rRepF X.K x y H Q) x y H Q) gMul := by
  intro Z H x y dx dy Q Qd gd rx ry h k
  match dx, dy, h, rx, ry with
  | .py (.int i), .py (.int j), ⟨hc, h⟩, rx, ry =>
    rw [rx.int, ry.int]
    exact .inl ⟨i, j, rfl, rfl, hc, k _ H (.py (.int (i * j))) Ex.refl gd.g (.int _) h⟩
  | .py (.list xs), .py (.int n), h, rx, ry => exact .inr (.inl (OpD.toE rn_rep Z H x y (.py (.list xs)) (.py (.int n)) Q Qd gd rx ry h k))
  | .py (.tuple xs), .py (.int n), ⟨⟨h1, h2, h3, h4⟩, h⟩, rx, ry =>
    obtain ⟨a, oa, us, rfl, ha, da, na, qa⟩ := rx.tuple
    refine .inr (.inr ⟨a, n, us, rfl, ry.int, SqT.th ha, fun e => ?_, h2, h3, by rw [qa.length]; exact h4, fun p o hp ho => k _ _ (.py (.tuple _)) (Ex.new hp) (gd.new hp) (.tup upd_same ho (gd.fresh hp) ((qa.rep n.toNat).up hp)) h⟩)
    subst e
    cases qa
    exact h1 rfl
@[simp] def gNeg : D → (D → Prop) → Prop
  | .py (.int i), Q => Q (.py (.int (-i)))
  | _, _ => False
theorem ve_neg (h : VX X b W e t) : VE X b W (.UnaryOp .USub e pos) (vUn gNeg t) :=
  pe_mono (pe_un un_neg h) fun σ H Q ⟨Zo, Z, ρ, Qd, Ed, v, q, l, m⟩ => ⟨Zo, Z, ρ, _, Ed, v, q, fun x H1 d x1 g1 r1 q1 => by
    match d, q1, r1 with
    | .py (.int i), q1, r1 => exact ⟨i, r1.int, l _ H1 (.py (.int (-i))) x1 g1 (Rq.int _) q1⟩, m⟩
/-! ### dict displays -/
@[simp] def vD0 : VT := fun _ Q _ => Q (.py (.dict []))
theorem vn_dict0 : VN X b W (.Dict [] [] pos) vD0 := pe_mono pe_dnewK fun σ H Q ⟨Zo, Z, ρ, Qd, Ed, v, q, l, m⟩ p hp => l _ _ (.py (.dict [])) (Ex.new hp) (Bg.new v.g hp) ⟨p, rfl, hp, [], upd_same, .nil⟩ q
@[simp] def vD1 (k : Key) (t : VT) : VT := fun ρ Q E => t ρ (fun d => ∃ p, d = .py p ∧ Q (.py (.dict [(kD k, p)]))) E
theorem vn_dict1 {j : Nat} {x : Str} {ps : Pos} (h : VE X b W e t) : VN X b W (.Dict [some (.Constant (.str x) j ps)] [e] pos) (vD1 (.inr x) t) :=
  pe_mono (pe_disp (pps_cons pe_str h pps_nil) rfl rfl (by simp) (by show 1 ≤ 15; decide)) fun σ H Q ⟨Zo, Z, ρ, Qd, Ed, v, q, l, m⟩ p hp => by
    have v1 := v.apart hp (o := .dK [])
    have nb : ¬ b.B p := fun z => v.fresh hp (v.zo p (v.zb p z))
    refine ⟨_, _, ρ, _, Ed, v1, q, fun y H1 d x1 g1 r1 ⟨pd, ed, q1⟩ => ?_, fun c z H1 er x1 g1 r1 q1 => m c z H1 er ((Ex.new hp).trans x1) g1 ?_ q1⟩
    · subst ed
      have e1 : H1 p = some (.dK []) := x1 p _ upd_same nb
      refine ⟨e1, [(.inr x, y)], rfl, (show 1 ≤ 15 by decide), ?_⟩
      have xx : Ex b H (upd H1 p (.dK [(.inr x, y)])) := fun a o e n => by
        rw [upd_ne (ne_of_none e hp)]
        exact x1 a o (by rw [upd_ne (ne_of_none e hp)]; exact e) n
      refine l _ _ (.py (.dict [(kD (.inr x), pd)])) xx (b.loc H1 _ (fun c hc => upd_ne fun e => nb (by rw [← e]; exact hc)) (fun c o ho e => by rw [upd_ne (fun z => by rw [z, e1] at e; cases e; exact ho)]; exact e) g1) ⟨p, rfl, hp, _, upd_same, .cons (Rq.mono (fun c z => .inl z) (fun c o e n => ?_) r1) .nil⟩ q1
      rw [upd_ne (fun e => n (.inr e))]
      exact e
    · obtain ⟨h1, h2⟩ := r1
      refine ⟨h1, h2.imp id ?_⟩
      rintro ⟨a, xs, e1, e2, e3, e4⟩
      exact ⟨a, xs, e1, e2, fun z => e3 (.inl z), e4.mono (fun c z => .inl (.inl z)) fun _ _ e _ => e⟩
end
end VL
set_option Elab.async false
set_option linter.all false
set_option maxRecDepth 100000
set_option maxHeartbeats 4000000
namespace VL
open PySem PySem.Spec PyProof.Rows L2
theorem bb_int : bootBuiltins "int" = some (.type "int") := by decide +kernel
theorem bb_str : bootBuiltins "str" = some (.type "str") := by decide +kernel
theorem bb_tuple : bootBuiltins "tuple" = some (.type "tuple") := by decide +kernel
theorem bb_isi : bootBuiltins "isinstance" = some (.builtin "isinstance") := by decide +kernel
section
variable {X : Cx} {b : Bg} {W : WX} {e : Expr} {es : List Expr} {u : VA} {p pos : Pos} {t : VT}
theorem ve_intC (hg : Gl X "int") (hm : X.mg "int" = none) (ha : VXs X b W (e :: es) u) (he : starEach (e :: es) X.env = (false, eval e X.env) :: starEach es X.env := by rfl) (hpl : (backTo pos (starEach es X.env)).any (·.1) = false := by rfl) :
    VE X b W (.Call (.Name "int" p) (e :: es) [] pos) (vCal gInt u) := ve_callTy (CallR.or call_int1 call_int_str) rd_int hg hm bb_int ha (by decide) (by decide) he hpl
theorem ve_tupleC (hg : Gl X "tuple") (hm : X.mg "tuple" = none) (ha : VXs X b W (e :: es) u) (he : starEach (e :: es) X.env = (false, eval e X.env) :: starEach es X.env := by rfl) (hpl : (backTo pos (starEach es X.env)).any (·.1) = false := by rfl) :
    VE X b W (.Call (.Name "tuple" p) (e :: es) [] pos) (vCal gTuple u) := ve_callTy call_tupF rd_tuple hg hm bb_tuple ha (by decide) (by decide) he hpl
theorem ve_isi (hg : Gl X "isinstance") (hm : X.mg "isinstance" = none) (ha : VXs X b W (e :: es) u) (he : starEach (e :: es) X.env = (false, eval e X.env) :: starEach es X.env := by rfl) (hpl : (backTo pos (starEach es X.env)).any (·.1) = false := by rfl) :
    VE X b W (.Call (.Name "isinstance" p) (e :: es) [] pos) (vCal gIsi u) := ve_callB call_isi rd_isi hg hm bb_isi ha (by decide) (by decide) he hpl
theorem ve_tyStr (hg : Gl X "str") (hm : X.mg "str" = none) : VE X b W (.Name "str" pos) (vC (.raw (.ty "str"))) := ve_ty hg hm bb_str
end
/-! ### a def that is called: all that its call wants -/
structure Cal (P : Program) (w : World) (K : PySem.W.Frag) (mg : Str → Option Value) (base : Heap) (b : Bg) (k : Nat) (x : Str) (ps : List Str) (S : SV) where
  f : Addr
  fd : FuncData
  F : FnOk P w K mg base (L2.CX P w) k f fd ps (spV b S)
  g : mg x = some (.ref f)
  kp : PySem.W.keepIn K (.ref f) = true
  bd : Binds K fd ps []
section
variable {X : Cx} {b : Bg} {W : WX} {k j : Nat} {x : Str} {ps : List Str} {S : SV} {e : Expr} {es : List Expr} {u : VA} {p pos : Pos}
theorem ve_cal (c : Cal X.prog X.w X.K X.mg X.base b k x ps S) (hr : Room j X.A) (tk : Takes X W) (hg : Gl X x) (ha : VAs X b W (e :: es) u) (hk : k ≤ j := by decide) (hdb : (x == ("__debug__" : Str)) = false := by decide)
    (he : starEach (e :: es) X.env = (false, eval e X.env) :: starEach es X.env := by rfl) (hpl : (backTo pos (starEach es X.env)).any (·.1) = false := by rfl) : VE X b W (.Call (.Name x p) (e :: es) [] pos) (vCall S u) :=
  ve_call c.F (hr.mono hk) tk hg c.g c.kp c.bd ha hdb he hpl
end
section
variable {X : Cx} {b : Bg} {W : WX} {tg iter elt c : Expr} {ifs : List Expr} {scope : Scope} {own : List (Str × Nat)} {pos spos py : Pos} {ti : VIt} {js : List Nat} {g : VTg} {tt : VB} {te : VT} {i : Nat} {y : Str} {t : VT}
theorem LE.new : ∀ σ H Q, LE b W (RE b) t σ H Q → LE b W (RN b) t σ H Q := fun σ H Q ⟨Zo, Z, ρ, Qd, Ed, v, q, l, m⟩ => ⟨Zo, Z, ρ, Qd, Ed, v, q, fun u H' d x g ⟨a, e, n, o⟩ => by
  subst e
  exact l _ H' d x g (o.rp (fun _ z => .inl z) (v.fresh n)), m⟩
/-- name = [..] on one line, shared from then on -/
theorem vs_setLcE (hc : X.calm = true) (hN : X.N.Nodup) (hy : X.N[i]? = some y) (hyl : X.env.scope.names.lookup y = some .local) (hsw : swapsWith (.ListComp elt [⟨tg, iter, ifs, 0⟩] scope pos) (some (.Name y py)) spos.line X.env = pure true)
    (hi : VIb X b W tg iter ti) (ok : BlkOk X.N X.env.scope scope own) (hjs : ∀ j ∈ js, j ∈ own.map (·.2))
    (hg : ∀ (s : Shared) (H : Hp) (C : Addr) (cl : List (Str × Addr)) (fp : List Addr), VG (X.blk s H scope (compEnvC scope cl C X.env) fp) b tg js g) (ht : ∀ (s : Shared) (H : Hp) (C : Addr) (cl : List (Str × Addr)) (fp : List Addr), VTs (X.blk s H scope (compEnvC scope cl C X.env) fp) b ifs tt)
    (he : ∀ (s : Shared) (H : Hp) (C : Addr) (cl : List (Str × Addr)) (fp : List Addr), VE (X.blk s H scope (compEnvC scope cl C X.env) fp) b noW elt te) (hs : ∀ x, foldedSetIterable iter X.env x = pure x := by intro _; rfl) :
    VSt X b W (.Assign [.Name y py] (.ListComp elt [⟨tg, iter, ifs, 0⟩] scope pos) spos) (sSet i (vLc (own.map (·.2)) ti g tt te)) :=
  vs_set (ps_setLc hc hN hy hyl hsw hi ok hg ht he hs) fun σ H Q q => lc_sound hjs σ H Q (LE.new σ H Q q)
end
end VL
set_option Elab.async false
set_option linter.all false
set_option maxRecDepth 100000
set_option maxHeartbeats 4000000
namespace VL
open PySem PySem.Spec PyProof.Rows L2
@[simp] theorem szl : sizeLine = 16777216 := sizeLine_eq
@[simp] def asB : D → (Bool → Prop) → Prop
  | .py (.bool k), Q => Q k
  | _, _ => False
@[simp] def asI : D → (Int → Prop) → Prop
  | .py (.int k), Q => Q k
  | _, _ => False
@[simp] def asP : D → (PyData → Prop) → Prop
  | .py k, Q => Q k
  | _, _ => False
@[simp 2000] theorem ex_bool (d : D) (Q : Bool → Prop) : (∃ k, d = .py (.bool k) ∧ Q k) ↔ asB d Q := by
  refine ⟨fun ⟨k, e, q⟩ => by rw [e]; exact q, fun h => ?_⟩
  match d, h with
  | .py (.bool k), h => exact ⟨k, rfl, h⟩
@[simp 2000] theorem ex_int (d : D) (Q : Int → Prop) : (∃ k, d = .py (.int k) ∧ Q k) ↔ asI d Q := by
  refine ⟨fun ⟨k, e, q⟩ => by rw [e]; exact q, fun h => ?_⟩
  match d, h with
  | .py (.int k), h => exact ⟨k, rfl, h⟩
@[simp 2000] theorem ex_py (d : D) (Q : PyData → Prop) : (∃ k, d = .py k ∧ Q k) ↔ asP d Q := by
  refine ⟨fun ⟨k, e, q⟩ => by rw [e]; exact q, fun h => ?_⟩
  match d, h with
  | .py k, h => exact ⟨k, rfl, h⟩
@[simp 2000] theorem ex_pys (ds : List D) (Q : List PyData → Prop) : (∃ ps, pys ds = some ps ∧ Q ps) ↔ asO (pys ds) Q := by
  refine ⟨fun ⟨k, e, q⟩ => by rw [e]; exact q, asO_ex⟩
/-! ### comprehensions, loops: how their readings are met -/
/-- one turn of a comprehension -/
def lcStep (g : VTg) (tt : VB) (te : VT) (d : D) (ρ : VEnv) (k : Option PyData → Prop) : Prop :=
  g d ρ fun ρ1 => tt ρ1 (fun b => if b = true then te ρ1 (fun y => ∃ p, y = .py p ∧ k (some p)) noE else k none) noE
section
variable {g : VTg} {tt : VB} {te : VT} {ρ : VEnv} {Q : D → Prop}
theorem lcGo_cons {d : D} {ds : List D} {acc : List PyData} (h : lcStep g tt te d ρ fun o => match o with
    | some p => acc.length < sizeLine ∧ lcGo g tt te Q ds (acc ++ [p]) ρ
    | none => lcGo g tt te Q ds acc ρ) : lcGo g tt te Q (d :: ds) acc ρ := h
/-- every turn gives just f -/
theorem lc_fun (f : PyData → Option PyData) : ∀ {xs acc : List PyData}, (∀ x ∈ xs, ∀ k, k (f x) → lcStep g tt te (.py x) ρ k) → acc.length + xs.length < 16777216 → Q (.py (.list (acc ++ xs.filterMap f))) → lcGo g tt te Q (xs.map D.py) acc ρ
  | [], acc, _, _, q => by simpa using q
  | x :: xs, acc, h, hl, q => by
    refine lcGo_cons (h x List.mem_cons_self _ ?_)
    have hr : ∀ y ∈ xs, ∀ k, k (f y) → lcStep g tt te (.py y) ρ k := fun y hy => h y (List.mem_cons_of_mem _ hy)
    rw [List.length_cons] at hl
    rw [List.filterMap_cons] at q
    cases e : f x with
    | none => rw [e] at q; exact lc_fun f hr (by omega) q
    | some p =>
      rw [e] at q
      refine ⟨by rw [szl]; omega, lc_fun f hr (by rw [List.length_append, List.length_singleton]; omega) ?_⟩
      rw [List.append_assoc]
      exact q
/-- every turn keeps an item, with R -/
theorem lc_rel (R : PyData → PyData → Prop) : ∀ {xs acc : List PyData}, (∀ x ∈ xs, ∀ k, (∀ p, R x p → k (some p)) → lcStep g tt te (.py x) ρ k) → acc.length + xs.length < 16777216 →
    (∀ ps : List PyData, ps.length = xs.length → (∀ (i : Nat) (x p : PyData), xs[i]? = some x → ps[i]? = some p → R x p) → Q (.py (.list (acc ++ ps)))) → lcGo g tt te Q (xs.map D.py) acc ρ
  | [], acc, _, _, q => by
    have := q [] rfl (fun i x p e => by simp at e)
    simpa using this
  | x :: xs, acc, h, hl, q => by
    refine lcGo_cons (h x List.mem_cons_self _ fun p hp => ?_)
    rw [List.length_cons] at hl
    refine ⟨by rw [szl]; omega, lc_rel R (fun y hy => h y (List.mem_cons_of_mem _ hy)) (by rw [List.length_append, List.length_singleton]; omega) fun ps e r => ?_⟩
    rw [List.append_assoc]
    refine q (p :: ps) (by simp [e]) fun i y z e1 e2 => ?_
    cases i with
    | zero =>
      simp at e1 e2
      subst e1 e2
      exact hp
    | succ i => exact r i y z (by simpa using e1) (by simpa using e2)
/-- .. whatever its turn -/
theorem lc_mem (R : PyData → Prop) {xs acc : List PyData} (h : ∀ x ∈ xs, ∀ k, (∀ p, R p → k (some p)) → lcStep g tt te (.py x) ρ k) (hl : acc.length + xs.length < 16777216)
    (q : ∀ ps : List PyData, ps.length = xs.length → (∀ p ∈ ps, R p) → Q (.py (.list (acc ++ ps)))) : lcGo g tt te Q (xs.map D.py) acc ρ :=
  lc_rel (fun _ p => R p) h hl fun ps e r => q ps e fun p hp => by
    obtain ⟨i, hi⟩ := List.getElem?_of_mem hp
    have hlt : i < xs.length := by rw [← e]; exact (List.getElem?_eq_some_iff.mp hi).1
    exact r i xs[i] p (List.getElem?_eq_getElem hlt) hi
end
section
variable {g : VTg} {tb : VS} {De : VEnds}
/-- a loop by its turns: Iv ahead of turn i -/
theorem for_inv (Iv : Nat → VEnv → Prop) {xs : List PyData} (h : ∀ i x ρ, xs[i]? = some x → Iv i ρ → ∀ nx ct : VEnv → Prop, (∀ ρ', Iv (i + 1) ρ' → nx ρ' ∧ ct ρ') → g (.py x) ρ fun ρ1 => tb ρ1 ⟨nx, De.rt, De.nx, ct, De.ex⟩) (hd : ∀ ρ, Iv xs.length ρ → De.nx ρ) :
    ∀ {ρ : VEnv}, Iv 0 ρ → forGo g tb (xs.map D.py) ρ De := by
  have go : ∀ (n : Nat) (ρ : VEnv), Iv n ρ → n ≤ xs.length → forGo g tb ((xs.drop n).map D.py) ρ De := by
    intro n
    induction hk : xs.length - n generalizing n with
    | zero =>
      intro ρ iv hn
      have e : n = xs.length := by omega
      subst e
      rw [List.drop_length]
      exact hd ρ iv
    | succ m ih =>
      intro ρ iv hn
      have hlt : n < xs.length := by omega
      rw [List.drop_eq_getElem_cons hlt, List.map_cons]
      exact h n xs[n] ρ (List.getElem?_eq_getElem hlt) iv _ _ fun ρ' iv' => ⟨ih (n + 1) (by omega) ρ' iv' hlt, ih (n + 1) (by omega) ρ' iv' hlt⟩
  intro ρ iv
  have := go 0 ρ iv (Nat.zero_le _)
  rwa [List.drop_zero] at this
end
/-! ### plain data -/
@[simp] theorem eqv_lnil (xs : List PyData) : (PyData.list xs).eqv (.list []) = xs.isEmpty := by cases xs <;> rfl
@[simp] theorem eqv_tnil (xs : List PyData) : (PyData.tuple xs).eqv (.tuple []) = xs.isEmpty := by cases xs <;> rfl
@[simp] theorem eqv_lt (xs ys : List PyData) : (PyData.list xs).eqv (.tuple ys) = false := rfl
@[simp] theorem eqv_tl (xs ys : List PyData) : (PyData.tuple xs).eqv (.list ys) = false := rfl
@[simp] theorem eqv_ii (i j : Int) : (PyData.int i).eqv (.int j) = (i == j) := rfl
@[simp] theorem eqv_ss (i j : Str) : (PyData.str i).eqv (.str j) = (i == j) := rfl
@[simp] theorem plain_none : PyData.none.plain = true := rfl
@[simp] theorem plain_bool (k : Bool) : (PyData.bool k).plain = true := rfl
@[simp] theorem plain_int (i : Int) : (PyData.int i).plain = true := rfl
@[simp] theorem plain_str (i : Str) : (PyData.str i).plain = true := rfl
@[simp] theorem plain_list (xs : List PyData) : (PyData.list xs).plain = PyData.plainAll xs := by simp only [PyData.plain]
@[simp] theorem plain_tuple (xs : List PyData) : (PyData.tuple xs).plain = PyData.plainAll xs := by simp only [PyData.plain]
@[simp] theorem plainAll_nil : PyData.plainAll [] = true := rfl
@[simp] theorem plainAll_cons (x : PyData) (xs : List PyData) : PyData.plainAll (x :: xs) = (x.plain && PyData.plainAll xs) := by simp only [PyData.plainAll]
@[simp] theorem plainAll_ints (xs : List Int) : PyData.plainAll (xs.map PyData.int) = true := plain_ints xs
@[simp] theorem depth_nil : (PyData.list []).depth = 1 := rfl
@[simp] theorem depth_tnil : (PyData.tuple []).depth = 1 := rfl
@[simp] theorem depth_int (i : Int) : (PyData.int i).depth = 0 := rfl
@[simp] theorem depth_str (i : Str) : (PyData.str i).depth = 0 := rfl
@[simp] theorem depth_none : PyData.none.depth = 0 := rfl
@[simp] theorem depth_bool (k : Bool) : (PyData.bool k).depth = 0 := rfl
@[simp] theorem depth_list (xs : List PyData) : (PyData.list xs).depth = PyData.depthAll xs + 1 := by simp only [PyData.depth]
@[simp] theorem depth_tuple (xs : List PyData) : (PyData.tuple xs).depth = PyData.depthAll xs + 1 := by simp only [PyData.depth]
@[simp] theorem depthAll_nil : PyData.depthAll [] = 0 := rfl
@[simp] theorem depthAll_cons (x : PyData) (xs : List PyData) : PyData.depthAll (x :: xs) = max x.depth (PyData.depthAll xs) := by simp only [PyData.depthAll]
end VL
namespace VL
open PySem PySem.Spec PyProof.Rows L2
@[simp] theorem cpow_iff (i j : Int) : CPow i j ↔ (0 ≤ j ∧ j ≤ 1000000 ∧ i.natAbs < 2 ^ 64) := Iff.rfl
@[simp] theorem cdivn_iff (i j : Int) : CDivN i j ↔ (j ≠ 0 ∧ j.natAbs < 1073741824) := Iff.rfl
@[simp] theorem cmul_iff (i j : Int) : CMul i j ↔ ((-(2 ^ 64) < i ∧ i < 2 ^ 64) ∨ (-(2 ^ 64) < j ∧ j < 2 ^ 64)) := Iff.rfl
end VL
namespace VL
open PySem PySem.Spec PyProof.Rows L2
theorem atI_ok {α : Type} {xs : List α} {i : Int} (h0 : 0 ≤ i) (h1 : i < xs.length) : ∃ d, atI xs i = some d ∧ d ∈ xs := by
  obtain ⟨j, rfl⟩ := Int.eq_ofNat_of_zero_le h0
  have hj : j < xs.length := by omega
  exact ⟨xs[j], atI_nat (List.getElem?_eq_getElem hj), List.getElem_mem hj⟩
theorem mem_rangeP {lo : Int} {n : Nat} {d : PyData} (h : d ∈ rangeP lo n) : ∃ k : Nat, k < n ∧ d = .int (lo + k) := by
  unfold rangeP at h
  obtain ⟨k, hk, rfl⟩ := List.mem_map.mp h
  exact ⟨k, List.mem_range.mp hk, rfl⟩
@[simp] theorem rangeP_len (lo : Int) (n : Nat) : (rangeP lo n).length = n := by simp [rangeP]
/-- ints, all with P -/
theorem ints_of {P : Int → Prop} : ∀ {ps : List PyData}, (∀ p ∈ ps, ∃ g, p = PyData.int g ∧ P g) → ∃ gs : List Int, ps = gs.map PyData.int ∧ ∀ g ∈ gs, P g
  | [], _ => ⟨[], rfl, fun _ h => nomatch h⟩
  | p :: ps, h => by
    obtain ⟨g, rfl, hg⟩ := h p List.mem_cons_self
    obtain ⟨gs, rfl, hs⟩ := ints_of fun q hq => h q (List.mem_cons_of_mem _ hq)
    exact ⟨g :: gs, rfl, fun x hx => (List.mem_cons.mp hx).elim (fun e => by rw [e]; exact hg) (hs x)⟩
end VL
set_option Elab.async false
set_option linter.all false
set_option maxRecDepth 100000
set_option maxHeartbeats 4000000
namespace VL
open PySem PySem.Spec PyProof.Rows L2
/-! ### the law: the first statement makes the bag, the rest is read over values -/
theorem pss_ex {X : Cx} {sts : List Stmt} {α : Type} {t : α → TS} (h : ∀ x, PSs X sts (t x)) : PSs X sts (fun D σ H => ∃ x, t x D σ H) := ⟨fun pins s σ H D I ⟨x, q⟩ => (h x).run pins s σ H D I q⟩
def spLaw (K : PySem.W.Frag) : Sp := fun vs H Q _ => ∃ (a : Addr) (ns : List Int), vs = [.ref a] ∧ SqL K H a (ns.map V.int) ∧ ns.length ≤ 63 ∧ ∀ H', Q (.bl true) H'
/-- the names' values behind the first statement: the bag in slot i -/
def envBag (n i : Nat) (r : Addr) : VEnv := (List.replicate n Slot.un).set i (.shr (.raw (.ref r)))
abbrev isTrue' : D → Prop := fun d => d = .py (.bool true)
theorem envBag_at {n i j : Nat} {r : Addr} {s : Slot} (h : (envBag n i r)[j]? = some s) : s = .un ∨ (j = i ∧ s = .shr (.raw (.ref r))) := by
  unfold envBag at h
  by_cases e : i = j
  · subst e
    by_cases hn : i < n
    · rw [List.getElem?_set_self (by simpa using hn)] at h; cases h; exact .inr ⟨rfl, rfl⟩
    · rw [List.getElem?_eq_none (by simp; omega)] at h; cases h
  · rw [List.getElem?_set_ne e, List.getElem?_replicate] at h
    split at h
    · cases h; exact .inl rfl
    · cases h
theorem law_rest {cls : Str → Addr} {r l1 l2 : Addr} {gs ds : List Int} {n : Int} {H : Hp} {N : List Str} {i : Nat} {a : Addr} {t : VS} {Q : VK} {E : XK} (hb : bagAt r l1 l2 gs ds n H) (h0 : 0 < N.length) (hi : i < N.length)
    (law : t (envBag N.length i r) (fin isTrue' noE)) (q : ∀ H', Q (.bl true) H') : LS (bagB cls r l1 l2) (WF E) t { nx := fun _ H' => Q .non H', rt := Q } ((L2.start N [.ref a]).set i (some (.ref r))) H := by
  have hG : (bagB cls r l1 l2).G H := ⟨gs, ds, n, hb⟩
  have hl : (L2.start N [V.ref a]).length = N.length := by
    unfold L2.start
    rw [List.length_append, List.length_map, List.length_replicate, List.length_singleton]
    omega
  refine ⟨H, fun _ => False, (bagB cls r l1 l2).B, (bagB cls r l1 l2).B, _, _, ⟨⟨hG, fun _ z => z, fun _ z => z, fun a z => (bagB cls r l1 l2).dom H a hG z, fun _ z => .inl z, fun j d e => ?_, fun j k d e c h1 _ _ _ => ?_, fun j d e => ?_, ?_⟩, fun _ _ e _ _ => e, fun j d c h1 _ => ?_⟩, law, ⟨fun _ _ _ _ _ h => (by cases h), fun v H' d _ _ rp h => ?_, fun _ _ _ _ _ h => h.elim, fun _ _ _ _ _ h => h.elim, fun _ _ _ _ _ _ _ _ _ h => h.elim⟩⟩
  · rcases envBag_at e with h | ⟨_, h⟩ <;> cases h
  · rcases envBag_at h1 with h | ⟨_, h⟩ <;> cases h
  · rcases envBag_at e with h | ⟨ej, h⟩
    · cases h
    · cases h
      subst ej
      exact ⟨.ref r, List.getElem?_set_self (by rw [hl]; exact hi), rfl⟩
  · unfold envBag
    rw [List.length_set, List.length_replicate, List.length_set, hl]
  · rcases envBag_at h1 with h | ⟨_, h⟩ <;> cases h
  · have h' : d = .py (.bool true) := h
    subst h'
    have rp' : Rq (bagB cls r l1 l2).B H' v (.bool true) := rp
    cases rp'
    exact q H'
section
variable {P : Program} {w : World} {K : PySem.W.Frag} {mg : Str → Option Value} {base : Heap} {k k0 : Nat} {st : Stmt} {f fo : Addr} {fd fdo : FuncData} {N : List Str}
theorem lawV {cls : Str → Addr} {i : Nat} {t : Addr → VS} {p1 p2 p3 p4 p5 : Pos} {rest : List Stmt} {nm : Str} (F : Fun K nm nm st f fd) (Sc : FnScope N ["_law_script"] (defScope st))
    (hst : defBody st = .Assign [.Name "_law_bag" p1] (.Call (.Name "_law_opened" p2) [.Name "_law_script" p3] [] p4) p5 :: rest)
    (FO : FnOk P w K mg base (L2.CX P w) k0 fo fdo ["_law_script"] (spOpened K)) (gO : mg "_law_opened" = some (.ref fo)) (kO : PySem.W.keepIn K (.ref fo) = true) (bO : Binds K fdo ["_law_script"] []) (hk : k0 ≤ k)
    (hi : N[i]? = some ("_law_bag" : Str)) (h0 : N[0]? = some ("_law_script" : Str)) (hloc : Loc (defScope st) ("_law_bag" : Str)) (hloc0 : (defScope st).names.lookup ("_law_script" : Str) = some .local) (hgl : (defScope st).names.lookup ("_law_opened" : Str) = some .globalImplicit)
    (hbody : ∀ (r l1 l2 : Addr) (cdv : Value) (A : Around) (outer : List Env) (s : Shared) (H : Hp) (E : XK), Room k (A.deeper (envOfC nm (defScope st) s.heap.objs.size f cdv)) → (A.deeper (envOfC nm (defScope st) s.heap.objs.size f cdv)).guards = some [] →
      Takes (cxOf (L2.CX P w) P w K mg base N nm (defScope st) f cdv A outer s H E) (WF E) → VSs (cxOf (L2.CX P w) P w K mg base N nm (defScope st) f cdv A outer s H E) (bagB cls r l1 l2) (WF E) rest (t r))
    (law : ∀ r, t r (envBag N.length i r) (fin isTrue' noE)) : FnG P w K mg base (k + 1) f fd ["_law_script"] (spLaw K) := by
  refine fnG F Sc (fun vs H Q E ⟨a, ns, e, _⟩ => by rw [e]; rfl) fun cdv A outer s H vs Q E hr hg ⟨a, ns, ev, hS, hl, q⟩ => ?_
  subst ev
  rw [hst]
  have tk : Takes (cxOf (L2.CX P w) P w K mg base N nm (defScope st) f cdv A outer s H E) (WF E) := takes_of rfl rfl rfl rfl
  have hN0 : 0 < N.length := (List.getElem?_eq_some_iff.mp h0).1
  have hNi : i < N.length := (List.getElem?_eq_some_iff.mp hi).1
  refine ⟨_, pss_cons (ps_set (X := cxOf (L2.CX P w) P w K mg base N nm (defScope st) f cdv A outer s H E) (i := i) Sc.nd hi hloc (pe_callS FO (hr.mono hk) ?_ gO kO bO (fun σ => passAt tk σ) (pa_cons (pe_var h0 (.inl hloc0)) pa_nil)) (by rfl) (.inl rfl))
    (pss_ex fun r => pss_ex fun l1 => pss_ex fun l2 => hbody r l1 l2 cdv A outer s H E hr hg tk), ?_⟩
  · exact hgl
  · refine ⟨.ref a, ?_, a, ns, rfl, hS, hl, fun r l1 l2 gs ds n H' _ _ _ _ bag => ⟨r, l1, l2, law_rest bag hN0 hNi (law r) q⟩⟩
    unfold L2.start
    rfl
end
end VL
set_option Elab.async false
set_option linter.all false
set_option maxRecDepth 100000
set_option maxHeartbeats 4000000
namespace VL
open PySem PySem.Spec PyProof.Rows L2 HT
/-! ### slices as take and drop -/
theorem cutL_len {α : Type} (xs : List α) (lo hi : Option Int) : (cutL xs lo hi).length ≤ xs.length := by
  unfold cutL
  rw [List.length_take, List.length_drop]
  omega
theorem cutL_mem {α : Type} {xs : List α} {lo hi : Option Int} {y : α} (h : y ∈ cutL xs lo hi) : y ∈ xs := List.mem_of_mem_drop (List.mem_of_mem_take h)
theorem cutL_take {α : Type} (xs : List α) {x : Int} (h : 0 ≤ x) : cutL xs none (some x) = xs.take x.toNat := by
  simp only [cutL, HT.sIx]
  rw [if_neg (by omega), List.drop_zero, Nat.sub_zero]
  by_cases c : x.toNat ≤ xs.length
  · rw [Nat.min_eq_left c]
  · rw [Nat.min_eq_right (by omega), List.take_length, List.take_of_length_le (by omega)]
theorem cutL_drop {α : Type} (xs : List α) {x : Int} (h : 0 ≤ x) : cutL xs (some x) none = xs.drop x.toNat := by
  simp only [cutL, HT.sIx]
  rw [if_neg (by omega)]
  by_cases c : x.toNat ≤ xs.length
  · rw [Nat.min_eq_left c, List.take_of_length_le (by rw [List.length_drop]; omega)]
  · rw [Nat.min_eq_right (by omega), List.drop_length, List.take_nil, List.drop_of_length_le (by omega)]
end VL
set_option Elab.async false
set_option linter.all false
set_option maxRecDepth 100000
set_option maxHeartbeats 4000000
namespace VL
open PySem PySem.Spec PyProof.Rows L2 HT
/-! ### the facts of a def, for the join -/
structure DefK (K : PySem.W.Frag) (x : Str) (st : Stmt) : Prop where
  ex : ∃ (f : Addr) (oc kV doc pm cdv ct : Value) (od an : Option Addr) (osl : Array (Option Value)), PySem.W.nsIn K mainGlobals x = some (some (.ref f)) ∧ K.lookup f = some ⟨oc, od, .func (PySem.W.fnOf x x (defArgs st) (defBody st) (defScope st) .none kV doc pm an cdv ct), osl⟩ ∧ PySem.W.codeIn K cdv x = true ∧ PySem.W.keepIn K (.ref f) = true
theorem defK {K : PySem.W.Frag} {x : Str} {st : Stmt} {f : Addr} {oc kV doc pm cdv ct : Value} {od an : Option Addr} {osl : Array (Option Value)} (a : PySem.W.nsIn K mainGlobals x = some (some (.ref f)))
    (l : K.lookup f = some ⟨oc, od, .func (PySem.W.fnOf x x (defArgs st) (defBody st) (defScope st) .none kV doc pm an cdv ct), osl⟩) (c : PySem.W.codeIn K cdv x = true) (k : PySem.W.keepIn K (.ref f) = true) : DefK K x st := ⟨f, oc, kV, doc, pm, cdv, ct, od, an, osl, a, l, c, k⟩
theorem DefK.use {K : PySem.W.Frag} {x : Str} {st : Stmt} {h : Heap} {mg : Str → Option Value} (d : DefK K x st) (X : K.In h) (G : h.Ns mainGlobals mg) : ∃ (f : Addr) (fd : FuncData), Fun K x x st f fd ∧ mg x = some (.ref f) ∧ PySem.W.keepIn K (.ref f) = true ∧ fd.defaults = .none := by
  obtain ⟨f, oc, kV, doc, pm, cdv, ct, od, an, osl, a, l, c, k⟩ := d.ex
  exact ⟨f, _, fun_mk l c k, PySem.W.mg_of X G a, k, rfl⟩
end VL
set_option Elab.async false
set_option linter.all false
set_option maxRecDepth 100000
set_option maxHeartbeats 4000000
namespace VL
open PySem PySem.Spec PyProof.Rows L2 HT
/-! ### an owned list is changed by a method -/
def MutD (b : Bg) (r : V → List V → Hp → VK → Prop) (g : List PyData → List D → (D → List PyData → Prop) → Prop) : Prop :=
  ∀ (Z : Addr → Prop) (H : Hp) (a : Addr) (xs : List V) (vs : List V) (p : List PyData) (ds : List D) (Q : VK) (Qd : D → List PyData → Prop), H a = some (.lst xs) → Rqs Z H xs p → Rps b Z H vs ds → g p ds Qd →
    (∀ v ys q dv, Rqs Z H ys q → Rp b Z H v dv → Qd dv q → Q v (upd H a (.lst ys))) → r (.ref a) vs H Q
@[simp] def sMut (i : Nat) (g : List PyData → List D → (D → List PyData → Prop) → Prop) (ta : VA) : VS := fun ρ De => ∃ p, ρ[i]? = some (.own (.py (.list p))) ∧ ta ρ (fun ds => g p ds fun _ q => De.nx (ρ.set i (.own (.py (.list q))))) (De.ex ρ)
section
variable {X : Cx} {b : Bg} {W : WX} {o e : Expr} {es : List Expr} {ta : VA} {i : Nat} {name : Str} {id : String} {apos cpos pos : Pos} {r : V → List V → Hp → VK → Prop} {g : List PyData → List D → (D → List PyData → Prop) → Prop}
theorem vs_mut (slot : PySem.Slot "list" name id) (hty : typeOf (.builtin id) = pure (.type "method_descriptor")) (hm : MtR X id r) (hd : MutD b r g) (ho : PE X o (tVar i)) (ha : VAs X b W (e :: es) ta)
    (hbase : attributeBase o name X.env (eval o X.env) = eval o X.env := by rfl)
    (hfew : ((backTo cpos (starEach (e :: es) X.env)).all (fun x => !x.1) && (backToKw cpos (keywordEach [] X.env)).all (fun x => x.1.isSome)
      && decide ((e :: es).length + ([] : List Keyword).length + (if ([] : List Keyword).isEmpty then 0 else 1) < 30)) = true := by rfl)
    (hline : (apos.endLine == cpos.line) = true := by rfl) (hs : starEach (e :: es) X.env = (false, eval e X.env) :: starEach es X.env := by rfl) (hplain : (backTo cpos (starEach es X.env)).any (·.1) = false := by rfl)
    (hsw : swapsWith (.Call (.Attribute o name apos) (e :: es) [] cpos) none pos.line X.env = pure false := by rfl) :
    VSt X b W (.Expr (.Call (.Attribute o name apos) (e :: es) [] cpos) pos) (sMut i g ta) :=
  ps_mono (ps_expr (pe_bm PySem.F.plainAttrs_list slot hty hm ho ha hbase hfew hline hs hplain) hsw) fun Dn σ H ⟨H0, M, Zo, Z, ρ, De, f, ⟨p, e1, q⟩, l⟩ => by
    obtain ⟨a, h1, h2, h3, xs, h4, h5⟩ := f.v.own i _ e1
    refine ⟨.ref a, h1, .inl ⟨rfl, xs, SqL.of h4⟩, Zo, Z, ρ, _, _, f.v, q, fun vs H' ds x g1 r1 q' => ?_, l.er f⟩
    have f' := f.ex x g1
    obtain ⟨a', h1', h2', h3', xs', h4', h5'⟩ := f'.v.own i _ e1
    rw [h1] at h1'; cases h1'
    refine hd Z H' a xs' vs p ds _ _ h4' h5' r1 q' fun v ys pq dv ry rv q2 => ?_
    exact l.nx _ _ _ _ (f'.mut (d' := .py (.list pq)) e1 h1 ⟨ys, upd_same, ry.mono (fun c z => .inl z) fun c u e n => by
      rw [upd_ne (fun w => n (by rw [w]; exact h2))]
      exact e⟩) q2
/-- append -/
@[simp] def gApp : List PyData → List D → (D → List PyData → Prop) → Prop
  | p, [.py x], Q => p.length < sizeLine ∧ Q (.py .none) (p ++ [x])
  | _, _, _ => False
theorem rd_app : MutD b rAppend gApp := by
  intro Z H a xs vs p ds Q Qd h rx rv g k
  match ds, g, rv with
  | [.py x], ⟨hl, q⟩, .cons (v := v) rv .nil => exact ⟨a, xs, v, rfl, rfl, h, by rw [rx.length]; exact hl, k _ _ _ (.py .none) (rx.append (.cons rv .nil)) (Rq.non : Rq Z H .non .none) q⟩
theorem vs_app (ho : PE X o (tVar i)) (ha : VAs X b W [e] ta) (hbase : attributeBase o "append" X.env (eval o X.env) = eval o X.env := by rfl)
    (hfew : ((backTo cpos (starEach [e] X.env)).all (fun x => !x.1) && (backToKw cpos (keywordEach [] X.env)).all (fun x => x.1.isSome)
      && decide ([e].length + ([] : List Keyword).length + (if ([] : List Keyword).isEmpty then 0 else 1) < 30)) = true := by rfl)
    (hline : (apos.endLine == cpos.line) = true := by rfl) (hs : starEach [e] X.env = (false, eval e X.env) :: starEach [] X.env := by rfl) (hplain : (backTo cpos (starEach [] X.env)).any (·.1) = false := by rfl)
    (hsw : swapsWith (.Call (.Attribute o "append" apos) [e] [] cpos) none pos.line X.env = pure false := by rfl) :
    VSt X b W (.Expr (.Call (.Attribute o "append" apos) [e] [] cpos) pos) (sMut i gApp ta) :=
  vs_mut PySem.F.slot_list_append PySem.F.type_list_append mt_append rd_app ho ha hbase hfew hline hs hplain hsw
end
end VL
set_option Elab.async false
set_option linter.all false
set_option maxRecDepth 100000
set_option maxHeartbeats 4000000
namespace VL
open PySem PySem.Spec PyProof.Rows L2 HT
/-! ### dicts with keys int or text: read, get, put -/
def keyOf : PyData → Option Key
  | .int i => some (.inl i)
  | .str x => some (.inr x)
  | _ => none
@[simp] theorem keyOf_kD (k : Key) : keyOf (kD k) = some k := by cases k <;> rfl
def getD (ds : List (PyData × PyData)) (k : Key) : Option PyData := (ds.find? fun p => decide (keyOf p.1 = some k)).map (·.2)
def putD (ds : List (PyData × PyData)) (k : Key) (x : PyData) : List (PyData × PyData) :=
  if (ds.any fun p => decide (keyOf p.1 = some k)) = true then ds.map (fun p => if keyOf p.1 = some k then (p.1, x) else p) else ds ++ [(kD k, x)]
section
variable {Z : Addr → Prop} {H : Hp}
theorem Rqk.any {k : Key} : ∀ {kvs : List (Key × V)} {ds : List (PyData × PyData)}, Rqk Z H kvs ds → (kvs.any fun kv => decide (kv.1 = k)) = (ds.any fun p => decide (keyOf p.1 = some k))
  | _, _, .nil => rfl
  | _, _, .cons (k := k') r t => by
    rw [List.any_cons, List.any_cons, Rqk.any t]
    simp [-kD]
theorem Rqk.get {k : Key} : ∀ {kvs : List (Key × V)} {ds : List (PyData × PyData)}, Rqk Z H kvs ds → (valV kvs k = none ∧ getD ds k = none) ∨ ∃ v d, valV kvs k = some v ∧ getD ds k = some d ∧ Rq Z H v d
  | _, _, .nil => .inl ⟨rfl, rfl⟩
  | _, _, .cons (k := k') (v := v) (d := d) r t => by
    by_cases e : k' = k
    · exact .inr ⟨v, d, valV_pos e, by simp [-kD, getD, List.find?_cons, e], r⟩
    · have h1 : ∀ r, valV ((k', v) :: r) k = valV r k := fun r => valV_neg e
      have h2 : ∀ ds, getD ((kD k', d) :: ds) k = getD ds k := fun ds => by simp [-kD, getD, List.find?_cons, e]
      rcases Rqk.get (k := k) t with ⟨a, c⟩ | ⟨v', d', a, c, q⟩
      · exact .inl ⟨by rw [h1]; exact a, by rw [h2]; exact c⟩
      · exact .inr ⟨v', d', by rw [h1]; exact a, by rw [h2]; exact c, q⟩
theorem Rqk.map {k : Key} {v : V} {x : PyData} (rx : Rq Z H v x) : ∀ {kvs : List (Key × V)} {ds : List (PyData × PyData)}, Rqk Z H kvs ds → Rqk Z H (kvs.map fun kv => if kv.1 = k then (kv.1, v) else kv) (ds.map fun p => if keyOf p.1 = some k then (p.1, x) else p)
  | _, _, .nil => .nil
  | _, _, .cons (k := k') r t => by
    rw [List.map_cons, List.map_cons]
    by_cases e : k' = k
    · simp only [keyOf_kD, e, if_true]
      exact .cons rx (Rqk.map rx t)
    · simp only [keyOf_kD, Option.some.injEq, e, if_false]
      exact .cons r (Rqk.map rx t)
theorem Rqk.snoc {k : Key} {v : V} {x : PyData} (rx : Rq Z H v x) : ∀ {kvs : List (Key × V)} {ds : List (PyData × PyData)}, Rqk Z H kvs ds → Rqk Z H (kvs ++ [(k, v)]) (ds ++ [(kD k, x)])
  | _, _, .nil => .cons rx .nil
  | _, _, .cons r t => .cons r (Rqk.snoc rx t)
theorem Rqk.put {k : Key} {v : V} {x : PyData} {kvs : List (Key × V)} {ds : List (PyData × PyData)} (rx : Rq Z H v x) (t : Rqk Z H kvs ds) : Rqk Z H (putK kvs k v) (putD ds k x) := by
  unfold putK putD
  rw [t.any]
  split
  · exact t.map rx
  · exact t.snoc rx
end
end VL
set_option Elab.async false
set_option linter.all false
set_option maxRecDepth 100000
set_option maxHeartbeats 4000000
namespace VL
open PySem PySem.Spec PyProof.Rows L2 HT
section
variable {b : Bg} {Zo Z : Addr → Prop} {σ : L2.St} {H H' : Hp} {ρ : VEnv}
theorem VOk.rqk (v : VOk b Zo Z σ H ρ) (x : Ex b H H') {u : List (Key × V)} {d : List (PyData × PyData)} (r : Rqk Z H u d) : Rqk Z H' u d := r.mono (fun a z => .inl z) (v.keep x)
/-- a borrowed dict -/
theorem VOk.rdict (v : VOk b Zo Z σ H ρ) {u : V} {ds : List (PyData × PyData)} (r : Rb b Z H u (.py (.dict ds))) : ∃ a kvs, u = .ref a ∧ H a = some (.dK kvs) ∧ ¬ b.B a ∧ Rqk Z H kvs ds := by
  rcases r with r | ⟨a, e, nb, _, kvs, h, rk⟩
  · have r : Rq Z H u (.dict ds) := r
    cases r with
    | dct h n rk => exact ⟨_, _, rfl, h, v.nb n, rk⟩
  · exact ⟨a, kvs, e, h, nb, rk⟩
theorem Rq.key {u : V} {p : PyData} {k : Key} (r : Rq Z H u p) (e : keyOf p = some k) : u = kV k := by
  cases p <;> simp only [keyOf] at e <;> cases e
  · cases r; rfl
  · cases r; rfl
end
@[simp] def vDGet2 (td ty tx : VT) : VT := fun ρ Q E => td ρ (fun d => ∃ ds, d = .py (.dict ds) ∧ ty ρ (fun y => ∃ k kk, y = .py k ∧ keyOf k = some kk ∧ tx ρ (fun z => ∃ p, z = .py p ∧ Q (.py ((getD ds kk).getD p))) E) E) E
@[simp] def vDGet1 (td ty : VT) : VT := fun ρ Q E => td ρ (fun d => ∃ ds, d = .py (.dict ds) ∧ ty ρ (fun y => ∃ k kk, y = .py k ∧ keyOf k = some kk ∧ Q (.py ((getD ds kk).getD .none))) E) E
@[simp] def vDIx (td ty : VT) : VT := fun ρ Q E => td ρ (fun d => ∃ ds, d = .py (.dict ds) ∧ ty ρ (fun y => ∃ k kk x, y = .py k ∧ keyOf k = some kk ∧ getD ds kk = some x ∧ Q (.py x)) E) E
section
variable {X : Cx} {b : Bg} {W : WX} {o e f : Expr} {td ty tx : VT} {apos cpos pos pos' : Pos} {i : Nat}
theorem ve_dget2 (hu : X.A.units + 1 < cLine) (ho : VX X b W o td) (he : VE X b W e ty) (hf : VE X b W f tx) (m : M2 X o "get" apos e f cpos) : VE X b W (.Call (.Attribute o "get" apos) [e, f] [] cpos) (vDGet2 td ty tx) :=
  pe_mono (pe_dget2 hu ho he hf m) fun σ H Q ⟨Zo, Z, ρ, Qd, Ed, v, q, l, me⟩ => ⟨Zo, Z, ρ, _, Ed, v, q, fun x H1 d x1 g1 r1 ⟨ds, ed, q1⟩ => by
    subst ed
    have v1 := v.ex x1 g1
    obtain ⟨a, kvs, rfl, h, nb, rk⟩ := v1.rdict r1
    refine ⟨a, rfl, .inl ⟨kvs, .inl h⟩, Zo, Z, ρ, _, Ed, v1, q1, fun y H2 dy x2 g2 r2 ⟨k, kk, ey, ek, q2⟩ => ?_, fun c y H2 er x2 g2 r2 q2 => me c y H2 er (x1.trans x2) g2 r2 q2⟩
    subst ey
    have v2 := v1.ex x2 g2
    refine ⟨Zo, Z, ρ, _, Ed, v2, q2, fun z H3 dz x3 g3 r3 ⟨p, ez, q3⟩ => ?_, fun c y H3 er x3 g3 r3 q3 => me c y H3 er ((x1.trans x2).trans x3) g3 r3 q3⟩
    subst ez
    have x23 := x2.trans x3
    have h3 := x23 a _ h nb
    have rk3 := v1.rqk x23 rk
    have ek' : y = kV kk := Rq.key (Z := Z) r2 ek
    refine ⟨valV kvs kk, by rw [ek']; exact DGet.k h3, l _ H3 _ (x1.trans x23) g3 ?_ q3⟩
    rcases rk3.get (k := kk) with ⟨e1, e2⟩ | ⟨u, d', e1, e2, ru⟩
    · rw [e1, e2]; exact r3
    · rw [e1, e2]; exact ru, me⟩
/-- d[k] = x for an owned dict -/
@[simp] def sDPutO (i : Nat) (ty tv : VT) : VS := fun ρ De => ∃ ds, ρ[i]? = some (.own (.py (.dict ds))) ∧ tv ρ (fun x => ∃ p, x = .py p ∧ ty ρ (fun y => ∃ k kk, y = .py k ∧ keyOf k = some kk ∧ ds.length < sizeLine ∧ De.nx (ρ.set i (.own (.py (.dict (putD ds kk p)))))) (De.ex ρ)) (De.ex ρ)
theorem vs_dputO {tv : VT} {value : Expr} (hu : X.A.units + 1 < cLine) (ho : PE X o (tVar i)) (he : VE X b W e ty) (hv : VE X b W value tv) (hs : swapsWith value (some (.Subscript o e pos')) pos.line X.env = pure false := by rfl) :
    VSt X b W (.Assign [.Subscript o e pos'] value pos) (sDPutO i ty tv) :=
  ps_mono (ps_dput hu ho he hv hs) fun Dn σ H ⟨H0, M, Zo, Z, ρ, De, f, ⟨ds, e1, q⟩, l⟩ => by
    refine ⟨Zo, Z, ρ, _, _, f.v, q, fun v H1 dv x1 g1 r1 ⟨p, ep, q1⟩ => ?_, l.er f⟩
    subst ep
    have f1 := f.ex x1 g1
    obtain ⟨a, h1, h2, h3, kvs, h4, h5⟩ := f1.v.own i _ e1
    have nb : ¬ b.B a := fun z => h3 (f1.v.zb a z)
    refine ⟨.ref a, h1, Zo, Z, ρ, _, _, f1.v, q1, fun y H2 dy x2 g2 r2 ⟨k, kk, ey, ek, hl, q2⟩ => ?_, l.er f1⟩
    subst ey
    have f2 := f1.ex x2 g2
    have ek' : y = kV kk := Rq.key (Z := Z) r2 ek
    have h4' := x2 a _ h4 nb
    have h5' := f1.v.rqk x2 h5
    refine ⟨a, _, rfl, by rw [ek']; exact DPut.k h4' (by rw [h5.length]; exact hl), l.nx _ _ _ _ (f2.mut (d' := .py (.dict (putD ds kk p))) e1 h1 ⟨_, upd_same, ?_⟩) q2⟩
    exact (h5'.put (f1.v.rq x2 r1)).mono (fun c z => .inl z) fun c u e n => by
      rw [upd_ne (fun w => n (by rw [w]; exact h2))]
      exact e
end
end VL
set_option Elab.async false
set_option linter.all false
set_option maxRecDepth 100000
set_option maxHeartbeats 4000000
namespace VL
open PySem PySem.Spec PyProof.Rows L2 HT
/-- a constant of the module that is a text -/
theorem ve_gstr {X : Cx} {b : Bg} {W : WX} {pos : Pos} {x : Str} {i : Str} (hg : Gl X x) (hm : ∃ t, X.mg x = some (.str i t)) (hd : (x == ("__debug__" : Str)) = false := by decide) : VE X b W (.Name x pos) (vC (.py (.str i))) := by
  obtain ⟨t, h⟩ := hm
  exact ve_glob (v := .str i) hg h ⟨t, rfl⟩ (fun _ _ => .str i) hd
end VL
set_option Elab.async false
set_option linter.all false
set_option maxRecDepth 100000
set_option maxHeartbeats 4000000
namespace VL
open PySem PySem.Spec PyProof.Rows L2 HT
/-! ### typed data -/
def pN (n : Nat) : PyData := .int (n : Int)
def oN : Option Nat → PyData
  | none => .none
  | some n => .int (n : Int)
@[simp] def tI (gs : List Int) : PyData := .tuple (gs.map PyData.int)
@[simp] def tN (ns : List Nat) : PyData := .tuple (ns.map pN)
theorem map_inj {α β : Type} {f : α → β} (h : ∀ a b, f a = f b → a = b) : ∀ {xs ys : List α}, xs.map f = ys.map f ↔ xs = ys
  | [], [] => ⟨fun _ => rfl, fun _ => rfl⟩
  | [], _ :: _ => by simp
  | _ :: _, [] => by simp
  | x :: xs, y :: ys => by
    rw [List.map_cons, List.map_cons, List.cons.injEq, List.cons.injEq, map_inj h]
    exact ⟨fun ⟨a, b⟩ => ⟨h _ _ a, b⟩, fun ⟨a, b⟩ => ⟨by rw [a], b⟩⟩
theorem pN_inj (a b : Nat) (e : pN a = pN b) : a = b := by unfold pN at e; injection e with e; omega
@[simp] theorem pN_eq {a b : Nat} : pN a = pN b ↔ a = b := ⟨pN_inj a b, fun e => by rw [e]⟩
@[simp] theorem mapI_inj {xs ys : List Int} : xs.map PyData.int = ys.map PyData.int ↔ xs = ys := map_inj fun a b e => by injection e
@[simp] theorem mapN_inj {xs ys : List Nat} : xs.map pN = ys.map pN ↔ xs = ys := map_inj pN_inj
@[simp] theorem oN_inj {a b : Option Nat} : oN a = oN b ↔ a = b := by
  cases a <;> cases b <;> simp [oN]
  omega
theorem atI_map {α β : Type} {f : α → β} {xs : List α} {k : Nat} {x : α} (h : xs[k]? = some x) : atI (xs.map f) (k : Int) = some (f x) := atI_nat (by rw [List.getElem?_map, h]; rfl)
theorem enumP_len (xs : List PyData) : (enumP xs).length = xs.length := by simp [enumP]
theorem enumP_getD {α : Type} {f : α → PyData} {xs : List α} {k : Nat} {d : PyData} (h : (enumP (xs.map f))[k]? = some d) : ∃ x, xs[k]? = some x ∧ d = .tuple [.int (k : Nat), f x] := by
  obtain ⟨x, h1, h2⟩ := enumP_get h
  rw [List.getElem?_map] at h1
  cases e : xs[k]? with
  | none => rw [e] at h1; cases h1
  | some y => rw [e] at h1; cases h1; exact ⟨y, rfl, h2⟩
theorem take_succ_get {α : Type} {xs : List α} {k : Nat} {x : α} (h : xs[k]? = some x) : xs.take (k + 1) = xs.take k ++ [x] := by
  rw [List.take_add_one, h]; rfl
end VL
namespace VL
open PySem PySem.Spec PyProof.Rows L2 HT
theorem putD_len (ds : List (PyData × PyData)) (k : Key) (x : PyData) : (putD ds k x).length ≤ ds.length + 1 := by
  unfold putD
  split
  · simp
  · simp
theorem getD_putD (ds : List (PyData × PyData)) (k j : Key) (x : PyData) : getD (putD ds k x) j = if j = k then some x else getD ds j := by
  unfold putD
  split
  · rename_i h
    have e : ∀ l : List (PyData × PyData), getD (l.map fun p => if keyOf p.1 = some k then (p.1, x) else p) j = if j = k then (if (l.any fun p => decide (keyOf p.1 = some k)) = true then some x else none) else getD l j := by
      intro l
      induction l with
      | nil => simp [getD]
      | cons p l ih =>
        unfold getD at ih ⊢
        rw [List.map_cons, List.any_cons, List.find?_cons]
        by_cases c : keyOf p.1 = some k
        · by_cases d : j = k
          · subst d; simp [c]
          · have d' : ¬ (some k = some j) := fun z => d (by cases z; rfl)
            have d'' : ¬ (k = j) := fun z => d z.symm
            simp [c, d, d', d''] at ih ⊢
            simpa [c, d, d', d''] using ih
        · by_cases d : keyOf p.1 = some j
          · have d' : ¬ j = k := fun z => c (by rw [d, z])
            simp [c, d, d']
          · have c' : decide (keyOf p.1 = some k) = false := decide_eq_false c
            have d' : decide (keyOf p.1 = some j) = false := decide_eq_false d
            rw [if_neg c, d', List.find?_cons, c', Bool.false_or]
            simp only [d']
            exact ih
    rw [e, h]; simp
  · rename_i h
    unfold getD
    rw [List.find?_append]
    by_cases d : j = k
    · subst d
      have hn : ds.find? (fun p => decide (keyOf p.1 = some j)) = none := by
        rw [List.find?_eq_none]
        intro p hp hc
        exact h (List.any_eq_true.mpr ⟨p, hp, hc⟩)
      simp [hn, -kD]
    · have d' : ¬ (k = j) := fun z => d z.symm
      simp [d, d', -kD]
@[simp] theorem getD_nil (k : Key) : getD [] k = none := rfl
end VL
set_option Elab.async false
set_option linter.all false
set_option maxRecDepth 100000
set_option maxHeartbeats 4000000
namespace VL
open PySem PySem.Spec PyProof.Rows L2
/-! ### data that is shown in few signs -/
structure Sw (w d : Nat) (p : PyData) : Prop where
  sh : p.showable = true
  ls : p.leavesShort 60 = true
  wt : p.weight ≤ w
  dp : p.depth ≤ d
theorem Sw.mono {w d w' d' : Nat} {p : PyData} (h : Sw w d p) (hw : w ≤ w') (hd : d ≤ d') : Sw w' d' p := ⟨h.sh, h.ls, Nat.le_trans h.wt hw, Nat.le_trans h.dp hd⟩
theorem Sw.len {w d : Nat} {p : PyData} (h : Sw w d p) : p.shown.length ≤ 62 * w + 60 := by
  have := PyData.shown_le 60 (by omega) p h.ls
  have := h.wt
  omega
theorem Sw.repr {w d : Nat} {p : PyData} (h : Sw w d p) (hw : w ≤ 260000 := by decide) (hd : d ≤ 40 := by decide) : ReprOk p := ⟨h.sh, by have := h.len; rw [szl]; omega, Nat.le_trans h.dp hd⟩
theorem Sw.all {w d : Nat} : ∀ {ps : List PyData}, (∀ p ∈ ps, Sw w d p) → PyData.showableAll ps = true ∧ PyData.leavesShortAll 60 ps = true ∧ PyData.weightAll ps ≤ (w + 1) * ps.length ∧ PyData.depthAll ps ≤ d
  | [], _ => ⟨rfl, rfl, Nat.zero_le _, Nat.zero_le _⟩
  | p :: ps, h => by
    have hp := h p List.mem_cons_self
    obtain ⟨a, b, c, e⟩ := Sw.all (ps := ps) fun q hq => h q (List.mem_cons_of_mem _ hq)
    refine ⟨by simp only [PyData.showableAll, hp.sh, a, Bool.and_self], by simp only [PyData.leavesShortAll, hp.ls, b, Bool.and_self], ?_, ?_⟩
    · have := hp.wt
      rw [List.length_cons, Nat.mul_add]
      simp only [PyData.weightAll]
      omega
    · have := hp.dp
      simp only [PyData.depthAll]
      omega
theorem Sw.tup {w d n : Nat} {ps : List PyData} (h : ∀ p ∈ ps, Sw w d p) (hn : ps.length ≤ n) : Sw ((w + 1) * n) (d + 1) (.tuple ps) := by
  obtain ⟨a, b, c, e⟩ := Sw.all h
  have m : (w + 1) * ps.length ≤ (w + 1) * n := Nat.mul_le_mul_left _ hn
  exact ⟨by simpa only [PyData.showable] using a, by simpa only [PyData.leavesShort] using b, by simp only [PyData.weight]; omega, by simp only [PyData.depth]; omega⟩
theorem Sw.lst {w d n : Nat} {ps : List PyData} (h : ∀ p ∈ ps, Sw w d p) (hn : ps.length ≤ n) : Sw ((w + 1) * n) (d + 1) (.list ps) := by
  obtain ⟨a, b, c, e⟩ := Sw.all h
  have m : (w + 1) * ps.length ≤ (w + 1) * n := Nat.mul_le_mul_left _ hn
  exact ⟨by simpa only [PyData.showable] using a, by simpa only [PyData.leavesShort] using b, by simp only [PyData.weight]; omega, by simp only [PyData.depth]; omega⟩
theorem Sw.int {i : Int} (h : i.natAbs < 10 ^ 12) : Sw 40 2 (.int i) := by
  have l : i.natAbs.log2 < 40 := by
    by_cases z : i.natAbs = 0
    · rw [z]; decide
    · exact (Nat.log2_lt z).mpr (by omega)
  refine ⟨by simp only [PyData.showable, decide_eq_true_eq]; omega, ?_, ?_, by simp only [PyData.depth]; omega⟩
  · have := PyData.shown_int_le h
    simp only [PyData.leavesShort, decide_eq_true_eq]
    omega
  · simp only [PyData.weight]
    split <;> omega
instance (w d : Nat) (p : PyData) : Decidable (Sw w d p) := decidable_of_iff (p.showable = true ∧ p.leavesShort 60 = true ∧ p.weight ≤ w ∧ p.depth ≤ d) ⟨fun ⟨a, b, c, e⟩ => ⟨a, b, c, e⟩, fun ⟨a, b, c, e⟩ => ⟨a, b, c, e⟩⟩
theorem Sw.tI {n : Nat} {gs : List Int} (h : ∀ g ∈ gs, g.natAbs < 10 ^ 12) (hn : gs.length ≤ n) : Sw (41 * n) 3 (tI gs) := Sw.tup (w := 40) (d := 2) (fun p hp => by
  obtain ⟨g, hg, rfl⟩ := List.mem_map.mp hp
  exact Sw.int (h g hg)) (by rw [List.length_map]; exact hn)
theorem Sw.pN {n : Nat} (h : n < 10 ^ 12) : Sw 40 2 (pN n) := Sw.int (by omega)
theorem Sw.l2 {w d : Nat} {p q : PyData} (h : Sw w d p) (k : Sw w d q) : Sw ((w + 1) * 2) (d + 1) (.list [p, q]) := Sw.lst (fun x hx => by
  simp at hx
  rcases hx with rfl | rfl
  · exact h
  · exact k) (by simp)
theorem Sw.t2 {w d : Nat} {p q : PyData} (h : Sw w d p) (k : Sw w d q) : Sw ((w + 1) * 2) (d + 1) (.tuple [p, q]) := Sw.tup (fun x hx => by
  simp at hx
  rcases hx with rfl | rfl
  · exact h
  · exact k) (by simp)
end VL
set_option Elab.async false
set_option linter.all false
set_option maxRecDepth 100000
set_option maxHeartbeats 4000000
namespace VL
open PySem PySem.Spec PyProof.Rows L2 HT
/-! ### comprehensions and loops over encoded lists -/
section
variable {g : VTg} {tt : VB} {te : VT} {ρ : VEnv} {Q : D → Prop} {α : Type}
theorem lc_enc (enc : α → PyData) (f : α → Option PyData) : ∀ {L : List α} {acc : List PyData}, (∀ (i : Nat) (x : α), L[i]? = some x → ∀ k, k (f x) → lcStep g tt te (.py (enc x)) ρ k) → acc.length + L.length < 16777216 → Q (.py (.list (acc ++ L.filterMap f))) → lcGo g tt te Q ((L.map enc).map D.py) acc ρ
  | [], acc, _, _, q => by simpa using q
  | x :: xs, acc, h, hl, q => by
    refine lcGo_cons (h 0 x rfl _ ?_)
    have hr : ∀ (i : Nat) (y : α), xs[i]? = some y → ∀ k, k (f y) → lcStep g tt te (.py (enc y)) ρ k := fun i y hy => h (i + 1) y (by simpa using hy)
    rw [List.length_cons] at hl
    rw [List.filterMap_cons] at q
    cases e : f x with
    | none => rw [e] at q; exact lc_enc enc f hr (by omega) q
    | some p =>
      rw [e] at q
      refine ⟨by rw [szl]; omega, lc_enc enc f hr (by rw [List.length_append, List.length_singleton]; omega) ?_⟩
      rw [List.append_assoc]
      exact q
theorem filterMap_if (p : α → Bool) (e : α → PyData) : ∀ L : List α, L.filterMap (fun x => if p x = true then some (e x) else none) = (L.filter p).map e
  | [] => rfl
  | x :: xs => by
    rw [List.filterMap_cons, filterMap_if p e xs, List.filter_cons]
    cases p x <;> simp
theorem lc_encF (enc : α → PyData) (p : α → Bool) (e : α → PyData) {L : List α} (h : ∀ (i : Nat) (x : α), L[i]? = some x → ∀ k, (p x = true → k (some (e x))) → (p x = false → k none) → lcStep g tt te (.py (enc x)) ρ k)
    (hl : L.length < 16777216) (q : Q (.py (.list ((L.filter p).map e)))) : lcGo g tt te Q ((L.map enc).map D.py) [] ρ := by
  refine lc_enc enc (fun x => if p x = true then some (e x) else none) (fun i x hx k hk => h i x hx k (fun c => by simpa [c] using hk) (fun c => by simpa [c] using hk)) (by simpa using hl) ?_
  rw [filterMap_if, List.nil_append]
  exact q
theorem lc_encM (enc : α → PyData) (e : α → PyData) {L : List α} (h : ∀ (i : Nat) (x : α), L[i]? = some x → ∀ k, k (some (e x)) → lcStep g tt te (.py (enc x)) ρ k)
    (hl : L.length < 16777216) (q : Q (.py (.list (L.map e)))) : lcGo g tt te Q ((L.map enc).map D.py) [] ρ := by
  refine lc_enc enc (fun x => some (e x)) h (by simpa using hl) ?_
  rw [List.nil_append, List.filterMap_eq_map']
  exact q
end
section
variable {g : VTg} {tb : VS} {De : VEnds} {α : Type}
theorem for_enc (enc : α → PyData) (Iv : Nat → VEnv → Prop) {L : List α} {ρ : VEnv} (h0 : Iv 0 ρ) (h : ∀ i x ρ, L[i]? = some x → Iv i ρ → ∀ nx ct : VEnv → Prop, (∀ ρ', Iv (i + 1) ρ' → nx ρ' ∧ ct ρ') → g (.py (enc x)) ρ fun ρ1 => tb ρ1 ⟨nx, De.rt, De.nx, ct, De.ex⟩) (hd : ∀ ρ, Iv L.length ρ → De.nx ρ) :
    forGo g tb ((L.map enc).map D.py) ρ De := by
  refine for_inv Iv (fun i x ρ hx iv nx ct hn => ?_) (fun ρ iv => hd ρ (by simpa using iv)) h0
  rw [List.getElem?_map] at hx
  cases e : L[i]? with
  | none => rw [e] at hx; cases hx
  | some y => rw [e] at hx; cases hx; exact h i y ρ e iv nx ct hn
end
def encR (lo : Int) (k : Nat) : PyData := .int (lo + (k : Nat))
@[simp] theorem encR0 (k : Nat) : encR 0 k = .int (k : Int) := by unfold encR; rw [Int.zero_add]
def encE {α : Type} (enc : α → PyData) (p : α × Nat) : PyData := .tuple [.int (p.2 : Nat), enc p.1]
@[simp] theorem encE_eq {α : Type} (enc : α → PyData) (x : α) (n : Nat) : encE enc (x, n) = .tuple [.int (n : Nat), enc x] := rfl
theorem enumP_enc {α : Type} (enc : α → PyData) (L : List α) : enumP (L.map enc) = L.zipIdx.map (encE enc) := by
  unfold enumP encE
  rw [List.zipIdx_map, List.map_map]
  rfl
theorem zipIdx_at {α : Type} {L : List α} {i : Nat} {p : α × Nat} (h : L.zipIdx[i]? = some p) : ∃ x, L[i]? = some x ∧ p = (x, i) := by
  rw [List.getElem?_zipIdx] at h
  cases e : L[i]? with
  | none => rw [e] at h; cases h
  | some x => rw [e] at h; cases h; exact ⟨x, rfl, by simp⟩
theorem range_get {n i x : Nat} (h : (List.range n)[i]? = some x) : x = i ∧ i < n := by
  have hi : i < n := by have := (List.getElem?_eq_some_iff.mp h).1; simpa using this
  rw [List.getElem?_range hi] at h
  cases h
  exact ⟨rfl, hi⟩
end VL
set_option Elab.async false
set_option linter.all false
set_option maxRecDepth 100000
set_option maxHeartbeats 4000000
namespace VL
open PySem PySem.Spec PyProof.Rows L2 HT
/-! ### methods of values -/
def TyIs (X : Cx) (T : String) (x : V) (H : Hp) : Prop := ∀ (pins : List (Addr × Obj)) (σ : L2.St) (s : Shared) (v : Value), Inv X pins σ H s → RelV x v → s.TypeIs v T ∧ ∀ a, v = .ref a → ∃ ob, s.heap.get? a = some ob ∧ ob.dict = none
def AltOk (X : Cx) (name : Str) (x : V) (H : Hp) (r : V → List V → Hp → VK → Prop) : Prop := ∃ T id, PlainAttrs T ∧ PySem.Slot T name id ∧ typeOf (.builtin id) = pure (.type "method_descriptor") ∧ MtR X id r ∧ TyIs X T x H
def tBMx (X : Cx) (name : Str) (to : TE) (t : TA) : TE := fun σ H Q => to σ H fun x H1 => ∃ r, AltOk X name x H1 r ∧ t σ H1 fun xs H2 => r x xs H2 Q
theorem pe_bmx {X : Cx} {o e : Expr} {es : List Expr} {to : TE} {t : TA} {name : Str} {apos cpos : Pos} (ho : PE X o to) (ha : PA X (e :: es) t)
    (hbase : attributeBase o name X.env (eval o X.env) = eval o X.env := by rfl)
    (hfew : ((backTo cpos (starEach (e :: es) X.env)).all (fun x => !x.1) && (backToKw cpos (keywordEach [] X.env)).all (fun x => x.1.isSome)
      && decide ((e :: es).length + ([] : List Keyword).length + (if ([] : List Keyword).isEmpty then 0 else 1) < 30)) = true := by rfl)
    (hline : (apos.endLine == cpos.line) = true := by rfl) (hs : starEach (e :: es) X.env = (false, eval e X.env) :: starEach es X.env := by rfl) (hplain : (backTo cpos (starEach es X.env)).any (·.1) = false := by rfl) :
    PE X (.Call (.Attribute o name apos) (e :: es) [] cpos) (tBMx X name to t) := by
  refine ⟨fun pins s σ H Q I h => ?_⟩
  refine wpAny_Call_method_late hbase hfew hline rfl (thn (ho.run pins s σ H _ I h) fun v s1 ⟨x, H1, I1, r1, r, ⟨T, id, pa, slot, hty, hm, ty⟩, q1⟩ => ?_)
  obtain ⟨h1, h2⟩ := ty pins σ s1 v I1 r1
  refine ⟨T, id, pa, slot, hty, h1, h2, ?_⟩
  have hA := ha.run cpos pins s1 σ H1 _ I1 q1
  rw [hs] at hA ⊢
  refine Calls.callWith_builtin (by show (false || (backTo cpos (starEach es X.env)).any (·.1)) = false; rw [hplain] <;> rfl) (Calls.evalArgs_plain ?_)
  exact thn hA fun us s2 ⟨vs, H2, I2, r2, q2⟩ => hm pins s2 σ H2 x vs v us Q I2 r1 r2 q2
section
variable {X : Cx} {H : Hp}
theorem ty_str (z : Str) : TyIs X "str" (.str z) H := fun pins σ s v I r => by
  obtain ⟨t, rfl⟩ := r
  exact ⟨typeIs_str s z t, fun _ e => nomatch e⟩
theorem ty_lst {a : Addr} {xs : List V} (e : H a = some (.lst xs)) : TyIs X "list" (.ref a) H := fun pins σ s v I r => by
  cases r
  obtain ⟨its, _, pl, _⟩ := I.list (SqL.of e)
  refine ⟨pl.isList.typeIs, fun a e => ?_⟩
  cases e
  obtain ⟨o, n, e, c, hd, _⟩ := pl
  exact ⟨o, e, hd⟩
theorem ty_tup {a : Addr} {o : Obj} {xs : List V} (e : H a = some (HO.th o xs)) (hd : o.dict = none) : TyIs X "tuple" (.ref a) H := fun pins σ s v I r => by
  cases r
  obtain ⟨h1, _, its, _, ho⟩ := I.hok a _ e
  obtain ⟨o', e', hc, _⟩ := ho
  refine ⟨⟨o', e', hc⟩, fun b eb => ?_⟩
  cases eb
  exact ⟨o, h1, hd⟩
end
/-- a method over values: k says for which receivers it is there -/
def MetX (X : Cx) (b : Bg) (R : (Addr → Prop) → Hp → Hp → V → D → Prop) (name : Str) (k : D → Prop) (g : D → List D → (D → Prop) → Prop) : Prop :=
  ∀ (Z : Addr → Prop) (H : Hp) (x : V) (d : D), Gd b Z H → Rb b Z H x d → k d → ∃ r, AltOk X name x H r ∧ ∀ (H' : Hp) (xs : List V) (ds : List D) (Q : VK) (Qd : D → Prop), Ex b H H' → Gd b Z H' → Rb b Z H' x d → Rbs b Z H' xs ds → g d ds Qd →
    (∀ v H2 e, Ex b H' H2 → b.G H2 → R Z H' H2 v e → Qd e → Q v H2) → r x xs H' Q
@[simp] def vMth (k : D → Prop) (g : D → List D → (D → Prop) → Prop) (to : VT) (ta : VA) : VT := fun ρ Q E => to ρ (fun d => k d ∧ ta ρ (fun ds => g d ds Q) E) E
section
variable {X : Cx} {b : Bg} {W : WX} {o e : Expr} {es : List Expr} {to : VT} {ta : VA} {name : Str} {apos cpos : Pos} {k : D → Prop} {g : D → List D → (D → Prop) → Prop}
theorem coreM {R : (Addr → Prop) → Hp → Hp → V → D → Prop} (hR : ∀ Z H H1 H2 v d, b.G H1 → Ex b H H1 → R Z H1 H2 v d → R Z H H2 v d) (hd : MetX X b R name k g) :
    ∀ σ H Q, LE b W R (vMth k g to ta) σ H Q → tBMx X name (LE b W (fun Z _ H v d => Rb b Z H v d) to) (LAX b W ta) σ H Q :=
  fun σ H Q ⟨Zo, Z, ρ, Qd, Ed, v, q, l, m⟩ => ⟨Zo, Z, ρ, _, Ed, v, q, fun x H1 d x1 g1 r1 ⟨kd, q1⟩ => by
    have v1 := v.ex x1 g1
    obtain ⟨r, al, rr⟩ := hd Z H1 x d v1.gd r1 kd
    exact ⟨r, al, Zo, Z, ρ, _, Ed, v1, q1, fun xs H2 ds x2 g2 r2 q2 => rr H2 xs ds Q Qd x2 (v1.ex x2 g2).gd (r1.ex (v1.keep x2) x2) r2 q2 fun u H3 d3 x3 g3 r3 q3 => l u H3 d3 ((x1.trans x2).trans x3) g3 (hR _ _ _ _ _ _ g2 (x1.trans x2) r3) q3,
      fun c z H2 er x2 g2 r2 q2 => m c z H2 er (x1.trans x2) g2 r2 q2⟩, m⟩
theorem ve_mth (hd : MetX X b (RE b) name k g) (ho : VX X b W o to) (ha : VXs X b W (e :: es) ta)
    (hbase : attributeBase o name X.env (eval o X.env) = eval o X.env := by rfl)
    (hfew : ((backTo cpos (starEach (e :: es) X.env)).all (fun x => !x.1) && (backToKw cpos (keywordEach [] X.env)).all (fun x => x.1.isSome)
      && decide ((e :: es).length + ([] : List Keyword).length + (if ([] : List Keyword).isEmpty then 0 else 1) < 30)) = true := by rfl)
    (hline : (apos.endLine == cpos.line) = true := by rfl) (hs : starEach (e :: es) X.env = (false, eval e X.env) :: starEach es X.env := by rfl) (hplain : (backTo cpos (starEach es X.env)).any (·.1) = false := by rfl) :
    VE X b W (.Call (.Attribute o name apos) (e :: es) [] cpos) (vMth k g to ta) := pe_mono (pe_bmx ho ha hbase hfew hline hs hplain) (coreM hRE hd)
end
/-! ### texts -/
@[simp] def isS : D → Prop
  | .py (.str _) => True
  | _ => False
theorem isS_ex : ∀ {d : D}, isS d → ∃ z, d = .py (.str z)
  | .py (.str z), _ => ⟨z, rfl⟩
/-- how often c stands in l: of one sign -/
@[simp] def gTCount : D → List D → (D → Prop) → Prop
  | .py (.str a), [.py (.str b)], Q => Q (.py (.int (Txt.count a b)))
  | _, _, _ => False
theorem mx_count {X : Cx} {b : Bg} : MetX X b (RE b) "count" isS gTCount := fun Z H x d gd rx kd => by
  obtain ⟨z, rfl⟩ := isS_ex kd
  obtain rfl := rx.str
  refine ⟨_, ⟨"str", _, PySem.F.plainAttrs_str, PySem.F.slot_str_count, PySem.F.type_str_count, mt_count, ty_str z⟩, fun H' xs ds Q Qd _ gd' _ rs h k => ?_⟩
  match ds, h, rs with
  | [.py (.str c)], h, .cons r .nil =>
    obtain rfl := r.str
    exact ⟨z, c, rfl, rfl, k _ H' (.py (.int _)) Ex.refl gd'.g (.int _) h⟩
@[simp] def gTJoin : D → List D → (D → Prop) → Prop
  | .py (.str a), [.py (.list xs)], Q => ∃ ys, allS xs = some ys ∧ (ys.map (·.length)).sum + ys.length * a.length ≤ 16777216 ∧ Q (.py (.str (Txt.join a ys)))
  | _, _, _ => False
theorem mx_join {X : Cx} {b : Bg} : MetX X b (RE b) "join" isS gTJoin := fun Z H x d gd rx kd => by
  obtain ⟨z, rfl⟩ := isS_ex kd
  obtain rfl := rx.str
  refine ⟨_, ⟨"str", _, PySem.F.plainAttrs_str, PySem.F.slot_str_join, PySem.F.type_str_join, mt_join, ty_str z⟩, fun H' xs ds Q Qd _ gd' _ rs h k => ?_⟩
  match ds, h, rs with
  | [.py (.list ps)], ⟨ys, e, hl, h⟩, .cons r .nil =>
    obtain ⟨a, us, rfl, ha, qa⟩ := r.list
    rw [allS_of e] at qa
    have eu := qa.strs
    subst eu
    exact ⟨z, a, ys, rfl, rfl, .inl (SqL.of ha), hl, k _ H' (.py (.str _)) Ex.refl gd'.g (.str _) h⟩
@[simp] def gTUpper : D → List D → (D → Prop) → Prop
  | .py (.str a), [], Q => a.length ≤ 5592405 ∧ Q (.py (.str (Txt.upper a)))
  | _, _, _ => False
@[simp] def gTSplit : D → List D → (D → Prop) → Prop
  | .py (.str a), [.py (.str b)], Q => (b.length == 0) = false ∧ a.length + 2 ≤ 16777216 ∧ Q (.py (.list ((Txt.split a b).map PyData.str)))
  | _, _, _ => False
end VL
set_option Elab.async false
set_option linter.all false
set_option maxRecDepth 100000
set_option maxHeartbeats 4000000
namespace VL
open PySem PySem.Spec PyProof.Rows L2 HT
/-! ### index by plain data -/
/-- the first place of an equal one -/
def ixOf : List PyData → PyData → Option Nat
  | [], _ => none
  | z :: zs, d => if z.eqv d = true then some 0 else (ixOf zs d).map (· + 1)
theorem ixOf_some : ∀ {ds : List PyData} {d : PyData} {j : Nat}, ixOf ds d = some j → ∃ z, ds[j]? = some z ∧ z.eqv d = true ∧ ∀ (m : Nat) (z' : PyData), m < j → ds[m]? = some z' → z'.eqv d = false
  | [], _, _, h => by cases h
  | z :: zs, d, j, h => by
    unfold ixOf at h
    split at h
    · rename_i c
      cases h
      exact ⟨z, rfl, c, fun m z' hm => by omega⟩
    · rename_i c
      cases e : ixOf zs d with
      | none => rw [e] at h; cases h
      | some i =>
        rw [e] at h
        cases h
        obtain ⟨y, h1, h2, h3⟩ := ixOf_some e
        refine ⟨y, by simpa using h1, h2, fun m z' hm hz => ?_⟩
        have hm' : m < i + 1 := hm
        cases m with
        | zero => simp at hz; subst hz; simpa using c
        | succ m => exact h3 m z' (by omega) (by simpa using hz)
section
variable {X : Cx}
def rIxP (tup : Bool) : V → List V → Hp → VK → Prop := fun x xs H Q => ∃ (a : Addr) (y : V) (d : PyData) (ds : List PyData) (j : Nat), x = .ref a ∧ xs = [y] ∧ Rq nz H (.ref a) (if tup = true then .tuple ds else .list ds) ∧ Rq nz H y d ∧ PyData.plainAll ds = true ∧ d.plain = true ∧
  (d.depth ≤ 60 ∨ PyData.depthAll ds ≤ 60) ∧ ixOf ds d = some j ∧ Q (.int (j : Nat)) H
theorem ix_at {s : Shared} {its : List Value} {ds : List PyData} {as : List Addr} {d : PyData} {j : Nat} (h4 : ReadsAll s.heap its ds as) (hp : PyData.plainAll ds = true) (hj : ixOf ds d = some j) :
    ∃ hjl : j < its.toArray.size, PyData.eqv (SeqAt.readOf s.heap its.toArray[j]) d = true ∧ ∀ m (hm : m < its.toArray.size), m < j → PyData.eqv (SeqAt.readOf s.heap its.toArray[m]) d = false := by
  obtain ⟨z, hz, h1, h2⟩ := ixOf_some hj
  have hn : its.length = ds.length := SeqAt.ReadsAll.length ds its as h4
  have hmap : its.map (SeqAt.readOf s.heap) = ds := SeqAt.readsAll_map_plain ds its as hp h4
  have at_ : ∀ (m : Nat) (hm : m < its.toArray.size) (z' : PyData), ds[m]? = some z' → SeqAt.readOf s.heap its.toArray[m] = z' := by
    intro m hm z' hz'
    have hml : m < its.length := by simpa using hm
    rw [← hmap, List.getElem?_map, List.getElem?_eq_getElem hml] at hz'
    have e1 : SeqAt.readOf s.heap its[m] = z' := Option.some.inj (show some (SeqAt.readOf s.heap its[m]) = some z' from hz')
    simpa using e1
  have hjd : j < ds.length := (List.getElem?_eq_some_iff.mp hz).1
  have hjl : j < its.toArray.size := by simp; omega
  refine ⟨hjl, by rw [at_ j hjl z hz]; exact h1, fun m hm hmj => ?_⟩
  have hz' : ds[m]? = some ds[m] := List.getElem?_eq_getElem (by omega)
  rw [at_ m hm _ hz']
  exact h2 m _ hmj hz'
theorem mt_ixL (hu : X.A.units + 65 < cLine) : MtR X "list.index" (rIxP false) := by
  intro pins s σ H x xs v us Q I rx rxs ⟨a, y, d, ds, j, ex, exs, hl, hy, pl, pd, hd, hj, q⟩
  subst ex exs
  cases rx
  obtain ⟨uy, rfl, ry⟩ := vals1 rxs
  obtain ⟨bs, r1, _⟩ := hy.reads I _ ry
  have hroom : X.A.units + 1 + min (PyData.depthAll ds) d.depth < cLine := by omega
  have hl : Rq nz H (.ref a) (.list ds) := hl
  cases hl with
  | lst e n ha =>
    obtain ⟨its, rv, ⟨⟨cls, dd, data, sls⟩, n, ho, hc, hdn, hdt⟩, hlen⟩ := I.list (SqL.of e)
    simp only at hc hdt
    subst hc hdt
    obtain ⟨as, h4, _⟩ := ha.reads I its rv
    obtain ⟨hjl, h1, h2⟩ := ix_at h4 pl hj
    have hsl := sizeLine_eq
    have hvl := rv.length
    have hjz : j < its.length := by simpa using hjl
    refine call_meets PySem.F.slot_list_index ⟨_, ho, rfl⟩ PySem.F.entry_list_index (PySem.F.args_list_index_2 _ _)
      (SeqAt.list_indexAt a its.toArray n dd sls uy (fun u => PyData.eqv (SeqAt.readOf s.heap u) d) j hjl (by omega) h1 h2) ⟨ho, SeqAt.items_plain (vs := its.toArray) (show ReadsAll s.heap its.toArray.toList ds as from h4) r1 pl pd hroom, ?_⟩
    exact ⟨.int (j : Nat), H, I.tok _, ⟨_, rfl⟩, q⟩
theorem mt_ixT (hu : X.A.units + 65 < cLine) : MtR X "tuple.index" (rIxP true) := by
  intro pins s σ H x xs v us Q I rx rxs ⟨a, y, d, ds, j, ex, exs, hl, hy, pl, pd, hd, hj, q⟩
  subst ex exs
  cases rx
  obtain ⟨uy, rfl, ry⟩ := vals1 rxs
  obtain ⟨bs, r1, _⟩ := hy.reads I _ ry
  have hroom : X.A.units + 1 + min (PyData.depthAll ds) d.depth < cLine := by omega
  have hl : Rq nz H (.ref a) (.tuple ds) := hl
  cases hl with
  | tup e _ n ha =>
    obtain ⟨its, rv, ⟨⟨cls, dd, data, sls⟩, ho, hc, n, hdt⟩, hlen⟩ := I.tuple (SqT.th e)
    simp only at hc hdt
    subst hc hdt
    obtain ⟨as, h4, _⟩ := ha.reads I its rv
    obtain ⟨hjl, h1, h2⟩ := ix_at h4 pl hj
    refine call_meets PySem.F.slot_tuple_index ⟨_, ho, rfl⟩ PySem.F.entry_tuple_index (PySem.F.args_tuple_index_2 _ _)
      (TI.tuple_indexAt a its.toArray n dd sls uy (fun u => PyData.eqv (SeqAt.readOf s.heap u) d) j hjl h1 h2) ⟨ho, SeqAt.items_plain (vs := its.toArray) (show ReadsAll s.heap its.toArray.toList ds as from h4) r1 pl pd hroom, ?_⟩
    exact ⟨.int (j : Nat), H, I.tok _, ⟨_, rfl⟩, q⟩
end
@[simp] def isSq : D → Prop
  | .py (.list _) => True
  | .py (.tuple _) => True
  | _ => False
@[simp] def gIndex : D → List D → (D → Prop) → Prop
  | .py (.list xs), [.py d], Q => PyData.plainAll xs = true ∧ d.plain = true ∧ (d.depth ≤ 60 ∨ PyData.depthAll xs ≤ 60) ∧ ∃ j, ixOf xs d = some j ∧ Q (.py (.int (j : Nat)))
  | .py (.tuple xs), [.py d], Q => PyData.plainAll xs = true ∧ d.plain = true ∧ (d.depth ≤ 60 ∨ PyData.depthAll xs ≤ 60) ∧ ∃ j, ixOf xs d = some j ∧ Q (.py (.int (j : Nat)))
  | _, _, _ => False
theorem mx_index {X : Cx} {b : Bg} (hu : X.A.units + 65 < cLine) : MetX X b (RE b) "index" isSq gIndex := fun Z H x d gd rx kd => by
  match d, kd, rx with
  | .py (.list ps), _, rx =>
    obtain ⟨a, us, rfl, ha, _⟩ := rx.list
    refine ⟨_, ⟨"list", _, PySem.F.plainAttrs_list, PySem.F.slot_list_index, PySem.F.type_list_index, mt_ixL hu, ty_lst ha⟩, fun H' xs ds Q Qd _ gd' rx' rs h k => ?_⟩
    match ds, h, rs with
    | [.py c], ⟨h1, h2, h3, j, h4, h⟩, .cons r .nil =>
      exact ⟨a, _, c, ps, j, rfl, rfl, rx'.q, r.q, h1, h2, h3, h4, k _ H' (.py (.int _)) Ex.refl gd'.g (.int _) h⟩
  | .py (.tuple ps), _, rx =>
    obtain ⟨a, o, us, rfl, ha, hd, _, _⟩ := rx.tuple
    refine ⟨_, ⟨"tuple", _, PySem.F.plainAttrs_tuple, PySem.F.slot_tuple_index, PySem.F.type_tuple_index, mt_ixT hu, ty_tup ha hd⟩, fun H' xs ds Q Qd _ gd' rx' rs h k => ?_⟩
    match ds, h, rs with
    | [.py c], ⟨h1, h2, h3, j, h4, h⟩, .cons r .nil =>
      exact ⟨a, _, c, ps, j, rfl, rfl, rx'.q, r.q, h1, h2, h3, h4, k _ H' (.py (.int _)) Ex.refl gd'.g (.int _) h⟩
/-- how often: of a text, of a list of ints -/
@[simp] def isCt : D → Prop
  | .py (.str _) => True
  | .py (.list _) => True
  | _ => False
@[simp] def gCount : D → List D → (D → Prop) → Prop
  | .py (.str a), [.py (.str b)], Q => Q (.py (.int (Txt.count a b)))
  | .py (.list xs), [.py (.int k)], Q => ∃ ns, allI xs = some ns ∧ Q (.py (.int (ns.count k : Nat)))
  | _, _, _ => False
theorem mx_cnt {X : Cx} {b : Bg} : MetX X b (RE b) "count" isCt gCount := fun Z H x d gd rx kd => by
  match d, kd, rx with
  | .py (.str z), _, rx =>
    obtain ⟨r, al, h⟩ := mx_count Z H x (.py (.str z)) gd rx trivial
    exact ⟨r, al, fun H' xs ds Q Qd x1 gd' rx' rs g k => h H' xs ds Q Qd x1 gd' rx' rs (by
      match ds, g with
      | [.py (.str c)], g => exact g) k⟩
  | .py (.list ps), _, rx =>
    obtain ⟨a, us, rfl, ha, _⟩ := rx.list
    refine ⟨_, ⟨"list", _, PySem.F.plainAttrs_list, PySem.F.slot_list_count, PySem.F.type_list_count, mt_lcount, ty_lst ha⟩, fun H' xs ds Q Qd _ gd' rx' rs h k => ?_⟩
    match ds, h, rs with
    | [.py (.int c)], ⟨ns, e, h⟩, .cons r .nil =>
      obtain rfl := r.int
      obtain ⟨a', us', ea, ha', qa'⟩ := rx'.list
      cases ea
      rw [allI_of e] at qa'
      have eu := qa'.ints
      subst eu
      exact ⟨a, ns, c, rfl, rfl, SqL.of ha', k _ H' (.py (.int _)) Ex.refl gd'.g (.int _) h⟩
end VL
set_option Elab.async false
set_option linter.all false
set_option maxRecDepth 100000
set_option maxHeartbeats 4000000
namespace VL
open PySem PySem.Spec PyProof.Rows L2 HT
/-! ### text * int, text[::-1] -/
def repS (z : Str) (k : Int) : Str := mkS (List.replicate k.toNat (sl z)).flatten
theorem mkS_sl (z : Str) : mkS (sl z) = z := by cases z; simp [mkS, sl]
@[simp] theorem sl_mkS (l : List Nat) : sl (mkS l) = l := by simp [mkS, sl]
@[simp] theorem len_mkS (l : List Nat) : (mkS l).length = l.length := by simp [mkS, Str.length]
theorem slen (z : Str) : (sl z).length = z.length := by simp [sl, Str.length]
def rRepS : R2 := fun x y H Q => ∃ z k, x = .str z ∧ y = .int k ∧ -(2 ^ 63) ≤ k ∧ k < 2 ^ 63 ∧ z.length * k.toNat ≤ 16777216 ∧ Q (.str (repS z k)) H
theorem foldl_app (n : Nat) (a b : Array Nat) : (List.replicate n a).foldl (· ++ ·) b = (b.toList ++ (List.replicate n a.toList).flatten).toArray := by
  induction n generalizing b with
  | zero => simp
  | succ n ih => rw [List.replicate_succ, List.foldl_cons, ih, List.replicate_succ, List.flatten_cons]; simp
theorem op_repS {X : Cx} : OpR X (binaryOp .Mult) rRepS := by
  intro pins s σ H x y v u Q I rx ry ⟨z, k, ex, ey, h1, h2, h3, q⟩
  subst ex ey
  obtain ⟨t, rfl⟩ := rx
  obtain ⟨t2, rfl⟩ := ry
  refine P.mul_str (by rw [decide_eq_false (by omega), decide_eq_false (by omega)]; rfl) (fun c c2 => ?_) (fun c c2 => ?_) ?_
  · intro hgt
    have kp : 0 < k := by omega
    have hz : (z.length : Int) * k ≤ 16777216 := by
      have e : ((z.length * k.toNat : Nat) : Int) ≤ 16777216 := by omega
      have e2 : ((k.toNat : Nat) : Int) = k := by omega
      rw [Int.natCast_mul, e2] at e
      exact e
    have h5 : ((2 ^ 63 - 1 : Int) / k + 1) * k > 2 ^ 63 - 1 := by
      have := Int.lt_ediv_add_one_mul_self (2 ^ 63 - 1) kp
      exact this
    have h6 : ((2 ^ 63 - 1 : Int) / k + 1) * k ≤ (z.length : Int) * k := Int.mul_le_mul_of_nonneg_right (by omega) (by omega)
    omega
  · unfold Builtin.Str.tooLong
    rw [sizeLine_eq]
    exact decide_eq_false (by omega)
  · by_cases c : k < 1
    · rw [if_pos c]
      refine ⟨by show 0 ≤ sizeLine; omega, .str Str.empty, H, I.tok _, ⟨_, rfl⟩, ?_⟩
      have e : repS z k = Str.empty := by
        unfold repS
        have : k.toNat = 0 := by omega
        rw [this]
        rfl
      rw [← e]; exact q
    · rw [if_neg c]
      split
      · rename_i c2
        have e : repS z k = z := by
          unfold repS
          rcases Bool.or_eq_true_iff.mp c2 with c3 | c3
          · have : k = 1 := eq_of_beq c3
            subst this
            show mkS (List.replicate 1 (sl z)).flatten = z
            simp [mkS_sl]
          · have hz : (sl z).length = 0 := by rw [slen]; exact eq_of_beq c3
            have hz' : sl z = [] := List.length_eq_zero_iff.mp hz
            rw [hz']
            have : (List.replicate k.toNat ([] : List Nat)).flatten = [] := by simp
            rw [this, ← hz', mkS_sl]
        refine ⟨.str z, H, I, ⟨_, rfl⟩, ?_⟩
        rw [← e]; exact q
      · refine ⟨?_, .str (repS z k), H, ?_⟩
        · show Array.size _ ≤ sizeLine
          rw [foldl_app, List.size_toArray]
          simp
          rw [Nat.mul_comm]
          have : z.cps.size = z.length := rfl
          rw [this]
          exact h3
        · have e : (⟨(List.replicate k.toNat z.cps).foldl (· ++ ·) #[]⟩ : Str) = repS z k := by
            rw [foldl_app]; rfl
          rw [e]
          exact ⟨I.tok _, ⟨_, rfl⟩, q⟩
def rBkS : V → Hp → VK → Prop := fun x H Q => ∃ z, x = .str z ∧ z.length ≤ 16777216 ∧ Q (.str (mkS (sl z).reverse)) H
theorem range_down (n : Nat) : Builtin.Str.strSliceIndices none none (-1) n = (List.range n).reverse := by
  have e : Builtin.Str.strSliceIndices none none (-1) n = sliceRange ((n : Int) - 1) (-1) (-1) := rfl
  rw [e]
  unfold sliceRange
  rw [if_neg (by omega)]
  dsimp only
  have c : (if (n : Int) - 1 > -1 then ((n : Int) - 1 - -1 - -1 - 1) / (- -1) else 0).toNat = n := by
    split
    · rw [Int.neg_neg, Int.ediv_one]; omega
    · omega
  rw [c, ← PySem.W.krv_range]
  refine List.map_congr_left fun m hm => ?_
  have := List.mem_range.mp hm
  omega
theorem pick_down (a : Array Nat) : ((List.range a.size).reverse.filterMap fun (i : Nat) => a[i]?) = a.toList.reverse := by
  rw [List.filterMap_reverse]
  congr 1
  have : (fun (i : Nat) => a[i]?) = (fun (i : Nat) => a.toList[i]?) := by funext i; simp
  rw [this]
  have h : ∀ (l : List Nat), (List.range l.length).filterMap (fun (i : Nat) => l[i]?) = l := by
    intro l
    apply List.ext_getElem?
    intro i
    have : (List.range l.length).filterMap (fun (i : Nat) => l[i]?) = l := by
      induction l with
      | nil => rfl
      | cons x l ih =>
        rw [List.length_cons, List.range_succ_eq_map, List.filterMap_cons, List.filterMap_map]
        simp
        exact ih
    rw [this]
  have := h a.toList
  rwa [Array.length_toList] at this
theorem bk_str {X : Cx} : BkR X rBkS := by
  intro pins s σ H x v tk sl' Q I rx hs ⟨z, ex, hz, q⟩
  subst ex
  obtain ⟨t, rfl⟩ := rx
  refine ⟨"str", _, F.slot_str_getitem.lookup, typeIs_str _ _ _, wpAny_getItem_str_slice (l := none) (u := none) (st := some (-1, tk)) hs rfl ?_⟩
  have e : (((slicePicked z none none (some (-1, tk))).filterMap (z.cps[·]?)).toArray : Array Nat) = (sl z).reverse.toArray := by
    unfold slicePicked
    show ((Builtin.Str.strSliceIndices none none (-1) z.length).filterMap _).toArray = _
    rw [range_down]
    exact congrArg List.toArray (pick_down z.cps)
  unfold sliceMade
  rw [if_neg (by simp), e]
  refine ⟨?_, .str (mkS (sl z).reverse), H, I.tok _, ⟨_, rfl⟩, q⟩
  show Array.size _ ≤ sizeLine
  rw [List.size_toArray, List.length_reverse, slen, sizeLine_eq]
  exact hz
section
variable {X : Cx} {b : Bg} {W : WX} {e e1 e2 st : Expr} {t t1 t2 : VT} {tl : VO} {p2 pos : Pos}
@[simp] def gBkA : D → (D → Prop) → Prop
  | .py (.list xs), Q => Q (.py (.list xs.reverse))
  | .py (.tuple xs), Q => Q (.py (.tuple xs.reverse))
  | .py (.str z), Q => z.length ≤ 16777216 ∧ Q (.py (.str (mkS (sl z).reverse)))
  | _, _ => False
@[simp] def vBkA (t : VT) (tl : VO) : VT := fun ρ Q E => t ρ (fun x => tl ρ (fun k => k = some (-1) ∧ gBkA x Q) E) E
theorem ve_backA (h : VX X b W e t) (h1 : VPt X b W (some st) tl) : VE X b W (.Subscript e (.Slice none none (some st) p2) pos) (vBkA t tl) :=
  pe_mono (pe_back ((bk_list.or bk_tup).or bk_str) h h1) fun σ H Q ⟨Zo, Z, ρ, Qd, Ed, v, q, l, m⟩ => ⟨Zo, Z, ρ, _, Ed, v, q, fun x H1 d x1 g1 r1 q1 => ⟨Zo, Z, ρ, _, Ed, v.ex x1 g1, q1, fun k H2 x2 g2 ⟨ek, q2⟩ => by
    refine ⟨ek, ?_⟩
    have v2 := (v.ex x1 g1).ex x2 g2
    have r2 := r1.ex ((v.ex x1 g1).keep x2) x2
    match d, q2, r2 with
    | .py (.list xs), q2, r2 =>
      obtain ⟨a, us, rfl, ha, qa⟩ := r2.list
      exact .inl (.inl ⟨a, us, rfl, SqL.of ha, fun p hp => l _ _ (.py (.list xs.reverse)) ((x1.trans x2).trans (Ex.new hp)) (Bg.new g2 hp) (Rq.lst upd_same (v2.fresh hp) (qa.reverse.up hp)) q2⟩)
    | .py (.tuple xs), q2, r2 =>
      obtain ⟨a, oa, us, rfl, ha, da, na, qa⟩ := r2.tuple
      exact .inl (.inr ⟨a, us, rfl, SqT.th ha, fun p o hp ho => l _ _ (.py (.tuple xs.reverse)) ((x1.trans x2).trans (Ex.new hp)) (Bg.new g2 hp) (Rq.tup upd_same ho (v2.fresh hp) (qa.reverse.up hp)) q2⟩)
    | .py (.str z), ⟨hz, q2⟩, r2 =>
      obtain rfl := r2.str
      exact .inr ⟨z, rfl, hz, l _ H2 (.py (.str _)) (x1.trans x2) g2 (.str _) q2⟩,
    fun c z H2 er x2 g2 r2 q2 => m c z H2 er (x1.trans x2) g2 r2 q2⟩, m⟩
/-- products, of a text too -/
@[simp] def gMulA : D → D → (D → Prop) → Prop
  | .py (.int i), .py (.int j), Q => CMul i j ∧ Q (.py (.int (i * j)))
  | .py (.list xs), .py (.int k), Q => (-(2 ^ 63) ≤ k ∧ k < 2 ^ 63 ∧ xs.length * k.toNat ≤ sizeLine) ∧ Q (.py (.list (List.replicate k.toNat xs).flatten))
  | .py (.tuple xs), .py (.int k), Q => (xs ≠ [] ∧ 2 ≤ k ∧ k ≤ 1000 ∧ xs.length ≤ 1000) ∧ Q (.py (.tuple (List.replicate k.toNat xs).flatten))
  | .py (.str z), .py (.int k), Q => (-(2 ^ 63) ≤ k ∧ k < 2 ^ 63 ∧ z.length * k.toNat ≤ 16777216) ∧ Q (.py (.str (repS z k)))
  | _, _, _ => False
theorem rd_mulA : OpD b (RE b) (fun x y H Q => (fun x y H Q => rI CMul (fun i j => .int (i * j)) x y H Q ∨ (fun x y H Q => rRep x y H Q ∨ rRepF X.K x y H Q) x y H Q) x y H Q ∨ rRepS x y H Q) gMulA := by
  intro Z H x y dx dy Q Qd gd rx ry h k
  match dx, dy, h, rx, ry with
  | .py (.int i), .py (.int j), h, rx, ry => exact .inl (rd_mul Z H x y (.py (.int i)) (.py (.int j)) Q Qd gd rx ry h k)
  | .py (.list xs), .py (.int n), h, rx, ry => exact .inl (rd_mul Z H x y (.py (.list xs)) (.py (.int n)) Q Qd gd rx ry h k)
  | .py (.tuple xs), .py (.int n), h, rx, ry => exact .inl (rd_mul Z H x y (.py (.tuple xs)) (.py (.int n)) Q Qd gd rx ry h k)
  | .py (.str z), .py (.int n), ⟨⟨h1, h2, h3⟩, h⟩, rx, ry =>
    obtain rfl := rx.str
    obtain rfl := ry.int
    exact .inr ⟨z, n, rfl, rfl, h1, h2, h3, k _ H (.py (.str _)) Ex.refl gd.g (.str _) h⟩
theorem ve_mulA (h1 : VX X b W e1 t1) (h2 : VX X b W e2 t2) : VE X b W (.BinOp e1 .Mult e2 pos) (vBin gMulA t1 t2) := ve_op (OpR.or (OpR.or op_mul (OpR.or op_rep op_repF)) op_repS) rd_mulA h1 h2
end
/-! ### name op= value -/
@[simp] def gAugAdd : D → D → (D → Prop) → Prop
  | .py (.int i), .py (.int j), Q => Q (.py (.int (i + j)))
  | .py (.str x), .py (.str y), Q => x.length + y.length ≤ 16777216 ∧ Q (.py (.str (x ++ y)))
  | _, _, _ => False
@[simp] def gAugSub : D → D → (D → Prop) → Prop
  | .py (.int i), .py (.int j), Q => Q (.py (.int (i - j)))
  | _, _, _ => False
@[simp] def sAugA (i : Nat) (g : D → D → (D → Prop) → Prop) (t : VT) : VS := fun ρ De => ∃ d0, ρ[i]? = some (.shr d0) ∧ t ρ (fun d => g d0 d fun z => De.nx (ρ.set i (.shr z))) (De.ex ρ)
section
variable {X : Cx} {b : Bg} {W : WX} {e : Expr} {t : VT} {pos pos' : Pos} {i : Nat} {x : Str}
theorem ip_addA : PIp X .Add (fun x y H Q => ipI (fun i j => i + j) x y H Q ∨ rAddS x y H Q) := fun pins s σ H x y v u Q I r1 r2 h => h.elim (ip_add pins s σ H x y v u Q I r1 r2) (in_addS pins s σ H x y v u Q I r1 r2)
theorem vs_augG {op : Operator} {ti : TIp} {g : D → D → (D → Prop) → Prop} (hp : PIp X op ti) (hg : ∀ (Z : Addr → Prop) (H : Hp) (u v : V) (d0 d : D) (Q : VK) (Qd : D → Prop), Rp b Z H u d0 → Rp b Z H v d → g d0 d Qd → (∀ w z, Rp b Z H w z → Qd z → Q w H) → ti u v H Q)
    (hN : X.N.Nodup) (hi : X.N[i]? = some x) (hx : Loc X.env.scope x) (he : VE X b W e t) (hf : X.fn x = true ∨ X.env.scope.names.lookup x = some .local := by first | exact .inl rfl | exact .inr rfl | assumption) :
    VSt X b W (.AugAssign (.Name x pos') op e pos) (sAugA i g t) :=
  ps_mono (ps_aug hN hi hx he hp hf) fun Dn σ H ⟨H0, M, Zo, Z, ρ, De, f, ⟨d0, e0, q⟩, l⟩ => by
    obtain ⟨u, hu, ru⟩ := f.v.shr i d0 e0
    refine ⟨u, hu, Zo, Z, ρ, _, _, f.v, q, fun v H1 d x1 g1 r1 q1 => ?_, l.er f⟩
    have f1 := f.ex x1 g1
    exact hg Z H1 u v d0 d _ _ (f.v.rp x1 ru) r1 q1 fun w z rz qz => l.nx _ _ H1 _ (f1.set (List.getElem?_eq_some_iff.mp e0).1 rz) qz
theorem vs_augAdd (hN : X.N.Nodup) (hi : X.N[i]? = some x) (hx : Loc X.env.scope x) (he : VE X b W e t) (hf : X.fn x = true ∨ X.env.scope.names.lookup x = some .local := by first | exact .inl rfl | exact .inr rfl | assumption) :
    VSt X b W (.AugAssign (.Name x pos') .Add e pos) (sAugA i gAugAdd t) :=
  vs_augG ip_addA (fun Z H u v d0 d Q Qd r1 r2 g k => by
    match d0, d, g, r1, r2 with
    | .py (.int i), .py (.int j), g, r1, r2 =>
      obtain rfl := Rb.int (b := b) (Z := Z) (H := H) (.inl r1)
      obtain rfl := Rb.int (b := b) (Z := Z) (H := H) (.inl r2)
      exact .inl ⟨i, j, rfl, rfl, k _ (.py (.int _)) (Rq.int _) g⟩
    | .py (.str i), .py (.str j), ⟨hl, g⟩, r1, r2 =>
      obtain rfl := Rb.str (b := b) (Z := Z) (H := H) (.inl r1)
      obtain rfl := Rb.str (b := b) (Z := Z) (H := H) (.inl r2)
      exact .inr ⟨i, j, rfl, rfl, by rw [sizeLine_eq]; exact hl, k _ (.py (.str _)) (Rq.str _) g⟩) hN hi hx he hf
/-- xs[i] = v, an owned list -/
def setAt (xs : List PyData) (k : Int) (p : PyData) : Option (List PyData) := (ixN xs.length k).map fun j => xs.set j p
@[simp] def sStoL (i : Nat) (ty tv : VT) : VS := fun ρ De => ∃ xs, ρ[i]? = some (.own (.py (.list xs))) ∧ tv ρ (fun v => ∃ p, v = .py p ∧ ty ρ (fun y => ∃ k, y = .py (.int k) ∧ ∃ ys, setAt xs k p = some ys ∧ De.nx (ρ.set i (.own (.py (.list ys))))) (De.ex ρ)) (De.ex ρ)
end
end VL
set_option Elab.async false
set_option linter.all false
set_option maxRecDepth 100000
set_option maxHeartbeats 4000000
namespace VL
open PySem PySem.Spec PyProof.Rows L2 HT TL
theorem hu65 {A : Around} {k : Nat} (r : Room k A) : A.units + 65 < cLine := by have := r.un; omega
/-! ### texts as lists of signs -/
@[simp] theorem mkS_inj {a b : List Nat} : mkS a = mkS b ↔ a = b := ⟨fun e => by have := congrArg sl e; simpa using this, fun e => by rw [e]⟩
@[simp] theorem mkS_app (a b : List Nat) : mkS a ++ mkS b = mkS (a ++ b) := ext_tl (by rw [tl_append])
@[simp] theorem beq_mkS (a b : List Nat) : (mkS a == mkS b) = (a == b) := by
  by_cases h : a = b
  · subst h; simp
  · have h2 : mkS a ≠ mkS b := fun e => h (mkS_inj.mp e)
    rw [beq_eq_false_iff_ne.mpr h2, beq_eq_false_iff_ne.mpr h]
@[simp] theorem repS_mkS (l : List Nat) (k : Int) : repS (mkS l) k = mkS (List.replicate k.toNat l).flatten := rfl
@[simp] theorem cps_mkS (l : List Nat) : (mkS l).cps = l.toArray := rfl
def encC (c : Nat) : PyData := .str (mkS [c])
@[simp] theorem encC_eq (c : Nat) : encC c = .str (mkS [c]) := rfl
theorem signsD_mkS (l : List Nat) : signsD (mkS l) = l.map encC := rfl
@[simp] theorem str_ab (a b : Str) : (PyData.str a = PyData.str b) ↔ a = b := ⟨fun e => by injection e, fun e => by rw [e]⟩
open Builtin.Str in
theorem occ_step (z : Str) (c k lim : Nat) (st : Array Nat × Nat) (h1 : st.2 ≤ k) (h2 : st.1.size < lim) : StrLaws.occBody z ⟨#[c]⟩ z.length lim k st = if (sl z)[k]? = some c then pure (ForInStep.yield (st.1.push k, k + 1)) else pure (ForInStep.yield (st.1, st.2)) := by
  unfold StrLaws.occBody
  have e := StrLaws.subAt_one z c k
  by_cases h : (sl z)[k]? = some c
  · have h' := e.mpr h
    rw [if_pos ⟨⟨⟨h2, h1⟩, h'.1⟩, h'.2⟩, if_pos h]
    rfl
  · rw [if_neg (fun q => h (e.mp ⟨q.1.2, q.2⟩)), if_neg h]
theorem occ_sign (z : Str) (c : Nat) : ∀ (n k free : Nat) (acc : Array Nat), free ≤ k → acc.size ≤ k → k + n = z.length + 1 →
    (forIn (List.range' k n) (acc, free) (StrLaws.occBody z ⟨#[c]⟩ z.length (z.length + 1))).run.fst.toList.length = acc.size + ((sl z).drop k).count c
  | 0, k, free, acc, h1, h2, h3 => by
    have : (sl z).drop k = [] := List.drop_eq_nil_of_le (by rw [slen]; omega)
    rw [this]; simp
  | n + 1, k, free, acc, h1, h2, h3 => by
    rw [List.range'_succ, List.forIn_cons, occ_step z c k _ (acc, free) h1 (by show acc.size < _; omega)]
    by_cases hk : k < z.length
    · have hk' : k < (sl z).length := by rw [slen]; exact hk
      rw [List.drop_eq_getElem_cons hk', List.getElem?_eq_getElem hk']
      by_cases hc : (sl z)[k] = c
      · rw [if_pos (by rw [hc]), hc, List.count_cons_self]
        have := occ_sign z c n (k + 1) (k + 1) (acc.push k) (by omega) (by simp; omega) (by omega)
        rw [Array.size_push] at this
        simp only [pure_bind]
        omega
      · rw [if_neg (by simpa using hc), List.count_cons_of_ne (by simpa using hc)]
        exact occ_sign z c n (k + 1) free acc (by omega) (by omega) (by omega)
    · have e : (sl z).drop k = [] := List.drop_eq_nil_of_le (by rw [slen]; omega)
      rw [if_neg (by rw [List.getElem?_eq_none (by rw [slen]; omega)]; simp), e]
      have := occ_sign z c n (k + 1) free acc (by omega) (by omega) (by omega)
      have e2 : (sl z).drop (k + 1) = [] := List.drop_eq_nil_of_le (by rw [slen]; omega)
      rw [e2] at this
      exact this
theorem count_sign (z : Str) (c : Nat) : Txt.count z (mkS [c]) = ((sl z).count c : Nat) := by
  unfold Txt.count
  rw [StrLaws.occ_eq]
  have := occ_sign z c (z.length + 1 - 0) 0 0 #[] (by omega) (by simp) (by omega)
  simp at this ⊢
  exact_mod_cast this
@[simp] theorem count_mkS (l : List Nat) (c : Nat) : Txt.count (mkS l) (mkS [c]) = (l.count c : Nat) := by rw [count_sign, sl_mkS]
theorem join0 (ls : List (List Nat)) : Txt.join (mkS []) (ls.map mkS) = mkS ls.flatten := by
  rw [join_eq]
  refine ext_tl ?_
  rw [tl_join]
  have : (ls.map mkS).map tl = ls := by rw [List.map_map]; exact List.map_id ls
  rw [this]
  show joinL [] ls = ls.flatten
  have h : ∀ ls : List (List Nat), joinL [] ls = ls.flatten := by
    intro ls
    induction ls with
    | nil => rfl
    | cons p r ih =>
      cases r with
      | nil => simp [joinL]
      | cons q r => rw [joinL, ih]; simp
  exact h ls
@[simp] theorem atI_zero {α : Type} (x : α) (xs : List α) : atI (x :: xs) 0 = some x := by
  have e : ixN (x :: xs).length 0 = some 0 := by
    unfold ixN
    rw [if_pos (by omega), if_pos (by simp)]; rfl
  unfold atI
  rw [e]; rfl
theorem allS_signs (l : List Nat) : allS (l.map encC) = some (l.map fun c => mkS [c]) := by
  induction l with
  | nil => rfl
  | cons c l ih => simp [allS, ih]
theorem sum_signs (l : List Nat) : ((l.map fun c => mkS [c]).map (·.length)).sum = l.length := by
  induction l with
  | nil => rfl
  | cons c l ih => simp at ih ⊢; omega
theorem flat_signs (l : List Nat) : (l.map fun c => [c]).flatten = l := by
  induction l with
  | nil => rfl
  | cons c l ih => rw [List.map_cons, List.flatten_cons, ih]; rfl
theorem join_signs (l : List Nat) : Txt.join (mkS []) (l.map fun c => mkS [c]) = mkS l := by
  have : (l.map fun c => mkS [c]) = (l.map fun c => [c]).map mkS := by rw [List.map_map]; rfl
  rw [this, join0, flat_signs]
section
variable {g : VTg} {tt : VB} {te : VT} {tb : VS} {De : VEnds} {ρ : VEnv} {Q : D → Prop} {α β : Type}
theorem lc_encF' (enc : α → PyData) (p : α → Bool) (e : α → PyData) {L : List α} (h : ∀ (i : Nat) (x : α), L[i]? = some x → ∀ k, (p x = true → k (some (e x))) → (p x = false → k none) → lcStep g tt te (.py (enc x)) ρ k)
    (hl : L.length < 16777216) (q : Q (.py (.list ((L.filter p).map e)))) : lcGo g tt te Q (L.map (D.py ∘ enc)) [] ρ := by
  rw [← List.map_map]; exact lc_encF enc p e h hl q
theorem for_enc' (enc : α → PyData) (Iv : Nat → VEnv → Prop) {L : List α} (h0 : Iv 0 ρ) (h : ∀ i x ρ, L[i]? = some x → Iv i ρ → ∀ nx ct : VEnv → Prop, (∀ ρ', Iv (i + 1) ρ' → nx ρ' ∧ ct ρ') → g (.py (enc x)) ρ fun ρ1 => tb ρ1 ⟨nx, De.rt, De.nx, ct, De.ex⟩) (hd : ∀ ρ, Iv L.length ρ → De.nx ρ) :
    forGo g tb (L.map (D.py ∘ enc)) ρ De := by
  rw [← List.map_map]; exact for_enc enc Iv h0 h hd
end
end VL
set_option Elab.async false
set_option linter.all false
set_option maxRecDepth 100000
set_option maxHeartbeats 4000000
/-! ### isinstance of a caught error that has a dict -/
namespace PySem.W
open PySem PySem.Spec PySem.Calls PyProof.Rows
section
variable {prog : Program} {w : World} {A : Around} {E : Value → Shared → Prop} {s : Shared} {K : Frag} {x D : Addr} {ox : Obj} {od : Option Obj}
theorem findObj_dataA {C : Addr} {name : Str} {a g : Value} (hc : (clsIn K C).isSome = true) (ha : findIn K (.ref C) name = some (some a)) (hg : specialIn K a "__get__" = some (some g)) (ht : takesIn K a = some true) : findObj K C od name = some (.bind g a) := by
  obtain ⟨cd, hc⟩ := Option.isSome_iff_exists.mp hc
  unfold findObj
  rw [hc, Option.bind_some, ha, Option.bind_some]
  simp [hg, ht]
theorem kin_classA {Q : Option Value → Shared → Prop} (hga : findIn K (.ref D) "__getattribute__" = some (some (.builtin "BaseException.__getattribute__"))) (hgt : findIn K (.ref D) "__getattr__" = some none) (hsub : subIn K (.ref D) (.type "BaseException") = some true)
    (hdct : hasDictIn K D = true) (ha : findIn K (.ref D) "__class__" = some (some (.builtin "object.__class__")))
    (hn : specialIn K (.builtin "object.__class__") "__get__" = some (some (.builtin "getset_descriptor.__get__"))) (htk : takesIn K (.builtin "object.__class__") = some true) (hm : mroIn K D (.type "object") = some true)
    (X : K.In s.heap) (I : InstAt s.heap x ox D od) (h : Q (some (.ref D)) { s with toks := s.toks + 1 }) : wpAny (model prog w) A (getAttr? (.ref x) "__class__") Q E s := by
  have hf : findObj K D od "__class__" = some (.bind (.builtin "getset_descriptor.__get__") (.builtin "object.__class__")) := findObj_dataA (by obtain ⟨cd, hc, _⟩ := any_some hdct; rw [hc]; rfl) ha hn htk
  obtain ⟨hp, g, d, t, os⟩ := s
  have L0 := I.type (M := model prog w)
  have L1 := looks_findIn (M := model prog w) X hga
  have L2 := looks_findIn (M := model prog w) X hgt
  have L3 := looks_find (M := model prog w) X I hf
  have sub : Looks (model prog w) hp (isInstance (.ref x) (.type "BaseException")) true := L0.andThen (looks_subIn X hsub)
  have hx0 : (false && onTheHeap (Value.builtin "BaseException.__getattribute__")) = false := rfl
  have hx2 : (Value.builtin "BaseException.__getattribute__" == Value.builtin "object.__getattribute__") = false := by decide +kernel
  have hx1 : (onTheHeap (Value.ref D) && Value.builtin "BaseException.__getattribute__" == Value.builtin "object.__getattribute__") = false := by rw [hx2]; rfl
  unfold getAttr? getAttrBy? getAttrBy
  refine wpAny_bind (wpAny_mkText (wpAny_bind (wpAny_attempt (wpAny_holding (wpAny_bind (L0.at (wpAny_bind (L1.at ?_))))))))
  show wpAny _ _ (if (onTheHeap (Value.ref D) && Value.builtin "BaseException.__getattribute__" == Value.builtin "object.__getattribute__") = true then _ else _) _ _ _
  rw [hx1, if_neg Bool.false_ne_true]
  unfold getAttrByItsOwn hookBefore
  refine wpAny_bind ?_
  rw [if_pos (show onTheHeap (Value.ref D) = true from rfl)]
  refine L2.at ?_
  refine wpAny_bind (wpAny_attempt (wpAny_holding ?_))
  unfold callGetattribute
  rw [hx0, if_neg Bool.false_ne_true]
  unfold boundAndCalled
  rw [PySem.F.excAttr_ValueError.ga.bind (.ref x)]
  refine wpAny_bind (wpAny_pure ?_)
  show wpAny _ _ (call (.builtin "BaseException.__getattribute__") [.ref x, .str "__class__" t]) _ _ _
  refine wpAny_call (codeAny_call_builtin PySem.F.excAttr_ValueError.ga.plain PySem.F.entry_bexc_ga ?_)
  refine @check_slot (model prog w) _ _ ⟨hp, g, d, t + 1, os⟩ "BaseException.__getattribute__" "BaseException" "__getattribute__" (.ref x) [.str "__class__" t] [] _ (by decide +kernel) (by decide +kernel) sub (PySem.F.args_bexc_ga (.ref x) (.str "__class__" t)) ?_
  unfold Builtin.«object.__getattribute__»
  refine wpAny_bind (wpAny_of_eq (a := ((Value.ref x : Value), [Value.str "__class__" t])) (by first | rfl | (simp only [slotArgs]; rfl)) ?_)
  refine wpAny_bind (wpAny_pure (wpAny_bind (L0.at (wpAny_bind (L3.at ?_)))))
  show wpAny _ _ (holding [Value.builtin "object.__class__"] (call (.builtin "getset_descriptor.__get__") [.builtin "object.__class__", .ref x, .ref D]) >>= ret) _ _ _
  refine wpAny_bind (wpAny_holding (wpAny_call (class_get (s := ⟨hp, g, d, t + 1, os⟩) (ox := ox) (od := od) X I hm ?_)))
  refine wpAny_pure ?_
  show wpAny _ _ (handedOut (.ref D)) _ _ _
  rw [handedOut_of (v := .ref D) rfl]
  first
    | exact wpAny_pure (wpAny_pure h)
    | exact wpAny_pure h
    | exact wpAny_pure (wpAny_bind (wpAny_pure (wpAny_pure h)))
theorem kitx_excA (hga : findIn K (.ref D) "__getattribute__" = some (some (.builtin "BaseException.__getattribute__"))) (hgt : findIn K (.ref D) "__getattr__" = some none) (hsub : subIn K (.ref D) (.type "BaseException") = some true) (hdct : hasDictIn K D = true) (ha : findIn K (.ref D) "__class__" = some (some (.builtin "object.__class__")))
    (hn : specialIn K (.builtin "object.__class__") "__get__" = some (some (.builtin "getset_descriptor.__get__"))) (htk : takesIn K (.builtin "object.__class__") = some true) (hm : mroIn K D (.type "object") = some true) :
    KitX K (.ref x) (.ref D) (fun h => ∃ od, InstAt h x ox D od) where
  ty := fun _ _ _ ⟨_, I⟩ => I.type
  it := fun _ _ X _ => by
    obtain ⟨cdD, hcD, _⟩ := any_some hdct
    unfold clsIn at hcD
    split at hcD
    · rename_i c' d' cd' sl' ho
      intro A' Q' E' s' k q
      unfold isType loadHead
      exact wpAny_bind (wpAny_loadPart (k _ _ (X _ _ ho)) (wpAny_pure q))
    · cases hcD
  ne := fun h tp dd its n sl X htp => (handS_kitx_exc (x := x) (ox := ox) hga hgt hsub hdct ha hn htk hm).ne h tp dd its n sl X htp
  ca := fun X ⟨_, I⟩ k => kin_classA hga hgt hsub hdct ha hn htk hm X I k
end
end PySem.W
namespace VL
open PySem PySem.Spec PyProof.Rows L2 HT
/-! ### own errors -/
/-- n is x, or x stands above all errors of the package -/
def errSub (n x : Str) : Bool := n == x || x == "LineError" || x == "ValueError"
/-- what the written part says of an error's class -/
structure ErrC (K : PySem.W.Frag) (C : Addr) : Prop where
  hg : PySem.W.findIn K (.ref C) "__getattribute__" = some (some (.builtin "BaseException.__getattribute__"))
  hk : PySem.W.findIn K (.ref C) "__getattr__" = some none
  hs : PySem.W.subIn K (.ref C) (.type "BaseException") = some true
  hd : PySem.W.hasDictIn K C = true
  ha : PySem.W.findIn K (.ref C) "__class__" = some (some (.builtin "object.__class__"))
  hn : PySem.W.specialIn K (.builtin "object.__class__") "__get__" = some (some (.builtin "getset_descriptor.__get__"))
  ht : PySem.W.takesIn K (.builtin "object.__class__") = some true
  hm : PySem.W.mroIn K C (.type "object") = some true
/-- the classes that a test names: how the errors of the given names answer -/
structure ErrT (K : PySem.W.Frag) (mg : Str → Option Value) (b : Bg) (names : List Str) (x : Str) : Prop where
  ex : ∃ C : Addr, mg x = some (.ref C) ∧ ∀ n ∈ names, PySem.W.exmOne K (.ref (b.cls n)) (.ref C) = some (errSub n x) ∧ PySem.W.kitOne K (.ref (b.cls n)) (.ref C) = some (errSub n x)
section
variable {b : Bg} {W : WX} {H0 : Hp} {M Zo Z : Addr → Prop} {σ : L2.St} {H H' : Hp} {ρ : VEnv} {De : VEnds} {Dn : Ends}
/-- a name is forgotten -/
theorem FOk.un (f : FOk b H0 M Zo Z σ H ρ) {i : Nat} (hi : i < ρ.length) : FOk b H0 M Zo (zBut Zo σ ρ i) (σ.set i none) H (ρ.set i .un) := by
  have v := f.v
  have sub := v.but i
  have hiσ : i < σ.length := by rw [← v.len]; exact hi
  have ow : ∀ {j : Nat} {e : D}, (ρ.set i .un)[j]? = some (.own e) → j ≠ i ∧ ρ[j]? = some (.own e) := fun {j e} h => by
    by_cases hj : j = i
    · subst hj
      rw [List.getElem?_set_self hi] at h; cases h
    · rw [List.getElem?_set_ne (Ne.symm hj)] at h
      exact ⟨hj, h⟩
  refine ⟨⟨v.g, v.zb, fun a z => .inl z, fun a z => v.dom a (sub a z), fun a z => ?_, fun j e h => ?_, fun j k e e2 a h1 h2 h3 h4 => ?_, fun j e h => ?_, by simpa using v.len⟩, f.ext, fun j e a h1 h2 => ?_⟩
  · rcases z with z | ⟨j, e, hj, h1, h2⟩
    · exact .inl z
    · exact .inr ⟨j, e, by rw [List.getElem?_set_ne (Ne.symm hj)]; exact h1, by rw [List.getElem?_set_ne (Ne.symm hj)]; exact h2⟩
  · obtain ⟨hj, h⟩ := ow h
    obtain ⟨a, h1, h2, h3, h4⟩ := v.own j e h
    exact ⟨a, by rw [List.getElem?_set_ne (Ne.symm hj)]; exact h1, .inr ⟨j, e, hj, h, h1⟩, h3, h4.mono (fun c z => .inl (sub c z)) (fun _ _ e _ => e) fun _ e => e⟩
  · obtain ⟨hj, h1⟩ := ow h1
    obtain ⟨hk, h2⟩ := ow h2
    rw [List.getElem?_set_ne (Ne.symm hj)] at h3
    rw [List.getElem?_set_ne (Ne.symm hk)] at h4
    exact v.inj j k e e2 a h1 h2 h3 h4
  · by_cases hj : j = i
    · subst hj
      rw [List.getElem?_set_self hi] at h; cases h
    · rw [List.getElem?_set_ne (Ne.symm hj)] at h
      obtain ⟨w, h1, h2⟩ := v.shr j e h
      exact ⟨w, by rw [List.getElem?_set_ne (Ne.symm hj)]; exact h1, h2.mono (fun c z => .inl (sub c z)) fun _ _ e _ => e⟩
  · obtain ⟨hj, h1⟩ := ow h1
    rw [List.getElem?_set_ne (Ne.symm hj)] at h2
    exact f.fr j e a h1 h2
end
/-! ### try: .. except x as n: .. -/
/-- the ends of an except suite: the name is forgotten behind it -/
@[simp] def afterS (i : Nat) (De : VEnds) : VEnds := { nx := fun ρ2 => i < ρ2.length ∧ De.nx (ρ2.set i .un), rt := De.rt, bk := fun ρ2 => i < ρ2.length ∧ De.bk (ρ2.set i .un), ct := fun ρ2 => i < ρ2.length ∧ De.ct (ρ2.set i .un), ex := fun _ _ => False }
/-- i: the slot of n; names: the errors that may be met here -/
@[simp] def sTry (i : Nat) (names : List Str) (x : Str) (tb : VS) (ts : Addr → Option Addr → Er → VS) : VS := fun ρ De => i < ρ.length ∧
  tb ρ { De with ex := fun ρ' er => i < ρ'.length ∧ er.n ∈ names ∧ if errSub er.n x = true then ∀ a d, ts a d er (ρ'.set i (.shr (.err a d er.n er.fs))) (afterS i De) else De.ex ρ' er }
section
variable {X : Cx} {b : Bg} {Wout : WX} {names : List Str} {x n : Str} {i : Nat} {body suite : List Stmt} {b₀ : Stmt} {np pos pos' : Pos} {tb : VS} {ts : Addr → Option Addr → Er → VS}
theorem vs_try (hs : X.stack = X.env :: X.outer) (hf : X.env.frame = some X.env.locals) (hN : X.N.Nodup) (hi : X.N[i]? = some n) (hln : X.env.kindOf n = some .local) (T : ErrT X.K X.mg b names x) (hg : Gl X x) (tk : Takes X Wout)
    (hb : ∀ (W : WX) (pn : List (Addr × Obj)) (xe : Value → Shared → Prop), Takes (X.tr pn xe) W → PassesOwn (model X.prog X.w) X.A X.env xe → VSs (X.tr pn xe) b W body tb)
    (hsu : ∀ (a : Addr) (oe : Obj) (er : Er) (d : Option Addr) (pn : List (Addr × Obj)), Zc (.ref (b.cls er.n)) d oe → (∃ vs, oe.data = .fields vs) → VSs (X.suite a ((a, oe) :: pn)) b noW (b₀ :: suite) (ts a d er))
    (hdb : (x == ("__debug__" : Str)) = false := by decide) :
    VSt X b Wout (.Try body [.ExceptHandler (some (.Name x np)) (some n) (b₀ :: suite) pos'] [] [] pos) (sTry i names x tb ts) := by
  obtain ⟨C, hm, hsub⟩ := T.ex
  refine ps_mono (ps_try_as (c := .ref C) (tb := fun W => LS b W tb) (ts := fun a cls d => fun D σ H => ∃ er : Er, cls = .ref (b.cls er.n) ∧ LS b noW (ts a d er) D σ H) hs hf hN hi hln ⟨hg, hdb, .inl hm⟩ tk hb ?_) ?_
  · intro a oe cls d pn hz hfd
    refine ⟨fun pins s σ H D I ⟨er, ec, q⟩ => ?_⟩
    subst ec
    exact (hsu a oe er d pn hz hfd).run pins s σ H D I q
  · rintro D σ H ⟨H0, M, Zo, Z, ρ, De, f, ⟨hiρ, q⟩, l⟩
    refine ⟨H0, M, Zo, Z, ρ, _, f, q, ⟨l.nx, l.rt, l.bk, l.ct, ?_⟩⟩
    rintro c d Z' σ' H' ρ' er f' ⟨ec, rd⟩ ⟨hi', hn, h⟩
    subst ec
    refine ⟨errSub er.n x, (hsub er.n hn).1, fun e a ha => ?_, fun e => ?_⟩
    · rw [if_pos e] at h
      have rp : Rp b Z' H' (.ref a) (.err a d er.n er.fs) := ⟨rfl, rd⟩
      refine ⟨er, rfl, H0, M, Zo, _, _, _, f'.set hi' rp, h a d, ⟨fun Z2 σ2 H2 ρ2 f2 q2 => ?_, l.rt, fun Z2 σ2 H2 ρ2 f2 q2 => ?_, fun Z2 σ2 H2 ρ2 f2 q2 => ?_, fun _ _ _ _ _ _ _ _ _ z => z.elim⟩⟩
      · exact l.nx _ _ _ _ (f2.un q2.1) q2.2
      · exact l.bk _ _ _ _ (f2.un q2.1) q2.2
      · exact l.ct _ _ _ _ (f2.un q2.1) q2.2
    · rw [if_neg (by rw [e]; exact Bool.false_ne_true)] at h
      exact l.ex _ _ _ _ _ _ _ f' ⟨rfl, rd⟩ h
end
end VL
set_option Elab.async false
set_option linter.all false
set_option maxRecDepth 100000
set_option maxHeartbeats 4000000
namespace VL
open PySem PySem.Spec PyProof.Rows L2 HT
/-! ### raise -/
@[simp] def sRaise0 (n : Str) : VS := fun ρ De => De.ex ρ ⟨n, []⟩
@[simp] def sRaise1 (n f : Str) (t : VT) : VS := fun ρ De => t ρ (fun d => ∃ p, d = .py p ∧ De.ex ρ ⟨n, [(f, p)]⟩) (De.ex ρ)
/-- what an error's own __init__ promises -/
def spInit (K : PySem.W.Frag) (f : Str) : Sp := fun vs H Q _ => ∃ (a C : Addr) (v : V), vs = [.ref a, v] ∧ OexC K C ∧ PySem.W.findIn K (.ref C) f = some none ∧ H a = some (exo a C none) ∧ ∀ dx, H dx = none → dx ≠ a → Q .non (upd (upd H dx (exd dx [(f, v)])) a (exo a C (some dx)))
theorem ok_init {P : Program} {w : World} {K : PySem.W.Frag} {mg : Str → Option Value} {base : Heap} {x qual f prm : Str} {st : Stmt} {fa : Addr} {fd : FuncData} {p1 p2 p3 p4 : Pos} (F : Fun K x qual st fa fd) (Sc : FnScope ["self", prm] ["self", prm] (defScope st))
    (hst : defBody st = [.Assign [.Attribute (.Name "self" p1) f p2] (.Name prm p3) p4]) (h0 : (defScope st).names.lookup ("self" : Str) = some .local) (h1 : (defScope st).names.lookup prm = some .local) (hd : (prm == ("__debug__" : Str)) = false) (hcd : (prm == ("__classdict__" : Str)) = false) :
    FnOk P w K mg base (L2.CX P w) 1 fa fd ["self", prm] (spInit K f) := by
  refine F.okX Sc (fun vs H Q E ⟨a, C, v, e, _⟩ => by rw [e]; rfl) fun cdv A outer s H vs Q E hr h => ?_
  rw [hst]
  refine ⟨_, pss_one (ps_ost (pe_var (i := 0) rfl (.inl h0)) (pe_var (i := 1) rfl (.inl h1) hd hcd)), ?_⟩
  obtain ⟨a, C, v, rfl, T, hno, e, q⟩ := h
  exact ⟨v, rfl, .ref a, rfl, a, C, rfl, T, hno, .inl ⟨e, fun dx hd hne => q dx hd hne⟩⟩
/-- an error with the field f can be made -/
structure Mk1 (P : Program) (w : World) (K : PySem.W.Frag) (mg : Str → Option Value) (base : Heap) (b : Bg) (n f : Str) where
  g : mg n = some (.ref (b.cls n))
  T : OexC K (b.cls n)
  hno : PySem.W.findIn K (.ref (b.cls n)) f = some none
  fI : Addr
  fd : FuncData
  prm : Str
  iC : PySem.W.findIn K (.ref (b.cls n)) "__init__" = some (some (.ref fI))
  tI : PySem.W.typeIn K (.ref fI) = some (.type "function")
  F : FnOk P w K mg base (L2.CX P w) 1 fI fd ["self", prm] (spInit K f)
  bd : Binds K fd ["self", prm] []
section
variable {X : Cx} {b : Bg} {W : WX} {n f : Str} {e : Expr} {t : VT} {p pos pos2 : Pos} {j : Nat}
theorem vs_raise1 (M : Mk1 X.prog X.w X.K X.mg X.base b n f) (hr : Room j X.A) (hc : X.calm = true) (tk : Takes X W) (hg : Gl X n) (he : VE X b W e t) (hj : 2 ≤ j := by decide) (hdb : (n == ("__debug__" : Str)) = false := by decide)
    (hs : starEach [e] X.env = (false, eval e X.env) :: starEach [] X.env := by rfl) (hpl : (backTo pos (starEach [] X.env)).any (·.1) = false := by rfl) :
    VSt X b W (.Raise (some (.Call (.Name n p) [e] [] pos)) none pos2) (sRaise1 n f t) :=
  ps_mono (ps_raise hc tk (pmk_oex (k := 1) (ds := []) (dvs := []) M.T M.iC M.tI M.F (hr.mono hj) M.bd .nil passL hg M.g (va_cons he va_nil hs) hdb hs hpl)) fun D σ H ⟨H0, Mo, Zo, Z, ρ, De, fo, q, l⟩ => by
    refine ⟨Zo, Z, ρ, fun ds => match ds with | [d] => ∃ p, d = .py p ∧ De.ex ρ ⟨n, [(f, p)]⟩ | _ => False, De.ex ρ, fo.v, q, fun vs H1 ds x1 g1 r1 q1 => ?_, l.er fo⟩
    match ds, q1, r1 with
    | [_], ⟨p, rfl, q1⟩, .cons (v := v) rv .nil =>
      refine ⟨by show 1 ≤ 1000; omega, fun a ha => ⟨a, b.cls n, v, rfl, M.T, M.hno, upd_same, fun dx hd hne => ⟨rfl, dx, [(f, v)], upd_same, ?_, ?_, ?_⟩⟩⟩
      · rw [upd_ne hne]; exact upd_same
      · rw [upd_ne hne] at hd; exact hd
      · have hd1 : H1 dx = none := by rw [upd_ne hne] at hd; exact hd
        generalize hHf : upd (del (upd (upd (upd H1 a (exo a (b.cls n) none)) dx (exd dx [(f, v)])) a (exo a (b.cls n) (some dx))) a) dx (.xd [(f, v)]) = Hf
        have at_ : ∀ c, c ≠ a → c ≠ dx → Hf c = H1 c := fun c c1 c2 => by rw [← hHf, upd_ne c2, del_ne c1, upd_ne c1, upd_ne c2, upd_ne c1]
        have hfd : Hf dx = some (.xd [(f, v)]) := by rw [← hHf]; exact upd_same
        have x2 : Ex b H1 Hf := fun c o hc _ => by
          rw [at_ c (fun z => by rw [z, ha] at hc; cases hc) (fun z => by rw [z, hd1] at hc; cases hc)]
          exact hc
        have g2 : b.G Hf := b.loc H1 Hf (fun c hc => at_ c (fun z => b.dom H1 c g1 hc (by rw [z]; exact ha)) (fun z => b.dom H1 c g1 hc (by rw [z]; exact hd1))) (fun c o _ e => by rw [at_ c (fun z => by rw [z, ha] at e; cases e) (fun z => by rw [z, hd1] at e; cases e)]; exact e) g1
        have f1 := fo.ex x1 g1
        have f2 := f1.ex x2 g2
        refine l.ex _ _ _ _ _ _ ⟨n, [(f, _)]⟩ f2 ⟨rfl, .inr ⟨dx, _, rfl, hfd, f1.v.fresh hd1, .cons (f1.v.rq x2 rv) .nil⟩⟩ q1
end
end VL
set_option Elab.async false
set_option linter.all false
set_option maxRecDepth 100000
set_option maxHeartbeats 4000000
namespace VL
open PySem PySem.Spec PyProof.Rows L2 HT
/-! ### in an except suite: what is asked of the error -/
/-- the error's field f -/
@[simp] def vErrF (a : Addr) (d : Option Addr) (er : Er) (i : Nat) (nf : List Str) (f : Str) : VT := fun ρ Q _ => ρ[i]? = some (.shr (.err a d er.n er.fs)) ∧ er.n ∈ nf ∧ ∃ p, er.fs.lookup f = some p ∧ Q (.py p)
/-- isinstance(error, x) -/
@[simp] def vErrI (a : Addr) (d : Option Addr) (er : Er) (i : Nat) (names : List Str) (x : Str) : VT := fun ρ Q _ => ρ[i]? = some (.shr (.err a d er.n er.fs)) ∧ er.n ∈ names ∧ Q (.py (.bool (errSub er.n x)))
/-- isinstance(error, (x, ..)) -/
@[simp] def vErrIT (a : Addr) (d : Option Addr) (er : Er) (i : Nat) (names xs : List Str) : VT := fun ρ Q _ => ρ[i]? = some (.shr (.err a d er.n er.fs)) ∧ er.n ∈ names ∧ Q (.py (.bool (xs.any fun x => errSub er.n x)))
/-- what is asked of an error's class so that a field is read -/
structure FldC (K : PySem.W.Frag) (C : Addr) (f : Str) : Prop where
  x : XfC K C
  no : PySem.W.findIn K (.ref C) f = some none
section
variable {X : Cx} {b : Bg} {W : WX} {a : Addr} {oe : Obj} {er : Er} {d : Option Addr} {pn : List (Addr × Obj)} {i : Nat} {names nf xs : List Str} {x f nm : Str} {pos p p1 p2 : Pos} {e e2 : Expr} {es : List Expr}
theorem ve_errF (F : ∀ n ∈ nf, FldC X.K (b.cls n) f) (hz : Zc (.ref (b.cls er.n)) d oe) (hf : ∃ vs, oe.data = .fields vs) (he : PE (X.suite a ((a, oe) :: pn)) e (tVar i)) (hb : attributeBase e f X.env (eval e X.env) = eval e X.env := by rfl) :
    VE (X.suite a ((a, oe) :: pn)) b W (.Attribute e f pos) (vErrF a d er i nf f) := by
  refine ⟨fun pins s σ H Q I ⟨Zo, Z, ρ, Qd, Ed, v, ⟨hρ, hn, q, hq, k⟩, l, _⟩ => ?_⟩
  obtain ⟨u, hu, ru⟩ := v.shr i _ hρ
  obtain ⟨eu, rd⟩ := ru
  subst eu
  rcases rd with ⟨_, hfs⟩ | ⟨dd, xs, ed, hd, nz, rf⟩
  · rw [hfs] at hq; cases hq
  · obtain ⟨w, hw, rw'⟩ := rf.look hq
    have F' := F er.n hn
    exact (pe_xf (d := d) F'.x F'.no hz hf he hb).run pins s σ H Q I ⟨.ref a, hu, rfl, rfl, dd, xs, w, ed, hd, hw, l w H (.py q) Ex.refl v.g rw' k⟩
theorem inst_of {s : Shared} {D : Addr} (ha : s.heap.get? a = some oe) (hc : oe.cls = .ref D) (hd : oe.dict = d) (hdat : ∃ vs, oe.data = .fields vs) (ho : ∀ dd, d = some dd → ∃ o, s.heap.get? dd = some o) : ∃ od, PySem.W.InstAt s.heap a oe D od := by
  obtain ⟨vs, hv⟩ := hdat
  cases d with
  | none => exact ⟨none, ha, hc, by unfold PySem.W.notCls; rw [hv] <;> rfl, by rw [hd]; trivial⟩
  | some dd =>
    obtain ⟨o, e⟩ := ho dd rfl
    exact ⟨some o, ha, hc, by unfold PySem.W.notCls; rw [hv] <;> rfl, by rw [hd]; exact e⟩
/-- isinstance(e, c), e the exception that the suite holds, its dict d -/
def rIsA (K : PySem.W.Frag) (D a : Addr) (d : Option Addr) : List V → Hp → VK → Prop := fun xs H Q => ∃ (c : V) (cv : Value) (k : Bool), xs = [.ref a, c] ∧ (∀ u, RelV c u → u = cv) ∧ PySem.W.kitOne K (.ref D) cv = some k ∧ (∀ dd, d = some dd → ∃ fs, H dd = some (.xd fs)) ∧ Q (.bl k) H
def rIsAT (K : PySem.W.Frag) (D a : Addr) (d : Option Addr) : List V → Hp → VK → Prop := fun xs H Q => ∃ (tp : Addr) (cs : List Addr) (k : Bool), xs = [.ref a, .ref tp] ∧ H tp = some (.tup (cs.map V.ref)) ∧ PySem.W.kitAny K (.ref D) (cs.map Value.ref) = some k ∧ (∀ dd, d = some dd → ∃ fs, H dd = some (.xd fs)) ∧ Q (.bl k) H
theorem xd_at {pins : List (Addr × Obj)} {σ : L2.St} {H : Hp} {s : Shared} (I : Inv X pins σ H s) {dd : Addr} {fs : List (Str × V)} (e : H dd = some (.xd fs)) : ∃ o, s.heap.get? dd = some o := by
  have hx : ObjOk X.prog X.w H s.heap dd (.xd fs) := I.hok dd _ e
  obtain ⟨mA, ⟨o, _, _, ho, _⟩, _⟩ := hx
  exact ⟨o, ho⟩
theorem call_isA {D : Addr} (C : ErrC X.K D) (hz : Zc (.ref D) d oe) (hf : ∃ vs, oe.data = .fields vs) : CallR (X.suite a ((a, oe) :: pn)) (.builtin "isinstance") (rIsA X.K D a d) := by
  intro pins s σ H xs us Q I r ⟨c, cv, k, ex, hcv, e, hd, q⟩
  subst ex
  obtain ⟨u1, u2, rfl, r1, r2⟩ := vals2 r
  cases r1
  have ec := hcv _ r2
  subst ec
  obtain ⟨hget, _⟩ := I.pin (a, oe) (List.mem_append.mpr (.inl List.mem_cons_self))
  exact PySem.W.kia_one (PySem.W.kitx_excA C.hg C.hk C.hs C.hd C.ha C.hn C.ht C.hm) I.kIn (inst_of hget hz.1 hz.2 hf fun dd ed => by obtain ⟨fs, e⟩ := hd dd ed; exact xd_at I e) e (fun z => nomatch z) fun tk => ⟨.bl k, H, I.kept (t' := tk) fun _ _ z => z, rfl, q⟩
theorem refs_vals : ∀ {cs : List Addr} {us : List Value}, Vals (cs.map V.ref) us → us = cs.map Value.ref
  | [], _, .nil => rfl
  | c :: cs, _, .cons r t => by cases r; rw [refs_vals t]; rfl
theorem call_isAT {D : Addr} (C : ErrC X.K D) (hz : Zc (.ref D) d oe) (hf : ∃ vs, oe.data = .fields vs) : CallR (X.suite a ((a, oe) :: pn)) (.builtin "isinstance") (rIsAT X.K D a d) := by
  intro pins s σ H xs us Q I r ⟨tp, cs, k, ex, hT, e, hd, q⟩
  subst ex
  obtain ⟨u1, u2, rfl, r1, r2⟩ := vals2 r
  cases r1
  cases (show u2 = Value.ref tp from r2)
  obtain ⟨hget, _⟩ := I.pin (a, oe) (List.mem_append.mpr (.inl List.mem_cons_self))
  obtain ⟨_, its, rv, o, h1, h2, n, h3⟩ := (show ObjOk X.prog X.w H s.heap tp (.tup (cs.map V.ref)) from I.hok tp _ hT)
  have e3 := refs_vals rv
  subst e3
  obtain ⟨oc, od, dt, sl⟩ := o
  simp only at h2 h3
  subst h2 h3
  exact PySem.W.kia_tup (PySem.W.kitx_excA C.hg C.hk C.hs C.hd C.ha C.hn C.ht C.hm) I.kIn (inst_of hget hz.1 hz.2 hf fun dd ed => by obtain ⟨fs, e⟩ := hd dd ed; exact xd_at I e) h1 e (fun z => nomatch z) fun tk => ⟨.bl k, H, I.tok tk, rfl, q⟩
/-- the error's own dict, as it lies -/
theorem err_dict {Z : Addr → Prop} {H : Hp} {u : V} {n : Str} {fs : List (Str × PyData)} (r : Rp b Z H u (.err a d n fs)) : u = .ref a ∧ ∀ dd, d = some dd → ∃ xs, H dd = some (.xd xs) := by
  obtain ⟨e, h⟩ := r
  refine ⟨e, fun dd ed => ?_⟩
  rcases h with ⟨h, _⟩ | ⟨dd', xs, e1, h1, _⟩
  · rw [h] at ed; cases ed
  · rw [e1] at ed; cases ed; exact ⟨xs, h1⟩
theorem ve_errI (T : ErrT X.K X.mg b names x) (C : ∀ n ∈ names, ErrC X.K (b.cls n)) (hz : Zc (.ref (b.cls er.n)) d oe) (hf : ∃ vs, oe.data = .fields vs) (hg : Gl X "isinstance") (hm : X.mg "isinstance" = none) (he : PE (X.suite a ((a, oe) :: pn)) e (tVar i)) (hgx : Gl X x)
    (hdx : (x == ("__debug__" : Str)) = false := by decide) (hs : starEach [e, .Name x p1] X.env = (false, eval e X.env) :: starEach [.Name x p1] X.env := by rfl) (hs2 : starEach [.Name x p1] X.env = (false, eval (.Name x p1) X.env) :: starEach [] X.env := by rfl) (hpl : (backTo pos (starEach [.Name x p1] X.env)).any (·.1) = false := by rfl) :
    VE (X.suite a ((a, oe) :: pn)) b W (.Call (.Name "isinstance" p) [e, .Name x p1] [] pos) (vErrI a d er i names x) := by
  refine ⟨fun pins s σ H Q I ⟨Zo, Z, ρ, Qd, Ed, v, ⟨hρ, hn, k⟩, l, _⟩ => ?_⟩
  obtain ⟨Cx, hmx, hsub⟩ := T.ex
  obtain ⟨u, hu, ru⟩ := v.shr i _ hρ
  obtain ⟨eu, hdd⟩ := err_dict ru
  subst eu
  refine (pe_callB (X := X.suite a ((a, oe) :: pn)) (call_isA (C er.n hn) hz hf) hg hm bb_isi (pa_cons he (pa_cons (pe_glob (v := .ref Cx) hgx hmx rfl hdx) pa_nil hs2) hs) (by decide) (by decide) hs hpl).run pins s σ H Q I ?_
  exact ⟨.ref a, hu, .ref Cx, .ref Cx, errSub er.n x, rfl, fun w hw => hw, (hsub er.n hn).2, hdd, l (.bl _) H (.py (.bool _)) Ex.refl v.g (Rq.bl _) k⟩
/-- ValueError -/
theorem ve_errV (T : ∀ n ∈ names, PySem.W.kitOne X.K (.ref (b.cls n)) (.type "ValueError") = some true) (C : ∀ n ∈ names, ErrC X.K (b.cls n)) (hz : Zc (.ref (b.cls er.n)) d oe) (hf : ∃ vs, oe.data = .fields vs) (hg : Gl X "isinstance") (hm : X.mg "isinstance" = none) (he : PE (X.suite a ((a, oe) :: pn)) e (tVar i)) (hgx : Gl X "ValueError") (hmx : X.mg "ValueError" = none)
    (hs : starEach [e, .Name "ValueError" p1] X.env = (false, eval e X.env) :: starEach [.Name "ValueError" p1] X.env := by rfl) (hs2 : starEach [.Name "ValueError" p1] X.env = (false, eval (.Name "ValueError" p1) X.env) :: starEach [] X.env := by rfl) (hpl : (backTo pos (starEach [.Name "ValueError" p1] X.env)).any (·.1) = false := by rfl) :
    VE (X.suite a ((a, oe) :: pn)) b W (.Call (.Name "isinstance" p) [e, .Name "ValueError" p1] [] pos) (vErrI a d er i names "ValueError") := by
  refine ⟨fun pins s σ H Q I ⟨Zo, Z, ρ, Qd, Ed, v, ⟨hρ, hn, k⟩, l, _⟩ => ?_⟩
  obtain ⟨u, hu, ru⟩ := v.shr i _ hρ
  obtain ⟨eu, hdd⟩ := err_dict ru
  subst eu
  have ek : errSub er.n "ValueError" = true := by
    unfold errSub
    have : ((("ValueError" : Str)) == (("ValueError" : Str))) = true := beq_self_eq_true _
    rw [this, Bool.or_true]
  rw [ek] at k
  refine (pe_callB (X := X.suite a ((a, oe) :: pn)) (call_isA (C er.n hn) hz hf) hg hm bb_isi (pa_cons he (pa_cons (pe_bltn (v := .ty "ValueError") hgx hmx PyProof.Rows.Boot.«ValueError» rfl) pa_nil hs2) hs) (by decide) (by decide) hs hpl).run pins s σ H Q I ?_
  exact ⟨.ref a, hu, .ty "ValueError", .type "ValueError", true, rfl, fun w hw => hw, T er.n hn, hdd, l (.bl _) H (.py (.bool _)) Ex.refl v.g (Rq.bl _) k⟩
end
def tCs (cs : List Addr) : TA := fun _ H Q => Q (cs.map V.ref) H
/-- a row of classes -/
def PNs (X : Cx) (b : Bg) (names : List Str) (es : List Expr) (xs : List Str) : Prop := ∃ cs : List Addr, cs.length = xs.length ∧ (∀ n ∈ names, PySem.W.kitAny X.K (.ref (b.cls n)) (cs.map Value.ref) = some (xs.any fun x => errSub n x)) ∧ PA X es (tCs cs)
section
variable {X : Cx} {b : Bg} {W : WX} {a : Addr} {oe : Obj} {er : Er} {d : Option Addr} {pn : List (Addr × Obj)} {i : Nat} {names nf xs : List Str} {x f nm : Str} {pos p p1 p2 : Pos} {e e2 : Expr} {es : List Expr} {k1 : Nat}
theorem pns_nil : PNs X b names [] [] := ⟨[], rfl, fun _ _ => rfl, pa_mono pa_nil fun _ _ _ q => q⟩
theorem pns_cons (T : ErrT X.K X.mg b names x) (hgx : Gl X x) (h : PNs X b names es xs) (hdx : (x == ("__debug__" : Str)) = false := by decide) (hs : starEach (.Name x p1 :: es) X.env = (false, eval (.Name x p1) X.env) :: starEach es X.env := by rfl) :
    PNs X b names (.Name x p1 :: es) (x :: xs) := by
  obtain ⟨C, hm, hsub⟩ := T.ex
  obtain ⟨cs, hl, hk, hp⟩ := h
  refine ⟨C :: cs, by simp [hl], fun n hn => ?_, pa_mono (pa_cons (pe_glob (v := .ref C) hgx hm rfl hdx) hp hs) fun _ _ _ q => q⟩
  rw [List.map_cons, PySem.W.kitAny, (hsub n hn).2, List.any_cons]
  cases errSub n x with
  | true => rfl
  | false => rw [Bool.false_or]; exact hk n hn
theorem ve_errIT (P : PNs (X.suite a ((a, oe) :: pn)) b names es xs) (C : ∀ n ∈ names, ErrC X.K (b.cls n)) (hz : Zc (.ref (b.cls er.n)) d oe) (hf : ∃ vs, oe.data = .fields vs) (hg : Gl X "isinstance") (hm : X.mg "isinstance" = none) (he : PE (X.suite a ((a, oe) :: pn)) e (tVar i)) (hl : xs.length ≤ 1000)
    (hs : starEach [e, .Tuple es k1 p1] X.env = (false, eval e X.env) :: starEach [.Tuple es k1 p1] X.env := by rfl) (hs2 : starEach [.Tuple es k1 p1] X.env = (false, eval (.Tuple es k1 p1) X.env) :: starEach [] X.env := by rfl) (hpl : (backTo pos (starEach [.Tuple es k1 p1] X.env)).any (·.1) = false := by rfl) :
    VE (X.suite a ((a, oe) :: pn)) b W (.Call (.Name "isinstance" p) [e, .Tuple es k1 p1] [] pos) (vErrIT a d er i names xs) := by
  refine ⟨fun pins s σ H Q I ⟨Zo, Z, ρ, Qd, Ed, v, ⟨hρ, hn, k⟩, l, _⟩ => ?_⟩
  obtain ⟨cs, hlc, hk, hp⟩ := P
  obtain ⟨u, hu, ru⟩ := v.shr i _ hρ
  obtain ⟨eu, hdd⟩ := err_dict ru
  subst eu
  refine (pe_callB (X := X.suite a ((a, oe) :: pn)) (call_isAT (C er.n hn) hz hf) hg hm bb_isi (pa_cons he (pa_cons (pe_tup hp) pa_nil hs2) hs) (by decide) (by decide) hs hpl).run pins s σ H Q I ?_
  refine ⟨.ref a, hu, by rw [List.length_map, hlc, sizeLine_eq]; omega, fun tp htp => ⟨tp, cs, _, rfl, upd_same, hk er.n hn, fun dd ed => ?_, l (.bl _) _ (.py (.bool _)) (Ex.new htp) (Bg.new v.g htp) (Rq.bl _) k⟩⟩
  obtain ⟨xs, hx⟩ := hdd dd ed
  exact ⟨xs, by rw [upd_ne (ne_of_none hx htp)]; exact hx⟩
end
end VL
set_option Elab.async false
set_option linter.all false
set_option maxRecDepth 100000
set_option maxHeartbeats 4000000
namespace VL
open PySem PySem.Spec PyProof.Rows L2 HT
/-! ### the facts of the errors' classes, for the join -/
/-- what every error's class that is raised must say -/
structure RaiB (K : PySem.W.Frag) (C : Addr) (n : Str) : Prop where
  ns : PySem.W.nsIn K mainGlobals n = some (some (.ref C))
  kC : PySem.W.keepIn K (.ref C) = true
  tyC : PySem.W.typeIn K (.ref C) = some (.type "type")
  sf : PySem.W.selfFirst K C = true
  ve : PySem.W.subIn K (.ref C) (.type "ValueError") = some true
  ec : ErrC K C
theorem raiB {K : PySem.W.Frag} {C : Addr} {n : Str} (a1 : PySem.W.nsIn K mainGlobals n = some (some (.ref C))) (a2 : PySem.W.keepIn K (.ref C) = true) (a3 : PySem.W.typeIn K (.ref C) = some (.type "type")) (a4 : PySem.W.selfFirst K C = true)
    (a5 : PySem.W.subIn K (.ref C) (.type "ValueError") = some true)
    (b1 : PySem.W.findIn K (.ref C) "__getattribute__" = some (some (.builtin "BaseException.__getattribute__"))) (b2 : PySem.W.findIn K (.ref C) "__getattr__" = some none) (b3 : PySem.W.subIn K (.ref C) (.type "BaseException") = some true) (b4 : PySem.W.hasDictIn K C = true)
    (b5 : PySem.W.findIn K (.ref C) "__class__" = some (some (.builtin "object.__class__"))) (b6 : PySem.W.specialIn K (.builtin "object.__class__") "__get__" = some (some (.builtin "getset_descriptor.__get__"))) (b7 : PySem.W.takesIn K (.builtin "object.__class__") = some true) (b8 : PySem.W.mroIn K C (.type "object") = some true) : RaiB K C n := ⟨a1, a2, a3, a4, a5, ⟨b1, b2, b3, b4, b5, b6, b7, b8⟩⟩
structure RaiI (K : PySem.W.Frag) (C : Addr) (n qual f : Str) (st : Stmt) : Prop where
  b : RaiB K C n
  T : OexC K C
  no : PySem.W.findIn K (.ref C) f = some none
  ini : ∃ (fI : Addr) (fd : FuncData), Fun K "__init__" qual st fI fd ∧ PySem.W.findIn K (.ref C) "__init__" = some (some (.ref fI)) ∧ PySem.W.typeIn K (.ref fI) = some (.type "function")
structure Rai1 (K : PySem.W.Frag) (n qual f : Str) (st : Stmt) : Prop where
  ex : ∃ C : Addr, RaiI K C n qual f st
theorem rai1 {K : PySem.W.Frag} {C fI : Addr} {n qual f : Str} {st : Stmt} {oc kV doc pm cdv ct : Value} {od an : Option Addr} {osl : Array (Option Value)} {nm q : Str} {N : Addr} {bs bm : List Value} {sn : List Str} {sub : List Value} {ab : Bool} {col : Option Bool} {dd : Option Addr} {k0 k1 k2 k3 k5 : Option Value} (r : RaiB K C n)
    (c1 : K.lookup C = some (excClassObj nm q C N bs bm true sn sub ab col dd k0 k1 k2 k3 k5 "ValueError.__new__")) (c2 : PySem.HandSPX.refsVE bm = true) (c3 : PySem.W.findIn K (.ref C) "__setattr__" = some (some (.builtin "object.__setattr__"))) (c4 : PySem.W.findIn K (.ref C) f = some none)
    (d1 : PySem.W.findIn K (.ref C) "__init__" = some (some (.ref fI))) (d2 : PySem.W.typeIn K (.ref fI) = some (.type "function")) (d3 : K.lookup fI = some ⟨oc, od, .func (PySem.W.fnOf "__init__" qual (defArgs st) (defBody st) (defScope st) .none kV doc pm an cdv ct), osl⟩) (d4 : PySem.W.codeIn K cdv qual = true) (d5 : PySem.W.keepIn K (.ref fI) = true) : Rai1 K n qual f st :=
  ⟨C, r, ⟨⟨nm, q, N, bs, bm, sn, sub, ab, col, dd, k0, k1, k2, k3, k5, c1, c2⟩, c3, r.ec.hs, r.tyC, r.kC⟩, c4, fI, _, fun_mk d3 d4 d5, d1, d2⟩
/-- a class that is asked for -/
structure TstK (K : PySem.W.Frag) (x : Str) : Prop where
  ex : ∃ C : Addr, PySem.W.nsIn K mainGlobals x = some (some (.ref C)) ∧ PySem.W.isClsIn K C = true ∧ PySem.W.typeIn K (.ref C) = some (.type "type") ∧ PySem.W.subIn K (.ref C) (.type "BaseException") = some true
theorem tstK {K : PySem.W.Frag} {C : Addr} {x : Str} (a1 : PySem.W.nsIn K mainGlobals x = some (some (.ref C))) (a2 : PySem.W.isClsIn K C = true) (a3 : PySem.W.typeIn K (.ref C) = some (.type "type")) (a4 : PySem.W.subIn K (.ref C) (.type "BaseException") = some true) : TstK K x := ⟨C, a1, a2, a3, a4⟩
/-- n beside x -/
structure SubK (K : PySem.W.Frag) (n x : Str) : Prop where
  ex : ∃ C D : Addr, PySem.W.nsIn K mainGlobals n = some (some (.ref C)) ∧ PySem.W.nsIn K mainGlobals x = some (some (.ref D)) ∧ PySem.W.subIn K (.ref C) (.ref D) = some (errSub n x)
theorem subK {K : PySem.W.Frag} {C D : Addr} {n x : Str} {k : Bool} (a1 : PySem.W.nsIn K mainGlobals n = some (some (.ref C))) (a2 : PySem.W.nsIn K mainGlobals x = some (some (.ref D))) (a3 : PySem.W.subIn K (.ref C) (.ref D) = some k) (a4 : errSub n x = k) : SubK K n x := ⟨C, D, a1, a2, by rw [a4]; exact a3⟩
section
variable {K : PySem.W.Frag} {h : Heap} {mg : Str → Option Value} {b : Bg} {n x qual f prm : Str} {C : Addr} {st : Stmt} {names : List Str}
theorem self_sub (sf : PySem.W.selfFirst K C = true) : PySem.W.subIn K (.ref C) (.ref C) = some true := by
  unfold PySem.W.selfFirst at sf
  show PySem.W.mroIn K C (.ref C) = some true
  unfold PySem.W.mroIn
  cases hc : PySem.W.clsIn K C with
  | none => rw [hc] at sf; cases sf
  | some cd =>
    rw [hc] at sf
    have e : cd.mro.head? = some (.ref C) := by simpa using sf
    cases hm : cd.mro with
    | nil => rw [hm] at e; cases e
    | cons v r =>
      rw [hm] at e
      have ev : v = .ref C := by simpa using e
      subst ev
      simp [hm]
theorem kit_of_sub {D : Addr} {k : Bool} (sf : PySem.W.selfFirst K C = true) (hs : PySem.W.subIn K (.ref C) (.ref D) = some k) (hi : PySem.W.isClsIn K D = true) (ht : PySem.W.typeIn K (.ref D) = some (.type "type")) : PySem.W.kitOne K (.ref C) (.ref D) = some k := by
  unfold PySem.W.kitOne
  by_cases e : C = D
  · subst e
    rw [if_pos (by simp)]
    rw [self_sub sf] at hs
    exact hs
  · rw [if_neg (by simpa using e)]
    unfold PySem.W.kitCls
    have h1 : (PySem.W.clsIn K D).isSome = true := hi
    have h2 : (PySem.W.typeIn K (.ref D) == some (.type "type")) = true := by rw [ht]; simp
    simp only [h1, h2, Bool.and_self, if_true]
    exact hs
theorem exm_of_sub {D : Addr} {k : Bool} (hs : PySem.W.subIn K (.ref C) (.ref D) = some k) (hi : PySem.W.isClsIn K D = true) (ht : PySem.W.typeIn K (.ref D) = some (.type "type")) (hb : PySem.W.subIn K (.ref D) (.type "BaseException") = some true) : PySem.W.exmOne K (.ref C) (.ref D) = some k := by
  have e1 : (PySem.W.subIn K (.ref D) (.type "BaseException") == some true) = true := by rw [hb] <;> rfl
  have e2 : ((PySem.W.clsIn K D).isSome && PySem.W.typeIn K (.ref D) == some (.type "type")) = true := by
    have h1 : (PySem.W.clsIn K D).isSome = true := hi
    rw [h1, ht] <;> rfl
  show (if (PySem.W.subIn K (.ref D) (.type "BaseException") == some true) = true then (if ((PySem.W.clsIn K D).isSome && PySem.W.typeIn K (.ref D) == some (.type "type")) = true then PySem.W.subIn K (.ref C) (.ref D) else none) else none) = some k
  rw [if_pos e1, if_pos e2]
  exact hs
theorem errT (X : K.In h) (G : h.Ns mainGlobals mg) (t : TstK K x) (hs : ∀ n ∈ names, SubK K n x ∧ RaiB K (b.cls n) n) : ErrT K mg b names x := by
  obtain ⟨D, h1, h2, h3, h4⟩ := t.ex
  refine ⟨D, PySem.W.mg_of X G h1, fun n hn => ?_⟩
  obtain ⟨⟨C', D', a1, a2, a3⟩, r⟩ := hs n hn
  have e1 : C' = b.cls n := by
    have := a1.symm.trans r.ns
    injection this with this; injection this with this; injection this
  have e2 : D' = D := by
    have := a2.symm.trans h1
    injection this with this; injection this with this; injection this
  rw [e1, e2] at a3
  exact ⟨exm_of_sub a3 h2 h3 h4, kit_of_sub r.sf a3 h2 h3⟩
theorem errV (hs : ∀ n ∈ names, RaiB K (b.cls n) n) : ∀ n ∈ names, PySem.W.kitOne K (.ref (b.cls n)) (.type "ValueError") = some true := fun n hn => by
  have r := hs n hn
  unfold PySem.W.kitOne
  rw [if_neg (by simp)]
  unfold PySem.W.kitCls
  have : PySem.W.kitMeta "ValueError" = true := by decide +kernel
  simp only [this, if_true]
  exact r.ve
theorem RaiI.fld (r : RaiI K (b.cls n) n qual f st) : FldC K (b.cls n) f := ⟨⟨r.b.ec.hg, r.b.ec.hk, r.b.ec.hs, r.b.ec.hd⟩, r.no⟩
theorem RaiI.mk1 {P : Program} {w : World} {base : Heap} (r : RaiI K (b.cls n) n qual f st) (X : K.In h) (G : h.Ns mainGlobals mg) (wk : ∀ (fa : Addr) (fd : FuncData), Fun K "__init__" qual st fa fd → FnOk P w K mg base (L2.CX P w) 1 fa fd ["self", prm] (spInit K f))
    (bd : ∀ (kV doc pm : Value) (an : Option Addr) (cdv ct : Value) (us : List Value), us.length = (["self", prm] : List Str).length → bindArgs (PySem.W.fnOf "__init__" qual (defArgs st) (defBody st) (defScope st) .none kV doc pm an cdv ct) ⟨us, []⟩ = pure ((["self", prm] : List Str).zip us)) : Nonempty (Mk1 P w K mg base b n f) := by
  obtain ⟨fI, fd, F, iC, tI⟩ := r.ini
  exact ⟨⟨PySem.W.mg_of X G r.b.ns, r.T, r.no, fI, fd, prm, iC, tI, wk fI fd F, F.binds bd⟩⟩
end
/-- the classes' addresses by their names -/
def clsOf : List (Str × Addr) → Addr → Str → Addr
  | [], fa, _ => fa
  | (m, C) :: r, fa, n => if m = n then C else clsOf r fa n
theorem clsOf_hd {m : Str} {C fa : Addr} {r : List (Str × Addr)} : clsOf ((m, C) :: r) fa m = C := if_pos rfl
/-- a def within a class -/
def clsDef (s : Stmt) (i : Nat) : Stmt := match s with
  | .ClassDef _ _ _ b _ _ _ _ _ _ _ => b.getD i (.Pass ⟨0, 0, 0, 0⟩)
  | s => s
end VL
set_option Elab.async false
set_option linter.all false
set_option maxRecDepth 100000
set_option maxHeartbeats 2000000
/-! VL38: defs with one star parameter, called plainly. -/
namespace VL
open PySem PySem.Spec PyProof.Rows L2
@[simp] def svStar (S : SV) : SV := fun ds Q E => ∃ ps, pys ds = some ps ∧ ps.length ≤ sizeLine ∧ S [.py (.tuple ps)] Q E
structure CalR (P : Program) (w : World) (K : PySem.W.Frag) (mg : Str → Option Value) (base : Heap) (b : Bg) (k : Nat) (x : Str) (S : SV) where
  f : Addr
  F : FnR P w K mg base (L2.CX P w) k f (spV b S)
  g : mg x = some (.ref f)
  kp : PySem.W.keepIn K (.ref f) = true
section
variable {CX : CXT} {P : Program} {w : World} {K : PySem.W.Frag} {mg : Str → Option Value} {base : Heap} {k : Nat} {f : Addr} {name qual : Str} {params : Arguments} {body : List Stmt} {scope : Scope} {dV kV doc pm cdv ct oc : Value} {an od : Option Addr}
  {osl : Array (Option Value)} {N ps : List Str} {sp : Sp}
end
section
variable {P : Program} {w : World} {K : PySem.W.Frag} {mg : Str → Option Value} {base : Heap} {b : Bg} {k : Nat} {x qual pv : Str} {st : Stmt} {f : Addr} {fd : FuncData} {N : List Str} {S : SV}
end
section
variable {X : Cx} {b : Bg} {W : WX} {k j : Nat} {x : Str} {S : SV} {e : Expr} {es : List Expr} {u : VA} {p pos : Pos}
end
end VL
set_option Elab.async false
set_option linter.all false
set_option maxRecDepth 100000
set_option maxHeartbeats 2000000
/-! VL39: list.count of bools -/
namespace VL
open PySem PySem.Spec PyProof.Rows L2
theorem bools_vals : ∀ {us : List Value} {ns : List Bool}, Vals (ns.map V.bl) us → us = ns.map Value.bool
  | [], [], .nil => rfl
  | _, n :: ns, .cons r t => by
    cases r
    rw [List.map_cons, bools_vals t]
@[simp] def isLi : D → Prop
  | .py (.list _) => True
  | _ => False
@[simp] def gCountB : D → List D → (D → Prop) → Prop
  | .py (.list xs), [.py (.bool k)], Q => ∃ ns, allB xs = some ns ∧ Q (.py (.int (ns.count k : Nat)))
  | _, _, _ => False
end VL
set_option Elab.async false
set_option linter.all false
set_option maxRecDepth 100000
set_option maxHeartbeats 4000000
/-! VL40: the law's head for any background; the gear: a list of three numbers that a def draws from -/
namespace VL
open PySem PySem.Spec PyProof.Rows L2
section
variable {P : Program} {w : World} {K : PySem.W.Frag} {mg : Str → Option Value} {base : Heap} {k k0 : Nat} {st : Stmt} {f fo : Addr} {fd fdo : FuncData} {N : List Str}
end
/-! ### the gear -/
end VL
set_option Elab.async false
set_option linter.all false
set_option maxRecDepth 100000
set_option maxHeartbeats 2000000
/-! VL41: isinstance with a pair of classes; a promise that nothing may ask -/
namespace VL
open PySem PySem.Spec PyProof.Rows L2
@[simp] def vIsi2 (T1 T2 : String) (t : VT) : VT := fun ρ Q E => t ρ (fun d => ∃ p, d = .py p ∧ ∃ k1 k2, isK T1 p = some k1 ∧ isK T2 p = some k2 ∧ Q (.py (.bool (k1 || k2)))) E
section
variable {X : Cx} {b : Bg} {W : WX} {T1 T2 : String} {x1 x2 : Str} {e : Expr} {t : VT} {p p1 p2 p3 pos : Pos} {kk : Nat}
end
end VL
set_option Elab.async false
set_option linter.all false
set_option maxRecDepth 100000
set_option maxHeartbeats 4000000
/-! VL42: sorted of lists and tuples of ints -/
namespace VL
open PySem PySem.Spec PyProof.Rows L2
section
variable {X : Cx}
end
/-! ### over values -/
def sortI (ns : List Int) : List Int := ns.mergeSort (fun a b => decide (a ≤ b))
@[simp] def gSorted : List D → (D → Prop) → Prop
  | [.py (.list xs)], Q => ∃ ns, allI xs = some ns ∧ Q (.py (.list ((sortI ns).map PyData.int)))
  | [.py (.tuple xs)], Q => ∃ ns, allI xs = some ns ∧ Q (.py (.list ((sortI ns).map PyData.int)))
  | _, _ => False
section
variable {X : Cx} {b : Bg} {W : WX} {e : Expr} {es : List Expr} {u : VA} {p pos : Pos}
end
end VL
set_option Elab.async false
set_option linter.all false
set_option maxRecDepth 100000
set_option maxHeartbeats 4000000
/-! VL43: len(set(t)), t a tuple of ints -/
namespace VL
open PySem PySem.Spec PyProof.Rows L2
section
variable {X : Cx}
end
@[simp] def vLenSet (t : VT) : VT := fun ρ Q E => t ρ (fun d => ∃ xs ns, d = .py (.tuple xs) ∧ allI xs = some ns ∧ ns.length < 1000 ∧ ∀ ks : List Int, ks.Nodup → (∀ j, j ∈ ks ↔ j ∈ ns) → Q (.py (.int (ks.length : Nat)))) E
end VL
set_option Elab.async false
set_option linter.all false
set_option maxRecDepth 100000
set_option maxHeartbeats 4000000
/-! VL44: the jug: a list of a list and two numbers -/
namespace VL
open PySem PySem.Spec PyProof.Rows L2
end VL
set_option Elab.async false
set_option linter.all false
set_option maxRecDepth 100000
set_option maxHeartbeats 4000000
/-! VL45: found.append(left.pop(k)), both lists owned -/
namespace VL
open PySem PySem.Spec PyProof.Rows L2
@[simp] def sPopApp (i j : Nat) (te : VT) : VS := fun ρ De => ∃ xs ys, ρ[i]? = some (.own (.py (.list xs))) ∧ ρ[j]? = some (.own (.py (.list ys))) ∧ i ≠ j ∧ xs.length < sizeLine ∧ ys.length ≤ sizeLine ∧
  te ρ (fun d => ∃ k : Nat, d = .py (.int (k : Nat)) ∧ ∃ p, ys[k]? = some p ∧ De.nx ((ρ.set j (.own (.py (.list (ys.eraseIdx k))))).set i (.own (.py (.list (xs ++ [p])))))) (De.ex ρ)
section
variable {X : Cx} {b : Bg} {W : WX} {o o2 e : Expr} {i j : Nat} {te : VT} {apos cpos pos apos2 cpos2 : Pos}
end
end VL
set_option Elab.async false
set_option linter.all false
set_option maxRecDepth 100000
set_option maxHeartbeats 4000000
/-! VL46: list(range(n)), tuple(range(n)) -/
namespace VL
open PySem PySem.Spec PyProof.Rows L2
section
variable {X : Cx} {a e : Expr} {ta : TE} {te : L2.St → Hp → (Int → Int → Hp → Prop) → Prop}
end
@[simp] def vLstRg (t : VT) : VT := fun ρ Q E => t ρ (fun d => ∃ n : Int, d = .py (.int n) ∧ 0 ≤ n ∧ n ≤ 1000000 ∧ Q (.py (.list (rangeP 0 n.toNat)))) E
@[simp] def vTupRg (t : VT) : VT := fun ρ Q E => t ρ (fun d => ∃ n : Int, d = .py (.int n) ∧ 0 ≤ n ∧ n ≤ 1000000 ∧ Q (.py (.tuple (rangeP 0 n.toNat)))) E
section
variable {X : Cx} {b : Bg} {W : WX} {a : Expr} {t : VT} {p p2 q pos : Pos}
end
end VL
set_option Elab.async false
set_option linter.all false
set_option maxRecDepth 100000
set_option maxHeartbeats 4000000
/-! VL47: x = left.pop(k), left owned -/
namespace VL
open PySem PySem.Spec PyProof.Rows L2
@[simp] def sPopSet (i j : Nat) (te : VT) : VS := fun ρ De => ∃ ys, ρ[j]? = some (.own (.py (.list ys))) ∧ i ≠ j ∧ i < ρ.length ∧ ys.length ≤ sizeLine ∧
  te ρ (fun d => ∃ k : Nat, d = .py (.int (k : Nat)) ∧ ∃ p, ys[k]? = some p ∧ De.nx ((ρ.set j (.own (.py (.list (ys.eraseIdx k))))).set i (.shr (.py p)))) (De.ex ρ)
section
variable {X : Cx} {b : Bg} {W : WX} {o2 e : Expr} {i j : Nat} {x : Str} {te : VT} {pos pos' apos2 cpos2 : Pos}
end
end VL
set_option Elab.async false
set_option linter.all false
set_option maxRecDepth 100000
set_option maxHeartbeats 4000000
/-! VL48: xs.insert(i, x), xs owned, i not below 0 -/
namespace VL
open PySem PySem.Spec PyProof.Rows L2
@[simp] def gIns : List PyData → List D → (D → List PyData → Prop) → Prop
  | p, [.py (.int i), .py x], Q => p.length < sizeLine ∧ 0 ≤ i ∧ i < 1000000000 ∧ Q (.py .none) (p.take i.toNat ++ [x] ++ p.drop i.toNat)
  | _, _, _ => False
section
variable {X : Cx} {b : Bg} {W : WX} {o e e2 : Expr} {ta : VA} {i : Nat} {apos cpos pos : Pos}
end
end VL
set_option Elab.async false
set_option linter.all false
set_option maxRecDepth 100000
set_option maxHeartbeats 4000000
/-! VL49: xs.extend(ys), xs owned, ys a list -/
namespace VL
open PySem PySem.Spec PyProof.Rows L2
@[simp] def gExt : List PyData → List D → (D → List PyData → Prop) → Prop
  | p, [.py (.list z)], Q => p.length + z.length ≤ sizeLine ∧ Q (.py .none) (p ++ z)
  | _, _, _ => False
section
variable {X : Cx} {b : Bg} {W : WX} {o e : Expr} {ta : VA} {i : Nat} {apos cpos pos : Pos}
end
end VL
set_option Elab.async false
set_option linter.all false
set_option maxRecDepth 100000
set_option maxHeartbeats 4000000
/-! VL50: *e among the items of a display or the arguments of a call -/
namespace VL
open PySem PySem.Spec PyProof.Rows L2 StX
@[simp] def vStar (t : VT) (u : VA) : VA := fun ρ Q E => t ρ (fun d => ∃ xs, (d = .py (.tuple xs) ∨ d = .py (.list xs)) ∧ u ρ (fun ds => Q (xs.map D.py ++ ds)) E) E
section
variable {X : Cx} {b : Bg} {W : WX} {e : Expr} {es : List Expr} {t : VT} {u : VA} {p : Pos}
end
end VL
set_option Elab.async false
set_option linter.all false
set_option maxRecDepth 100000
set_option maxHeartbeats 4000000
/-! VL51: sorted of a list of tuples of ints, in the order of tuples -/
namespace VL
open PySem PySem.Spec PyProof.Rows L2
def lexL : List Int → List Int → Bool
  | _, [] => false
  | [], _ :: _ => true
  | x :: xs, y :: ys => if x = y then lexL xs ys else decide (x < y)
section
variable {prog : Program} {w : World} {A : Around} {s : Shared} {E : Value → Shared → Prop}
end
section
variable {X : Cx}
end
/-! ### over values -/
def sortT (L : List (List Int)) : List (List Int) := L.mergeSort fun a b => !lexL b a
@[simp] def gSortedT : List D → (D → Prop) → Prop
  | [.py (.list xs)], Q => ∃ L : List (List Int), xs = L.map tI ∧ (∀ l ∈ L, l ≠ []) ∧ Q (.py (.list ((sortT L).map tI)))
  | _, _ => False
section
variable {X : Cx} {b : Bg} {W : WX} {e : Expr} {es : List Expr} {u : VA} {p pos : Pos}
end
end VL
set_option Elab.async false
set_option linter.all false
set_option maxRecDepth 100000
set_option maxHeartbeats 4000000
/-! VL52: defs that show values (repr within a def): called where nothing is being shown -/
namespace VL
open PySem PySem.Spec PyProof.Rows L2
structure FnL (P : Program) (w : World) (K : PySem.W.Frag) (mg : Str → Option Value) (base : Heap) (k : Nat) (f : Addr) (fd : FuncData) (ps : List Str) (sp : Sp) : Prop where
  len : ∀ vs H Q E, sp vs H Q E → vs.length = ps.length
  g : FnG P w K mg base k f fd ps sp
section
variable {P : Program} {w : World} {K : PySem.W.Frag} {mg : Str → Option Value} {base : Heap} {b : Bg} {k : Nat} {f : Addr} {fd : FuncData} {N ps : List Str} {S : SV} {st : Stmt} {x qual : Str}
end
structure CalG (P : Program) (w : World) (K : PySem.W.Frag) (mg : Str → Option Value) (base : Heap) (b : Bg) (k : Nat) (x : Str) (ps : List Str) (S : SV) where
  f : Addr
  fd : FuncData
  F : FnL P w K mg base k f fd ps (spV b S)
  g : mg x = some (.ref f)
  kp : PySem.W.keepIn K (.ref f) = true
  bd : Binds K fd ps []
section
variable {X : Cx} {b : Bg} {W : WX} {k j : Nat} {f : Addr} {fd : FuncData} {ps : List Str} {S : SV} {x : Str} {e : Expr} {es : List Expr} {u : VA} {p pos : Pos} {sp : Sp} {E : L2.St → XK} {t : TA}
end
end VL
set_option Elab.async false
set_option linter.all false
set_option maxRecDepth 100000
set_option maxHeartbeats 4000000
/-! VL53: is True, is not True of bools -/
namespace VL
open PySem PySem.Spec PyProof.Rows L2
@[simp] def gIsB (neg : Bool) : D → D → (D → Prop) → Prop
  | .py (.bool a), .py (.bool b), Q => Q (.py (.bool (neg ^^ decide (a = b))))
  | _, _, _ => False
section
variable {X : Cx} {b : Bg} {W : WX} {e1 e2 : Expr} {t1 t2 : VT} {pos : Pos}
end
end VL
set_option Elab.async false
set_option linter.all false
set_option maxRecDepth 100000
set_option maxHeartbeats 4000000
/-! VL54: list(text) -/
namespace VL
open PySem PySem.Spec PyProof.Rows L2
section
variable {X : Cx}
end
@[simp] def gListA : List D → (D → Prop) → Prop
  | [.py (.list xs)], Q => Q (.py (.list xs))
  | [.py (.tuple xs)], Q => Q (.py (.list xs))
  | [.py (.str z)], Q => z.length ≤ sizeLine ∧ Q (.py (.list (signsD z)))
  | _, _ => False
section
variable {X : Cx} {b : Bg} {W : WX} {e : Expr} {es : List Expr} {u : VA} {p pos : Pos}
end
end VL
set_option Elab.async false
set_option linter.all false
set_option maxRecDepth 100000
set_option maxHeartbeats 4000000
/-! VL55: () * k -/
namespace VL
open PySem PySem.Spec PyProof.Rows L2
open AutoSeq1 (wpAny_loadPart')
section
variable {X : Cx}
end
section
variable {X : Cx} {b : Bg} {W : WX} {e1 e2 : Expr} {t1 t2 : VT} {pos : Pos}
/-- .. of a tuple that may be empty -/
@[simp] def gMulT : D → D → (D → Prop) → Prop
  | .py (.tuple xs), .py (.int k), Q => (0 ≤ k ∧ 2 ≤ k ∧ k ≤ 1000 ∧ xs.length ≤ 1000) ∧ Q (.py (.tuple (List.replicate k.toNat xs).flatten))
  | _, _, _ => False
end
end VL
set_option Elab.async false
set_option linter.all false
set_option maxRecDepth 100000
set_option maxHeartbeats 4000000
/-! VL56: a sign in a text -/
namespace VL
open PySem PySem.Spec PyProof.Rows L2 HT
open Builtin.Str in
theorem occ_full (z : Str) (c k lim : Nat) (st : Array Nat × Nat) (h2 : ¬ st.1.size < lim) : StrLaws.occBody z ⟨#[c]⟩ z.length lim k st = pure (ForInStep.yield (st.1, st.2)) := by
  unfold StrLaws.occBody
  rw [if_neg (fun q => h2 q.1.1.1)]
theorem occ_one (z : Str) (c : Nat) : ∀ (n k free : Nat) (acc : Array Nat), free ≤ k → k + n = z.length + 1 →
    (0 < (forIn (List.range' k n) (acc, free) (StrLaws.occBody z ⟨#[c]⟩ z.length 1)).run.fst.size ↔ (0 < acc.size ∨ c ∈ (sl z).drop k))
  | 0, k, free, acc, h1, h3 => by
    have : (sl z).drop k = [] := List.drop_eq_nil_of_le (by rw [slen]; omega)
    rw [this]; simp
  | n + 1, k, free, acc, h1, h3 => by
    rw [List.range'_succ, List.forIn_cons]
    by_cases ha : acc.size < 1
    · rw [occ_step z c k _ (acc, free) h1 (by show acc.size < _; omega)]
      by_cases hk : k < z.length
      · have hk' : k < (sl z).length := by rw [slen]; exact hk
        rw [List.drop_eq_getElem_cons hk', List.getElem?_eq_getElem hk']
        by_cases hc : (sl z)[k] = c
        · rw [if_pos (by rw [hc])]
          have := occ_one z c n (k + 1) (k + 1) (acc.push k) (by omega) (by omega)
          simp only [pure_bind]
          rw [this, Array.size_push]
          simp [hc]
        · rw [if_neg (by simpa using hc)]
          have := occ_one z c n (k + 1) free acc (by omega) (by omega)
          simp only [pure_bind]
          rw [this]
          have hc' : ¬ c = (sl z)[k] := fun e => hc e.symm
          have hm : (c ∈ (sl z)[k] :: (sl z).drop (k + 1)) ↔ c ∈ (sl z).drop (k + 1) := by
            rw [List.mem_cons]; exact ⟨fun h => h.resolve_left hc', .inr⟩
          rw [hm]
      · have e : (sl z).drop k = [] := List.drop_eq_nil_of_le (by rw [slen]; omega)
        rw [if_neg (by rw [List.getElem?_eq_none (by rw [slen]; omega)]; simp), e]
        have := occ_one z c n (k + 1) free acc (by omega) (by omega)
        have e2 : (sl z).drop (k + 1) = [] := List.drop_eq_nil_of_le (by rw [slen]; omega)
        rw [e2] at this
        simp only [pure_bind]
        exact this
    · rw [occ_full z c k 1 (acc, free) ha]
      have := occ_one z c n (k + 1) free acc (by omega) (by omega)
      simp only [pure_bind]
      rw [this]
      have : 0 < acc.size := by omega
      simp [this]
theorem contains_sign (z : Str) (c : Nat) : Txt.contains z (mkS [c]) = decide (c ∈ sl z) := by
  unfold Txt.contains
  have h := occ_one z c (z.length + 1 - 0) 0 0 #[] (by omega) (by omega)
  rw [StrLaws.occ_eq]
  have h' : 0 < (forIn (List.range' 0 (z.length + 1 - 0)) (#[], 0) (StrLaws.occBody z (mkS [c]) z.length 1)).run.fst.size ↔ c ∈ sl z := by
    refine h.trans ?_
    simp
  rw [Bool.eq_iff_iff, decide_eq_true_eq, ← h']
  generalize (forIn (List.range' 0 (z.length + 1 - 0)) (#[], 0) (StrLaws.occBody z (mkS [c]) z.length 1)).run.fst = A
  obtain ⟨A⟩ := A
  cases A <;> simp
@[simp] theorem contains_mkS (l : List Nat) (c : Nat) : Txt.contains (mkS l) (mkS [c]) = decide (c ∈ l) := by rw [contains_sign, sl_mkS]
end VL
set_option Elab.async false
set_option linter.all false
set_option maxRecDepth 100000
set_option maxHeartbeats 4000000
/-! VL57: x or y, where x is a text -/
namespace VL
open PySem PySem.Spec PyProof.Rows L2 HT
variable {X : Cx} {b : Bg} {W : WX} {e1 e2 : Expr} {es : List Expr} {pos : Pos} {t1 t2 : VT}
@[simp] def vOrS (ta tb : VT) : VT := fun ρ Q E => ta ρ (fun x => ∃ z : Str, x = .py (.str z) ∧ z.length ≤ 16777214 ∧ if z.length = 0 then tb ρ Q E else Q (.py (.str z))) E
end VL
set_option Elab.async false
set_option linter.all false
set_option maxRecDepth 100000
set_option maxHeartbeats 4000000
/-! VL58: a background with tables of code objects (for defs that make lambdas) -/
namespace VL
open PySem PySem.Spec PyProof.Rows L2
section
variable {b : Bg} {T : List (Addr × Str)} {Z : Addr → Prop} {H H' : Hp}
end
end VL
set_option Elab.async false
set_option linter.all false
set_option maxRecDepth 100000
set_option maxHeartbeats 4000000
/-! VL59: a lambda without parameters is made; it is called where it was handed to -/
namespace VL
open PySem PySem.Spec PyProof.Rows L2
open LamX (CodeO Tabs TabS TabB LamS lamEnv lamCx)
section
variable {X : Cx} {pins : List (Addr × Obj)} {σ : L2.St} {H : Hp} {s : Shared}
end
section
variable {X : Cx} {pins : List (Addr × Obj)} {σ : L2.St} {H : Hp} {s : Shared}
end
end VL
set_option Elab.async false
set_option linter.all false
set_option maxRecDepth 100000
set_option maxHeartbeats 4000000
/-! VL60: told(lambda: ..): the def tries what it got and tells the result or the error -/
namespace VL
open PySem PySem.Spec PyProof.Rows L2
open LamX (CodeO Tabs TabS TabB LamS lamEnv lamCx)
/-- what is told of an error -/
def toldE (names : List Str) (th : Addr → Option Addr → Er → VS) (tr : VS) (er : Er) (Q : D → Prop) : Prop := er.n ∈ names ∧ errSub er.n "LineError" = true ∧
  ∀ f a d, th a d er [.shr (.raw f), .own (.py (.list [])), .shr (.err a d er.n er.fs)] (afterS 2 { nx := fun ρ => tr ρ (fin Q noE), rt := Q, bk := fun _ => False, ct := fun _ => False, ex := fun _ _ => False })
@[simp] def vTold (names : List Str) (th : Addr → Option Addr → Er → VS) (tr : VS) (te : VT) : VT := fun ρ Q E => te ρ (fun d => ∃ p, d = .py p ∧ Q (.py (.tuple [.str "result", p]))) (fun er => toldE names th tr er Q)
section
variable {X : Cx} {b : Bg} {T : List (Addr × Str)}
end
end VL
set_option Elab.async false
set_option linter.all false
set_option maxRecDepth 100000
set_option maxHeartbeats 4000000
/-! VL61: the law's end with tables of code objects -/
namespace VL
open PySem PySem.Spec PyProof.Rows L2
end VL
set_option Elab.async false
set_option linter.all false
set_option maxRecDepth 100000
set_option maxHeartbeats 4000000
/-! VL62: defs that make lambdas; the def that is given them, as a promise -/
namespace VL
open PySem PySem.Spec PyProof.Rows L2
open LamX (LamS lamEnv lamCx)
section
variable {P : Program} {w : World} {K : PySem.W.Frag} {mg : Str → Option Value} {base : Heap} {b : Bg} {T : List (Addr × Str)}
end
/-! ### the code object of a def -/
section
variable {P : Program} {w : World} {K : PySem.W.Frag} {mg : Str → Option Value} {base : Heap} {b : Bg} {k : Nat} {x qual : Str} {st : Stmt} {f c : Addr} {fd : FuncData} {N ps : List Str} {S : SV} {sp : Sp}
end
end VL
set_option Elab.async false
set_option linter.all false
set_option maxRecDepth 100000
set_option maxHeartbeats 4000000
/-! VL63: the law's head where the law makes lambdas; the jug as a background with tables -/
namespace VL
open PySem PySem.Spec PyProof.Rows L2
section
variable {P : Program} {w : World} {K : PySem.W.Frag} {mg : Str → Option Value} {base : Heap} {k k0 : Nat} {st : Stmt} {f fo c : Addr} {fd fdo : FuncData} {N : List Str}
end
/-! ### what is never reached -/
@[simp] def vNo : VT := fun _ _ _ => False
@[simp] def sNo : VS := fun _ _ => False
end VL
set_option Elab.async false
set_option linter.all false
set_option maxRecDepth 100000
set_option maxHeartbeats 4000000
/-! VL64: sorted(set(t)), t a tuple of ints -/
namespace VL
open PySem PySem.Spec PyProof.Rows L2
section
variable {X : Cx}
end
@[simp] def vSortSet (t : VT) : VT := fun ρ Q E => t ρ (fun d => ∃ xs ns, d = .py (.tuple xs) ∧ allI xs = some ns ∧ ns.length < 63 ∧ ∀ ks : List Int, ks.Pairwise (· < ·) → (∀ j, j ∈ ks ↔ j ∈ ns) → Q (.py (.list (ks.map PyData.int)))) E
end VL
set_option Elab.async false
set_option linter.all false
set_option maxRecDepth 100000
set_option maxHeartbeats 4000000
/-! VL65: t * k, k at least 1, of a tuple that is not empty -/
namespace VL
open PySem PySem.Spec PyProof.Rows L2
open AutoSeq1 (wpAny_loadPart')
section
variable {X : Cx}
end
section
variable {X : Cx} {b : Bg} {W : WX} {e1 e2 : Expr} {t1 t2 : VT} {pos : Pos}
@[simp] def gMulP : D → D → (D → Prop) → Prop
  | .py (.tuple xs), .py (.int k), Q => (xs ≠ [] ∧ 1 ≤ k ∧ k ≤ 1000 ∧ xs.length ≤ 1000) ∧ Q (.py (.tuple (List.replicate k.toNat xs).flatten))
  | _, _, _ => False
end
end VL
set_option Elab.async false
set_option linter.all false
set_option maxRecDepth 100000
set_option maxHeartbeats 4000000
/-! VL66: a caught error handed to a def that asks it -/
namespace VL
open PySem PySem.Spec PyProof.Rows L2
open L2H (PinOk RoomH cxH inv_startH)
abbrev SE := Er → (D → Prop) → Prop
def svE (a : Addr) (d : Option Addr) (er : Er) (S : SE) : SV := fun ds Q _ => ds = [.err a d er.n er.fs] ∧ S er Q
/-- what such a def promises: within a suite, of the error that is handled -/
structure FnE (P : Program) (w : World) (K : PySem.W.Frag) (mg : Str → Option Value) (base : Heap) (b : Bg) (k : Nat) (f : Addr) (fd : FuncData) (ps : List Str) (S : SE) : Prop where
  len : ps.length = 1
  run : ∀ (A : Around) (outer : List Env) (s : Shared) (H : Hp) (args : Args) (Q : VK) (p : Addr × Obj) (d : Option Addr) (er : Er), RoomH k A → A.handled = some (.ref p.1) → (∃ vs : Array Value, p.2.data = .fields vs) → Zc (.ref (b.cls er.n)) d p.2 → PinOk outer H s p →
    Env0 P w K mg base A outer s H → BindsTo s fd args (ps.zip [.ref p.1]) → spV b (svE p.1 d er S) [.ref p.1] H Q (fun _ _ _ => False) → codeAny (model P w) A (.call (.ref f) args) (CR (L2.CX P w) outer P w H s Q (fun _ _ _ => False)) s
section
variable {P : Program} {w : World} {K : PySem.W.Frag} {mg : Str → Option Value} {base : Heap} {b : Bg} {k : Nat} {x qual : Str} {st : Stmt} {f : Addr} {fd : FuncData} {N ps : List Str} {S : SE}
end
/-- a def that asks an error: all that its call wants -/
structure CalE (P : Program) (w : World) (K : PySem.W.Frag) (mg : Str → Option Value) (base : Heap) (b : Bg) (k : Nat) (x : Str) (ps : List Str) (S : SE) where
  f : Addr
  fd : FuncData
  F : FnE P w K mg base b k f fd ps S
  g : mg x = some (.ref f)
  kp : PySem.W.keepIn K (.ref f) = true
  bd : Binds K fd ps []
@[simp] def vCallE (a : Addr) (d : Option Addr) (er : Er) (i : Nat) (S : SE) : VT := fun ρ Q _ => ρ[i]? = some (.shr (.err a d er.n er.fs)) ∧ S er Q
section
variable {X : Cx} {b : Bg} {W : WX} {a : Addr} {oe : Obj} {er : Er} {d : Option Addr} {pn : List (Addr × Obj)} {i k : Nat} {x : Str} {ps : List Str} {S : SE} {e : Expr} {p pos : Pos}
end
end VL
set_option Elab.async false
set_option linter.all false
set_option maxRecDepth 100000
set_option maxHeartbeats 4000000
/-! VL67: the crank: a list of two numbers and a list -/
namespace VL
open PySem PySem.Spec PyProof.Rows L2
end VL
set_option Elab.async false
set_option linter.all false
set_option maxRecDepth 100000
set_option maxHeartbeats 4000000
/-! VL68: parameters ahead of a star; keyword-only parameters. -/
namespace VL
open PySem PySem.Spec PyProof.Rows L2
/-! ### def f(a, .., *v) -/
@[simp] def svStarN (n : Nat) (S : SV) : SV := fun ds Q E => n ≤ ds.length ∧ ∃ ps, pys (ds.drop n) = some ps ∧ ps.length ≤ sizeLine ∧ S (ds.take n ++ [.py (.tuple ps)]) Q E
section
variable {CX : CXT} {P : Program} {w : World} {K : PySem.W.Frag} {mg : Str → Option Value} {base : Heap} {k : Nat} {f : Addr} {name qual : Str} {params : Arguments} {body : List Stmt} {scope : Scope} {dV kV doc pm cdv ct oc : Value} {an od : Option Addr}
  {osl : Array (Option Value)} {N ps : List Str} {sp : Sp}
end
section
variable {P : Program} {w : World} {K : PySem.W.Frag} {mg : Str → Option Value} {base : Heap} {b : Bg} {k : Nat} {x qual pv : Str} {st : Stmt} {f : Addr} {fd : FuncData} {N ps : List Str} {S : SV}
end
/-! ### def f(a, .., *, k=c) -/
structure CalW (P : Program) (w : World) (K : PySem.W.Frag) (mg : Str → Option Value) (base : Heap) (b : Bg) (k : Nat) (x : Str) (ps : List Str) (kn : Str) (dv : PyData) (S : SV) where
  f : Addr
  fd : FuncData
  F : FnOk P w K mg base (L2.CX P w) k f fd (ps ++ [kn]) (spV b S)
  g : mg x = some (.ref f)
  kp : PySem.W.keepIn K (.ref f) = true
  b0 : ∃ v ds, Vals [v] ds ∧ Binds K fd (ps ++ [kn]) ds ∧ ∀ Z H, Rq Z H v dv
  b1 : KBn K fd (ps ++ [kn]) ps.length [kn] (fun us ws => us ++ ws) (fun vs zs => vs ++ zs)
@[simp] def svW (dv : PyData) (S : SV) : SV := fun ds Q E => S (ds ++ [.py dv]) Q E
@[simp] def vCallW (S : SV) (u : VA) (t : VT) : VT := fun ρ Q E => u ρ (fun ds => t ρ (fun d => S (ds ++ [d]) Q E) E) E
section
variable {X : Cx} {b : Bg} {W : WX} {k j : Nat} {x kn : Str} {ps : List Str} {dv : PyData} {S : SV} {e e2 : Expr} {es : List Expr} {u : VA} {t : VT} {p pos kpos : Pos}
end
end VL
set_option Elab.async false
set_option linter.all false
set_option maxRecDepth 100000
set_option maxHeartbeats 4000000
/-! VL69: text.index(text) -/
namespace VL
open PySem PySem.Spec PyProof.Rows L2
@[simp] def gTIndex : D → List D → (D → Prop) → Prop
  | .py (.str a), [.py (.str b)], Q => ∃ i rest, Builtin.Str.occurrences a b 0 a.length 1 = i :: rest ∧ Q (.py (.int (i : Nat)))
  | _, _, _ => False
/-! ### x is True where x may be None -/
@[simp] def gIsBn : D → D → (D → Prop) → Prop
  | .py (.bool a), .py (.bool b), Q => Q (.py (.bool (decide (a = b))))
  | .py .none, .py (.bool _), Q => Q (.py (.bool false))
  | _, _, _ => False
section
variable {X : Cx} {b : Bg} {W : WX} {e1 e2 : Expr} {t1 t2 : VT} {pos : Pos}
end
end VL
set_option Elab.async false
set_option linter.all false
set_option maxRecDepth 100000
set_option maxHeartbeats 4000000
/-! VL70: max, min of a tuple of ints -/
namespace VL
open PySem PySem.Spec PyProof.Rows L2
section
variable {X : Cx}
end
@[simp] def gMaxT : List D → (D → Prop) → Prop
  | [.py (.tuple xs)], Q => ∃ ns, allI xs = some ns ∧ ns ≠ [] ∧ Q (.py (.int (maxL ns)))
  | _, _ => False
@[simp] def gMinT : List D → (D → Prop) → Prop
  | [.py (.tuple xs)], Q => ∃ ns, allI xs = some ns ∧ ns ≠ [] ∧ Q (.py (.int (minL ns)))
  | _, _ => False
section
variable {X : Cx} {b : Bg} {W : WX} {e : Expr} {es : List Expr} {u : VA} {p pos : Pos} {t : VT}
end
end VL
set_option Elab.async false
set_option linter.all false
set_option maxRecDepth 100000
set_option maxHeartbeats 4000000
/-! VL71: a list comprehension whose items may raise -/
namespace VL
open PySem PySem.Spec PyProof.Rows L2
end VL
namespace VL
open PySem PySem.Spec PyProof.Rows L2
section
variable {M : Model} {A : Around} {E : Value → Shared → Prop} {s : Shared} {env : Env}
end
end VL
namespace VL
open PySem PySem.Spec PyProof.Rows L2
section
variable {X : Cx}
end
end VL
namespace VL
open PySem PySem.Spec PyProof.Rows L2
section
variable {X : Cx}
end
/-! ### over values -/
@[simp] def lcGoE (g : VTg) (tt : VB) (te : VT) (Q : D → Prop) (E : Er → Prop) : List D → List PyData → VEnv → Prop
  | [], acc, _ => Q (.py (.list acc))
  | d :: ds, acc, ρ => g d ρ fun ρ1 => tt ρ1 (fun k => if k = true then te ρ1 (fun y => ∃ p, y = .py p ∧ acc.length < sizeLine ∧ lcGoE g tt te Q E ds (acc ++ [p]) ρ) E else lcGoE g tt te Q E ds acc ρ) noE
@[simp] def vLcE (vs : List Nat) (ti : VIt) (g : VTg) (tt : VB) (te : VT) : VT := fun ρ Q E => noOwn ρ vs ∧ ti ρ (fun ds => lcGoE g tt te Q E ds [] (wipeE ρ vs)) E
section
variable {b : Bg} {W : WX} {ti : VIt} {js : List Nat} {g : VTg} {tt : VB} {te : VT} {vs : List Nat}
end
section
variable {X : Cx} {b : Bg} {W : WX} {tg iter elt c : Expr} {ifs : List Expr} {scope : Scope} {own : List (Str × Nat)} {pos spos py p : Pos} {ti : VIt} {js : List Nat} {g : VTg} {tt : VB} {te : VT} {i : Nat} {y : Str}
end
end VL
set_option Elab.async false
set_option linter.all false
set_option maxRecDepth 100000
set_option maxHeartbeats 4000000
/-! VL72: own objects: fields, __init__, methods -/
namespace VL
open PySem PySem.Spec PyProof.Rows L2
/-! ### fields -/
@[simp] def gFld (n f : Str) : D → (D → Prop) → Prop
  | .obj _ m fs, Q => m = n ∧ ∃ p, fs.lookup f = some p ∧ Q (.py p)
  | _, _ => False
/-- the field f is p from now on -/
@[simp] def putFD (f : Str) (p : PyData) : List (Str × PyData) → List (Str × PyData)
  | [] => [(f, p)]
  | (g, x) :: r => if g = f then (g, p) :: r else (g, x) :: putFD f p r
section
variable {X : Cx} {b : Bg} {W : WX} {e o : Expr} {n f : Str} {t : VT} {pos pos' : Pos} {i : Nat}
@[simp] def sFldS (i : Nat) (n f : Str) (t : VT) : VS := fun ρ De => t ρ (fun d => ∃ p a fs, d = .py p ∧ ρ[i]? = some (.own (.obj a n fs)) ∧ fs.length < 1000 ∧ De.nx (ρ.set i (.own (.obj a n (putFD f p fs))))) (De.ex ρ)
end
/-! ### what an __init__ promises -/
abbrev SI := List D → (List (Str × PyData) → Prop) → (Er → Prop) → Prop
def spI (b : Bg) (n : Str) (S : SI) : Sp := fun vs H Q E => ∃ (x dx : Addr) (vs' : List V) (Z : Addr → Prop) (ds : List D) (Qd : List (Str × PyData) → Prop) (Ed : Er → Prop), vs = .ref x :: vs' ∧ H x = some (.ins (b.cls n) dx []) ∧ Gd b Z H ∧ ¬ Z x ∧ Rps b (fun c => Z c ∨ c = x) H vs' ds ∧ S ds Qd Ed ∧
  (∀ H' fs, (∀ a o, H a = some o → ¬ b.B a → a ≠ x → H' a = some o) → b.G H' → Ow b (fun c => Z c ∨ c = x) H' x (.obj x n fs) → Qd fs → Q .non H') ∧
  ∀ c d H' er, (∀ a o, H a = some o → ¬ b.B a → a ≠ x → H' a = some o) → b.G H' → ErRp b Z H' c d er → Ed er → E c d H'
@[simp] def envI (x : Addr) (n : Str) (N : Nat) (ds : List D) : VEnv := .own (.obj x n []) :: envOf (N - 1) ds
@[simp] def finI (x : Addr) (n : Str) (Q : List (Str × PyData) → Prop) (E : Er → Prop) : VEnds := { nx := fun ρ => ∃ fs, ρ[0]? = some (.own (.obj x n fs)) ∧ Q fs, rt := fun _ => False, bk := fun _ => False, ct := fun _ => False, ex := fun _ => E }
section
variable {P : Program} {w : World} {K : PySem.W.Frag} {mg : Str → Option Value} {base : Heap} {b : Bg} {k : Nat} {x qual n : Str} {st : Stmt} {f : Addr} {fd : FuncData} {N ps : List Str} {S : SI}
end
/-! ### n(..) -/
section
variable {X : Cx} {CX : CXT} {k : Nat} {f C : Addr} {fd : FuncData} {ps : List Str} {sp : Sp} {dvs : List V} {ds : List Value} {E : L2.St → XK} {x m : Str} {p pos apos : Pos} {e o : Expr} {es : List Expr} {ta : TE} {t : TA}
end
structure CalI (P : Program) (w : World) (K : PySem.W.Frag) (mg : Str → Option Value) (base : Heap) (b : Bg) (k : Nat) (n : Str) (ps : List Str) (S : SI) where
  f : Addr
  fd : FuncData
  F : FnOk P w K mg base (L2.CX P w) k f fd ps (spI b n S)
  M : Mk K (b.cls n) f
  g : mg n = some (.ref (b.cls n))
  bd : Binds K fd ps []
structure CalM (P : Program) (w : World) (K : PySem.W.Frag) (mg : Str → Option Value) (base : Heap) (b : Bg) (k : Nat) (n m : Str) (ps : List Str) (S : SV) where
  f : Addr
  fd : FuncData
  F : FnOk P w K mg base (L2.CX P w) k f fd ps (spV b S)
  c : Cls K (b.cls n)
  m : Meth K (b.cls n) m f
  bd : Binds K fd ps []
@[simp] def vMake (n : Str) (S : SI) (u : VA) : VT := fun ρ Q E => u ρ (fun ds => S ds (fun fs => ∀ a, Q (.obj a n fs)) E) E
@[simp] def vMeth (n m : Str) (S : SV) (t : VT) (u : VA) : VT := fun ρ Q E => t ρ (fun d => ∃ a fs, d = .obj a n fs ∧ fs.lookup m = none ∧ u ρ (fun ds => S (d :: ds) Q E) E) E
section
variable {X : Cx} {b : Bg} {W : WX} {k j : Nat} {n m : Str} {ps : List Str} {S : SV} {SJ : SI} {e o : Expr} {es : List Expr} {u : VA} {t : VT} {p pos apos : Pos}
end
/-! ### the class's facts, for the join -/
end VL
set_option Elab.async false
set_option linter.all false
set_option maxRecDepth 100000
set_option maxHeartbeats 4000000
/-! VL73: a, b, .. = a list -/
namespace VL
open PySem PySem.Spec PyProof.Rows L2
section
variable {X : Cx} {b : Bg} {pos : Pos}
@[simp] def tgUnl (n : Nat) (u : VTgs) : VTg
  | .py (.list ps), ρ, Q => ps.length = n ∧ u (ps.map D.py) ρ Q
  | _, _, _ => False
end
end VL
set_option Elab.async false
set_option linter.all false
set_option maxRecDepth 100000
set_option maxHeartbeats 4000000
/-! VL74: a dict beside a text -/
namespace PySem
open PySem.Spec PyProof.Rows PySem.SeqAt
open Sem (wp)
end PySem
namespace VL
open PySem PySem.Spec PyProof.Rows L2
section
variable {X : Cx} {b : Bg} {W : WX} {e1 e2 : Expr} {t1 t2 : VT} {pos : Pos}
/-- .. a text on the right; a dict is no text -/
@[simp] def gEqT : D → D → (D → Prop) → Prop
  | .py (.dict _), .py (.str _), Q => Q (.py (.bool false))
  | x, y, Q => gEq x y Q
@[simp] def gNeT : D → D → (D → Prop) → Prop
  | .py (.dict _), .py (.str _), Q => Q (.py (.bool true))
  | x, y, Q => gNe x y Q
end
end VL
set_option Elab.async false
set_option linter.all false
set_option maxRecDepth 100000
set_option maxHeartbeats 4000000
/-! VL75: the cells: a list of a list (that stands still) and two numbers -/
namespace VL
open PySem PySem.Spec PyProof.Rows L2
section
variable {X : Cx} {e : Expr} {t : TE}
end
end VL
set_option Elab.async false
set_option linter.all false
set_option maxRecDepth 100000
set_option maxHeartbeats 4000000
/-! VL76: sorted of a list of texts, any number of them -/
namespace VL
open PySem PySem.Spec PyProof.Rows L2
/-- the order of texts -/
def ltT (a b : Str) : Bool := ltCps a.cps.toList b.cps.toList
def sortSt (L : List Str) : List Str := L.mergeSort fun a b => !ltT b a
section
variable {X : Cx}
end
@[simp] def gSortedS : List D → (D → Prop) → Prop
  | [.py (.list xs)], Q => ∃ L : List Str, xs = L.map PyData.str ∧ Q (.py (.list ((sortSt L).map PyData.str)))
  | _, _ => False
section
variable {X : Cx} {b : Bg} {W : WX} {e : Expr} {es : List Expr} {u : VA} {p pos : Pos}
end
end VL
set_option Elab.async false
set_option linter.all false
set_option maxRecDepth 100000
set_option maxHeartbeats 4000000
/-! VL77: len(set(l)), l a list of ints -/
namespace VL
open PySem PySem.Spec PyProof.Rows L2
section
variable {X : Cx}
end
@[simp] def vLenSetL (t : VT) : VT := fun ρ Q E => t ρ (fun d => ∃ xs ns, d = .py (.list xs) ∧ allI xs = some ns ∧ ns.length < 4095 ∧ ∀ ks : List Int, ks.Nodup → (∀ j, j ∈ ks ↔ j ∈ ns) → Q (.py (.int (ks.length : Nat)))) E
end VL
set_option Elab.async false
set_option linter.all false
set_option maxRecDepth 100000
set_option maxHeartbeats 4000000
/-! VL78: list(zip(a, b)), tuple(zip(a, b)) of two lists or of two tuples -/
namespace VL
open PySem PySem.Spec PyProof.Rows L2
section
variable {prog : Program} {w : World} {A : Around} {E : Value → Shared → Prop} {s : Shared}
end
/-! ### the walk to its end -/
section
variable {prog : Program} {w : World} {A : Around} {E : Value → Shared → Prop} {s : Shared}
end
section
variable {prog : Program} {w : World} {A : Around} {s : Shared} {R : Result → Shared → Prop}
end
section
variable {prog : Program} {w : World} {A : Around} {E : Value → Shared → Prop} {s : Shared} {R : Result → Shared → Prop}
end
end VL
set_option Elab.async false
set_option linter.all false
set_option maxRecDepth 100000
set_option maxHeartbeats 4000000
/-! VL79: list(zip(a, b)) over values -/
namespace VL
open PySem PySem.Spec PyProof.Rows L2
section
variable {X : Cx}
end
/-! ### over values -/
@[simp] def gLstZ : List D → (D → Prop) → Prop
  | [.py (.list xs), .py (.list ys)], Q => xs.length = ys.length ∧ Q (.py (.list (zip2P xs ys)))
  | [.py (.tuple xs), .py (.tuple ys)], Q => xs.length = ys.length ∧ Q (.py (.list (zip2P xs ys)))
  | _, _ => False
end VL
set_option Elab.async false
set_option linter.all false
set_option maxRecDepth 100000
set_option maxHeartbeats 4000000
/-! VL80: a comprehension over a dict that stands still meanwhile -/
namespace VL
open PySem PySem.Spec PyProof.Rows L2
end VL
set_option Elab.async false
set_option linter.all false
set_option maxRecDepth 100000
set_option maxHeartbeats 4000000
/-! VL81: [.. for k, v in d.items()], [.. for k in d], d a shared dict of plain values -/
namespace VL
open PySem PySem.Spec PyProof.Rows L2
@[simp] def leafB : PyData → Bool
  | .list _ => false
  | .tuple _ => false
  | .dict _ => false
  | _ => true
/-- a dict that is locked -/
def dF (ds : List (PyData × PyData)) : Abs where
  R := fun Z H a => ∃ o kvs, H a = some (.frz o (.dK kvs)) ∧ Rqk Z H kvs ds ∧ ∀ p ∈ ds, leafB p.2 = true
  at_ := fun ⟨o, kvs, h, _⟩ => ⟨_, h⟩
  noext := fun ⟨o, kvs, h, _⟩ u hu e => by rw [h] at e; cases e; exact hu
  mono := fun hz hs ha ⟨o, kvs, h, r, l⟩ => ⟨o, kvs, ha _ h, r.mono hz hs, l⟩
def itemsP (ds : List (PyData × PyData)) : List PyData := ds.map fun p => .tuple [p.1, p.2]
@[simp] def iIt (j : Nat) : VIt := fun ρ Q _ => ∃ ds, ρ[j]? = some (.shr (.abs (dF ds))) ∧ Q ((itemsP ds).map D.py)
@[simp] def iKy (j : Nat) : VIt := fun ρ Q _ => ∃ ds, ρ[j]? = some (.shr (.abs (dF ds))) ∧ Q ((ds.map fun p => p.1).map D.py)
section
variable {b : Bg} {Y Z : Addr → Prop} {H : Hp} {d : Addr} {o : Obj} {kvs : List (Key × V)} {ds : List (PyData × PyData)}
end
section
variable {X : Cx} {b : Bg} {W : WX} {e f : Expr} {j : Nat} {ty : VT} {ap cp tp pos : Pos} {tgs : List Expr} {n0 : Nat} {tg : Expr}
/-- d[k] of the locked dict -/
@[simp] def vDIxF (j : Nat) (ty : VT) : VT := fun ρ Q E => ∃ ds, ρ[j]? = some (.shr (.abs (dF ds))) ∧ ty ρ (fun y => ∃ k kk x, y = .py k ∧ keyOf k = some kk ∧ getD ds kk = some x ∧ Q (.py x)) E
end
end VL
set_option Elab.async false
set_option linter.all false
set_option maxRecDepth 100000
set_option maxHeartbeats 4000000
/-! VL82: a dict is locked while an expression that makes something new is evaluated -/
namespace VL
open PySem PySem.Spec PyProof.Rows L2
@[simp] def flatS : Slot → Slot
  | .shr (.py p) => if leafB p = true then .shr (.py p) else .un
  | .shr (.raw v) => .shr (.raw v)
  | _ => .un
@[simp] def flatE (ds : List (PyData × PyData)) : Nat → VEnv → VEnv
  | _, [] => []
  | 0, _ :: r => .shr (.abs (dF ds)) :: r.map flatS
  | j + 1, s :: r => flatS s :: flatE ds j r
section
variable {Z : Addr → Prop} {H : Hp} {d : Addr} {od : Obj} {kvs : List (Key × V)} {u : HO}
end
@[simp] def vLock (j : Nat) (t : VT) : VT := fun ρ Q _ => ∃ ds, ρ[j]? = some (.shr (.py (.dict ds))) ∧ (∀ p ∈ ds, leafB p.2 = true) ∧ t (flatE ds j ρ) (fun d => (∃ xs, d = .py (.list xs)) ∧ Q d) noE
end VL
set_option Elab.async false
set_option linter.all false
set_option maxRecDepth 100000
set_option maxHeartbeats 4000000
/-! VL83: two fields set from a pair; a dict of one number; a range that counts down -/
namespace VL
open PySem PySem.Spec PyProof.Rows L2
section
variable {X : Cx} {b : Bg} {W : WX} {e o o2 : Expr} {n f1 f2 : Str} {t : VT} {pos : Pos} {i : Nat}
@[simp] def sFld2 (i : Nat) (n f1 f2 : Str) (t : VT) : VS := fun ρ De => t ρ (fun d => ∃ p1 p2 a fs, d = .py (.tuple [p1, p2]) ∧ ρ[i]? = some (.own (.obj a n fs)) ∧ fs.length + 1 < 1000 ∧ De.nx (ρ.set i (.own (.obj a n (putFD f2 p2 (putFD f1 p1 fs)))))) (De.ex ρ)
end
/-! ### a dict of one number -/
@[simp] def vDI (t : VT) (j : Int) : VT := fun ρ Q E => t ρ (fun d => ∃ i, d = .py (.int i) ∧ Q (.py (.dict [(.int i, .int j)]))) E
/-! ### range(i, j, -1) -/
def rangeD (i : Int) (n : Nat) : List PyData := (List.range n).map fun (k : Nat) => PyData.int (i - k)
@[simp] def asR3 : List D → (List D → Prop) → Prop
  | [.py (.int i), .py (.int j), .py (.int k)], Q => k = -1 ∧ (small62 i ∧ small62 j) ∧ Q ((rangeD i (i - j).toNat).map D.py)
  | _, _ => False
@[simp] def iR3 (t : VA) : VIt := fun ρ Q E => t ρ (fun d => asR3 d Q) E
section
variable {X : Cx} {b : Bg} {W : WX} {tg e1 e2 e3 : Expr} {ta : VA} {p pos : Pos} {Y Z : Addr → Prop} {H : Hp}
end
end VL
set_option Elab.async false
set_option linter.all false
set_option maxRecDepth 100000
set_option maxHeartbeats 4000000
/-! VL84: list(d.values()) -/
namespace VL
open PySem PySem.Spec PyProof.Rows L2
@[simp] def gVals : D → (D → Prop) → Prop
  | .py (.dict ds), Q => Q (.py (.list (ds.map (·.2))))
  | _, _ => False
end VL
set_option Elab.async false
set_option linter.all false
set_option maxRecDepth 100000
set_option maxHeartbeats 4000000
/-! VL85: sorted(d.items()), numbers for keys and values -/
namespace VL
open PySem PySem.Spec PyProof.Rows L2
section
variable {prog : Program} {w : World} {A : Around} {s : Shared} {E : Value → Shared → Prop}
def prV (p : Int × Int) : List Int := [p.1, p.2]
end
section
variable {X : Cx}
end
/-! ### over values -/
@[simp] def gSrtIt : D → (D → Prop) → Prop
  | .py (.dict ds), Q => ∃ L : List (Int × Int), ds = L.map (fun p => (PyData.int p.1, PyData.int p.2)) ∧ L ≠ [] ∧ Q (.py (.list ((sortT (L.map prV)).map fun l => PyData.tuple (l.map PyData.int))))
  | _, _ => False
end VL
set_option Elab.async false
set_option linter.all false
set_option maxRecDepth 100000
set_option maxHeartbeats 4000000
/-! VL86: list(d.items()), numbers for keys and values -/
namespace VL
open PySem PySem.Spec PyProof.Rows L2
section
variable {X : Cx}
end
@[simp] def gLstIt : D → (D → Prop) → Prop
  | .py (.dict ds), Q => ∃ L : List (Int × Int), ds = L.map (fun p => (PyData.int p.1, PyData.int p.2)) ∧ Q (.py (.list ((L.map prV).map fun l => PyData.tuple (l.map PyData.int))))
  | _, _ => False
end VL
set_option Elab.async false
set_option linter.all false
set_option maxRecDepth 100000
set_option maxHeartbeats 4000000
/-! VL87: sorted(set(xs)), xs a list of allI0 -/
namespace VL
open PySem PySem.Spec PyProof.Rows L2
section
variable {P : Program} {w : World} {A : Around} {E : Value → Shared → Prop} {s : Shared}
end
section
variable {X : Cx}
end
@[simp] def vSortSetL (t : VT) : VT := fun ρ Q E => t ρ (fun d => ∃ xs ns, d = .py (.list xs) ∧ allI xs = some ns ∧ ns.length < 63 ∧ ∀ ks : List Int, ks.Pairwise (· < ·) → (∀ j, j ∈ ks ↔ j ∈ ns) → Q (.py (.list (ks.map PyData.int)))) E
end VL
set_option Elab.async false
set_option linter.all false
set_option maxRecDepth 100000
set_option maxHeartbeats 4000000
/-! VL88: x in d, x not in d, d a dict -/
namespace VL
open PySem PySem.Spec PyProof.Rows L2
section
variable {X : Cx} {b : Bg} {W : WX} {e1 e2 : Expr} {t1 t2 : VT} {pos : Pos}
@[simp] def gInDk (neg : Bool) : D → D → (D → Prop) → Prop
  | .py k, .py (.dict ds), Q => ∃ kk, VL.keyOf k = some kk ∧ Q (.py (.bool (neg ^^ (getD ds kk).isSome)))
  | _, _, _ => False
end
end VL
set_option Elab.async false
set_option linter.all false
set_option maxRecDepth 100000
set_option maxHeartbeats 4000000
/-! VL89: a def under another global name -/
namespace VL
open PySem PySem.Spec PyProof.Rows L2
end VL
set_option Elab.async false
set_option linter.all false
set_option maxRecDepth 100000
set_option maxHeartbeats 4000000
/-! VL90: zip of any number of tuples of one length, at the machine's level -/
namespace VL
open PySem PySem.Spec PyProof.Rows L2
section
variable {M : Model} {A : Around} {E : Value → Shared → Prop}
end
section
variable {prog : Program} {w : World} {A : Around} {E : Value → Shared → Prop} {s : Shared} {z TI TO : Addr} {its ls : List Addr} {cols : List (List Value)} {k : Nat}
end
end VL
set_option Elab.async false
set_option linter.all false
set_option maxRecDepth 100000
set_option maxHeartbeats 4000000
/-! VL91: zip(e, *e2) as what a comprehension walks -/
namespace VL
open PySem PySem.Spec PyProof.Rows L2
theorem neA {a b : Nat} (h : a < b ∨ b < a) : a ≠ b := by omega
section
variable {prog : Program} {w : World} {A : Around} {E : Value → Shared → Prop} {s : Shared} {ls : List Addr} {cols : List (List Value)}
end
end VL
set_option Elab.async false
set_option linter.all false
set_option maxRecDepth 100000
set_option maxHeartbeats 4000000
/-! VL92: for x in zip(e, *e2), the sources being tuples of one length -/
namespace VL
open PySem PySem.Spec PyProof.Rows L2 StX
section
variable {X : Cx} {b : Bg} {W : WX} {e : Expr} {es : List Expr} {x : Str} {p q pos : Pos}
/-! ### over data -/
def zipNP (m : Nat) (cols : List (List PyData)) : List PyData := (List.range m).map fun i => .tuple (cols.map fun c => c.getD i .none)
@[simp] def asZN (ds : List D) (Q : List D → Prop) : Prop := ∃ (cols : List (List PyData)) (m : Nat), ds = cols.map (fun c => D.py (.tuple c)) ∧ 1 ≤ cols.length ∧ cols.length ≤ 6 ∧ (∀ c ∈ cols, c.length = m) ∧ Q ((zipNP m cols).map D.py)
@[simp] def iZN (t : VA) : VIt := fun ρ Q E => t ρ (fun d => asZN d Q) E
end
end VL
set_option Elab.async false
set_option linter.all false
set_option maxRecDepth 100000
set_option maxHeartbeats 4000000
/-! VL93: list(zip(a, b, c)) of up to six tuples of one length -/
namespace VL
open PySem PySem.Spec PyProof.Rows L2
section
variable {prog : Program} {w : World} {A : Around} {s : Shared} {R : Result → Shared → Prop}
end
section
variable {prog : Program} {w : World} {A : Around} {E : Value → Shared → Prop} {s : Shared} {R : Result → Shared → Prop}
end
section
variable {X : Cx}
end
/-! ### over values -/
@[simp] def gLstZN (ds : List D) (Q : D → Prop) : Prop := ∃ (cols : List (List PyData)) (m : Nat), ds = cols.map (fun c => D.py (.tuple c)) ∧ 1 ≤ cols.length ∧ cols.length ≤ 6 ∧ (∀ c ∈ cols, c.length = m) ∧ Q (.py (.list (zipNP m cols)))
end VL
set_option Elab.async false
set_option linter.all false
set_option maxRecDepth 100000
set_option maxHeartbeats 4000000
/-! VL94: min, max of two texts; a <= b <= c <= d of texts -/
namespace VL
open PySem PySem.Spec PySem.Calls PyProof.Rows L2
section
variable {X : Cx}
end
@[simp] def gMaxS : List D → (D → Prop) → Prop
  | [.py (.str i), .py (.str j)], Q => Q (.py (.str (if ltT i j then j else i)))
  | _, _ => False
@[simp] def gMinS : List D → (D → Prop) → Prop
  | [.py (.str i), .py (.str j)], Q => Q (.py (.str (if ltT j i then j else i)))
  | _, _ => False
@[simp] def gLeSt : D → D → (D → Prop) → Prop
  | .py (.str i), .py (.str j), Q => Q (.py (.bool (!ltT j i)))
  | _, _, _ => False
section
variable {b : Bg}
end
/-! ### chains of three comparisons -/
section
variable {X : Cx} {a b c d : Expr} {ta tb tc td : TE} {pos : Pos}
end
@[simp] def vChain3 (g g' g'' : D → D → (D → Prop) → Prop) (ta tb tc td : VT) : VT := fun ρ Q E => ta ρ (fun x => tb ρ (fun y => g x y fun z => ∃ k, z = .py (.bool k) ∧ if k = true then tc ρ (fun w => g' y w fun z => ∃ k, z = .py (.bool k) ∧ if k = true then td ρ (fun v => g'' w v Q) E else Q (.py (.bool false))) E else Q (.py (.bool false))) E) E
section
variable {X : Cx} {b : Bg} {W : WX} {e e1 e2 e3 e4 : Expr} {t1 t2 t3 t4 : VT} {es : List Expr} {u : VA} {p pos : Pos} {r r' r'' : R2} {g g' g'' : D → D → (D → Prop) → Prop}
end
end VL
set_option Elab.async false
set_option linter.all false
set_option maxRecDepth 100000
set_option maxHeartbeats 4000000
/-! VL95: sorted(set(t)), t a tuple of texts, all unlike -/
namespace VL
open PySem PySem.Spec PyProof.Rows L2 PySem.Froz
section
variable {P : Program} {w : World} {A : Around} {E : Value → Shared → Prop} {s : Shared}
end
end VL
set_option Elab.async false
set_option linter.all false
set_option maxRecDepth 100000
set_option maxHeartbeats 4000000
/-! VL96: sorted(set(t)), t a tuple of texts, over values -/
namespace VL
open PySem PySem.Spec PyProof.Rows L2 PySem.Froz
section
variable {X : Cx}
end
@[simp] def vSortSetX (t : VT) : VT := fun ρ Q E => t ρ (fun d => ∃ ns : List Str, d = .py (.tuple (ns.map PyData.str)) ∧ ns.Nodup ∧ ns.length < 4000 ∧ Q (.py (.list ((sortSt ns).map PyData.str)))) E
section
variable {X : Cx} {a b c d : Expr} {ta tb tc td : TE} {pos : Pos}
end
section
variable {X : Cx} {b : Bg} {W : WX} {e1 e2 e3 e4 : Expr} {t1 t2 t3 t4 : VT} {pos : Pos}
end
end VL
set_option Elab.async false
set_option linter.all false
set_option maxRecDepth 100000
set_option maxHeartbeats 4000000
namespace VL
open PySem PySem.Spec PyProof.Rows L2
/-! ### several targets, some of them items of owned lists -/
section
variable {X : Cx} {b : Bg} {W : WX} {e e1 e2 : Expr} {es : List Expr} {st : Stmt} {t t1 t2 : VT} {u : VA} {pos pos' : Pos} {i : Nat} {x : Str}
/-- an item of an owned list -/
@[simp] def tgSto (i : Nat) (ty : VT) : VTg := fun d ρ Q => ∃ xs, ρ[i]? = some (.own (.py (.list xs))) ∧ ∃ p, d = .py p ∧ ty ρ (fun y => ∃ k, y = .py (.int k) ∧ ∃ ys, setAt xs k p = some ys ∧ Q (ρ.set i (.own (.py (.list ys))))) fun _ => False
/-- t1, t2 = e1, e2 by way of a tuple -/
@[simp] def sParM (n : Nat) (u : VA) (g : VTgs) : VS := fun ρ De => u ρ (fun ds => ds.length = n ∧ g ds ρ De.nx) (De.ex ρ)
/-! ### a list, from an item on, with a step -/
def stepL {α : Type} (xs : List α) (lo st : Int) : List α := (sliceRange (sliceBounds (some lo) none (some st) xs.length).1 (sliceBounds (some lo) none (some st) xs.length).2.1 (sliceBounds (some lo) none (some st) xs.length).2.2).filterMap (xs[·]?)
@[simp] def vStp (t : VT) (tl ts : VO) : VT := fun ρ Q E => t ρ (fun x => tl ρ (fun l => ts ρ (fun k => ∃ xs lo st, x = .py (.list xs) ∧ l = some lo ∧ k = some st ∧ st ≠ 0 ∧ Q (.py (.list (stepL xs lo st)))) E) E) E
end
end VL
set_option Elab.async false
set_option linter.all false
set_option maxRecDepth 100000
set_option maxHeartbeats 4000000
/-! VL98: the stairs of demands: two lists in the fields of an object, changed while it is made -/
namespace VL
open PySem PySem.Spec PyProof.Rows L2
/-! the heap while the object is made -/
section
variable {H H' : Hp} {x C dx l1 l2 a1 : Addr} {fs fs' : List (Str × V)} {ls hs : List Int}
end
end VL
set_option Elab.async false
set_option linter.all false
set_option maxRecDepth 100000
set_option maxHeartbeats 4000000
/-! VL99: sorted of a list of any alike data -/
namespace VL
open PySem PySem.Spec PyProof.Rows L2
/-- the data, sorted -/
def sortD (ds : List PyData) : List PyData := ds.mergeSort (PySem.W.dataLe false id)
section
variable {X : Cx}
end
@[simp] def gSortedD : List D → (D → Prop) → Prop
  | [.py (.list xs)], Q => PySem.W.AllAlike xs ∧ PySem.W.Sortable xs ∧ (∀ d ∈ xs, d.depth ≤ 40) ∧ Q (.py (.list (sortD xs)))
  | _, _ => False
section
variable {X : Cx} {b : Bg} {W : WX} {e : Expr} {es : List Expr} {u : VA} {p pos : Pos}
end
end VL
set_option Elab.async false
set_option linter.all false
set_option maxRecDepth 100000
set_option maxHeartbeats 4000000
/-! VL100: tuple(zip(a, b)) -/
namespace VL
open PySem PySem.Spec PyProof.Rows L2
section
variable {prog : Program} {w : World} {A : Around} {E : Value → Shared → Prop} {s : Shared}
end
section
variable {X : Cx}
end
/-! ### over values -/
@[simp] def gTupZ : List D → (D → Prop) → Prop
  | [.py (.list xs), .py (.list ys)], Q => xs.length = ys.length ∧ Q (.py (.tuple (zip2P xs ys)))
  | [.py (.tuple xs), .py (.tuple ys)], Q => xs.length = ys.length ∧ Q (.py (.tuple (zip2P xs ys)))
  | _, _ => False
end VL
set_option Elab.async false
set_option linter.all false
set_option maxRecDepth 100000
set_option maxHeartbeats 4000000
/-! VL101: generators: «if» and «for» in a body that yields -/
namespace VL
open PySem PySem.Spec PyProof.Rows L2 GenW
section
variable {M : Model} {A : Around} {R : GenEnd} {Y : Protocol} {n : Nat} {s0 : Shared} {c : Code} {fs : List Frame} {s : Shared} {env : Env} {K : Flow → Sem PySem.Fin} {J : Value → Sem PySem.Fin} {gd : Bool → Bool} {lv : List Value → List Value}
end
section
variable {prog : Program} {w : World} {A : Around} {R : GenEnd} {Y : Protocol} {n : Nat} {s0 : Shared} {fs : List Frame} {s : Shared} {env : Env}
/-- the end of a turn's body -/
abbrev turns (c' : Code) (f : Flow) : Sem PySem.Fin := match f with
  | .next | .cont => .pure (.again c')
  | .brk => .pure (.done .next)
  | .ret v => .pure (.done (.ret v))
end
section
variable {X : Cx}
/-! ### «if» and «for» that hand out -/
end
end VL
set_option Elab.async false
set_option linter.all false
set_option maxRecDepth 100000
set_option maxHeartbeats 4000000
/-! VL102: readings of a generator's body: the list is what has been handed out -/
namespace VL
open PySem PySem.Spec PyProof.Rows L2 GenW
/-- what is wanted behind a statement: the names' values and what is out -/
structure GEn where
  nx : VEnv → List PyData → Prop
  bk : VEnv → List PyData → Prop
  ct : VEnv → List PyData → Prop
  ex : VEnv → Er → Prop
abbrev VY := VEnv → List PyData → GEn → Prop
section
variable {b : Bg} {W : WX} {H0 : Hp} {M Zo Z Z' : Addr → Prop} {σ σ' : L2.St} {H H' : Hp} {ρ ρ' : VEnv} {De : GEn} {Dn : GEnds} {ys : List V} {out : List PyData}
end
section
variable {X : Cx} {b : Bg} {W : WX} {st : Stmt} {rest xs zs body : List Stmt} {t : VS} {g u : VY} {pos yp : Pos}
/-- a statement that hands out nothing -/
@[simp] def yP (t : VS) : VY := fun ρ out De => t ρ { nx := fun ρ' => De.nx ρ' out, rt := fun _ => False, bk := fun ρ' => De.bk ρ' out, ct := fun ρ' => De.ct ρ' out, ex := De.ex }
@[simp] def yNil : VY := fun ρ out De => De.nx ρ out
@[simp] def yThen (g u : VY) : VY := fun ρ out De => g ρ out { De with nx := fun ρ' out' => u ρ' out' De }
@[simp] def yIf (c : VB) (g u : VY) : VY := fun ρ out De => c ρ (fun k => if k = true then g ρ out De else u ρ out De) (De.ex ρ)
@[simp] def yFor (ti : VIt) (tg : VTg) (tb : VY) : VY := fun ρ out De => ti ρ (fun ds => yForGo tg tb ds ρ out De) (De.ex ρ)
where @[simp] yForGo (tg : VTg) (tb : VY) : List D → VEnv → List PyData → GEn → Prop
  | [], ρ, out, De => De.nx ρ out
  | d :: ds, ρ, out, De => tg d ρ fun ρ1 => tb ρ1 out { De with nx := fun ρ2 out2 => yForGo tg tb ds ρ2 out2 De, ct := fun ρ2 out2 => yForGo tg tb ds ρ2 out2 De, bk := De.nx }
@[simp] def yYl (t : VT) : VY := fun ρ out De => out.length < sizeLine ∧ t ρ (fun d => ∃ p, d = .py p ∧ De.nx ρ (out ++ [p])) (De.ex ρ)
end
end VL
set_option Elab.async false
set_option linter.all false
set_option maxRecDepth 100000
set_option maxHeartbeats 4000000
/-! VL103: a generator def's promise, by values; list(g(..)) -/
namespace VL
open PySem PySem.Spec PyProof.Rows L2 GenW
/-- the arguments, what is wanted of all that is handed out, the errors -/
abbrev SY := List D → (List PyData → Prop) → (Er → Prop) → Prop
def spY (b : Bg) (S : SY) : SpG := fun vs H Q E => ∃ Z ds Qd Ed, Gd b Z H ∧ Rps b Z H vs ds ∧ S ds Qd Ed ∧ (∀ ys H' out, Ex b H H' → b.G H' → Rqs Z H' ys out → Qd out → Q ys H') ∧ ∀ c x H' er, Ex b H H' → b.G H' → ErRp b Z H' c x er → Ed er → E c x H'
@[simp] def finY (Q : List PyData → Prop) (E : Er → Prop) : GEn := { nx := fun _ out => Q out, bk := fun _ _ => False, ct := fun _ _ => False, ex := fun _ => E }
section
variable {P : Program} {w : World} {K : PySem.W.Frag} {mg : Str → Option Value} {base : Heap} {b : Bg} {k : Nat} {x qual : Str} {st : Stmt} {f : Addr} {fd : FuncData} {N ps : List Str} {S : SY}
end
/-! ### list(g(..)) -/
structure CalY (P : Program) (w : World) (K : PySem.W.Frag) (mg : Str → Option Value) (base : Heap) (b : Bg) (k : Nat) (x : Str) (ps : List Str) (S : SY) where
  f : Addr
  fd : FuncData
  F : GFn P w K mg base k f fd ps (spY b S)
  g : mg x = some (.ref f)
  kp : PySem.W.keepIn K (.ref f) = true
  bd : Binds K fd ps []
/-- this error ends no iterator -/
def NoSt (K : PySem.W.Frag) (b : Bg) (n : Str) : Prop := PySem.W.subIn K (.ref (b.cls n)) (.type "StopIteration") = some false
@[simp] def vListY (ns : Str → Prop) (S : SY) (u : VA) : VT := fun ρ Q E => u ρ (fun ds => S ds (fun out => Q (.py (.list out))) fun er => ns er.n ∧ E er) E
/-- a class of errors that is no StopIteration -/
structure NoStK (K : PySem.W.Frag) (n : Str) : Prop where
  ex : ∃ C : Addr, PySem.W.nsIn K mainGlobals n = some (some (.ref C)) ∧ PySem.W.subIn K (.ref C) (.type "StopIteration") = some false
theorem noStK {K : PySem.W.Frag} {C : Addr} {n : Str} (a1 : PySem.W.nsIn K mainGlobals n = some (some (.ref C))) (a2 : PySem.W.subIn K (.ref C) (.type "StopIteration") = some false) : NoStK K n := ⟨C, a1, a2⟩
theorem noSt_of {K : PySem.W.Frag} {b : Bg} {n : Str} (t : NoStK K n) (r : RaiB K (b.cls n) n) : NoSt K b n := by
  obtain ⟨C, a1, a2⟩ := t.ex
  have e1 : C = b.cls n := by
    have := a1.symm.trans r.ns
    injection this with this; injection this with this; injection this
  unfold NoSt
  rw [← e1]; exact a2
section
variable {X : Cx} {b : Bg} {W : WX} {k j : Nat} {x nm : Str} {ps : List Str} {S : SY} {e : Expr} {es : List Expr} {u : VA} {p p2 pos pos2 : Pos} {ns : Str → Prop}
end
end VL
set_option Elab.async false
set_option linter.all false
set_option maxRecDepth 100000
set_option maxHeartbeats 4000000
/-! VL104: a run that is held where the sleeping generators can't be woken wakes none of them: they stay what they are -/
namespace VL
open PySem
open Sem (wp)
def noWake : Resume → Sem PySem.Fin := fun _ => .unsupported ""
/-- the same to look at, but nothing wakes it -/
def numb : GenState → GenState
  | .suspended _ l c p fs cl => .suspended noWake l c p fs cl
  | x => x
def isAsleep (y : GenState) : Prop := ∃ k l c p fs cl, y = .suspended k l c p fs cl
theorem numb_seen (y : GenState) : (numb y).seen = y.seen := by cases y <;> rfl
theorem numb_bare (y : GenState) : (numb y).bare = y.bare := by cases y <;> rfl
abbrev Olds := Nat → Option GenState
structure Dorm (old : Olds) (a : Array GenState) : Prop where
  at_ : ∀ i y, old i = some y → isAsleep y ∧ a[i]? = some (numb y)
  rest : ∀ i k l c p fs cl, a[i]? = some (.suspended k l c p fs cl) → old i = none → splitAtGen fs = none
def ovG (old : Olds) (a : Array GenState) : Array GenState := a.mapIdx fun i x => (old i).getD x
def ovS (old : Olds) (s : Shared) : Shared := { s with gens := ovG old s.gens }
section
variable {old : Olds} {a : Array GenState} {s : Shared} {g : Nat}
theorem ovG_get (i : Nat) : (ovG old a)[i]? = a[i]?.map fun x => (old i).getD x := by simp [ovG]
theorem ovG_size : (ovG old a).size = a.size := by simp [ovG]
theorem ovG_none {x : GenState} (h : old g = none) (e : a[g]? = some x) : (ovG old a)[g]? = some x := by rw [ovG_get, e, h]; rfl
theorem ovG_some {y : GenState} (d : Dorm old a) (h : old g = some y) : (ovG old a)[g]? = some y := by rw [ovG_get, (d.at_ g y h).2, h]; rfl
theorem ov_seen {st : GenState} (d : Dorm old a) (h : a[g]? = some st) : ∃ y, (ovG old a)[g]? = some y ∧ y.seen = st.seen := by
  cases q : old g with
  | none => exact ⟨st, ovG_none q h, rfl⟩
  | some y =>
    have h2 := (d.at_ g y q).2
    rw [h] at h2
    have e1 : st = numb y := Option.some.inj h2
    exact ⟨y, ovG_some d q, by rw [e1, numb_seen]⟩
theorem ov_set {x : GenState} (h : old g = none) : ovS old (s.setGen g x) = (ovS old s).setGen g x := by
  have e : ovG old (s.gens.setIfInBounds g x) = (ovG old s.gens).setIfInBounds g x := by
    apply Array.ext_getElem?
    intro i
    rw [ovG_get, Array.getElem?_setIfInBounds, Array.getElem?_setIfInBounds, ovG_size, ovG_get]
    by_cases hi : g = i
    · subst hi
      simp only [if_true]
      split
      · rw [h]; rfl
      · rfl
    · simp [hi]
  show ({ s with gens := ovG old (s.gens.setIfInBounds g x) } : Shared) = { s with gens := (ovG old s.gens).setIfInBounds g x }
  rw [e]
theorem ov_push {c : Code} (d : Dorm old s.gens) : ovS old { s with gens := s.gens.push (.fresh c) } = { ovS old s with gens := (ovS old s).gens.push (.fresh c) } := by
  have hs : old s.gens.size = none := by
    cases e : old s.gens.size with
    | none => rfl
    | some y => have := (d.at_ _ y e).2; simp at this
  have e : ovG old (s.gens.push (.fresh c)) = (ovG old s.gens).push (.fresh c) := by
    apply Array.ext_getElem?
    intro i
    rw [ovG_get, Array.getElem?_push, Array.getElem?_push, ovG_size, ovG_get]
    by_cases hi : i = s.gens.size
    · subst hi
      simp [hs]
    · simp [hi]
  show ({ s with gens := ovG old (s.gens.push (.fresh c)) } : Shared) = { s with gens := (ovG old s.gens).push (.fresh c) }
  rw [e]
theorem Dorm.push {c : Code} (d : Dorm old a) : Dorm old (a.push (.fresh c)) where
  at_ := fun i y h => by
    obtain ⟨h1, h2⟩ := d.at_ i y h
    refine ⟨h1, ?_⟩
    have hi : i < a.size := (Array.getElem?_eq_some_iff.mp h2).1
    rw [Array.getElem?_push, if_neg (Nat.ne_of_lt hi)]
    exact h2
  rest := fun i k l cc p fs cl h hn => by
    rw [Array.getElem?_push] at h
    split at h
    · cases h
    · exact d.rest i k l cc p fs cl h hn
theorem Dorm.set {x : GenState} (d : Dorm old s.gens) (h : old g = none) (hx : ∀ k l c p fs cl, x = .suspended k l c p fs cl → splitAtGen fs = none) : Dorm old (s.setGen g x).gens where
  at_ := fun i y e => by
    obtain ⟨h1, h2⟩ := d.at_ i y e
    refine ⟨h1, ?_⟩
    have hi : g ≠ i := fun z => by rw [z, e] at h; cases h
    show (s.gens.setIfInBounds g x)[i]? = _
    rw [Array.getElem?_setIfInBounds_ne hi]
    exact h2
  rest := fun i k l c p fs cl e hn => by
    have e : (s.gens.setIfInBounds g x)[i]? = _ := e
    by_cases hi : g = i
    · subst hi
      rw [Array.getElem?_setIfInBounds] at e
      simp only [if_true] at e
      split at e
      · exact hx k l c p fs cl (Option.some.inj e)
      · cases e
    · rw [Array.getElem?_setIfInBounds_ne hi] at e
      exact d.rest i k l c p fs cl e hn
theorem Dorm.not {x : GenState} (d : Dorm old a) (e : a[g]? = some x) (h : ¬ isAsleep x) : old g = none := by
  cases q : old g with
  | none => rfl
  | some y =>
    obtain ⟨⟨k, l, c, p, fs, cl, rfl⟩, h2⟩ := d.at_ g y q
    rw [e] at h2
    exact absurd ⟨_, _, _, _, _, _, Option.some.inj h2⟩ h
end
theorem split_app : ∀ {fs gs : List Frame}, splitAtGen fs = none → splitAtGen gs = none → splitAtGen (fs ++ gs) = none
  | [], gs, _, h => h
  | .ret .. :: fs, gs, h1, h2 => by
    have q : splitAtGen fs = none := by
      have h1 : (splitAtGen fs).map _ = none := h1
      simpa using h1
    show (splitAtGen (fs ++ gs)).map _ = none
    rw [split_app q h2]; rfl
  | .gen .. :: fs, gs, h1, _ => by cases h1
theorem split_ret {k : Result → Sem PySem.Fin} {h : Option Value} {g : Bool} {l : List Value} {c : Code} {p : Pos} {kp : List Value} {fs : List Frame} (e : splitAtGen (.ret k h g l c p kp :: fs) = none) : splitAtGen fs = none := by
  have e : (splitAtGen fs).map _ = none := e
  simpa using e
section
variable {M : Model}
theorem no_run0 {Γ : Ctx} {p : Pos} {w : String} {s : Shared} {e : End} {s' : Shared} (h : Runs M Γ p (.unsupported w) [] s e s') : False := by cases h
theorem no_run {Γ : Ctx} {p : Pos} {w : String} {fs : List Frame} {s : Shared} {e : End} {s' : Shared} (h : Runs M Γ p (.unsupported w) fs s e s') : False := by
  cases h <;> (rename_i h1 h2; first | exact no_run0 h1 | exact no_run0 h2 | skip)
  all_goals (rename_i h3; first | exact no_run0 h3 | skip)
/-- what is left behind keeps no frame of a generator -/
def EndOk (e : End) : Prop := ∀ v g l k c p fs, e = .susp v g l k c p fs → splitAtGen fs = none
theorem EndOk.gen {e : End} (h : EndOk e) : ∀ k l c p fs cl, e.genState = .suspended k l c p fs cl → splitAtGen fs = none := fun k l c p fs cl q => by
  cases e with
  | ret r => cases q
  | susp v g l0 k0 c0 p0 fs0 =>
    have : GenState.suspended k0 l0 c0 p0 fs0 (g || fs0.any Frame.guarded) = .suspended k l c p fs cl := q
    injection this with _ _ _ _ e5 _
    rw [← e5]
    exact h v g l0 k0 c0 p0 fs0 rfl
theorem runs_ov {old : Olds} {Γ : Ctx} {p : Pos} {t : Sem PySem.Fin} {fs : List Frame} {s : Shared} {e : End} {s' : Shared} (h : Runs M Γ p t fs s e s') :
    Dorm old s.gens → splitAtGen fs = none → Dorm old s'.gens ∧ EndOk e ∧ Runs M Γ p t fs (ovS old s) e (ovS old s') := by
  induction h with
  | done => exact fun d _ => ⟨d, fun _ _ _ _ _ _ _ z => by (cases z), .done⟩
  | raise => exact fun d _ => ⟨d, fun _ _ _ _ _ _ _ z => by (cases z), .raise⟩
  | again hq _ ih => exact fun d f => let ⟨a, b, c⟩ := ih d f; ⟨a, b, .again hq c⟩
  | rule _ ih => exact fun d f => let ⟨a, b, c⟩ := ih d f; ⟨a, b, .rule c⟩
  | «at» _ ih => exact fun d f => let ⟨a, b, c⟩ := ih d f; ⟨a, b, .at c⟩
  | load ho _ ih => exact fun d f => let ⟨a, b, c⟩ := ih d f; ⟨a, b, .load ho c⟩
  | update ho _ ih => exact fun d f => let ⟨a, b, c⟩ := ih d f; ⟨a, b, .update ho c⟩
  | loadIfAlive _ ih => exact fun d f => let ⟨a, b, c⟩ := ih d f; ⟨a, b, .loadIfAlive c⟩
  | point _ ih => exact fun d f => let ⟨a, b, c⟩ := ih d f; ⟨a, b, .point c⟩
  | alloc _ ih => exact fun d f => let ⟨a, b, c⟩ := ih d f; ⟨a, b, .alloc c⟩
  | fresh _ ih => exact fun d f => let ⟨a, b, c⟩ := ih d f; ⟨a, b, .fresh c⟩
  | ask _ ih => exact fun d f => let ⟨a, b, c⟩ := ih d f; ⟨a, b, .ask c⟩
  | choose hn _ ih => exact fun d f => let ⟨a, b, c⟩ := ih d f; ⟨a, b, .choose hn c⟩
  | os _ ih => exact fun d f => let ⟨a, b, c⟩ := ih d f; ⟨a, b, .os c⟩
  | handled _ ih => exact fun d f => let ⟨a, b, c⟩ := ih d f; ⟨a, b, .handled c⟩
  | stack _ ih => exact fun d f => let ⟨a, b, c⟩ := ih d f; ⟨a, b, .stack c⟩
  | thread _ ih => exact fun d f => let ⟨a, b, c⟩ := ih d f; ⟨a, b, .thread c⟩
  | genState hs _ ih =>
    intro d f
    obtain ⟨a, b, c⟩ := ih d f
    obtain ⟨y, h1, h2⟩ := ov_seen d hs
    refine ⟨a, b, .genState h1 ?_⟩
    rw [h2]
    exact c
  | @newGen Γ₁ p₁ k s₁ c₁ e₁ s₁' _ ih =>
    intro d f
    obtain ⟨a, b, c⟩ := ih d.push f
    refine ⟨a, b, .newGen ?_⟩
    rw [ov_push d] at c
    have z : (ovS old s₁).gens.size = s₁.gens.size := ovG_size
    rw [z]
    exact c
  | call _ _ ih1 ih2 =>
    intro d f
    obtain ⟨a1, _, c1⟩ := ih1 d rfl
    obtain ⟨a, b, c⟩ := ih2 a1 f
    exact ⟨a, b, .call c1 c⟩
  | callSusp _ ih1 =>
    intro d f
    obtain ⟨a1, b1, c1⟩ := ih1 d rfl
    refine ⟨a1, fun v g l k c p fs z => ?_, .callSusp c1⟩
    injection z with _ _ _ _ _ _ e7
    rw [← e7]
    exact split_app (b1 _ _ _ _ _ _ _ rfl) rfl
  | yield => exact fun d _ => ⟨d, fun v g l k c p fs z => by (injection z with _ _ _ _ _ _ e7; rw [← e7]; rfl), .yield⟩
  | resumeFresh hg _ hq _ ih1 ih2 =>
    intro d f
    have hn := d.not hg fun ⟨_, _, _, _, _, _, z⟩ => by cases z
    obtain ⟨a1, b1, c1⟩ := ih1 (d.set hn fun _ _ _ _ _ _ z => by cases z) rfl
    obtain ⟨a2, b2, c2⟩ := ih2 (a1.set hn b1.gen) f
    rw [ov_set hn] at c1 c2
    exact ⟨a2, b2, .resumeFresh (ovG_none hn hg) c1 hq c2⟩
  | @resumeSuspended Γ₁ p₁ g r l k s₁ k₀ l₀ c₀ p₀ fs₀ cl e₁ s₂ e₂ s₃ hg h1 hq _ ih1 ih2 =>
    intro d f
    cases q : old g with
    | some y =>
      obtain ⟨⟨k', l', c', p', fs', cl', rfl⟩, h2⟩ := d.at_ g y q
      rw [hg] at h2
      have e1 := Option.some.inj h2
      injection e1 with e1
      rw [e1] at h1
      exact (no_run h1).elim
    | none =>
      obtain ⟨a1, b1, c1⟩ := ih1 (d.set q fun _ _ _ _ _ _ z => by cases z) (d.rest g _ _ _ _ _ _ hg q)
      obtain ⟨a2, b2, c2⟩ := ih2 (a1.set q b1.gen) f
      rw [ov_set q] at c1 c2
      exact ⟨a2, b2, .resumeSuspended (ovG_none q hg) c1 hq c2⟩
  | resumeJustStarted hg hv _ ih =>
    intro d f
    obtain ⟨a, b, c⟩ := ih d f
    exact ⟨a, b, .resumeJustStarted (ovG_none (d.not hg fun ⟨_, _, _, _, _, _, z⟩ => by cases z) hg) hv c⟩
  | resumeThrowFresh hg _ ih =>
    intro d f
    have hn := d.not hg fun ⟨_, _, _, _, _, _, z⟩ => by cases z
    obtain ⟨a, b, c⟩ := ih (d.set hn fun _ _ _ _ _ _ z => by cases z) f
    rw [ov_set hn] at c
    exact ⟨a, b, .resumeThrowFresh (ovG_none hn hg) c⟩
  | resumeRunning hg _ ih =>
    intro d f
    obtain ⟨a, b, c⟩ := ih d f
    exact ⟨a, b, .resumeRunning (ovG_none (d.not hg fun ⟨_, _, _, _, _, _, z⟩ => by cases z) hg) c⟩
  | resumeFinished hg _ ih =>
    intro d f
    obtain ⟨a, b, c⟩ := ih d f
    exact ⟨a, b, .resumeFinished (ovG_none (d.not hg fun ⟨_, _, _, _, _, _, z⟩ => by cases z) hg) c⟩
  | segRet _ _ ih1 ih2 =>
    intro d f
    obtain ⟨a1, _, c1⟩ := ih1 d rfl
    obtain ⟨a2, b2, c2⟩ := ih2 a1 (split_ret f)
    exact ⟨a2, b2, .segRet c1 c2⟩
  | segGen _ _ _ _ => intro d f; cases f
  | segSuspOut hs _ ih1 =>
    intro d f
    obtain ⟨a1, b1, c1⟩ := ih1 d rfl
    refine ⟨a1, fun v g l k c p fs z => ?_, .segSuspOut hs c1⟩
    injection z with _ _ _ _ _ _ e7
    rw [← e7]
    exact split_app (b1 _ _ _ _ _ _ _ rfl) hs
  | segSuspGen hs _ _ _ _ _ => intro d f; rw [f] at hs; cases hs
theorem wakes_ov {old : Olds} {Γ : Ctx} {p : Pos} {g : Nat} {r : Resume} {s : Shared} {res : GenResult} {s' : Shared} (h : Wakes M Γ p g r s res s') (d : Dorm old s.gens) :
    Dorm old s'.gens ∧ Wakes M Γ p g r (ovS old s) res (ovS old s') := by
  unfold Wakes at h
  cases hg : s.gens[g]? with
  | none => rw [hg] at h; exact h.elim
  | some x =>
    rw [hg] at h
    cases x with
    | fresh c =>
      have hn := d.not hg fun ⟨_, _, _, _, _, _, z⟩ => by cases z
      have hg' : (ovS old s).gens[g]? = some (.fresh c) := ovG_none hn hg
      unfold Wakes
      rw [hg']
      cases r with
      | send v =>
        cases v with
        | none =>
          obtain ⟨e₁, s₁, h1, h2, h3, rfl⟩ := h
          obtain ⟨a1, b1, c1⟩ := runs_ov (old := old) h1 (d.set hn fun _ _ _ _ _ _ z => by cases z) rfl
          refine ⟨a1.set hn b1.gen, e₁, ovS old s₁, ?_, h2, h3, ov_set hn⟩
          rw [ov_set hn] at c1
          exact c1
        | _ => obtain ⟨h1, rfl⟩ := h; exact ⟨d, h1, rfl⟩
      | throw v =>
        obtain ⟨h1, rfl⟩ := h
        exact ⟨d.set hn fun _ _ _ _ _ _ z => (by cases z), h1, ov_set hn⟩
    | suspended k₀ l₀ c₀ p₀ fs cl =>
      obtain ⟨e₁, s₁, h1, h2, h3, rfl⟩ := h
      cases q : old g with
      | some y =>
        obtain ⟨⟨k', l', c', p', fs', cl', rfl⟩, z2⟩ := d.at_ g y q
        rw [hg] at z2
        have e1 := Option.some.inj z2
        injection e1 with e1
        rw [e1] at h1
        exact (no_run h1).elim
      | none =>
        have hg' : (ovS old s).gens[g]? = some (.suspended k₀ l₀ c₀ p₀ fs cl) := ovG_none q hg
        unfold Wakes
        rw [hg']
        obtain ⟨a1, b1, c1⟩ := runs_ov (old := old) h1 (d.set q fun _ _ _ _ _ _ z => by cases z) (d.rest g _ _ _ _ _ _ hg q)
        refine ⟨a1.set q b1.gen, e₁, ovS old s₁, ?_, h2, h3, ov_set q⟩
        rw [ov_set q] at c1
        exact c1
    | running =>
      have hg' : (ovS old s).gens[g]? = some .running := ovG_none (d.not hg fun ⟨_, _, _, _, _, _, z⟩ => by cases z) hg
      obtain ⟨h1, h2⟩ := h
      rw [h2]
      unfold Wakes
      rw [hg']
      exact ⟨d, h1, rfl⟩
    | finished =>
      have hg' : (ovS old s).gens[g]? = some .finished := ovG_none (d.not hg fun ⟨_, _, _, _, _, _, z⟩ => by cases z) hg
      obtain ⟨h1, h2⟩ := h
      rw [h2]
      unfold Wakes
      rw [hg']
      exact ⟨d, h1, rfl⟩
theorem wp_ov {α : Type} (old : Olds) (Γ : Ctx) (t : Sem α) : ∀ (Q : α → Pos → Shared → Prop) (E : Value → Pos → Shared → Prop) (p : Pos) (s : Shared), Dorm old s.gens → wp M Γ t Q E p s →
    wp M Γ t (fun a p' s' => ∃ z, s' = ovS old z ∧ Dorm old z.gens ∧ Q a p' z) (fun e p' s' => ∃ z, s' = ovS old z ∧ Dorm old z.gens ∧ E e p' z) p (ovS old s) := by
  induction t with
  | pure a => intro Q E p s hn h; exact ⟨s, rfl, hn, h⟩
  | raise e => intro Q E p s hn h; exact ⟨s, rfl, hn, h⟩
  | unsupported _ => intro Q E p s _ h; exact h
  | finish _ => intro Q E p s _ h; exact h
  | rule _ k ih => intro Q E p s hn h; exact ih () Q E p s hn h
  | «at» p' k ih => intro Q E p s hn h; exact ih () Q E p' s hn h
  | load a _ k ih => intro Q E p s hn h; obtain ⟨o, ho, h⟩ := h; exact ⟨o, ho, ih o Q E p s hn h⟩
  | update a _ f k ih => intro Q E p s hn h; exact ⟨h.1, ih () Q E p { s with heap := s.heap.update a f } hn h.2⟩
  | loadIfAlive a k ih => intro Q E p s hn h; exact ih _ Q E p s hn h
  | point _ k ih => intro Q E p s hn h; exact ih () Q E p s hn h
  | register _ _ => intro Q E p s _ h; exact h
  | alloc o k ih => intro Q E p s hn h; exact ih _ Q E p { s with heap := s.heap.push o } hn h
  | fresh k ih => intro Q E p s hn h; exact ih _ Q E p { s with toks := s.toks + 1 } hn h
  | ask k ih => intro Q E p s hn h; exact ih _ Q E p s hn h
  | choose src m k ih => intro Q E p s hn h; exact ⟨h.1, ih _ Q E p { s with drawn := s.drawn.bump src } hn h.2⟩
  | os q _ k ih => intro Q E p s hn h; exact ih _ Q E p { s with os := (Os.step s.os q).1 } hn h
  | call c hd _ _ k ih =>
    intro Q E p s hn h
    obtain ⟨r, s', hr, h⟩ := h
    obtain ⟨a1, _, c1⟩ := runs_ov (old := old) hr hn rfl
    exact ⟨r, ovS old s', c1, ih r Q E p s' a1 h⟩
  | handled own k ih => intro Q E p s hn h; exact ih _ Q E p s hn h
  | genState g k ih =>
    intro Q E p s hn h
    obtain ⟨st, hs, h⟩ := h
    cases q : old g with
    | none => exact ⟨st, ovG_none q hs, ih _ Q E p s hn h⟩
    | some y =>
      have h2 := (hn.at_ g y q).2
      rw [hs] at h2
      have e1 : st = numb y := Option.some.inj h2
      rw [e1, numb_seen] at h
      exact ⟨y, ovG_some hn q, ih _ Q E p s hn h⟩
  | newGen c k ih =>
    intro Q E p s hn h
    have h1 := ih _ Q E p _ (hn.push (c := c)) h
    rw [ov_push hn] at h1
    have z : (ovS old s).gens.size = s.gens.size := ovG_size
    show wp M Γ (k (ovS old s).gens.size) _ _ p _
    rw [z]
    exact h1
  | resume g r _ k ih =>
    intro Q E p s hn h
    obtain ⟨res, s', hw, h⟩ := h
    obtain ⟨a1, c1⟩ := wakes_ov hw hn
    exact ⟨res, ovS old s', c1, ih res Q E p s' a1 h⟩
  | yield _ _ _ _ => intro Q E p s _ h; exact h
  | stack k ih => intro Q E p s hn h; exact ih _ Q E p s hn h
  | fork _ _ => intro Q E p s _ h; exact h
  | thread k ih => intro Q E p s hn h; exact ih _ Q E p s hn h
  | await _ _ _ _ _ => intro Q E p s _ h; exact h
/-- the sleepers of a state -/
def sleepers (s : Shared) : Olds := fun i => match s.gens[i]? with
  | some (.suspended k l c p fs cl) => some (.suspended k l c p fs cl)
  | _ => none
def numbed (s : Shared) : Shared := { s with gens := s.gens.map numb }
theorem sleepers_some {s : Shared} {i : Nat} {y : GenState} (h : sleepers s i = some y) : isAsleep y ∧ s.gens[i]? = some y := by
  unfold sleepers at h
  split at h
  · rename_i e
    cases h
    exact ⟨⟨_, _, _, _, _, _, rfl⟩, e⟩
  · cases h
theorem sleepers_at {s : Shared} {i : Nat} {k l c p fs cl} (h : s.gens[i]? = some (.suspended k l c p fs cl)) : sleepers s i = some (.suspended k l c p fs cl) := by
  unfold sleepers
  rw [h]
theorem dorm_numbed (s : Shared) : Dorm (sleepers s) (numbed s).gens where
  at_ := fun i y h => by
    obtain ⟨h1, h2⟩ := sleepers_some h
    refine ⟨h1, ?_⟩
    show (s.gens.map numb)[i]? = _
    rw [Array.getElem?_map, h2]; rfl
  rest := fun i k l c p fs cl h hn => by
    have h : (s.gens.map numb)[i]? = _ := h
    rw [Array.getElem?_map] at h
    cases e : s.gens[i]? with
    | none => rw [e] at h; cases h
    | some x =>
      rw [e] at h
      cases x with
      | suspended k' l' c' p' fs' cl' => rw [sleepers_at e] at hn; cases hn
      | fresh c => cases Option.some.inj h
      | running => cases Option.some.inj h
      | finished => cases Option.some.inj h
theorem ov_numbed (s : Shared) : ovS (sleepers s) (numbed s) = s := by
  have e : ovG (sleepers s) (s.gens.map numb) = s.gens := by
    apply Array.ext_getElem?
    intro i
    rw [ovG_get, Array.getElem?_map]
    cases e : s.gens[i]? with
    | none => rfl
    | some x =>
      cases q : sleepers s i with
      | some y => rw [(sleepers_some q).2] at e; simp [e]
      | none =>
        cases x with
        | suspended k' l' c' p' fs' cl' => rw [sleepers_at e] at q; cases q
        | fresh c => rfl
        | running => rfl
        | finished => rfl
  show ({ s with gens := ovG (sleepers s) (s.gens.map numb) } : Shared) = s
  rw [e]
/-- THE FRAME: what runs where nothing sleeping can be woken keeps all that sleeps -/
theorem wpAny_sleep {α : Type} {A : Around} {t : Sem α} {Q : α → Shared → Prop} {E : Value → Shared → Prop} {s : Shared} (h : wpAny M A t Q E (numbed s)) :
    wpAny M A t (fun a s' => ∃ z, s' = ovS (sleepers s) z ∧ Dorm (sleepers s) z.gens ∧ Q a z) (fun e s' => ∃ z, s' = ovS (sleepers s) z ∧ Dorm (sleepers s) z.gens ∧ E e z) s := fun Γ p hΓ => by
  have := wp_ov (sleepers s) Γ t _ _ p (numbed s) (dorm_numbed s) (h Γ p hΓ)
  rw [ov_numbed] at this
  exact this
end
end VL
set_option Elab.async false
set_option linter.all false
set_option maxRecDepth 100000
set_option maxHeartbeats 4000000
/-! VL105: a generator that sleeps while its consumer runs any code: contexts, protocol, plain statements, yield -/
namespace VL
open PySem PySem.Spec PyProof.Rows L2 GenW
/-! ### the heap's first objects -/
def pre (n : Nat) (h : Heap) : Heap := ⟨h.objs.extract 0 n, h.life⟩
def cut (n : Nat) (s : Shared) : Shared := { s with heap := pre n s.heap }
theorem pre_at {n b : Nat} {h : Heap} : (pre n h).objs[b]? = if b < n then h.objs[b]? else none := by
  show (h.objs.extract 0 n)[b]? = _
  rw [Array.getElem?_extract]
  by_cases hb : b < n
  · rw [if_pos hb]
    by_cases hs : b < h.objs.size
    · rw [if_pos (by omega)]; simp
    · rw [if_neg (by omega), Array.getElem?_eq_none (by omega)]
  · rw [if_neg hb, if_neg (by omega)]
theorem pre_get {n : Nat} {h : Heap} {b : Addr} (hb : b < n) : (pre n h).get? b = h.get? b := by
  unfold Heap.get?
  rw [pre_at, if_pos hb]
theorem of_pre {n : Nat} {h : Heap} {b : Addr} {o : Obj} (e : (pre n h).get? b = some o) : b < n ∧ h.get? b = some o := by
  by_cases hb : b < n
  · exact ⟨hb, by rw [← pre_get hb]; exact e⟩
  · unfold Heap.get? at e
    rw [pre_at, if_neg hb] at e
    cases e
theorem pre_size {n : Nat} {h : Heap} : (pre n h).objs.size ≤ n := by
  show (h.objs.extract 0 n).size ≤ n
  rw [Array.size_extract]; omega
theorem pre_size' {n : Nat} {h : Heap} (hn : n ≤ h.objs.size) : (pre n h).objs.size = n := by
  show (h.objs.extract 0 n).size = n
  rw [Array.size_extract]; omega
theorem pre_frames {n : Nat} {h base : Heap} : ∀ {l : List Env}, (∀ b ∈ frs l, b < n) → h.FunFrames base l → (pre n h).FunFrames base l
  | [], _, _ => trivial
  | env :: l, hl, ⟨hk, ⟨L, o, hf, hn, ho, hd⟩, hr⟩ => by
    have hL : L < n := hl L (List.mem_filterMap.mpr ⟨env, List.mem_cons_self, hf⟩)
    exact ⟨hk, ⟨L, o, hf, hn, by rw [pre_get hL]; exact ho, hd⟩, pre_frames (fun b hb => hl b (by
      obtain ⟨e, he, q⟩ := List.mem_filterMap.mp hb
      exact List.mem_filterMap.mpr ⟨e, List.mem_cons_of_mem _ he, q⟩)) hr⟩
/-! ### contexts -/
/-- behind a call that let an exception out; what is pinned stands in the ground -/
def CXP (P : Program) (w : World) (outer : List Env) (H : Hp) (s : Shared) (E : XK) (pn : List (Addr × Obj)) (u : Value) (s' : Shared) : Prop :=
  ∃ (a : Addr) (B : Heap) (H' : Hp) (cls : Value) (d : Option Addr), u = .ref a ∧ HandSPX.FlyingZ B outer a (Zc cls d) s'.heap ∧ HOk P w H' B ∧ UB (frs outer) H H' s.heap B s'.heap ∧ H' a = none ∧ s'.os = s.os ∧ AllBare s'.gens ∧ E cls d H' ∧ ∀ p ∈ pn, B.get? p.1 = some p.2 ∧ H' p.1 = none
theorem leaveP {X : Cx} {W : WX} {E : XK} {s' : Shared} (hs : X.stack = X.env :: X.outer) (hf : X.env.frame = some X.env.locals) (hex : X.ex = []) {E₁ : Value → Shared → Prop} (hW : ∀ cls d σ H, W cls d σ H → E cls d H) {u : Value} (x : XE X W u s') :
    wpAny (model X.prog X.w) X.A (leaving X.env u) (fun _ s'' => CXP X.prog X.w X.outer X.H_0 X.s_0 E X.pn u s'') E₁ s' := by
  obtain ⟨a, Bh, sI, pins, σ, H, cls, d, eu, I, nb, up, sky, na, os, ag, wc⟩ := x
  subst eu
  have hfr : X.A.frames = some (X.env :: X.outer) := I.ok.frames.trans (by rw [hs])
  have hex' : ∀ b, b ∉ X.ex := fun b hb => by rw [hex] at hb; cases hb
  have nst : ∀ b o, X.s_0.heap.get? b = some o → b ∉ X.fs → b ∉ frs X.stack := fun b o e hb hm => (List.mem_cons.mp (I.stkSub b hm)).elim (fun z => by
    have h1 := Heap.lt_size e
    rw [z] at h1
    exact Nat.lt_irrefl _ (Nat.lt_of_lt_of_le h1 I.ok.above)) hb
  have pinB : ∀ p ∈ X.pn, Bh.get? p.1 = some p.2 ∧ H p.1 = none := fun p hp => by
    obtain ⟨h1, h2, h3, h4, _⟩ := I.pin p (List.mem_append_left _ hp)
    exact ⟨nb p.1 p.2 h1 fun hm => (List.mem_cons.mp (I.stkSub p.1 hm)).elim h3 h4, h2⟩
  have slots : ∀ h', s'.heap.UpToSlots h' → ∀ b o, X.s_0.heap.get? b = some o → b ∈ frs X.outer → ∃ sl, h'.get? b = some { o with slots := sl } := fun h' up' b o e hb => by
    obtain ⟨_, o₀, e₀, hnf⟩ := I.ok.funs.mem hb
    have eo : o = o₀ := Option.some.inj (e.symm.trans e₀)
    subst eo
    obtain ⟨sl, e1⟩ := I.base.slot b o e (I.ok.frf b hb) hb (hex' b)
    obtain ⟨sl2, e2⟩ := up b _ e1 hnf
    obtain ⟨sl3, e3⟩ := up' b _ e2 hnf
    exact ⟨sl3, e3⟩
  have there : ∀ b o, X.s_0.heap.get? b = some o → b ∉ frs X.outer → ∃ o', Bh.get? b = some o' := fun b o e hb => by
    obtain ⟨o', e1⟩ := I.base.there b o e (hex' b)
    exact ⟨o', nb b o' e1 (nst b o e hb)⟩
  have fin : ∀ h', HandSPX.FlyingZ Bh X.outer a (Zc cls d) h' → s'.heap.UpToSlots h' → CXP X.prog X.w X.outer X.H_0 X.s_0 E X.pn (.ref a) { s' with heap := h' } := fun h' fl up' => by
    have ub : UB (frs X.outer) X.H_0 H X.s_0.heap Bh h' :=
      ⟨fun b o e n hb => nb b o (I.base.keep b o e n hb (hex' b)) (nst b o e hb), slots h' up', fun b o e n => I.base.free b o e n (hex' b), there, I.base.tups, I.base.frzs, I.base.tbls⟩
    exact ⟨a, Bh, H, cls, d, rfl, fl, I.inGround nb, ub, na, os.trans I.os, ag, hW _ _ _ _ wc, pinB⟩
  rw [hs] at sky
  rcases sky with ⟨hB, hn, hl, oe, vs, he, hz, hd, h1⟩ | fl | hd
  · exact HandSPX.leaving_firstZ Zc.steady hfr hl hf he hB hn hd h1 hz fin
  · exact HandSPX.leaves_onZ Zc.steady hfr hf fl fin
  · exact HandSPX.leaves_heldZ hf hd fin
/-- a generator's body in its frame at n0, woken at s -/
def gcxN (P : Program) (w : World) (K : PySem.W.Frag) (mg : Str → Option Value) (base : Heap) (N : List Str) (qual : Str) (scope : Scope) (f : Addr) (cd : Value) (A : Around) (outer : List Env) (n0 : Addr) (s : Shared) (H : Hp) (E : XK) (pn : List (Addr × Obj)) : Cx where
  prog := P
  w := w
  K := K
  mg := mg
  base := base
  A := A.deeper (envOfC qual scope n0 f cd)
  N := N
  s_0 := s
  H_0 := H
  env := envOfC qual scope n0 f cd
  outer := outer
  stack := envOfC qual scope n0 f cd :: outer
  ex := []
  calm := true
  fn := fun _ => true
  pn := pn
  xe := fun e s' => wpAny (model P w) (A.deeper (envOfC qual scope n0 f cd)) (leaving (envOfC qual scope n0 f cd) e)
    (fun _ s'' => CXP P w outer H s E pn e s'') (fun _ _ => False) s'
section
variable {P : Program} {w : World} {K : PySem.W.Frag} {mg : Str → Option Value} {base : Heap} {N : List Str} {qual : Str} {scope : Scope} {f : Addr} {cd : Value} {A : Around} {outer : List Env} {n0 : Addr} {s : Shared} {H : Hp} {E : XK} {pn : List (Addr × Obj)}
theorem takes_gcn : Takes (gcxN P w K mg base N qual scope f cd A outer n0 s H E pn) (fun cls d _ H' => E cls d H') := fun u s' x =>
  leaveP (W := fun cls d _ H' => E cls d H') (E := E) rfl rfl rfl (fun _ _ _ _ h => h) x
end
/-- what a consumer holds where it wakes the generator: turns that are left, the state, the heap, what is owned -/
abbrev Cons := Nat → Shared → Hp → (Addr → Prop) → List (Addr × Obj) → Prop
/-- one generator: its def, its frame, its object, what its consumer asks -/
structure GD where
  P : Program
  w : World
  K : PySem.W.Frag
  mg : Str → Option Value
  base : Heap
  N : List Str
  qual : Str
  scope : Scope
  f : Addr
  cd : Value
  A : Around
  outer : List Env
  n0 : Addr
  E : Hp → (Addr → Prop) → XK
  pn : List (Addr × Obj)
  b : Bg
  a : Addr
  g : Nat
  T : Nat
  J : Cons
  Yd : Nat → PyData → Prop
  Qd : Nat → Prop
abbrev GD.X (G : GD) (s : Shared) (H : Hp) (Z : Addr → Prop) (xp : List (Addr × Obj)) : Cx := gcxN G.P G.w G.K G.mg G.base G.N G.qual G.scope G.f G.cd G.A G.outer G.n0 s H (G.E H Z) (G.pn ++ xp)
abbrev GD.env (G : GD) : Env := envOfC G.qual G.scope G.n0 G.f G.cd
structure GOk (G : GD) : Prop where
  nocell : ∀ x c, G.env.cells.lookup x = some c → False
  low : ∀ b ∈ frs G.outer, b < G.n0
  pnlow : ∀ p ∈ G.pn, G.n0 ≤ p.1
  gen : ∀ h : Heap, (∀ p ∈ G.pn, h.get? p.1 = some p.2) → h.IsGen G.a G.g
  apn : ∃ o, (G.a, o) ∈ G.pn
  yT : ∀ i d, G.Yd i d → i < G.T
/-- while it sleeps: of what was tracked only what others own may change -/
structure Naps (b : Bg) (H : Hp) (Z : Addr → Prop) (H2 : Hp) (Z2 : Addr → Prop) : Prop where
  g : b.G H2
  zb : ∀ a, b.B a → Z2 a
  dom : ∀ a, Z2 a → H2 a ≠ none
  young : ∀ a, Z2 a → Z a ∨ H a = none
  keep : ∀ a o, H a = some o → ¬ Z a → H2 a = some o
/-- a state in which it may be woken: own: its own records as they stood -/
structure Wakeable (G : GD) (own : List (Addr × Obj)) (H : Hp) (Z : Addr → Prop) (H2 : Hp) (Z2 : Addr → Prop) (xp : List (Addr × Obj)) (s2 : Shared) : Prop where
  nap : Naps G.b H Z H2 Z2
  bare : AllBare s2.gens
  bs : ∀ b o, G.base.get? b = some o → s2.heap.get? b = some o ∧ H2 b = none
  funs : s2.heap.FunFrames G.base G.outer
  frf : ∀ b ∈ frs G.outer, H2 b = none
  hok : HOk G.P G.w H2 s2.heap
  ownk : ∀ p ∈ own, s2.heap.get? p.1 = some p.2 ∧ H2 p.1 = none
  sz : G.n0 ≤ s2.heap.objs.size
  xok : ∀ p ∈ xp, s2.heap.get? p.1 = some p.2 ∧ H2 p.1 = none ∧ p.1 ≠ G.n0 ∧ p.1 ∉ frs G.outer ∧ (∀ v, p.2.data ≠ .cell v) ∧ ∀ p' ∈ own, p.1 ≠ p'.1
def ownOf (G : GD) (ip : List (Addr × Obj)) (s : Shared) : List (Addr × Obj) := pinsAt [G.n0] s.heap ++ (G.pn ++ ip)
section
variable {G : GD} {ip : List (Addr × Obj)} {σ : L2.St} {H H2 H0 : Hp} {Z Z2 Z0 : Addr → Prop} {xp xp2 : List (Addr × Obj)} {s s2 s0 : Shared}
theorem wake_inv (ok : GOk G) (I : Inv (G.X s0 H0 Z0 xp) ip σ H s) (w : Wakeable G (ownOf G ip s) H Z H2 Z2 xp2 s2) : Inv (G.X (cut G.n0 s2) H2 Z2 xp2) ip σ H2 s2 := by
  obtain ⟨m, ⟨oL, es, ep, hoL, rL⟩, hl⟩ := id I.loc
  have hoL : s.heap.get? G.n0 = some oL := hoL
  have hown := w.ownk (G.n0, oL) (List.mem_append_left _ (mem_pinsAt (by simp) hoL))
  have o := I.ok
  refine ⟨⟨o.mod, o.kind, o.glob, o.blt, pre_size, o.inj, fun x hx => ?_, fun x c _ e => (ok.nocell x c e).elim, o.hd, o.frames, o.stk, o.exf, fun b u e => ?_, ?_, o.noex, o.exfs, pre_frames ok.low w.funs, w.frf⟩, rfl, w.bare, ?_, ⟨m, ⟨oL, es, ep, hown.1, rL⟩, fun i x v e1 e2 e3 => ?_⟩, fun x c e => (ok.nocell x c e).elim, hown.2, fun x c e => (ok.nocell x c e).elim, fun p hp => ?_, w.hok, I.len⟩
  · obtain ⟨c, e⟩ := o.has x hx
    exact ⟨c, e⟩
  · obtain ⟨h1, h2⟩ := w.bs b u e
    have hb : b < G.n0 := Nat.lt_of_lt_of_le (Heap.lt_size e) (Nat.le_trans o.bsz o.above)
    exact ⟨by show (pre G.n0 s2.heap).get? b = _; rw [pre_get hb]; exact h1, h2⟩
  · show G.base.objs.size ≤ (pre G.n0 s2.heap).objs.size
    rw [pre_size' w.sz]
    exact Nat.le_trans o.bsz o.above
  · exact Un.kept fun b u e => (of_pre e).2
  · obtain ⟨u, r, l⟩ := hl i x v e1 e2 e3
    refine ⟨u, r, ?_⟩
    rcases l with l | ⟨k, c, e, z⟩
    · exact .inl l
    · exact (ok.nocell x c e).elim
  · have old : p ∈ G.pn ++ ip → _ := fun hp => by
      have hp' : p ∈ (G.pn ++ xp) ++ ip := (List.mem_append.mp hp).elim (fun z => List.mem_append_left _ (List.mem_append_left _ z)) fun z => List.mem_append_right _ z
      obtain ⟨h1, h2, h3, h4, h5⟩ := I.pin p hp'
      obtain ⟨q1, q2⟩ := w.ownk p (List.mem_append_right _ hp)
      exact And.intro q1 (And.intro q2 (And.intro h3 (And.intro h4 h5)))
    rcases List.mem_append.mp hp with z | z
    · rcases List.mem_append.mp z with z | z
      · exact old (List.mem_append_left _ z)
      · obtain ⟨q1, q2, q3, q4, q5, _⟩ := w.xok p z
        exact ⟨q1, q2, q3, q4, q5⟩
    · exact old (List.mem_append_right _ z)
/-- what it hands over where it falls asleep, or ends -/
structure Gives (G : GD) (s₀ : Shared) (H0 : Hp) (xp : List (Addr × Obj)) (H1 : Hp) (s : Shared) : Prop where
  os : s.os = s₀.os
  bare : AllBare s.gens
  un : Un (frs G.outer) [] H0 H1 (pre G.n0 s₀.heap) s.heap
  hok : HOk G.P G.w H1 s.heap
  ex : Ex G.b H0 H1
  g : G.b.G H1
  gen : s.heap.IsGen G.a G.g
  xk : ∀ p ∈ xp, s.heap.get? p.1 = some p.2 ∧ H1 p.1 = none
def OwnP (G : GD) (own : List (Addr × Obj)) (s : Shared) (H1 : Hp) : Prop := (∃ o, (G.a, o) ∈ own) ∧ ∀ p ∈ own, s.heap.get? p.1 = some p.2 ∧ H1 p.1 = none ∧ G.n0 ≤ p.1 ∧ ∀ v, p.2.data ≠ .cell v
theorem gives_of {s₀ : Shared} (ok : GOk G) (I : Inv (G.X (cut G.n0 s₀) H0 Z0 xp) ip σ H s) (x : Ex G.b H0 H) (g : G.b.G H) : Gives G s₀ H0 xp H s :=
  ⟨I.os, I.bare, I.base, I.hok, x, g, ok.gen _ fun p hp => (I.pin p (List.mem_append_left _ (List.mem_append_left _ hp))).1, fun p hp => let z := I.pin p (List.mem_append_left _ (List.mem_append_right _ hp)); ⟨z.1, z.2.1⟩⟩
theorem ownP_of {s₀ : Shared} (ok : GOk G) (lo : ∀ p ∈ ip, G.n0 ≤ p.1) (I : Inv (G.X s₀ H0 Z0 xp) ip σ H s) : OwnP G (ownOf G ip s) s H := ⟨ok.apn.imp fun o h => List.mem_append_right _ (List.mem_append_left _ h), fun p hp => by
  rcases List.mem_append.mp hp with h | h
  · obtain ⟨h1, h2⟩ := of_pinsAt h
    have e : p.1 = G.n0 := List.mem_singleton.mp h1
    refine ⟨h2, by rw [e]; exact I.free, Nat.le_of_eq e.symm, fun v q => ?_⟩
    obtain ⟨m, ⟨oL, es, ep, hoL, hd, rL⟩, _⟩ := id I.loc
    have hoL : s.heap.get? G.n0 = some oL := hoL
    rw [e, hoL] at h2
    have h2 := Option.some.inj h2
    rw [← h2, hd] at q
    cases q
  · obtain ⟨h1, h2, _, _, h5⟩ := I.pin p ((List.mem_append.mp h).elim (fun z => List.mem_append_left _ (List.mem_append_left _ z)) fun z => List.mem_append_right _ z)
    refine ⟨h1, h2, ?_, h5⟩
    rcases List.mem_append.mp h with z | z
    · exact ok.pnlow p z
    · exact lo p z⟩
end
/-! ### the protocol -/
/-- others' records are none of the generator's own -/
def Dj (xp ip : List (Addr × Obj)) : Prop := ∀ p ∈ xp, ∀ p' ∈ ip, p.1 ≠ p'.1
def GYZ (G : GD) : Protocol := fun m s₀ v s kap => ∃ (H0 : Hp) (Z0 : Addr → Prop) (H1 : Hp) (x : V) (d : PyData) (own xp : List (Addr × Obj)), G.J (m + 1) s₀ H0 Z0 xp ∧ RelV x v ∧ Rq Z0 H1 x d ∧ G.Yd (G.T - (m + 1)) d ∧ Gives G s₀ H0 xp H1 s ∧ OwnP G own s H1 ∧ Dj xp own ∧
  ∀ s2 H2 Z2 xp2, G.J m s2 H2 Z2 xp2 → Wakeable G own H1 Z0 H2 Z2 xp2 s2 → kap (.send .none) s2
def GRZ (G : GD) : GenEnd := fun n s₀ r s => ((r = .ok (.ret .none) ∨ r = .ok .next) ∧ ∃ H0 Z0 H1 xp, G.J n s₀ H0 Z0 xp ∧ Gives G s₀ H0 xp H1 s ∧ G.Qd (G.T - n)) ∨
  ∃ e H0 Z0 xp, r = .error e ∧ G.J n s₀ H0 Z0 xp ∧ CXP G.P G.w G.outer H0 (cut G.n0 s₀) (G.E H0 Z0) (G.pn ++ xp) e s ∧ s.heap.IsGen G.a G.g
/-- where a segment stands: turns, the heap and what was owned where it was woken -/
structure Pt where
  i : Nat
  H0 : Hp
  Z0 : Addr → Prop
  xp : List (Addr × Obj)
structure GZ where
  nx : Pt → L2.St → Hp → Prop
  bk : Pt → L2.St → Hp → Prop
  ct : Pt → L2.St → Hp → Prop
abbrev TZ := GZ → Pt → L2.St → Hp → Prop
abbrev SegZ (G : GD) (n : Nat) (s₀ : Shared) (c : Code) (t : Sem PySem.Fin) (fs : List Frame) (s : Shared) : Prop := Seg (model G.P G.w) G.A (GRZ G) (GYZ G) n s₀ c t fs s
structure Stands (G : GD) (n : Nat) (q : Pt) (s₀ : Shared) : Prop where
  cnt : n + q.i = G.T
  j : G.J n s₀ q.H0 q.Z0 q.xp
  sz : G.n0 ≤ s₀.heap.objs.size
  xpn : ∀ p ∈ q.xp, p.1 ≠ G.n0 ∧ ∀ p' ∈ G.pn, p.1 ≠ p'.1
def GSPz (G : GD) (ip : List (Addr × Obj)) (D : GZ) (s₀ : Shared) (q : Pt) (f : Flow) (s : Shared) : Prop := match f with
  | .next => ∃ σ H, Inv (G.X (cut G.n0 s₀) q.H0 q.Z0 q.xp) ip σ H s ∧ D.nx q σ H
  | .brk => ∃ σ H, Inv (G.X (cut G.n0 s₀) q.H0 q.Z0 q.xp) ip σ H s ∧ D.bk q σ H
  | .cont => ∃ σ H, Inv (G.X (cut G.n0 s₀) q.H0 q.Z0 q.xp) ip σ H s ∧ D.ct q σ H
  | .ret _ => False
structure WC (G : GD) (c : Code) (fs : List Frame) (gd : Bool → Bool) : Prop where
  over : G.A.over c fs = G.A.deeper G.env
  split : splitAtGen fs = none
  guard : fs.any Frame.guarded = false
  gd : gd false = false
structure WK (G : GD) (ip : List (Addr × Obj)) (c : Code) (fs : List Frame) (K : Flow → Sem PySem.Fin) (J : Value → Sem PySem.Fin) (D : GZ) : Prop where
  ok : ∀ n q s₀ s f, Stands G n q s₀ → Dj q.xp ip → GSPz G ip D s₀ q f s → SegZ G n s₀ c (K f) fs s
  exc : ∀ n q s₀ e s, Stands G n q s₀ → (G.X (cut G.n0 s₀) q.H0 q.Z0 q.xp).xe e s → SegZ G n s₀ c (J e) fs s
structure GW (G : GD) (st : Stmt) (t : TZ) : Prop where
  run : GOk G → ∀ (ip : List (Addr × Obj)) (n : Nat) (q : Pt) (s₀ : Shared) (c : Code) (fs : List Frame) (K : Flow → Sem PySem.Fin) (J : Value → Sem PySem.Fin) (gd : Bool → Bool) (lv : List Value → List Value) (s : Shared) (σ : L2.St) (H : Hp) (D : GZ),
    WC G c fs gd → Stands G n q s₀ → WK G ip c fs K J D → (∀ p ∈ ip, G.n0 ≤ p.1) → Dj q.xp ip → Inv (G.X (cut G.n0 s₀) q.H0 q.Z0 q.xp) ip σ H s → t D q σ H → SegZ G n s₀ c ((exec st G.env).wrap K J gd lv) fs s
structure GWs (G : GD) (st : List Stmt) (t : TZ) : Prop where
  run : GOk G → ∀ (ip : List (Addr × Obj)) (n : Nat) (q : Pt) (s₀ : Shared) (c : Code) (fs : List Frame) (K : Flow → Sem PySem.Fin) (J : Value → Sem PySem.Fin) (gd : Bool → Bool) (lv : List Value → List Value) (s : Shared) (σ : L2.St) (H : Hp) (D : GZ),
    WC G c fs gd → Stands G n q s₀ → WK G ip c fs K J D → (∀ p ∈ ip, G.n0 ≤ p.1) → Dj q.xp ip → Inv (G.X (cut G.n0 s₀) q.H0 q.Z0 q.xp) ip σ H s → t D q σ H → SegZ G n s₀ c ((execs st G.env).wrap K J gd lv) fs s
section
variable {G : GD} {st : Stmt} {rest : List Stmt}
def GZ.at (D : GZ) (q : Pt) : Ends := { nx := D.nx q, rt := fun _ _ => False, bk := D.bk q, ct := D.ct q }
/-- a reading by where the segment began -/
abbrev ByZ (α : Type) := Hp → (Addr → Prop) → α
def tZP (t : ByZ TS) : TZ := fun D q σ H => t q.H0 q.Z0 (D.at q) σ H
theorem gw_ps {t : ByZ TS} (h : ∀ s H Z xp, PS (G.X s H Z xp) st (t H Z)) : GW G st (tZP t) := by
  refine ⟨fun ok ip n q s₀ c fs K J gd lv s σ H D g hs k lo dj I ht => ?_⟩
  refine seg_wrap ?_
  rw [g.over]
  refine wpAny_mono ((h _ _ _ _).run ip s σ H (D.at q) I ht) (fun f s' hs' => k.ok n q s₀ s' f hs dj ?_) fun x s' hx => k.exc n q s₀ x s' hs hx
  cases f with
  | next => exact hs'
  | brk => exact hs'
  | cont => exact hs'
  | ret u => obtain ⟨_, _, _, _, _, z⟩ := hs'; exact z
def tZ0 : TZ := fun D q σ H => D.nx q σ H
theorem gws_nil : GWs G [] tZ0 := by
  refine ⟨fun ok ip n q s₀ c fs K J gd lv s σ H D g hs k lo dj I ht => ?_⟩
  exact seg_execs_nil (k.ok n q s₀ s .next hs dj ⟨σ, H, I, ht⟩)
def tZThen (t u : TZ) : TZ := fun D q σ H => t { D with nx := fun q' σ' H' => u D q' σ' H' } q σ H
theorem gws_cons {t u : TZ} (a : GW G st t) (b : GWs G rest u) : GWs G (st :: rest) (tZThen t u) := by
  refine ⟨fun ok ip n q s₀ c fs K J gd lv s σ H D g hs k lo dj I ht => ?_⟩
  refine seg_execs_cons ?_
  refine a.run ok ip n q s₀ c fs _ J gd lv s σ H { D with nx := fun q' σ' H' => u D q' σ' H' } g hs ⟨fun n' q' s₀' s' f hs' dj' hf => ?_, k.exc⟩ lo dj I ht
  cases f with
  | next =>
    obtain ⟨σ', H', I', z⟩ := hf
    exact b.run ok ip n' q' s₀' c fs K J gd lv s' σ' H' D g hs' k lo dj' I' z
  | brk => exact k.ok n' q' s₀' s' .brk hs' dj' hf
  | cont => exact k.ok n' q' s₀' s' .cont hs' dj' hf
  | ret u => exact False.elim hf
end
end VL
set_option Elab.async false
set_option linter.all false
set_option maxRecDepth 100000
set_option maxHeartbeats 4000000
/-! VL106: loops in a generator that sleeps while its consumer runs -/
namespace VL
open PySem PySem.Spec PyProof.Rows L2 GenW
section
variable {G : GD} {ip : List (Addr × Obj)} {c c' : Code} {fs : List Frame} {K : Flow → Sem PySem.Fin} {J : Value → Sem PySem.Fin} {gd : Bool → Bool} {lv : List Value → List Value} {D : GZ} {n : Nat} {q : Pt} {s₀ s : Shared} {e : Value} {p : Pos}
end
section
variable {G : GD}
end
end VL
set_option Elab.async false
set_option linter.all false
set_option maxRecDepth 100000
set_option maxHeartbeats 4000000
/-! VL107: readings of such a generator's body: the number of items that are out -/
namespace VL
open PySem PySem.Spec PyProof.Rows L2 GenW
/-- what is wanted behind a statement, and of each item -/
structure GEz where
  nx : VEnv → Nat → Prop
  bk : VEnv → Nat → Prop
  ct : VEnv → Nat → Prop
  yd : Nat → PyData → Prop
  ex : VEnv → Er → Prop
abbrev VZ := VEnv → Nat → GEz → Prop
abbrev nobody : Addr → Prop := fun _ => False
/-- since then nothing that was shared has changed -/
structure Stay (Hm : Hp) (Zm : Addr → Prop) (H : Hp) (Z : Addr → Prop) : Prop where
  young : ∀ a, Z a → Zm a ∨ Hm a = none
  keep : ∀ a o, Hm a = some o → ¬ Zm a → H a = some o
section
variable {b : Bg} {H H1 H2 : Hp} {Zo Z Z1 Z2 : Addr → Prop} {σ σ' : L2.St} {ρ ρ' : VEnv}
theorem Stay.refl : Stay H Z H Z := ⟨fun _ z => .inl z, fun _ _ e _ => e⟩
theorem Stay.not (x : Stay H Z H1 Z1) {a : Addr} {o : HO} (e : H a = some o) (n : ¬ Z a) : ¬ Z1 a := fun z => (x.young a z).elim n fun q => by rw [e] at q; cases q
theorem Stay.trans (x : Stay H Z H1 Z1) (y : Stay H1 Z1 H2 Z2) : Stay H Z H2 Z2 where
  young := fun a z => by
    rcases y.young a z with h | h
    · exact x.young a h
    · by_cases hz : Z a
      · exact .inl hz
      · cases e : H a with
        | none => exact .inr rfl
        | some o => rw [x.keep a o e hz] at h; cases h
  keep := fun a o e n => y.keep a o (x.keep a o e n) (x.not e n)
theorem Stay.of_fok (v : VOk b Zo Z σ H ρ) (f : FOk b H (Mo Zo Z) Zo Z1 σ' H1 ρ') : Stay H Z H1 Z1 := ⟨f.young v, fun a o e n => f.ext a o e (v.nb n) fun z => n z.1⟩
theorem Stay.of_ex (v : VOk b Zo Z σ H ρ) (x : Ex b H H1) : Stay H Z H1 Z := ⟨fun _ z => .inl z, fun a o e n => x a o e (v.nb n)⟩
theorem Stay.rp (x : Stay H Z H1 Z1) {u : V} {d : D} (r : Rp b Z H u d) : Rp b Z1 H1 u d := r.mono x.young x.keep
end
/-- no name owns anything -/
@[simp] def noOwns : VEnv → Prop
  | [] => True
  | .own _ :: _ => False
  | .un :: r => noOwns r
  | .shr _ :: r => noOwns r
theorem noOwns_at : ∀ {ρ : VEnv} {i : Nat} {d : D}, noOwns ρ → ρ[i]? ≠ some (.own d)
  | [], i, d, _, e => by simp at e
  | .own _ :: r, i, d, h, e => h
  | .un :: r, 0, d, h, e => by simp at e
  | .shr _ :: r, 0, d, h, e => by simp at e
  | .un :: r, i + 1, d, h, e => noOwns_at (ρ := r) (i := i) (d := d) h (by simpa using e)
  | .shr _ :: r, i + 1, d, h, e => noOwns_at (ρ := r) (i := i) (d := d) h (by simpa using e)
structure ZOk (b : Bg) (Hm : Hp) (Zm : Addr → Prop) (q : Pt) (Z : Addr → Prop) (σ : L2.St) (H : Hp) (ρ : VEnv) : Prop where
  f : FOk b q.H0 nobody q.Z0 Z σ H ρ
  st : Stay Hm Zm H Z
structure LkZ (G : GD) (Hm : Hp) (Zm : Addr → Prop) (De : GEz) (D : GZ) : Prop where
  nx : ∀ q Z σ H ρ, ZOk G.b Hm Zm q Z σ H ρ → De.nx ρ q.i → D.nx q σ H
  bk : ∀ q Z σ H ρ, ZOk G.b Hm Zm q Z σ H ρ → De.bk ρ q.i → D.bk q σ H
  ct : ∀ q Z σ H ρ, ZOk G.b Hm Zm q Z σ H ρ → De.ct ρ q.i → D.ct q σ H
  yd : ∀ i d, De.yd i d → G.Yd i d
  ex : ∀ c x (q : Pt) Z σ H ρ er, FOk G.b q.H0 nobody q.Z0 Z σ H ρ → ErRp G.b Z H c x er → De.ex ρ er → G.E q.H0 q.Z0 c x H
def LZ (G : GD) (g : VZ) : TZ := fun D q σ H => ∃ Hm Zm Z ρ De, ZOk G.b Hm Zm q Z σ H ρ ∧ g ρ q.i De ∧ LkZ G Hm Zm De D
def VZt (G : GD) (st : Stmt) (g : VZ) : Prop := GW G st (LZ G g)
def VZs (G : GD) (st : List Stmt) (g : VZ) : Prop := GWs G st (LZ G g)
theorem gw_mono {G : GD} {st : Stmt} {t t' : TZ} (h : GW G st t) (m : ∀ D q σ H, t' D q σ H → t D q σ H) : GW G st t' :=
  ⟨fun ok ip n q s₀ c fs K J gd lv s σ H D g hs k lo dj I ht => h.run ok ip n q s₀ c fs K J gd lv s σ H D g hs k lo dj I (m D q σ H ht)⟩
theorem gws_mono {G : GD} {st : List Stmt} {t t' : TZ} (h : GWs G st t) (m : ∀ D q σ H, t' D q σ H → t D q σ H) : GWs G st t' :=
  ⟨fun ok ip n q s₀ c fs K J gd lv s σ H D g hs k lo dj I ht => h.run ok ip n q s₀ c fs K J gd lv s σ H D g hs k lo dj I (m D q σ H ht)⟩
section
variable {G : GD} {Hm H H1 : Hp} {Zm Z Z' : Addr → Prop} {q : Pt} {σ σ' : L2.St} {ρ ρ' : VEnv} {De : GEz} {D : GZ}
theorem ZOk.ex (f : ZOk G.b Hm Zm q Z σ H ρ) (x : Ex G.b H H1) (g : G.b.G H1) : ZOk G.b Hm Zm q Z σ H1 ρ := ⟨f.f.ex x g, f.st.trans (Stay.of_ex f.f.v x)⟩
theorem ZOk.back (f : ZOk G.b Hm Zm q Z σ H ρ) (f' : FOk G.b H (Mo q.Z0 Z) q.Z0 Z' σ' H1 ρ') : ZOk G.b Hm Zm q Z' σ' H1 ρ' := ⟨f.f.back f', f.st.trans (Stay.of_fok f.f.v f')⟩
theorem LkZ.er (l : LkZ G Hm Zm De D) (f : ZOk G.b Hm Zm q Z σ H ρ) : ∀ c x H' er, Ex G.b H H' → G.b.G H' → ErRp G.b Z H' c x er → De.ex ρ er → G.E q.H0 q.Z0 c x H' := fun c x H' er x1 g1 r z => l.ex c x q Z σ H' ρ er (f.f.ex x1 g1) r z
end
section
variable {G : GD} {st : Stmt} {rest xs zs body : List Stmt} {t : VS} {g u : VZ} {pos yp : Pos}
/-- a statement that hands out nothing -/
@[simp] def zP (t : VS) : VZ := fun ρ i De => t ρ { nx := fun ρ' => De.nx ρ' i, rt := fun _ => False, bk := fun ρ' => De.bk ρ' i, ct := fun ρ' => De.ct ρ' i, ex := De.ex }
theorem vz_ps (h : ∀ s H Z xp, VSt (G.X s H Z xp) G.b (WF (G.E H Z)) st t) : VZt G st (zP t) := gw_mono (gw_ps (t := fun H Z => LS G.b (WF (G.E H Z)) t) h) fun D q σ H ⟨Hm, Zm, Z, ρ, De, f, z, l⟩ =>
  ⟨H, Mo q.Z0 Z, q.Z0, Z, ρ, _, f.f.v.here, z, ⟨fun Z' σ' H' ρ' f' z' => l.nx q Z' σ' H' ρ' (f.back f') z', fun _ _ _ _ _ _ z' => z'.elim, fun Z' σ' H' ρ' f' z' => l.bk q Z' σ' H' ρ' (f.back f') z',
    fun Z' σ' H' ρ' f' z' => l.ct q Z' σ' H' ρ' (f.back f') z', fun c x Z' σ' H' ρ' er f' re z' => l.ex c x q Z' σ' H' ρ' er (f.f.back f') re z'⟩⟩
@[simp] def zNil : VZ := fun ρ i De => De.nx ρ i
theorem vz_nil : VZs G [] zNil := gws_mono gws_nil fun D q σ H ⟨Hm, Zm, Z, ρ, De, f, z, l⟩ => l.nx q Z σ H ρ f z
@[simp] def zThen (g u : VZ) : VZ := fun ρ i De => g ρ i { De with nx := fun ρ' i' => u ρ' i' De }
theorem vz_cons (h : VZt G st g) (k : VZs G rest u) : VZs G (st :: rest) (zThen g u) := gws_mono (gws_cons h k) fun D q σ H ⟨Hm, Zm, Z, ρ, De, f, z, l⟩ =>
  ⟨Hm, Zm, Z, ρ, _, f, z, ⟨fun q' Z' σ' H' ρ' f' z' => ⟨Hm, Zm, Z', ρ', De, f', z', l⟩, l.bk, l.ct, l.yd, l.ex⟩⟩
@[simp] def zIf (c : VB) (g u : VZ) : VZ := fun ρ i De => c ρ (fun k => if k = true then g ρ i De else u ρ i De) (De.ex ρ)
/-- an item: plain data; no name owns anything here -/
@[simp] def zYl (t : VT) : VZ := fun ρ i De => noOwns ρ ∧ t ρ (fun d => ∃ p, d = .py p ∧ De.yd i p ∧ De.nx ρ (i + 1)) (De.ex ρ)
@[simp] def zFor (ti : VIt) (tg : VTg) (tb : VZ) : VZ := fun ρ i De => ti ρ (fun ds => zForGo tg tb ds ρ i De) (De.ex ρ)
where @[simp] zForGo (tg : VTg) (tb : VZ) : List D → VEnv → Nat → GEz → Prop
  | [], ρ, i, De => De.nx ρ i
  | d :: ds, ρ, i, De => tg d ρ fun ρ1 => tb ρ1 i { De with nx := fun ρ2 i2 => zForGo tg tb ds ρ2 i2 De, ct := fun ρ2 i2 => zForGo tg tb ds ρ2 i2 De, bk := De.nx }
end
end VL
set_option Elab.async false
set_option linter.all false
set_option maxRecDepth 100000
set_option maxHeartbeats 4000000
/-! VL108: the promise of a generator def whose consumer runs any code -/
namespace VL
open PySem PySem.Spec PyProof.Rows L2 GenW
/-- the arguments; what is asked of each item by its place; of their number; of an error ahead of them -/
abbrev SZ := List D → (Nat → PyData → Prop) → (Nat → Prop) → (Er → Prop) → Prop
@[simp] def finZ (Y : Nat → PyData → Prop) (Q : Nat → Prop) (E : Er → Prop) : GEz := { nx := fun _ i => Q i, bk := fun _ _ => False, ct := fun _ _ => False, yd := Y, ex := fun _ => E }
/-- an error's wish, by where its segment began -/
def EZ (b : Bg) (Ed : Er → Prop) : Hp → (Addr → Prop) → XK := fun H Z c d H' => ∃ er, Ed er ∧ Ex b H H' ∧ b.G H' ∧ ErRp b Z H' c d er
def GD.use (G : GD) (A : Around) (T : Nat) (J : Cons) (Y : Nat → PyData → Prop) (Q : Nat → Prop) (Ed : Er → Prop) : GD := { G with A := A, E := EZ G.b Ed, T := T, J := J, Yd := Y, Qd := Q }
/-- a generator that has not begun -/
structure MadeZ (P : Program) (w : World) (base : Heap) (k : Nat) (outer : List Env) (b : Bg) (S : SZ) (ds : List D) (H : Hp) (Z : Addr → Prop) (s : Shared) (G : GD) (c : Code) (own : List (Addr × Obj)) (s' : Shared) : Prop where
  is : G.P = P ∧ G.w = w ∧ G.base = base ∧ G.outer = outer ∧ G.n0 = s.heap.objs.size ∧ G.b = b
  gen : s'.heap.IsGen G.a G.g
  at_ : s'.gens[G.g]? = some (.fresh c)
  os : s'.os = s.os
  bare : AllBare s'.gens
  keep : ∀ c o, s.heap.get? c = some o → s'.heap.get? c = some o
  ownp : OwnP G own s' H
  run : ∀ (A : Around) (T : Nat) (J : Cons) (Y : Nat → PyData → Prop) (Q : Nat → Prop) (Ed : Er → Prop), Room k A → A.frames = some outer → S ds Y Q Ed → (∀ i d, Y i d → i < T) → GOk (G.use A T J Y Q Ed) ∧
    ∀ s2 H2 Z2 xp2, J T s2 H2 Z2 xp2 → Wakeable (G.use A T J Y Q Ed) own H Z H2 Z2 xp2 s2 → SegZ (G.use A T J Y Q Ed) T s2 c ((model P w).den c) [] s2
structure GFnZ (P : Program) (w : World) (K : PySem.W.Frag) (mg : Str → Option Value) (base : Heap) (b : Bg) (k : Nat) (f : Addr) (fd : FuncData) (ps : List Str) (S : SZ) : Prop where
  len : ∀ ds Y Q E, S ds Y Q E → ds.length = ps.length
  run : ∀ (A : Around) (outer : List Env) (s : Shared) (H : Hp) (Z : Addr → Prop) (args : Args) (us : List Value) (vs : List V) (ds : List D), Room k A → Env0 P w K mg base A outer s H → BindsTo s fd args (ps.zip us) → Vals vs us → Gd b Z H → Rps b Z H vs ds → ds.length = ps.length →
    codeAny (model P w) A (.call (.ref f) args) (fun r s' => ∃ G c own, r = .ok (.ret (.ref G.a)) ∧ MadeZ P w base k outer b S ds H Z s G c own s') s
section
variable {P : Program} {w : World} {K : PySem.W.Frag} {mg : Str → Option Value} {base : Heap} {b : Bg} {k : Nat} {f : Addr} {name qual : Str} {params : Arguments} {body : List Stmt} {scope : Scope} {dV kV doc pm cdv ct oc : Value} {an od : Option Addr} {osl : Array (Option Value)} {N ps : List Str} {S : SZ} {g : VZ}
theorem ErRp.less {Z Z' : Addr → Prop} {H : Hp} {c : Value} {d : Option Addr} {er : Er} (h : ∀ a, Z' a → Z a) (r : ErRp b Z H c d er) : ErRp b Z' H c d er := by
  obtain ⟨h1, h2⟩ := r
  refine ⟨h1, h2.imp id ?_⟩
  rintro ⟨a, xs, e1, e2, e3, e4⟩
  exact ⟨a, xs, e1, e2, fun z => e3 (h a z), e4.mono (fun c z => .inl (h c z)) fun _ _ e _ => e⟩
theorem gfnz_of (lk : K.lookup f = some ⟨oc, od, .func (PySem.W.fnOf name qual params body scope dV kV doc pm an cdv ct), osl⟩) (hcd : PySem.W.codeIn K cdv qual = true) (Sc : GScope N ps scope) (hcell : ∀ n, cellsFrom n scope.names [] = [])
    (len : ∀ ds Y Q E, S ds Y Q E → ds.length = ps.length) (hps : ps.length ≤ N.length)
    (hbody : ∀ (A : Around) (outer : List Env) (n0 : Addr) (E : Hp → (Addr → Prop) → XK) (pn : List (Addr × Obj)) (a : Addr) (gi T : Nat) (J : Cons) (Y : Nat → PyData → Prop) (Q : Nat → Prop), Room k (A.deeper (envOfC qual scope n0 f cdv)) →
      VZs (GD.mk P w K mg base N qual scope f cdv A outer n0 E pn b a gi T J Y Q) body g)
    (hlaw : ∀ ds Y Q E, S ds Y Q E → g (envOf N.length ds) 0 (finZ Y Q E)) :
    GFnZ P w K mg base b (k + 1) f (PySem.W.fnOf name qual params body scope dV kV doc pm an cdv ct) ps S := by
  refine ⟨len, fun A outer s H Z args us vs ds hr e0 hb r gd rp hl0 => ?_⟩
  have hl : vs.length = ps.length := rp.length.trans hl0
  have KX : K.In s.heap := e0.mod.kin.keeps fun b o e => (e0.bs b o e).1
  have lim : s.heap.NoLimit := e0.mod.nolimit.keeps fun b o e => (e0.bs b o e).1
  have hkind : ∀ y ∈ ps.zip us, scope.names.lookup y.1 = some .local ∨ (scope.names.lookup y.1 = some .cell ∧ ((cellsFrom (s.heap.objs.size + 1) scope.names []).lookup y.1).isSome = true) := fun ⟨n, v⟩ hy => by
    rcases Sc.par n (List.of_mem_zip hy).1 with q | q
    · exact .inl q
    · exact .inr ⟨q, PySem.W.cellsFrom_some _ _ _ (.inl q)⟩
  refine codeAny_call_generator hr.depth (KX _ _ lk) rfl Sc.co Sc.gen rfl (PySem.W.codeRec_of KX hcd) (hb _ _ _ _ ?_)
  refine wpAny_newFunctionEnv_cells Sc.kind hkind fun env he s1 x => ?_
  subst he
  have lim1 : s1.heap.NoLimit := lim.keeps x.toInCall.keep
  refine ⟨lim1, ?_⟩
  obtain ⟨h1, tk, es1, hk1⟩ := x.done
  have os1 : s1.os = s.os := by rw [es1]
  have gen1 : s1.gens = s.gens := by rw [es1]
  have lt1 : s.heap.objs.size < s1.heap.objs.size := x.toInCall.ns.lt
  have sz1 : s.heap.objs.size ≤ s1.heap.objs.size := Nat.le_of_lt lt1
  have kp1 : ∀ b o, s.heap.get? b = some o → s1.heap.get? b = some o := x.toInCall.keep
  have main : ∀ (go : Obj) (nm qn : Value) (tk2 : Nat) (sE : Shared), go.cls = .type "generator" → go.data = .fields #[.int s1.gens.size 0, nm, qn] → go.slots = #[] → (∀ h : Heap, (h.push go).get? h.objs.size = some go) →
      sE = { s1 with gens := s1.gens.push (.fresh (.func body (envOfC qual scope s.heap.objs.size f cdv))), toks := tk2, heap := s1.heap.push go } →
      ∃ G c own, (.ok (.ret (.ref s1.heap.objs.size)) : Result) = .ok (.ret (.ref G.a)) ∧ MadeZ P w base (k + 1) outer b S ds H Z s G c own sE := by
    intro go nm qn tk2 sE hgc hgd0 hgs hgp hsE
    have hgen : ∀ h : Heap, h.get? s1.heap.objs.size = some go → h.IsGen s1.heap.objs.size s1.gens.size := fun h e => ⟨go, nm, qn, e, hgc, hgd0, hgs⟩
    have hpushed : sE.heap.get? s1.heap.objs.size = some go := by rw [hsE]; exact hgp _
    have kpE : ∀ b o, s1.heap.get? b = some o → sE.heap.get? b = some o := fun b o e => by rw [hsE]; exact Heap.get?_push_of_some _ e
    have bareE : AllBare sE.gens := by rw [hsE]; exact AllBare.push (by rw [gen1]; exact e0.bare) rfl
    have hgd : ∀ v, go.data ≠ .cell v := fun v q => by rw [hgd0] at q; cases q
    -- the state as the body finds it
    have inv : ∀ (Aw : Around) (E : XK), Aw.handled = none → Aw.frames = some outer → Inv (gcxN P w K mg base N qual scope f cdv Aw outer s.heap.objs.size s H E [(s1.heap.objs.size, go)]) [] (start N vs) H sE := fun Aw E hh hfr => by
      have e0w : Env0 P w K mg base Aw outer s H := ⟨hfr, e0.mod, e0.bs, e0.bsz, e0.funs, e0.frf, e0.hok, e0.bare⟩
      have I1 : Inv (gcxOf P w K mg base N qual scope f cdv Aw outer s H E []) [] (start N vs) H s1 := inv_startG Sc hh e0w hl r x
      have I2 : Inv (gcxOf P w K mg base N qual scope f cdv Aw outer s H E []) [] (start N vs) H sE :=
        I1.call' (ch := []) (by rw [hsE]) (Un.kept kpE) (I1.hok.kept kpE) bareE fun b z => by simp at z
      have o := I2.ok
      refine ⟨⟨o.mod, o.kind, o.glob, o.blt, o.above, o.inj, o.has, o.cab, o.hd, o.frames, o.stk, o.exf, o.bs, o.bsz, o.noex, o.exfs, o.funs, o.frf⟩, I2.os, I2.bare, I2.base, I2.loc, I2.cell, I2.free, I2.freeC, fun p hp => ?_, I2.hok, I2.len⟩
      have hp : p ∈ [(s1.heap.objs.size, go)] ++ [] := hp
      have e : p = (s1.heap.objs.size, go) := by simpa using hp
      rw [e]
      exact ⟨hpushed, I1.hok.fresh (Nat.le_refl _), Nat.ne_of_gt lt1, I1.nofs (Nat.le_refl _), hgd⟩
    have I0 := inv (A) (fun _ _ _ => False) hr.hd e0.frames
    refine ⟨⟨P, w, K, mg, base, N, qual, scope, f, cdv, A, outer, s.heap.objs.size, fun _ _ _ _ _ => False, [(s1.heap.objs.size, go)], b, s1.heap.objs.size, s1.gens.size, 0, fun _ _ _ _ _ => False, fun _ _ => False, fun _ => False⟩, _,
      pinsAt [s.heap.objs.size] sE.heap ++ ([(s1.heap.objs.size, go)] ++ []), rfl, ⟨rfl, rfl, rfl, rfl, rfl, rfl⟩, hgen _ hpushed, by rw [hsE]; exact Array.getElem?_push_size .., by rw [hsE]; exact os1, bareE, fun b o e => kpE b o (kp1 b o e), ⟨⟨go, List.mem_append_right _ (List.mem_append_left _ (List.mem_singleton.mpr rfl))⟩, fun p hp => ?_⟩, ?_⟩
    · rcases List.mem_append.mp hp with h | h
      · obtain ⟨z1, z2⟩ := of_pinsAt h
        have e : p.1 = s.heap.objs.size := List.mem_singleton.mp z1
        obtain ⟨m, ⟨oL, es, ep, hoL, hd, rL⟩, _⟩ := id I0.loc
        have hoL : sE.heap.get? s.heap.objs.size = some oL := hoL
        refine ⟨z2, by rw [e]; exact I0.free, Nat.le_of_eq e.symm, fun v q => ?_⟩
        rw [e, hoL] at z2
        have z2 := Option.some.inj z2
        rw [← z2, hd] at q
        cases q
      · have e : p = (s1.heap.objs.size, go) := by simpa using h
        rw [e]
        exact ⟨hpushed, (I0.pin (s1.heap.objs.size, go) (by simp [gcxN])).2.1, sz1, hgd⟩
    · intro Aw T J Y Q Ed hrw hfr hS hT
      have ok : GOk (GD.use ⟨P, w, K, mg, base, N, qual, scope, f, cdv, A, outer, s.heap.objs.size, fun _ _ _ _ _ => False, [(s1.heap.objs.size, go)], b, s1.heap.objs.size, s1.gens.size, 0, fun _ _ _ _ _ => False, fun _ _ => False, fun _ => False⟩ Aw T J Y Q Ed) :=
        { nocell := fun x c e => by
            have e : (cellsFrom (s.heap.objs.size + 1) scope.names []).lookup x = some c := e
            rw [hcell] at e
            cases e
          low := fun b hb => by
            obtain ⟨_, o, ho, _⟩ := e0.funs.mem hb
            exact Heap.lt_size ho
          pnlow := fun p hp => by
            have e : p = (s1.heap.objs.size, go) := List.mem_singleton.mp hp
            rw [e]; exact sz1
          gen := fun h hp => hgen h (hp (s1.heap.objs.size, go) (List.mem_singleton.mpr rfl))
          apn := ⟨go, List.mem_singleton.mpr rfl⟩
          yT := hT }
      refine ⟨ok, fun s2 H2 Z2 xp2 j2 w2 => ?_⟩
      have ht := hbody Aw outer s.heap.objs.size (EZ b Ed) [(s1.heap.objs.size, go)] s1.heap.objs.size s1.gens.size T J Y Q (hrw.deeper _)
      have I3 := wake_inv (s0 := s) (H0 := H) (Z0 := Z) (xp := []) ok (inv Aw (EZ b Ed H Z) hrw.hd hfr) w2
      have v0 : VOk b Z2 Z2 (start N vs) H2 (envOf N.length ds) := VOk.entry ⟨w2.nap.g, w2.nap.zb, w2.nap.dom⟩ (rp.mono w2.nap.young w2.nap.keep) (Nat.le_trans (Nat.le_of_eq hl) hps)
      refine seg_func ?_
      refine ht.run ok [] T ⟨0, H2, Z2, xp2⟩ s2 _ [] _ _ id id s2 (start N vs) H2 { nx := fun q σ H => Q q.i ∧ Ex b q.H0 H ∧ b.G H, bk := fun _ _ _ => False, ct := fun _ _ _ => False } ⟨over_func, rfl, rfl, rfl⟩ ⟨Nat.add_zero _, j2, w2.sz, fun p hp => ⟨(w2.xok p hp).2.2.1, fun p' hp' => (w2.xok p hp).2.2.2.2.2 p' (List.mem_append_right _ (List.mem_append_left _ hp'))⟩⟩ ⟨fun n q s₀ s' fl hs _ hf => ?_, fun n q s₀ e s' hs hx => ?_⟩ (fun p hp => by simp at hp) (fun p _ p' hp' => by simp at hp') I3
        ⟨H2, Z2, Z2, _, _, ⟨⟨v0, fun _ _ e _ _ => e, fun i d a e _ => by rcases envOf_at e with h | ⟨d', h, _⟩ <;> cases h⟩, Stay.refl⟩, hlaw ds Y Q Ed hS, ⟨fun q Z' σ' H' ρ' f' z' => ⟨z', fun a o e nb => f'.f.ext a o e nb fun z => z, f'.f.v.g⟩, fun _ _ _ _ _ _ z => z.elim, fun _ _ _ _ _ _ z => z.elim, fun _ _ z => z, fun c x q Z' σ' H' ρ' er f' re z' =>
          ⟨er, z', fun a o e nb => f'.ext a o e nb fun z => z, f'.v.g, re.less f'.v.zo⟩⟩⟩
      · cases fl with
        | next =>
          obtain ⟨σ', H', I', z1, z2, z3⟩ := hf
          refine seg_end (.ok (.ret .none)) (.inl ⟨.inl rfl, q.H0, q.Z0, H', q.xp, hs.j, gives_of ok I' z2 z3, ?_⟩)
          have en := hs.cnt
          have en : n + q.i = T := en
          have e : T - n = q.i := by omega
          show Q (T - n)
          rw [e]; exact z1
        | brk => obtain ⟨_, _, _, z⟩ := hf; exact False.elim z
        | cont => obtain ⟨_, _, _, z⟩ := hf; exact False.elim z
        | ret u => exact False.elim hf
      · refine seg_wrap ?_
        show wpAny _ (Aw.over (.func body (envOfC qual scope s.heap.objs.size f cdv)) []) _ _ _ _
        rw [over_func]
        refine wpAny_mono (show wpAny (model P w) (Aw.deeper (envOfC qual scope s.heap.objs.size f cdv)) (leaving (envOfC qual scope s.heap.objs.size f cdv) e) (fun _ s'' => CXP P w outer q.H0 (cut s.heap.objs.size s₀) (EZ b Ed q.H0 q.Z0) ([(s1.heap.objs.size, go)] ++ q.xp) e s'') (fun _ _ => False) s' from hx) (fun _ s'' z => ?_) fun _ s'' z => z.elim
        refine seg_end (.error e) (.inr ⟨e, q.H0, q.Z0, q.xp, rfl, hs.j, z, ?_⟩)
        obtain ⟨_, Bh, _, _, _, _, fl, _, _, _, _, _, _, pb⟩ := z
        exact hgen _ (fl.1 _ _ (pb (s1.heap.objs.size, go) (List.mem_append_left _ (List.mem_singleton.mpr rfl))).1)
  exact main _ _ _ _ _ rfl rfl rfl (fun h => Heap.get?_push_size _ rfl) rfl
end
end VL
set_option Elab.async false
set_option linter.all false
set_option maxRecDepth 100000
set_option maxHeartbeats 4000000
/-! VL109: the consumer's turn: next of such a generator; it sleeps behind it, and stays as it is through any code -/
namespace VL
open PySem PySem.Spec PyProof.Rows L2 GenW
open Sem (wp)
/-- how the sleeper goes on -/
def kapZ (M : Model) (B : Around) (Rr : GenEnd) (Yy : Protocol) : Nat → GenState → Resume → Shared → Prop
  | 0, _, _, _ => False
  | j + 1, gs', r', s'' => gs'.Goes M B Rr Yy j r' s''
theorem resume_z {M : Model} {B : Around} {Rr : GenEnd} {Yy : Protocol} {m : Nat} {Ex' : Value → Shared → Prop} {st : Shared} {g : Nat} {gs : GenState} {r : Resume} {l : List Value} {α : Type} {kk : GenResult → Sem α} {Po : α → Shared → Prop}
    (at_ : st.gens[g]? = some gs) (go : gs.Goes M B Rr Yy m r (st.setGen g .running)) (left : ∀ x s1, Rr m (st.setGen g .running) x s1 → wpAny M B (kk (End.ret x).result) Po Ex' (s1.setGen g .finished))
    (slept : ∀ v s1 gs', gs'.bare = true → isAsleep gs' → Yy (m - 1) (st.setGen g .running) v s1 (kapZ M B Rr Yy m gs') → wpAny M B (kk (.yielded v)) Po Ex' (s1.setGen g gs')) :
    wpAny M B (.resume g r l kk) Po Ex' st := by
  intro Γ p hΓ
  rw [Sem.wp_resume]
  have ending : ∀ e1 s1, SegEnd Rr Yy m (Seg.next M B Rr Yy m) (st.setGen g .running) e1 s1 → e1.quiet = true ∧ wp M Γ (kk e1.result) (fun a _ s' => Po a s') (fun e _ s' => Ex' e s') p (s1.setGen g e1.genState) := fun e1 s1 he => by
    cases e1 with
    | ret x => exact ⟨rfl, left x s1 he Γ p hΓ⟩
    | susp v g0 l0 k0 c0 p0 fs0 =>
      refine ⟨he.1, slept v s1 _ (End.bare_of_quiet he.1) ⟨_, _, _, _, _, _, rfl⟩ ?_ Γ p hΓ⟩
      cases m with
      | zero => exact he.2
      | succ j => exact he.2
  have run : ∀ (c : Code) (p1 : Pos) (t : Sem PySem.Fin) (fs : List Frame), Seg M B Rr Yy m (st.setGen g .running) c t fs (st.setGen g .running) →
      (∀ e1 s1, Runs M (Γ.wake c p) p1 t fs (st.setGen g .running) e1 s1 → e1.quiet = true → Wakes M Γ p g r st e1.result (s1.setGen g e1.genState)) →
      ∃ res s', Wakes M Γ p g r st res s' ∧ wp M Γ (kk res) (fun a _ s' => Po a s') (fun e _ s' => Ex' e s') p s' := fun c p1 t fs hs wk => by
    obtain ⟨e1, s1, hr, he⟩ := seg_iff.mp hs (Γ.wake c p) p1 rfl (hΓ.wake c p)
    obtain ⟨q1, q2⟩ := ending e1 s1 he
    exact ⟨_, _, wk e1 s1 hr q1, q2⟩
  cases gs with
  | fresh c =>
    obtain ⟨er, hs⟩ := go
    subst er
    exact run c p _ _ hs fun e1 s1 hr hq => by unfold Wakes; rw [at_]; exact ⟨e1, s1, hr, hq, rfl, rfl⟩
  | suspended k0 l0 c0 p0 fs0 cl => exact run c0 p0 _ _ go fun e1 s1 hr hq => by unfold Wakes; rw [at_]; exact ⟨e1, s1, hr, hq, rfl, rfl⟩
  | running => exact go.elim
  | finished => exact go.elim
section
variable {P : Program} {w : World} {B : Around} {Ex' : Value → Shared → Prop} {st : Shared}
theorem next_z {a : Addr} {g m : Nat} {gs : GenState} {Rr : GenEnd} {Yy : Protocol} {Po : Option Value → Shared → Prop} (hh : B.handled = none) (hl : st.heap.NoLimit) (room : B.depth < recursionLimit) (isg : st.heap.IsGen a g) (at_ : st.gens[g]? = some gs)
    (go : gs.Goes (model P w) B.in1 Rr Yy m (.send .none) (st.setGen g .running))
    (slept : ∀ v s1 gs', gs'.bare = true → isAsleep gs' → Yy (m - 1) (st.setGen g .running) v s1 (kapZ (model P w) B.in1 Rr Yy m gs') → Po (some v) (s1.setGen g gs'))
    (left : ∀ x s1, Rr m (st.setGen g .running) x s1 → (x = .ok (.ret .none) ∨ x = .ok .next) ∧ (∀ h', (∀ b o, s1.heap.get? b = some o → h'.get? b = some o) → Po none { s1.setGen g .finished with heap := h' }) ∨
      ∃ e, x = .error e ∧ s1.heap.IsGen a g ∧ NotStop (model P w) e s1.heap ∧ Ex' e (s1.setGen g .finished)) :
    wpAny (model P w) B (pyNext (.ref a)) Po Ex' st := by
  unfold pyNext
  refine wpAny_bind (wpAny_attempt (wpAny_callSpecial?_slot (name := Str.ofString "__next__") isg.typeIs slot_gen_next (wpAny_call_entry slot_gen_next isg.typeIs entry_gen_next ?_ (args_gen_next _))))
  show wpAny _ B.in1 (Builtin.Generator.genWake (.ref a) (.send .none)) _ _ st
  unfold Builtin.Generator.genWake
  refine wpAny_bind (wpAny_holding (wpAny_genNumber isg (wpAny_bind (wpAny_genState at_ ?_))))
  cases gs with
  | running => exact go.elim
  | finished => exact go.elim
  | _ =>
    refine wpAny_bind (wpAny_roomToWake hl room ?_)
    show wpAny _ B.in1 (.resume g (.send .none) [] _) _ _ st
    refine resume_z at_ go (fun x s1 hx => ?_) fun v s1 gs' hb ha hv => wpAny_pure ⟨v, rfl, wpAny_pure (slept v s1 gs' hb ha hv)⟩
    rcases left x s1 hx with ⟨hr, hp⟩ | ⟨e, er, isg1, hns, hq⟩
    · have res : End.result (.ret x) = .returned .none := by rcases hr with hr | hr <;> rw [hr] <;> rfl
      first | rw [res] | simp only [res]
      show wpAny _ B.in1 (newExc (.type "StopIteration") [] >>= _) _ _ _
      refine wpAny_bind ?_
      simp only [newExc, newTuple]
      refine wpAny_bind (wpAny_newObj_type ?_ (by size_fits))
      refine wpAny_bind (m := firstArgMember _ _) (wpAny_of_eq (a := Value.none) (by first | rfl | (simp only [firstArgMember]; rfl)) (wpAny_newObj_type ?_ (by size_fits)))
      simp only [raiseNew]
      refine wpAny_bind (wpAny_bind (wpAny_handled ?_))
      first | rw [show B.in1.handled = none from hh] | rw [hh]
      refine wpAny_throw (wpAny_bind (wpAny_isInstance (T := "StopIteration") (b := true) ⟨_, Heap.get?_push_size _ rfl, rfl⟩ isSubtype_stop ?_))
      exact wpAny_pure (hp _ fun b o hb => Heap.get?_push_of_some _ (Heap.get?_push_of_some _ hb))
    · subst er
      obtain ⟨o, nm, qn, ho, hc, hd, hsl⟩ := isg1
      show wpAny _ B.in1 (Builtin.Generator.genLeft (.ref a) e) _ _ _
      unfold Builtin.Generator.genLeft Builtin.Generator.madeByALambda
      refine wpAny_bind (wpAny_bind (wpAny_load (o := o) ho (wpAny_pure (wpAny_bind (hns _ _ _ _ rfl ?_)))))
      rw [Bool.and_false, if_neg Bool.false_ne_true]
      unfold Builtin.Generator.genEscaped
      first
        | refine wpAny_bind (hns _ _ _ _ rfl ?_)
        | refine wpAny_bind (wpAny_pure (wpAny_bind (hns _ _ _ _ rfl ?_)))
      rw [if_pos (show (!false) = true from rfl)]
      first
        | refine wpAny_throw (hns _ _ _ _ rfl ?_)
        | refine wpAny_throw (wpAny_bind (hns _ _ _ _ rfl ?_))
        | refine wpAny_bind (wpAny_throw (wpAny_bind (hns _ _ _ _ rfl ?_)))
      rw [if_neg Bool.false_ne_true]
      exact wpAny_throw hq
end
end VL
set_option Elab.async false
set_option linter.all false
set_option maxRecDepth 100000
set_option maxHeartbeats 4000000
/-! VL110: the consumer: what it keeps while it runs, the turn -/
namespace VL
open PySem PySem.Spec PyProof.Rows L2 GenW
section
variable {X : Cx} {pins : List (Addr × Obj)} {σ : L2.St} {H : Hp} {s : Shared}
theorem _root_.L2.Inv.gensZ {g' : Array GenState} (I : Inv X pins σ H s) (h : AllBare g') : Inv X pins σ H { s with gens := g' } := ⟨I.ok, I.os, h, I.base, I.loc, I.cell, I.free, I.freeC, I.pin, I.hok, I.len⟩
theorem _root_.L2.Inv.trI {pn : List (Addr × Obj)} {xe : Value → Shared → Prop} (e : pn = X.pn) (I : Inv X pins σ H s) : Inv (X.tr pn xe) pins σ H s := by
  subst e
  exact ⟨I.ok.toTry _ _, I.os, I.bare, I.base, I.loc, I.cell, I.free, I.freeC, I.pin, I.hok, I.len⟩
theorem _root_.L2.Inv.trO {pn : List (Addr × Obj)} {xe : Value → Shared → Prop} (e : pn = X.pn) (I : Inv (X.tr pn xe) pins σ H s) : Inv X pins σ H s := by
  subst e
  exact ⟨⟨I.ok.mod, I.ok.kind, I.ok.glob, I.ok.blt, I.ok.above, I.ok.inj, I.ok.has, I.ok.cab, I.ok.hd, I.ok.frames, I.ok.stk, I.ok.exf, I.ok.bs, I.ok.bsz, I.ok.noex, I.ok.exfs, I.ok.funs, I.ok.frf⟩, I.os, I.bare, I.base, I.loc, I.cell, I.free, I.freeC, I.pin, I.hok, I.len⟩
end
/-- all that sleeps stays as it is -/
def KeptG (s s' : Shared) : Prop := ∀ (i : Nat) (y : GenState), s.gens[i]? = some y → isAsleep y → s'.gens[i]? = some y
theorem sleepers_of {s : Shared} {i : Nat} {y : GenState} (e : s.gens[i]? = some y) (n : isAsleep y) : sleepers s i = some y := by
  obtain ⟨k, l, c, p, fs, cl, rfl⟩ := n
  exact sleepers_at e
theorem kept_ov {s z : Shared} (d : Dorm (sleepers s) z.gens) : KeptG s (ovS (sleepers s) z) := fun i y e n => ovG_some d (sleepers_of e n)
theorem bare_numbed {s : Shared} (h : AllBare s.gens) : AllBare (numbed s).gens := fun y hy => by
  obtain ⟨x, hx, rfl⟩ := Array.mem_map.mp hy
  rw [numb_bare]
  exact h x hx
theorem bare_ov {s z : Shared} (h : AllBare s.gens) (k : AllBare z.gens) : AllBare (ovS (sleepers s) z).gens := fun y hy => by
  obtain ⟨i, hi, e⟩ := Array.mem_iff_getElem.mp hy
  have e' : (ovG (sleepers s) z.gens)[i]? = some y := by rw [← e]; exact Array.getElem?_eq_getElem hi
  rw [ovG_get] at e'
  cases q : z.gens[i]? with
  | none => rw [q] at e'; cases e'
  | some x =>
    rw [q] at e'
    cases r : sleepers s i with
    | none =>
      rw [r] at e'
      have e' : x = y := Option.some.inj e'
      rw [← e']
      exact k x (Array.mem_of_getElem? q)
    | some x' =>
      rw [r] at e'
      have e' : x' = y := Option.some.inj e'
      rw [← e']
      exact h x' (Array.mem_of_getElem? (sleepers_some r).2)
section
variable {X : Cx} {pins : List (Addr × Obj)} {σ : L2.St} {H : Hp} {s : Shared} {xe : Value → Shared → Prop}
abbrev nix : Value → Shared → Prop := fun _ _ => False
/-- a suite that lets no exception out, run over sleepers -/
theorem sp_sleep {body : List Stmt} {t : TS} {D : Ends} {E' : Value → Shared → Prop} (h : PSs (X.tr X.pn nix) body t) (I : Inv X pins σ H s) (ht : t D σ H) :
    wpAny (model X.prog X.w) X.A (execs body X.env) (fun f s' => SP X pins D f s' ∧ KeptG s s') E' s := by
  refine wpAny_mono (wpAny_sleep (h.run pins (numbed s) σ H D ((I.trI rfl).gensZ (bare_numbed I.bare)) ht)) (fun f s' ⟨z, e, d, q⟩ => ?_) fun e s' ⟨z, _, _, q⟩ => q.elim
  subst e
  refine ⟨?_, kept_ov d⟩
  have up : ∀ {σ' : L2.St} {H' : Hp}, Inv (X.tr X.pn nix) pins σ' H' z → Inv X pins σ' H' (ovS (sleepers s) z) := fun I' => (I'.trO rfl).gensZ (bare_ov I.bare I'.bare)
  cases f with
  | next => obtain ⟨σ', H', I', q⟩ := q; exact ⟨σ', H', up I', q⟩
  | brk => obtain ⟨σ', H', I', q⟩ := q; exact ⟨σ', H', up I', q⟩
  | cont => obtain ⟨σ', H', I', q⟩ := q; exact ⟨σ', H', up I', q⟩
  | ret v => obtain ⟨x, σ', H', I', r, q⟩ := q; exact ⟨x, σ', H', up I', r, q⟩
theorem pg_sleep {tg : Expr} {g : TG} {x : V} {u : Value} {Q : L2.St → Hp → Prop} {E' : Value → Shared → Prop} (h : PG (X.tr X.pn nix) tg g) (I : Inv X pins σ H s) (r : RelV x u) (ht : g x σ H Q) :
    wpAny (model X.prog X.w) X.A (assign tg X.env u) (fun _ s' => (∃ σ' H', Inv X pins σ' H' s' ∧ Q σ' H') ∧ KeptG s s') E' s := by
  refine wpAny_mono (wpAny_sleep (h.run pins (numbed s) σ H x u Q ((I.trI rfl).gensZ (bare_numbed I.bare)) r ht)) (fun _ s' ⟨z, e, d, σ', H', I', q⟩ => ?_) fun e s' ⟨z, _, _, q⟩ => q.elim
  subst e
  exact ⟨⟨σ', H', (I'.trO rfl).gensZ (bare_ov I.bare I'.bare), q⟩, kept_ov d⟩
end
/-- a generator of ours that sleeps (or has not begun): it goes on from each state that is like this -/
structure SleepsAt (G : GD) (n : Nat) (own : List (Addr × Obj)) (H1 : Hp) (Z1 : Addr → Prop) (s : Shared) : Prop where
  gen : s.heap.IsGen G.a G.g
  at_ : ∃ gs, s.gens[G.g]? = some gs ∧ ∀ s2 H2 Z2 xp, G.J n s2 H2 Z2 xp → Wakeable G own H1 Z1 H2 Z2 xp s2 → gs.Goes (model G.P G.w) G.A (GRZ G) (GYZ G) n (.send .none) s2
/-- the consumer's context and the generator's -/
structure Feeds (G : GD) (X : Cx) : Prop where
  P : G.P = X.prog
  w : G.w = X.w
  base : G.base = X.base
  outer : G.outer = X.stack
  A : G.A = X.A.in1
  hd : X.A.handled = none
  dp : X.A.depth < recursionLimit
section
variable {G : GD} {X : Cx} {pins : List (Addr × Obj)} {σ : L2.St} {H H1 : Hp} {Z Z1 : Addr → Prop} {s : Shared} {own xp : List (Addr × Obj)} {n m : Nat}
abbrev awake (G : GD) (s : Shared) : Shared := s.setGen G.g .running
theorem turn_z {Po : Option Value → Shared → Prop} {E : Value → Shared → Prop} (F : Feeds G X) (I : Inv X pins σ H s) (ko : ∀ p ∈ own, s.heap.get? p.1 = some p.2 ∧ H p.1 = none) (nap : Naps G.b H1 Z1 H Z) (hz : G.n0 ≤ s.heap.objs.size)
    (sl : SleepsAt G (m + 1) own H1 Z1 s) (j : G.J (m + 1) (awake G s) H Z xp) (xok : ∀ p ∈ xp, s.heap.get? p.1 = some p.2 ∧ H p.1 = none ∧ p.1 ≠ G.n0 ∧ p.1 ∉ frs G.outer ∧ (∀ v, p.2.data ≠ .cell v) ∧ ∀ p' ∈ own, p.1 ≠ p'.1)
    (item : ∀ H0 Z0 xp0 v x d H2 own2 s1 gs', G.J (m + 1) (awake G s) H0 Z0 xp0 → RelV x v → Rq Z0 H2 x d → G.Yd (G.T - (m + 1)) d → Gives G (awake G s) H0 xp0 H2 s1 → OwnP G own2 s1 H2 → Dj xp0 own2 → isAsleep gs' → gs'.bare = true → (s1.setGen G.g gs').gens[G.g]? = some gs' →
      SleepsAt G m own2 H2 Z0 (s1.setGen G.g gs') → Po (some v) (s1.setGen G.g gs'))
    (done : ∀ H0 Z0 xp0 H2 s1 h', G.J (m + 1) (awake G s) H0 Z0 xp0 → Gives G (awake G s) H0 xp0 H2 s1 → G.Qd (G.T - (m + 1)) → (∀ b o, s1.heap.get? b = some o → h'.get? b = some o) → Po none { s1.setGen G.g .finished with heap := h' })
    (fails : ∀ e H0 Z0 xp0 s1, G.J (m + 1) (awake G s) H0 Z0 xp0 → CXP G.P G.w G.outer H0 (cut G.n0 (awake G s)) (G.E H0 Z0) (G.pn ++ xp0) e s1 → NotStop (model G.P G.w) e s1.heap ∧ E e (s1.setGen G.g .finished)) :
    wpAny (model X.prog X.w) X.A (pyNext (.ref G.a)) Po E s := by
  obtain ⟨gen, gs, at_, go⟩ := sl
  have hlt : G.g < s.gens.size := (Array.getElem?_eq_some_iff.mp at_).1
  have bare' : AllBare (awake G s).gens := allBare_setGen I.bare rfl
  have w0 : Wakeable G own H1 Z1 H Z xp (awake G s) := ⟨nap, bare', fun b o e => by rw [F.base] at e; exact I.bs b o e, by rw [F.base, F.outer]; exact I.stack, fun b hb => by rw [F.outer] at hb; exact I.stkFree b hb, by rw [F.P, F.w]; exact I.hok, ko, hz, xok⟩
  have go1 := go (awake G s) H Z xp j w0
  have sz0 : G.g + 1 ≤ s.gens.size := hlt
  rw [← F.P, ← F.w]
  refine wpAny_gsz (n := G.g + 1) sz0 ?_
  rw [F.A] at go1
  refine next_z F.hd I.nolimit F.dp gen at_ go1 (fun v s1 gs' hb ha hv hsz => ?_) fun x s1 hx => ?_
  · obtain ⟨H0, Z0, H2, xv, d, own2, xp0, j0, rv, rq, yd, gv, ow, dj, k⟩ := hv
    have hsz : G.g + 1 ≤ (s1.setGen G.g gs').gens.size := hsz
    rw [setGen_size] at hsz
    have at2 : (s1.setGen G.g gs').gens[G.g]? = some gs' := setGen_at hsz
    refine item H0 Z0 xp0 v xv d H2 own2 s1 gs' j0 rv rq yd gv ow dj ha hb at2 ⟨gv.gen, gs', at2, fun s2 H3 Z3 xp3 j3 w3 => ?_⟩
    rw [F.A]
    exact k s2 H3 Z3 xp3 j3 w3
  · rcases hx with ⟨hr, H0, Z0, H2, xp0, j0, gv, qd⟩ | ⟨e, H0, Z0, xp0, er, j0, cx, isg⟩
    · exact .inl ⟨hr, fun h' hk _ => done H0 Z0 xp0 H2 s1 h' j0 gv qd hk⟩
    · obtain ⟨q1, q2⟩ := fails e H0 Z0 xp0 s1 j0 cx
      exact .inr ⟨e, er, isg, q1, fun _ => q2⟩
/-- what the consumer has of its own lies below the generator -/
structure Below (X : Cx) (pins : List (Addr × Obj)) (n0 : Nat) : Prop where
  s0 : X.s_0.heap.objs.size ≤ n0
  loc : X.env.locals < n0
  cell : ∀ x c, X.env.cells.lookup x = some c → c < n0
  pin : ∀ p ∈ X.pn ++ pins, p.1 < n0
theorem _root_.L2.Inv.below (I : Inv X pins σ H s) : Below X pins s.heap.objs.size := ⟨I.sz, I.lt, fun x c e => by
  obtain ⟨v, o, ho, _⟩ := I.cell x c e
  exact Heap.lt_size ho, fun p hp => Heap.lt_size (I.pin p hp).1⟩
def above (n0 : Nat) (h : Heap) : List Addr := (List.range h.objs.size).filter fun b => decide (n0 ≤ b)
theorem mem_above {n0 b : Nat} {h : Heap} : b ∈ above n0 h ↔ b < h.objs.size ∧ n0 ≤ b := by simp [above]
theorem not_above {n0 : Nat} {h : Heap} {b : Addr} {o : Obj} (hb : b ∉ above n0 h) (e : h.get? b = some o) : b < n0 := Nat.lt_of_not_le fun z => hb (mem_above.mpr ⟨Heap.lt_size e, z⟩)
theorem Below.ch {n0 : Nat} {h : Heap} (B : Below X pins n0) : ∀ b ∈ above n0 h, (b ∈ X.ex ∨ X.s_0.heap.objs.size ≤ b) ∧ b ≠ X.env.locals ∧ (∀ x c, X.env.cells.lookup x = some c → c ≠ b) ∧ ∀ p ∈ X.pn ++ pins, p.1 ≠ b := fun b hb => by
  have hl := (mem_above.mp hb).2
  exact ⟨.inr (Nat.le_trans B.s0 hl), Nat.ne_of_gt (Nat.lt_of_lt_of_le B.loc hl), fun x c e => Nat.ne_of_lt (Nat.lt_of_lt_of_le (B.cell x c e) hl), fun p hp => Nat.ne_of_lt (Nat.lt_of_lt_of_le (B.pin p hp) hl)⟩
/-- the consumer's state behind a segment of the generator -/
theorem back_inv {s1 : Shared} (F : Feeds G X) (B : Below X pins G.n0) (I : Inv X pins σ H s) (g : Gives G s H xp H1 s1) : Inv X pins σ H1 s1 := by
  have u := g.un
  rw [F.outer] at u
  refine I.call' (ch := above G.n0 s.heap) g.os ⟨fun b o e n hb hc => ?_, fun b o e n hb hc => ?_, fun b o e n hc => ?_, fun b o e hc => ?_, u.tups, u.frzs, u.tbls⟩ (by rw [← F.P, ← F.w]; exact g.hok) g.bare B.ch
  · have hl := not_above hc e
    exact u.keep b o (by rw [pre_get hl]; exact e) n hb (by simp)
  · have hl := not_above hc e
    exact u.slot b o (by rw [pre_get hl]; exact e) n hb (by simp)
  · have hl := not_above hc e
    exact u.free b o (by rw [pre_get hl]; exact e) n (by simp)
  · have hl := not_above hc e
    exact u.there b o (by rw [pre_get hl]; exact e) (by simp)
/-- an exception of the generator is in the consumer's air -/
theorem XE.of_cut {W : WX} {E0 : XK} {n0 : Nat} (I : Inv X pins σ H s) (B : Below X pins n0) (hW : ∀ cls d H', E0 cls d H' → W cls d σ H') {u : Value} {s' : Shared} (c : L2.CX X.prog X.w X.stack H (cut n0 s) E0 u s') : XE X W u s' := by
  obtain ⟨a, Bh, H', cls, d, eu, fl, hok, ub, na, os, ag, hE⟩ := c
  subst eu
  obtain ⟨Gh, g1, g2⟩ := restrict s'.heap fun b => (Bh.get? b).isSome || decide (b ∈ frs X.stack)
  have st : Bh.StaysIn s'.heap := fl.1
  have gB : ∀ b o, Bh.get? b = some o → Gh.get? b = some o := fun b o e => by
    rw [g1 b (by simp [e])]
    exact st b o e
  have gF : ∀ b, b ∈ frs X.stack → Gh.get? b = s'.heap.get? b := fun b hb => g1 b (by simp [hb])
  have og : ∀ b o, Gh.get? b = some o → s'.heap.get? b = some o ∧ ((Bh.get? b).isSome = true ∨ b ∈ frs X.stack) := fun b o e => by
    cases q : ((Bh.get? b).isSome || decide (b ∈ frs X.stack)) with
    | false => rw [g2 b q] at e; cases e
    | true =>
      rw [g1 b q] at e
      exact ⟨e, by simpa [Bool.or_eq_true] using q⟩
  have old : ∀ b o, s.heap.get? b = some o → b ∉ above n0 s.heap → (cut n0 s).heap.get? b = some o := fun b o e hc => by
    show (pre n0 s.heap).get? b = some o
    rw [pre_get (not_above hc e)]; exact e
  refine ⟨a, Bh, { s with heap := Gh, gens := s'.gens, drawn := s'.drawn, toks := s'.toks }, pins, σ, H', cls, d, rfl, ?_, fun b o e hb => ?_, Heap.UpToSlots.of_keeps fun b o e => (og b o e).1, .inr (.inl fl), na, os, ag, hW _ _ _ hE⟩
  · refine I.call (ch := above n0 s.heap) ⟨fun b o e n hb hc => gB b o (ub.keep b o (old b o e hc) n hb), fun b o e n hb hc => ?_, fun b o e n hc => ub.free b o (old b o e hc) n, fun b o e hc => ?_, ub.tups, ub.frzs, ub.tbls⟩ (hok.kept gB) ag B.ch
    · obtain ⟨sl, q⟩ := ub.slot b o (old b o e hc) hb
      exact ⟨sl, by rw [gF b hb]; exact q⟩
    · by_cases hb : b ∈ frs X.stack
      · obtain ⟨sl, q⟩ := ub.slot b o (old b o e hc) hb
        exact ⟨_, by rw [gF b hb]; exact q⟩
      · obtain ⟨o', q⟩ := ub.there b o (old b o e hc) hb
        exact ⟨o', gB b o' q⟩
  · obtain ⟨e', h⟩ := og b o e
    rcases h with h | h
    · obtain ⟨o', q⟩ := Option.isSome_iff_exists.mp h
      have z := st b o' q
      rw [e'] at z; cases z
      exact q
    · exact absurd h hb
end
end VL
set_option Elab.async false
set_option linter.all false
set_option maxRecDepth 100000
set_option maxHeartbeats 4000000
/-! VL111: `for x in g(..)` with any body that lets no exception out -/
namespace VL
open PySem PySem.Spec PyProof.Rows L2 GenW
structure CalZ (P : Program) (w : World) (K : PySem.W.Frag) (mg : Str → Option Value) (base : Heap) (b : Bg) (k : Nat) (x : Str) (ps : List Str) (S : SZ) where
  f : Addr
  fd : FuncData
  F : GFnZ P w K mg base b k f fd ps S
  g : mg x = some (.ref f)
  kp : PySem.W.keepIn K (.ref f) = true
  bd : Binds K fd ps []
section
variable {X : Cx} {b : Bg} {W : WX} {k j : Nat} {x : Str} {ps : List Str} {S : SZ} {e : Expr} {es : List Expr} {u : VA} {p pos pos2 fpos : Pos} {ns : Str → Prop}
variable {pins : List (Addr × Obj)} {σ : L2.St} {H : Hp} {s : Shared} {Zo Z : Addr → Prop} {ρ : VEnv} {Qd : List D → Prop} {Ed : Er → Prop}
/-- a generator is made by a call -/
def MadeBy (X : Cx) (b : Bg) (k : Nat) (S : SZ) (pins : List (Addr × Obj)) (σ : L2.St) (H : Hp) (Z : Addr → Prop) (Qd : List D → Prop) (v : Value) (s' : Shared) : Prop :=
  ∃ ds H1 sc G cd own, v = .ref G.a ∧ Ex b H H1 ∧ b.G H1 ∧ Qd ds ∧ Inv X pins σ H1 sc ∧ MadeZ X.prog X.w X.base k X.stack b S ds H1 Z sc G cd own s'
theorem call_z (c : CalZ X.prog X.w X.K X.mg X.base b k x ps S) (hr : Room k X.A) (hgx : Gl X x) (ha : VAs X b W (e :: es) u) (I : Inv X pins σ H s) (v : VOk b Zo Z σ H ρ) (q : u ρ Qd Ed) (hlen : ∀ ds, Qd ds → ds.length = ps.length)
    (m : ∀ c x H' er, Ex b H H' → b.G H' → ErRp b Z H' c x er → Ed er → W c x σ H')
    (hdx : (x == ("__debug__" : Str)) = false := by decide) (he : starEach (e :: es) X.env = (false, eval e X.env) :: starEach es X.env := by rfl) (hpl : (backTo pos2 (starEach es X.env)).any (·.1) = false := by rfl) :
    wpAny (model X.prog X.w) X.A (eval (.Call (.Name x p) (e :: es) [] pos2) X.env) (MadeBy X b k S pins σ H Z Qd) X.xe s := by
  refine wpAny_Call_Name_kw (ld_glob I hgx c.g ?_ hdx)
  refine PySem.W.callWith_K (h₀ := X.base) I.ok.mod.kin c.kp (thn (ha.run pos2 pins s σ H (fun vs H1 => ∃ ds, Ex b H H1 ∧ b.G H1 ∧ Rps b Z H1 vs ds ∧ Qd ds) I ⟨Zo, Z, ρ, Qd, Ed, v, q, fun vs H1 ds x1 g1 r1 q1 => ⟨ds, x1, g1, r1, q1⟩, m⟩) fun us s1 ⟨vs, H1, I1, rv, ds, x1, g1, r1, q1⟩ => ⟨I1.kIn, ?_⟩) he hpl
  have hl := hlen ds q1
  have v1 := v.ex x1 g1
  have hus : us.length = ps.length := (rv.length.symm.trans r1.length).trans hl
  refine wpAny_call (codeAny_mono (c.F.run X.A X.stack s1 H1 Z ⟨us, []⟩ us vs ds hr I1.env0 (by have := c.bd s1 us I1.kIn (by rw [List.append_nil]; exact hus); rw [List.append_nil] at this; exact this) rv v1.gd r1 hl) fun r s' ⟨G, cd, own, er, mz⟩ => ?_)
  subst er
  exact ⟨ds, H1, s1, G, cd, own, rfl, x1, g1, q1, I1, mz⟩
/-- an expression whose value is a new generator of this promise -/
structure VMk (X : Cx) (b : Bg) (W : WX) (k : Nat) (S : SZ) (call : Expr) (u : VA) : Prop where
  run : ∀ (pins : List (Addr × Obj)) (s : Shared) (σ : L2.St) (H : Hp) (Zo Z : Addr → Prop) (ρ : VEnv) (Qd : List D → Prop) (Ed : Er → Prop), Inv X pins σ H s → VOk b Zo Z σ H ρ → u ρ Qd Ed → (∀ ds, Qd ds → ∃ Y Q E, S ds Y Q E) →
    (∀ c x H' er, Ex b H H' → b.G H' → ErRp b Z H' c x er → Ed er → W c x σ H') → wpAny (model X.prog X.w) X.A (eval call X.env) (MadeBy X b k S pins σ H Z Qd) X.xe s
theorem mk_call (c : CalZ X.prog X.w X.K X.mg X.base b k x ps S) (hr : Room j X.A) (hgx : Gl X x) (ha : VAs X b W (e :: es) u) (hk : k ≤ j := by decide)
    (hdx : (x == ("__debug__" : Str)) = false := by decide) (he : starEach (e :: es) X.env = (false, eval e X.env) :: starEach es X.env := by rfl) (hpl : (backTo pos2 (starEach es X.env)).any (·.1) = false := by rfl) : VMk X b W k S (.Call (.Name x p) (e :: es) [] pos2) u :=
  ⟨fun pins s σ H Zo Z ρ Qd Ed I v q hl m => call_z (p := p) c (hr.mono hk) hgx ha I v q (fun ds h => by obtain ⟨Y, Q, E, z⟩ := hl ds h; exact c.F.len _ _ _ _ z) m hdx he hpl⟩
theorem MadeZ.inv {H1 : Hp} {sc s' : Shared} {ds : List D} {G : GD} {cd : Code} {own : List (Addr × Obj)} (mz : MadeZ X.prog X.w X.base k X.stack b S ds H1 Z sc G cd own s') (I : Inv X pins σ H1 sc) : Inv X pins σ H1 s' :=
  I.call' (ch := []) mz.os (Un.kept mz.keep) (I.hok.kept mz.keep) mz.bare fun b z => by simp at z
theorem MadeZ.feeds {H1 : Hp} {sc s' : Shared} {ds : List D} {G : GD} {cd : Code} {own : List (Addr × Obj)} {T : Nat} {J : Cons} {Y : Nat → PyData → Prop} {Q : Nat → Prop} {Ed : Er → Prop} (mz : MadeZ X.prog X.w X.base k X.stack b S ds H1 Z sc G cd own s') (hr : Room j X.A) : Feeds (G.use X.A.in1 T J Y Q Ed) X := by
  obtain ⟨h1, h2, h3, h4, h5, h6⟩ := mz.is
  exact ⟨h1, h2, h3, h4, rfl, hr.hd, by have := hr.dp; omega⟩
/-- the sleeper at its start -/
theorem MadeZ.sleeps {H1 : Hp} {sc s' : Shared} {ds : List D} {G : GD} {cd : Code} {own : List (Addr × Obj)} {T : Nat} {J : Cons} {Y : Nat → PyData → Prop} {Q : Nat → Prop} {Ed : Er → Prop} (mz : MadeZ X.prog X.w X.base k X.stack b S ds H1 Z sc G cd own s') (hr : Room (k + 1) X.A) (I : Inv X pins σ H1 sc)
    (hS : S ds Y Q Ed) (hT : ∀ i d, Y i d → i < T) : SleepsAt (G.use X.A.in1 T J Y Q Ed) T own H1 Z s' := by
  obtain ⟨h1, h2, h3, h4, h5, h6⟩ := mz.is
  obtain ⟨ok, go⟩ := mz.run X.A.in1 T J Y Q Ed hr.in1 I.ok.frames hS hT
  refine ⟨mz.gen, _, mz.at_, fun s2 H2 Z2 xp2 j2 w2 => ⟨rfl, ?_⟩⟩
  have := go s2 H2 Z2 xp2 j2 w2
  have e1 : (G.use X.A.in1 T J Y Q Ed).P = X.prog := h1
  have e2 : (G.use X.A.in1 T J Y Q Ed).w = X.w := h2
  rw [e1, e2]
  unfold SegZ at this
  rw [e1, e2] at this
  exact this
theorem naps_id (v : VOk b Zo Z σ H ρ) : Naps b H Z H Z := ⟨v.g, fun a z => v.zo a (v.zb a z), v.dom, fun _ z => .inl z, fun _ _ e _ => e⟩
/-- what the generator keeps may be pinned by its consumer -/
theorem pin_own {G : GD} {own : List (Addr × Obj)} {H2 : Hp} {s1 : Shared} (B : Below X pins G.n0) (I : Inv X pins σ H2 s1) (ow : OwnP G own s1 H2) : Inv X (own ++ pins) σ H2 s1 :=
  I.pins_of fun p hp => by
    rcases List.mem_append.mp hp with z | z
    · obtain ⟨h1, h2, h3, h4⟩ := ow.2 p z
      refine ⟨h1, h2, Nat.ne_of_gt (Nat.lt_of_lt_of_le B.loc h3), fun hb => ?_, h4⟩
      obtain ⟨_, o, ho, _⟩ := I.ok.funs.mem hb
      exact absurd (Nat.lt_of_lt_of_le (Heap.lt_size ho) (Nat.le_trans B.s0 h3)) (Nat.lt_irrefl _)
    · exact I.pin p (List.mem_append_right _ z)
theorem go_gen {M : Model} {A : Around} {E : Value → Shared → Prop} {s : Shared} {tg : Expr} {a : Addr} {g : Nat} {u : Value} {Q : Unit → Shared → Prop} (h : s.heap.IsGen a g) (hQ : Q () s) : wpAny M A (letOwnedTupleGo tg (.ref a) u) Q E s := by
  obtain ⟨o, nm, qn, ho, hc, hd, _⟩ := h
  exact go_of ho hc hd (by decide) hQ
theorem gen_pin {G : GD} {own : List (Addr × Obj)} {H2 : Hp} {s1 s7 : Shared} (ow : OwnP G own s1 H2) (h : s1.heap.IsGen G.a G.g) (k : ∀ p ∈ own, s7.heap.get? p.1 = some p.2) : s7.heap.IsGen G.a G.g := by
  obtain ⟨o, nm, qn, ho, r⟩ := h
  obtain ⟨o', hm⟩ := ow.1
  have e1 := (ow.2 _ hm).1
  have e1 : s1.heap.get? G.a = some o' := e1
  rw [ho] at e1
  have e1 := Option.some.inj e1
  have e2 : s7.heap.get? G.a = some o' := k _ hm
  exact ⟨o, nm, qn, by rw [e1]; exact e2, r⟩
@[simp] def sForZ (ns : Str → Prop) (S : SZ) (u : VA) (tv : VTg) (tb : VS) : VS := fun ρ De => u ρ (fun ds =>
  (∃ out : List PyData, S ds (fun i d => out[i]? = some d) (fun i => i = out.length) (fun _ => False) ∧ forGo tv tb (out.map D.py) ρ { De with ex := fun _ _ => False }) ∨ S ds (fun _ _ => False) (fun _ => False) (fun er => ns er.n ∧ De.ex ρ er)) (De.ex ρ)
theorem vs_forZ {tg : Expr} {body : List Stmt} {js : List Nat} {tv : VTg} {tb : VS} {call : Expr} (hm : VMk X b W k S call u) (hns : ∀ n, ns n → NoSt X.K b n) (hr : Room j X.A) (tk : Takes X W) (hp : PassesOwn (model X.prog X.w) X.A X.env X.xe)
    (hg : ∀ xe, VG (X.tr X.pn xe) b tg js tv) (hb : ∀ (W : WX) (pn : List (Addr × Obj)) (xe : Value → Shared → Prop), Takes (X.tr pn xe) W → PassesOwn (model X.prog X.w) X.A X.env xe → VSs (X.tr pn xe) b W body tb) (hk : k + 1 ≤ j := by decide)
    (hs : ∀ y, foldedSetIterable call X.env y = pure y := by intro _; rfl) :
    VSt X b W (.For tg call body [] fpos) (sForZ ns S u tv tb) := by
  refine ⟨fun pins s σ H Dn I ⟨Hq, Mq, Zo, Z, ρ, De, f, q, l⟩ => ?_⟩
  have R := hr.mono hk
  have hbody : PSs (X.tr X.pn nix) body (LS b noW tb) := hb noW X.pn nix (fun u s' x => by obtain ⟨_, _, _, _, _, _, _, _, _, _, _, _, _, _, _, _, w⟩ := x; exact w.elim) (fun e s' h => h.elim)
  refine wpAny_For (thn (hm.run pins s σ H Zo Z ρ _ _ I f.v q (fun ds h => ?_) (l.er f)) fun v0 s1 h1 => ?_) hs
  · rcases h with ⟨out, h, _⟩ | h
    · exact ⟨_, _, _, h⟩
    · exact ⟨_, _, _, h⟩
  obtain ⟨ds, H1, sc, G0, cd, own, e0, x1, g1, q1, I1, mz⟩ := h1
  subst e0
  have f1 := f.ex x1 g1
  have I2 := mz.inv I1
  have hn0 : G0.n0 = sc.heap.objs.size := mz.is.2.2.2.2.1
  have hbG : G0.b = b := mz.is.2.2.2.2.2
  have B : Below X pins G0.n0 := by rw [hn0]; exact I1.below
  have hsz : ∀ {σ' H' s'}, Inv X pins σ' H' s' → (∀ p ∈ own, s'.heap.get? p.1 = some p.2) → G0.n0 ≤ s'.heap.objs.size := fun {σ' H' s'} I' ko => by
    obtain ⟨o, ho⟩ := mz.ownp.1
    exact Nat.le_of_lt (Nat.lt_of_le_of_lt (mz.ownp.2 _ ho).2.2.1 (Heap.lt_size (ko _ ho)))
  refine wpAny_pyIter_gen mz.gen ?_
  rcases q1 with ⟨out, hS, gg⟩ | hS
  · -- it hands out these items
    let De' : VEnds := { De with ex := fun _ _ => False }
    let Jc : Cons := fun n s₀ H0 Z0 _ => ∃ σ' ρ', Inv X pins σ' H0 s₀ ∧ FOk b H1 (Mo Zo Z) Zo Z0 σ' H0 ρ' ∧ forGo tv tb ((out.map D.py).drop (out.length + 1 - n)) ρ' De'
    have l1 := l.here f1
    generalize hG : G0.use X.A.in1 (out.length + 1) Jc (fun i d => out[i]? = some d) (fun i => i = out.length) (fun _ => False) = G
    have F : Feeds G X := by rw [← hG]; exact mz.feeds R
    have eJ : G.J = Jc := by rw [← hG]; rfl
    have en0 : G.n0 = G0.n0 := by rw [← hG]; rfl
    have ea : G.a = G0.a := by rw [← hG]; rfl
    have eT : G.T = out.length + 1 := by rw [← hG]; rfl
    have eY : G.Yd = fun i d => out[i]? = some d := by rw [← hG]; rfl
    have eQ : G.Qd = fun i => i = out.length := by rw [← hG]; rfl
    have eb : G.b = b := by rw [← hG]; exact hbG
    have eE : ∀ H Z c d H', G.E H Z c d H' → False := fun H Z c d H' h => by rw [← hG] at h; obtain ⟨er, z, _⟩ := h; exact z
    have sl0 : SleepsAt G (out.length + 1) own H1 Z s1 := by
      rw [← hG]
      exact mz.sleeps R I1 hS fun i d z => Nat.lt_succ_of_lt (List.getElem?_eq_some_iff.mp z).1
    have B' : Below X pins G.n0 := by rw [en0]; exact B
    rw [← ea]
    refine codeAny_forLoop_any (fun n s' => ∃ i σ' H' Z' ρ' own' Ha Za, n = out.length - i ∧ i ≤ out.length ∧ Inv X pins σ' H' s' ∧ FOk b H1 (Mo Zo Z) Zo Z' σ' H' ρ' ∧ forGo tv tb ((out.map D.py).drop i) ρ' De' ∧
      (∀ p ∈ own', s'.heap.get? p.1 = some p.2 ∧ H' p.1 = none) ∧ Naps b Ha Za H' Z' ∧ SleepsAt G (out.length - i + 1) own' Ha Za s' ∧ G.n0 ≤ s'.heap.objs.size) ?_ out.length
      ⟨0, σ, H1, Z, ρ, own, H1, Z, rfl, Nat.zero_le _, I2, f1.v.here, gg, fun p hp => ⟨(mz.ownp.2 p hp).1, (mz.ownp.2 p hp).2.1⟩, naps_id f1.v, sl0, by rw [en0]; exact hsz I2 fun p hp => (mz.ownp.2 p hp).1⟩
    rintro n s3 ⟨i, σ3, H3, Z3, ρ3, own3, Ha, Za, rfl, hi, I3, f3, q3, ko3, nap3, sl3, hz3⟩
    have j3 : G.J (out.length - i + 1) (awake G s3) H3 Z3 [] := by
      rw [eJ]
      exact ⟨σ3, ρ3, I3.gensZ (allBare_setGen (s := s3) I3.bare rfl), f3, by rw [show out.length + 1 - (out.length - i + 1) = i by omega]; exact q3⟩
    refine wpAny_passesOwn hp (turn_z F I3 ko3 (by rw [eb]; exact nap3) hz3 sl3 j3 (fun p hp => by simp at hp) (fun H0 Z0 _ v xv d H4 own4 s4 gs4 j4 rv rq yd gv ow _ as4 bs4 at4 sl4 => ?_) (fun H0 Z0 _ H4 s4 h' j4 gv qd hk => ?_) fun e H0 Z0 xp0 s4 j4 cx => ?_)
    · rw [eJ] at j4
      rw [eT, eY] at yd
      rw [show out.length + 1 - (out.length - i + 1) = i by omega] at yd
      have yd : out[i]? = some d := yd
      obtain ⟨σ4, ρ4, I4, f4, q4⟩ := j4
      rw [show out.length + 1 - (out.length - i + 1) = i by omega] at q4
      have hlt : i < out.length := (List.getElem?_eq_some_iff.mp yd).1
      have hlt' : i < (out.map D.py).length := by rw [List.length_map]; exact hlt
      have ed : out[i] = d := (List.getElem?_eq_some_iff.mp yd).2
      rw [List.drop_eq_getElem_cons hlt', List.getElem_map, ed] at q4
      have I5 : Inv X pins σ4 H4 s4 := back_inv F B' I4 gv
      have I6 : Inv X (own4 ++ pins) σ4 H4 (s4.setGen G.g gs4) := pin_own B' (I5.gensZ (allBare_setGen (s := s4) I5.bare bs4)) ⟨ow.1, ow.2⟩
      have x4 : Ex b H0 H4 := by have := gv.ex; rw [eb] at this; exact this
      have g4 : b.G H4 := by have := gv.g; rw [eb] at this; exact this
      have f5 := f4.ex x4 g4
      refine go_gen sl4.gen ?_
      refine wpAny_passesOwn hp (thn (pg_sleep (E' := X.xe) (hg nix) I6 rv (Q := fun σ' H' => H' = H4 ∧ ∃ Z5 ρ5, (∀ a, Z5 a → Z0 a) ∧ FOk b H1 (Mo Zo Z) Zo Z5 σ' H4 ρ5 ∧ tb ρ5 { De' with nx := fun ρ2 => forGo tv tb ((out.map D.py).drop (i + 1)) ρ2 De', ct := fun ρ2 => forGo tv tb ((out.map D.py).drop (i + 1)) ρ2 De', bk := De'.nx })
        ⟨H1, Mo Zo Z, Zo, Z0, ρ4, .py d, _, f5, (show Rp b Z0 H4 xv (.py d) from rq), q4, fun Z' σ' ρ' hz' _ f' q' => ⟨rfl, Z', ρ', hz', f', q'⟩⟩) fun _ s6 ⟨⟨σ6, H6, I7, eH, Z6, ρ6, hz6, f6, q6⟩, kg6⟩ => ?_)
      subst eH
      have nap : ∀ {Z7 σ7 H7 ρ7}, FOk b H6 (Mo Zo Z6) Zo Z7 σ7 H7 ρ7 → Naps b H6 Z0 H7 Z7 := fun {Z7 σ7 H7 ρ7} f7 => by
        have st := Stay.of_fok f6.v f7
        exact ⟨f7.v.g, fun a z => f7.v.zo a (f7.v.zb a z), f7.v.dom, fun a z => (st.young a z).imp (hz6 a) id, fun a o e n => st.keep a o e fun z => n (hz6 a z)⟩
      refine wpAny_passesOwn hp (thn (sp_sleep (E' := X.xe) (D := { Dn with nx := fun σ7 H7 => ∃ Z7 ρ7, FOk b H1 (Mo Zo Z) Zo Z7 σ7 H7 ρ7 ∧ Naps b H6 Z0 H7 Z7 ∧ forGo tv tb ((out.map D.py).drop (i + 1)) ρ7 De', ct := fun σ7 H7 => ∃ Z7 ρ7, FOk b H1 (Mo Zo Z) Zo Z7 σ7 H7 ρ7 ∧ Naps b H6 Z0 H7 Z7 ∧ forGo tv tb ((out.map D.py).drop (i + 1)) ρ7 De', bk := Dn.nx })
        hbody I7 ⟨H6, Mo Zo Z6, Zo, Z6, ρ6, _, f6.v.here, q6, ⟨fun Z7 σ7 H7 ρ7 f7 z7 => ⟨Z7, ρ7, f6.back f7, nap f7, z7⟩, fun v' H7 d' ext g' r' z' => l1.rt v' H7 d' (f6.extBack ext) g' r' z', fun Z7 σ7 H7 ρ7 f7 z7 => l1.nx Z7 σ7 H7 ρ7 (f6.back f7) z7, fun Z7 σ7 H7 ρ7 f7 z7 => ⟨Z7, ρ7, f6.back f7, nap f7, z7⟩, fun c' x' Z7 σ7 H7 ρ7 er f7 r7 z7 => z7.elim⟩⟩) fun fl s7 ⟨sp7, kg7⟩ => ?_)
      have again : ∀ {σ7 H7}, Inv X (own4 ++ pins) σ7 H7 s7 → (∃ Z7 ρ7, FOk b H1 (Mo Zo Z) Zo Z7 σ7 H7 ρ7 ∧ Naps b H6 Z0 H7 Z7 ∧ forGo tv tb ((out.map D.py).drop (i + 1)) ρ7 De') → ∃ m, m < out.length - i ∧ ∃ i' σ' H' Z' ρ' own' Ha Za, m = out.length - i' ∧ i' ≤ out.length ∧ Inv X pins σ' H' s7 ∧ FOk b H1 (Mo Zo Z) Zo Z' σ' H' ρ' ∧ forGo tv tb ((out.map D.py).drop i') ρ' De' ∧
          (∀ p ∈ own', s7.heap.get? p.1 = some p.2 ∧ H' p.1 = none) ∧ Naps b Ha Za H' Z' ∧ SleepsAt G (out.length - i' + 1) own' Ha Za s7 ∧ G.n0 ≤ s7.heap.objs.size := fun {σ7 H7} I8 ⟨Z7, ρ7, f7, n7, z7⟩ => by
        have pk : ∀ p ∈ own4, s7.heap.get? p.1 = some p.2 ∧ H7 p.1 = none := fun p hp => by
          obtain ⟨h1, h2, _⟩ := I8.pin p (List.mem_append_right _ (List.mem_append_left _ hp))
          exact ⟨h1, h2⟩
        obtain ⟨_, gs', at', go'⟩ := sl4
        have egs : gs' = gs4 := by rw [at4] at at'; exact (Option.some.inj at').symm
        subst egs
        refine ⟨out.length - (i + 1), by omega, i + 1, σ7, H7, Z7, ρ7, own4, H6, Z0, rfl, hlt, I8.pins_of fun p hp => I8.pin p (List.mem_append_right _ (List.mem_append_right _ hp)), f7, z7, pk, n7, ⟨gen_pin ow gv.gen fun p hp => (pk p hp).1, gs', kg7 _ _ (kg6 _ _ at4 as4) as4, ?_⟩, ?_⟩
        · rw [show out.length - (i + 1) + 1 = out.length - i by omega]
          exact go'
        · obtain ⟨o, ho⟩ := ow.1
          exact Nat.le_of_lt (Nat.lt_of_le_of_lt (ow.2 _ ho).2.2.1 (Heap.lt_size (pk _ ho).1))
      have unp : ∀ {σ7 H7}, Inv X (own4 ++ pins) σ7 H7 s7 → Inv X pins σ7 H7 s7 := fun {σ7 H7} I8 => I8.pins_of fun p hp => I8.pin p (List.mem_append_right _ (List.mem_append_right _ hp))
      cases fl with
      | next => obtain ⟨σ7, H7, I8, n8⟩ := sp7; exact again I8 n8
      | cont => obtain ⟨σ7, H7, I8, n8⟩ := sp7; exact again I8 n8
      | brk => obtain ⟨σ7, H7, I8, n8⟩ := sp7; exact ⟨σ7, H7, unp I8, n8⟩
      | ret v' => obtain ⟨x7, σ7, H7, I8, r8, n8⟩ := sp7; exact ⟨x7, σ7, H7, unp I8, r8, n8⟩
    · rw [eJ] at j4
      rw [eT, eQ] at qd
      rw [show out.length + 1 - (out.length - i + 1) = i by omega] at qd
      have qd : i = out.length := qd
      obtain ⟨σ4, ρ4, I4, f4, q4⟩ := j4
      rw [show out.length + 1 - (out.length - i + 1) = i by omega, List.drop_eq_nil_of_le (by rw [List.length_map]; omega)] at q4
      have I5 : Inv X pins σ4 H4 s4 := back_inv F B' I4 gv
      have x4 : Ex b H0 H4 := by have := gv.ex; rw [eb] at this; exact this
      have g4 : b.G H4 := by have := gv.g; rw [eb] at this; exact this
      have I6 : Inv X pins σ4 H4 { s4.setGen G.g .finished with heap := h' } := (I5.gensZ (allBare_setGen (s := s4) I5.bare rfl)).kept (t' := s4.toks) hk
      exact wpAny_execs_nil ⟨σ4, H4, I6, l1.nx Z0 σ4 H4 ρ4 (f4.ex x4 g4) q4⟩
    · obtain ⟨a', Bh, H', cls, d', _, _, _, _, _, _, _, z, _⟩ := cx
      exact (eE _ _ _ _ _ z).elim
  · -- it raises an error at once
    let Jc : Cons := fun n s₀ H0 Z0 _ => Inv X pins σ H0 s₀ ∧ FOk b Hq Mq Zo Z0 σ H0 ρ
    generalize hG : G0.use X.A.in1 1 Jc (fun _ _ => False) (fun _ => False) (fun er => ns er.n ∧ De.ex ρ er) = G
    have F : Feeds G X := by rw [← hG]; exact mz.feeds R
    have eJ : G.J = Jc := by rw [← hG]; rfl
    have en0 : G.n0 = G0.n0 := by rw [← hG]; rfl
    have ea : G.a = G0.a := by rw [← hG]; rfl
    have eY : G.Yd = fun _ _ => False := by rw [← hG]; rfl
    have eQ : G.Qd = fun _ => False := by rw [← hG]; rfl
    have eb : G.b = b := by rw [← hG]; exact hbG
    have eE : ∀ H Z c d H', G.E H Z c d H' → ∃ er, (ns er.n ∧ De.ex ρ er) ∧ Ex b H H' ∧ b.G H' ∧ ErRp b Z H' c d er := fun H Z c d H' h => by
      rw [← hG] at h
      obtain ⟨er, z1, z2, z3, z4⟩ := h
      have z2 : Ex G0.b H H' := z2
      have z3 : G0.b.G H' := z3
      have z4 : ErRp G0.b Z H' c d er := z4
      rw [hbG] at z2 z3 z4
      exact ⟨er, z1, z2, z3, z4⟩
    have sl0 : SleepsAt G 1 own H1 Z s1 := by
      rw [← hG]
      exact mz.sleeps R I1 hS fun i d z => z.elim
    have B' : Below X pins G.n0 := by rw [en0]; exact B
    rw [← ea]
    refine codeAny_forLoop_any (fun n s' => s' = s1) (fun n s3 e3 => ?_) 0 rfl
    subst e3
    have j3 : G.J (0 + 1) (awake G s3) H1 Z [] := by
      rw [eJ]
      exact ⟨I2.gensZ (allBare_setGen (s := s3) I2.bare rfl), f1⟩
    refine wpAny_passesOwn hp (turn_z F I2 (fun p hp => ⟨(mz.ownp.2 p hp).1, (mz.ownp.2 p hp).2.1⟩) (by rw [eb]; exact naps_id f1.v) (by rw [en0]; exact hsz I2 fun p hp => (mz.ownp.2 p hp).1) sl0 j3 (fun p hp => by simp at hp) (fun H0 Z0 _ v xv d H4 own4 s4 gs4 j4 rv rq yd gv ow _ as4 bs4 at4 sl4 => ?_) (fun H0 Z0 _ H4 s4 h' j4 gv qd hk => ?_) fun e H0 Z0 xp0 s4 j4 cx => ?_)
    · rw [eY] at yd; exact yd.elim
    · rw [eQ] at qd; exact qd.elim
    · rw [eJ] at j4
      obtain ⟨I4, f4⟩ := j4
      have cx' : L2.CX X.prog X.w X.stack H0 (cut G.n0 (awake G s3)) (fun c d H' => W c d σ H' ∧ PySem.W.subIn X.K c (.type "StopIteration") = some false) e s4 := by
        rw [F.P, F.w, F.outer] at cx
        obtain ⟨a', Bh, H', cls, d', z1, z2, z3, z4, z5, z6, z7, z8, _⟩ := cx
        obtain ⟨er, ⟨zn, ze⟩, zx, zg, zr⟩ := eE _ _ _ _ _ z8
        refine ⟨a', Bh, H', cls, d', z1, z2, z3, z4, z5, z6, z7, l.er f4 cls d' H' er zx zg zr ze, ?_⟩
        rw [zr.1]
        exact hns _ zn
      have kin : X.K.In s4.heap := by
        obtain ⟨a', Bh, H', cls, d', z1, z2, z3, z4, _⟩ := id cx'
        refine I4.ok.mod.kin.keeps fun c' o ec => z2.1 c' o (z4.keep c' o ?_ (I4.bs c' o ec).2 fun hin => ?_)
        · have hl : c' < G.n0 := by
            rw [en0, hn0]
            exact Heap.lt_size (I1.bs c' o ec).1
          show (pre G.n0 (awake G s3).heap).get? c' = some o
          rw [pre_get hl]
          exact (I4.bs c' o ec).1
        · rcases List.mem_cons.mp (I4.stkSub c' hin) with z | z
          · have up := Nat.le_trans I4.ok.bsz I4.ok.above
            have low := Heap.lt_size ec
            rw [z] at low
            exact absurd (Nat.lt_of_lt_of_le low up) (Nat.lt_irrefl _)
          · exact I4.ok.nofr ec z
      refine ⟨by rw [F.P, F.w]; exact notStop_of (E := fun c d H' => W c d σ H' ∧ PySem.W.subIn X.K c (.type "StopIteration") = some false) (fun cls d H' z => z.2) kin cx', tk _ _ (XE.of_cut I4 B' (E0 := fun c d H' => W c d σ H' ∧ PySem.W.subIn X.K c (.type "StopIteration") = some false) (fun cls d H' z => z.1) ?_)⟩
      obtain ⟨a', Bh, H', cls, d', z1, z2, z3, z4, z5, z6, z7, z8⟩ := cx'
      exact ⟨a', Bh, H', cls, d', z1, z2, z3, z4, z5, z6, allBare_setGen z7 rfl, z8⟩
end
end VL
set_option Elab.async false
set_option linter.all false
set_option maxRecDepth 100000
set_option maxHeartbeats 4000000
/-! VL112: a comprehension over a generator: its block as the consumer -/
namespace VL
open PySem PySem.Spec PyProof.Rows L2 GenW
theorem objOk_there {P : Program} {w : World} {H : Hp} {h : Heap} {a : Addr} : ∀ {o : HO}, ObjOk P w H h a o → ∃ ob, h.get? a = some ob := fun {o} x => by
  cases o with
  | lst xs => obtain ⟨_, _, _, _, e⟩ := x; exact ⟨_, e⟩
  | tup xs => obtain ⟨_, _, _, ob, e, _⟩ := x; exact ⟨ob, e⟩
  | dK kvs => obtain ⟨_, _, _, _, o, _, _, e, _⟩ := x; exact ⟨o, e⟩
  | dT kvs => obtain ⟨_, _, _, _, o, _, _, e, _⟩ := x; exact ⟨o, e⟩
  | set S n => obtain ⟨o, _, _, _, e, _⟩ := x; exact ⟨o, e⟩
  | ins C dx fs => obtain ⟨_, _, _, e, _⟩ := x; exact ⟨_, e⟩
  | own y => exact x
  | xd fs => obtain ⟨mA, hn, _⟩ := x; obtain ⟨o, _, _, e, _⟩ := hn; exact ⟨o, e⟩
  | rng lo hi => obtain ⟨_, _, _, e⟩ := x; exact ⟨_, e⟩
  | frz o u => exact ⟨o, x.1⟩
  | tbl ps => exact ⟨_, x⟩
  | met f y => exact ⟨_, x⟩
  | ext φ => exact x.2.1
theorem hok_there {P : Program} {w : World} {H : Hp} {h : Heap} (k : HOk P w H h) {a : Addr} (n : H a ≠ none) : ∃ ob, h.get? a = some ob := by
  cases e : H a with
  | none => exact absurd e n
  | some o => exact objOk_there (k a o e)
theorem ex_there {b : Bg} {H H' : Hp} (x : Ex b H H') (g : b.G H') {a : Addr} (n : H a ≠ none) : H' a ≠ none := fun z => n (none_back g x a z)
section
variable {X : Cx} {pins : List (Addr × Obj)} {σ : L2.St} {H H1 : Hp} {s : Shared} {n0 : Nat}
/-- the exception of a cut state's call, over a state without what the generator may have changed -/
theorem cx_of_cut {xp pn : List (Addr × Obj)} {E0 : XK} {u : Value} {s' : Shared} (I : Inv X pins σ H s) (B : Below X pins n0) (bl : ∀ b ∈ frs X.stack, b < n0) (xk : ∀ p ∈ xp, s.heap.get? p.1 = some p.2 ∧ H p.1 = none ∧ p.1 ∉ frs X.stack)
    (tr : ∀ cls d H', E0 cls d H' → ∀ a, H a ≠ none → H' a ≠ none) (c : CXP X.prog X.w X.stack H (cut n0 s) E0 (pn ++ xp) u s') :
    ∃ sR, Inv X pins σ H sR ∧ (∀ p ∈ xp, sR.heap.get? p.1 = some p.2) ∧ L2.CX X.prog X.w X.stack H sR E0 u s' := by
  obtain ⟨a, Bh, H', cls, d, eu, fl, hok, ub, na, os, ag, hE, pb⟩ := c
  obtain ⟨Gh, g1, g2⟩ := restrict s.heap fun b => decide (b < n0) || (H b).isSome || decide (b ∈ xp.map (·.1))
  have og : ∀ b o, Gh.get? b = some o → s.heap.get? b = some o ∧ (b < n0 ∨ H b ≠ none ∨ b ∈ xp.map (·.1)) := fun b o e => by
    cases q : (decide (b < n0) || (H b).isSome || decide (b ∈ xp.map (·.1))) with
    | false => rw [g2 b q] at e; cases e
    | true =>
      rw [g1 b q] at e
      refine ⟨e, ?_⟩
      simp only [Bool.or_eq_true, decide_eq_true_eq] at q
      rcases q with (q | q) | q
      · exact .inl q
      · exact .inr (.inl fun z => by rw [z] at q; cases q)
      · exact .inr (.inr q)
  have kLow : ∀ b, b < n0 → Gh.get? b = s.heap.get? b := fun b hb => g1 b (by simp [hb])
  have kTr : ∀ b, H b ≠ none → Gh.get? b = s.heap.get? b := fun b hb => g1 b (by
    cases e : H b with
    | none => exact absurd e hb
    | some o => simp)
  have kXp : ∀ p ∈ xp, Gh.get? p.1 = s.heap.get? p.1 := fun p hp => g1 p.1 (by
    have : p.1 ∈ xp.map (·.1) := List.mem_map.mpr ⟨p, hp, rfl⟩
    simp only [Bool.or_eq_true, decide_eq_true_eq]
    exact .inr this)
  let ch : List Addr := (above n0 s.heap).filter fun b => !(H b).isSome && !decide (b ∈ xp.map (·.1))
  have mch : ∀ {b}, b ∈ ch → b ∈ above n0 s.heap := fun {b} hb => (List.mem_filter.mp hb).1
  have nch : ∀ {b o}, b ∉ ch → s.heap.get? b = some o → b < n0 ∨ H b ≠ none ∨ b ∈ xp.map (·.1) := fun {b o} hb e => by
    by_cases h1 : b < n0
    · exact .inl h1
    · by_cases h2 : H b = none
      · by_cases h3 : b ∈ xp.map (·.1)
        · exact .inr (.inr h3)
        · exact absurd (List.mem_filter.mpr ⟨mem_above.mpr ⟨Heap.lt_size e, Nat.le_of_not_lt h1⟩, by rw [h2]; simp only [Option.isSome_none, Bool.not_false, Bool.true_and, Bool.not_eq_true', decide_eq_false_iff_not]; exact h3⟩) hb
      · exact .inr (.inl h2)
  have kept : ∀ b o, b ∉ ch → s.heap.get? b = some o → Gh.get? b = some o := fun b o hb e => by
    rcases nch hb e with z | z | z
    · rw [kLow b z]; exact e
    · rw [kTr b z]; exact e
    · obtain ⟨p, hp, ep⟩ := List.mem_map.mp z
      subst ep
      rw [kXp p hp]; exact e
  have hokR : HOk X.prog X.w H Gh := fun b o q => (I.hok b o q).stay (fun c v hc e => by
    rw [kTr c ?_]; exact e
    rcases hc with z | z
    · rw [z, q]; simp
    · rw [z]; simp) (fun _ e => e) fun _ _ e => e
  have IR : Inv X pins σ H { s with heap := Gh } := I.call' (ch := ch) rfl ⟨fun b o e _ _ hc => kept b o hc e, fun b o e _ _ hc => ⟨o.slots, kept b o hc e⟩, fun _ _ _ n _ => n, fun b o e hc => ⟨o, kept b o hc e⟩, fun _ _ e => e, fun _ _ _ e => e, fun b ps e => ⟨#[], by rw [e]; simp⟩⟩ hokR I.bare
    fun b hb => B.ch b (mch hb)
  refine ⟨{ s with heap := Gh }, IR, fun p hp => (kXp p hp).trans (xk p hp).1, a, Bh, H', cls, d, eu, fl, hok, ⟨fun b o e n hb => ?_, fun b o e hb => ?_, fun b o e n => ?_, fun b o e hb => ?_, ub.tups, ub.frzs, ub.tbls⟩, na, os, ag, hE⟩
  · obtain ⟨e1, z⟩ := og b o e
    rcases z with z | z | z
    · exact ub.keep b o (by show (pre n0 s.heap).get? b = _; rw [pre_get z]; exact e1) n hb
    · exact absurd n z
    · obtain ⟨p, hp, ep⟩ := List.mem_map.mp z
      subst ep
      rw [(xk p hp).1] at e1
      rw [← Option.some.inj e1]
      exact (pb p (List.mem_append_right _ hp)).1
  · obtain ⟨e1, _⟩ := og b o e
    have hl : b < n0 := bl b hb
    exact ub.slot b o (by show (pre n0 s.heap).get? b = _; rw [pre_get hl]; exact e1) hb
  · obtain ⟨e1, z⟩ := og b o e
    rcases z with z | z | z
    · exact ub.free b o (by show (pre n0 s.heap).get? b = _; rw [pre_get z]; exact e1) n
    · exact absurd n z
    · obtain ⟨p, hp, ep⟩ := List.mem_map.mp z
      subst ep
      exact (pb p (List.mem_append_right _ hp)).2
  · obtain ⟨e1, z⟩ := og b o e
    rcases z with z | z | z
    · exact ub.there b o (by show (pre n0 s.heap).get? b = _; rw [pre_get z]; exact e1) hb
    · exact hok_there hok (tr _ _ _ hE b z)
    · obtain ⟨p, hp, ep⟩ := List.mem_map.mp z
      subst ep
      exact ⟨_, (pb p (List.mem_append_right _ hp)).1⟩
end
end VL
set_option Elab.async false
set_option linter.all false
set_option maxRecDepth 100000
set_option maxHeartbeats 8000000
/-! VL113: `[item for x in g(..)]` -/
namespace VL
open PySem PySem.Spec PyProof.Rows L2 GenW
section
variable {X : Cx} {b : Bg} {W : WX} {k j : Nat} {x : Str} {ps : List Str} {S : SZ} {e : Expr} {es : List Expr} {u : VA} {p pos pos2 pos' : Pos} {ns : Str → Prop}
end
end VL
set_option Elab.async false
set_option linter.all false
set_option maxRecDepth 100000
set_option maxHeartbeats 8000000
/-! VL114: `[item for x in g(..)]` over values -/
namespace VL
open PySem PySem.Spec PyProof.Rows L2 GenW
@[simp] def vLcZ (ns : Str → Prop) (vs : List Nat) (S : SZ) (u : VA) (g : VTg) (tt : VB) (te : VT) : VT := fun ρ Q E => noOwn ρ vs ∧ u ρ (fun ds =>
  (∃ out : List PyData, S ds (fun i d => out[i]? = some d) (fun i => i = out.length) (fun _ => False) ∧ lcGo g tt te Q (out.map D.py) [] (wipeE ρ vs)) ∨ S ds (fun _ _ => False) (fun _ => False) (fun er => ns er.n ∧ E er)) E
section
variable {b : Bg} {W : WX} {js : List Nat} {g : VTg} {tt : VB} {te : VT} {vs : List Nat}
end
section
variable {X : Cx} {b : Bg} {W : WX} {k j : Nat} {x : Str} {ps : List Str} {S : SZ} {e elt tg : Expr} {es ifs : List Expr} {u : VA} {p pos pos2 spos py : Pos} {ns : Str → Prop} {scope : Scope} {own : List (Str × Nat)} {js : List Nat} {g : VTg} {tt : VB} {te : VT} {i : Nat} {y : Str}
end
end VL
set_option Elab.async false
set_option linter.all false
set_option maxRecDepth 100000
set_option maxHeartbeats 8000000
/-! VL115: `yield from` a list in such a generator -/
namespace VL
open PySem PySem.Spec PyProof.Rows L2 GenW
section
variable {P : Program} {w : World} {B : Around} {Er' : Value → Shared → Prop} {st : Shared}
theorem lst_next {it l : Addr} {i : Nat} {items : Array Value} {u : Value} {Po : Option Value → Shared → Prop} (isI : st.heap.IsListIter it l i) (isL : st.heap.IsList l items) (hx : items[i]? = some u)
    (go : ∀ h', h'.IsListIter it l (i + 1) → Heap.SameBut it st.heap h' → Po (some u) { st with heap := h' }) : wpAny (model P w) B (callSpecial? (.ref it) "__next__") Po Er' st := by
  obtain ⟨o, ho, hc, hd⟩ := id isI
  obtain ⟨ol, hol, _, nl, hdl⟩ := isL
  refine wpAny_callSpecial?_slot (name := Str.ofString "__next__") isI.typeIs slot_listiter_next (wpAny_call_entry slot_listiter_next isI.typeIs entry_listiter_next ?_ (args_listiter_next _))
  show wpAny _ _ (field (.ref it) 0 >>= _) _ _ st
  refine wpAny_bind (wpAny_field ho hd (x := .ref l) rfl ?_)
  show wpAny _ _ (if (Value.ref l == Value.none) = true then _ else _) _ _ st
  rw [if_neg (show ¬ ((Value.ref l == Value.none) = true) from Bool.false_ne_true)]
  show wpAny _ _ (field (.ref it) 1 >>= _) _ _ st
  refine wpAny_bind (wpAny_field ho hd (x := .int i 0) rfl ?_)
  show wpAny _ _ (seqItems? (.ref l) >>= _) _ _ st
  refine wpAny_bind (wpAny_seqItems hol hdl ?_)
  simp only [Int.toNat_natCast, hx]
  refine wpAny_bind (wpAny_setField ho hd (by simp) (wpAny_pure ⟨u, rfl, go _ ⟨_, Heap.get?_update_self _ ho (Obj.isFreed_of_fields (Obj.data_mapFields hd _)), (Obj.cls_mapFields ..).trans hc, ?_⟩ (Heap.SameBut.update ..)⟩))
  rw [Obj.data_mapFields hd]; simp [rawInt]
theorem lst_stop {it l : Addr} {i : Nat} {items : Array Value} {Po : Option Value → Shared → Prop} (hh : B.handled = none) (isI : st.heap.IsListIter it l i) (isL : st.heap.IsList l items) (hx : items[i]? = none)
    (go : ∀ e h', StopX e h' → Heap.ExtBut it st.heap h' → Er' e { st with heap := h' }) : wpAny (model P w) B (callSpecial? (.ref it) "__next__") Po Er' st := by
  obtain ⟨o, ho, hc, hd⟩ := id isI
  obtain ⟨ol, hol, _, nl, hdl⟩ := isL
  refine wpAny_callSpecial?_slot (name := Str.ofString "__next__") isI.typeIs slot_listiter_next (wpAny_call_entry slot_listiter_next isI.typeIs entry_listiter_next ?_ (args_listiter_next _))
  show wpAny _ _ (field (.ref it) 0 >>= _) _ _ st
  refine wpAny_bind (wpAny_field ho hd (x := .ref l) rfl ?_)
  show wpAny _ _ (if (Value.ref l == Value.none) = true then _ else _) _ _ st
  rw [if_neg (show ¬ ((Value.ref l == Value.none) = true) from Bool.false_ne_true)]
  show wpAny _ _ (field (.ref it) 1 >>= _) _ _ st
  refine wpAny_bind (wpAny_field ho hd (x := .int i 0) rfl ?_)
  show wpAny _ _ (seqItems? (.ref l) >>= _) _ _ st
  refine wpAny_bind (wpAny_seqItems hol hdl ?_)
  simp only [Int.toNat_natCast, hx]
  refine wpAny_bind (wpAny_rule (wpAny_bind (wpAny_setField ho hd (by simp) ?_)))
  show wpAny _ _ (newExc (.type "StopIteration") [] >>= _) _ _ _
  refine wpAny_bind ?_
  simp only [newExc, newTuple]
  refine wpAny_bind (wpAny_newObj_type ?_ (by size_fits))
  refine wpAny_bind (m := firstArgMember _ _) (wpAny_of_eq (a := Value.none) (by first | rfl | (simp only [firstArgMember]; rfl)) (wpAny_newObj_type ?_ (by size_fits)))
  simp only [raiseNew]
  refine wpAny_bind (wpAny_handled ?_)
  first | rw [show B.in1.handled = none from hh] | rw [hh]
  refine wpAny_bind (wpAny_pure (wpAny_throw (go _ _ ⟨_, _, _, rfl, Heap.get?_push_size _ rfl, rfl, rfl, ?_⟩ (((Heap.SameBut.update ..).extBut.push _).push _))))
  first
    | rfl
    | (rw [Array.getElem?_append_left (by decide)]; rfl)
    | kernel_rfl
end
theorem close_lst : typeLookup (.type "list_iterator") "close" = pure none := by rw [typeLookup_type, builtinLookup_eq_fast]; kernel_rfl
abbrev cYf (it : Addr) : Code := .builtin "proto.yield_from" ⟨[.ref it, .bool false, .none], []⟩
section
variable {G : GD} {ip : List (Addr × Obj)} {σ : L2.St} {fs : List Frame} {it a : Addr} {vs : List V} {ds : List PyData}
theorem segz_yf (ok : GOk G) (lo : ∀ p ∈ ip, G.n0 ≤ p.1) (hlo : G.n0 < it) (hpi : ∀ p ∈ G.pn ++ ip, p.1 ≠ it) (hh : (G.A.over (cYf it) fs).handled = none) (hsp : splitAtGen fs = none) (hgd : fs.any Frame.guarded = false) (hlen : vs.length = ds.length) {i0 : Nat}
    {Pq : Pt → Hp → Prop} (hitem : ∀ k d, ds[k]? = some d → G.Yd (i0 + k) d) (hstep : ∀ q H H2 Z2 xp2, Pq q H → Naps G.b H q.Z0 H2 Z2 → Pq ⟨q.i + 1, H2, Z2, xp2⟩ H2)
    (hend : ∀ n q s₀ s H, Stands G n q s₀ → Dj q.xp ip → Inv (G.X (cut G.n0 s₀) q.H0 q.Z0 q.xp) ip σ H s → Pq q H → q.i = i0 + ds.length → SegZ G n s₀ (cYf it) (.pure (.done (.ret .none))) fs s) :
    ∀ (r j n : Nat) (q : Pt) (s₀ s : Shared) (H : Hp), j + r = ds.length → q.i = i0 + j → Stands G n q s₀ → Dj q.xp ip → (∀ p ∈ q.xp, p.1 ≠ it) → Inv (G.X (cut G.n0 s₀) q.H0 q.Z0 q.xp) ip σ H s → s.heap.IsListIter it a j → H it = none → Pq q H →
      H a = some (.lst vs) → ¬ q.Z0 a → Rqs q.Z0 H vs ds → Ex G.b q.H0 H → G.b.G H → SegZ G n s₀ (cYf it) ((model G.P G.w).den (cYf it)) fs s := by
  have turned : ∀ {q : Pt} {s₀ s : Shared} {H : Hp} {h' : Heap}, Inv (G.X (cut G.n0 s₀) q.H0 q.Z0 q.xp) ip σ H s → H it = none → (∀ p ∈ q.xp, p.1 ≠ it) → (∀ b o, b ≠ it → s.heap.get? b = some o → h'.get? b = some o) → Inv (G.X (cut G.n0 s₀) q.H0 q.Z0 q.xp) ip σ H { s with heap := h' } := fun {q s₀ s H h'} I hn hx hk => by
    refine I.turned (t' := s.toks) (it := it) hk hn (Nat.ne_of_gt hlo) (.inr (Nat.le_trans pre_size (Nat.le_of_lt hlo))) (fun x c e => (ok.nocell x c e).elim) fun p hp => ?_
    rcases List.mem_append.mp hp with z | z
    · exact (List.mem_append.mp z).elim (fun z => hpi p (List.mem_append_left _ z)) (hx p)
    · exact hpi p (List.mem_append_right _ z)
  intro r
  induction r with
  | zero =>
    intro j n q s₀ s H hj hq hs dj hx I isI hn pq hl nz rq x1 g1
    have ej : j = ds.length := by omega
    obtain ⟨_, its, cc, rv, eL⟩ := I.hok a _ hl
    have isL : s.heap.IsList a its.toArray := ⟨_, eL, rfl, cc, rfl⟩
    have hnone : its.toArray[j]? = none := by
      have e := rv.length
      have e2 : its[j]? = none := List.getElem?_eq_none_iff.mpr (by omega)
      simpa using e2
    rw [show (model G.P G.w).den (cYf it) = Builtin.«proto.yield_from» ⟨[.ref it, .bool false, .none], []⟩ from den_yf (X := G.X s₀ q.H0 q.Z0 q.xp)]
    unfold Builtin.«proto.yield_from»
    try dsimp only
    refine seg_bind (wpAny_pure ?_)
    try dsimp only
    refine seg_bind (wpAny_attempt (wpAny_holding ?_))
    rw [if_neg Bool.false_ne_true, if_pos (show (Value.none == Value.none) = true from rfl)]
    refine wpAny_bind (wpAny_rule (wpAny_bind (lst_stop hh isI isL hnone fun e h' hS hk => ?_)))
    obtain ⟨ae, o, vz, ee, hoa, hcls, hdat, h5⟩ := hS
    subst ee
    try dsimp only
    refine seg_bind (wpAny_endsTurn hoa hcls ?_)
    try dsimp only
    rw [if_pos rfl]
    first
      | refine seg_bind (wpAny_rule ?_)
      | (rw [if_neg Bool.false_ne_true]; refine seg_bind (wpAny_rule ?_))
      | (rw [if_neg Bool.false_ne_true]; refine seg_bind (wpAny_pure ?_); refine seg_bind (wpAny_rule ?_))
    refine seg_bind (wpAny_field hoa hdat h5 ?_)
    exact hend n q s₀ _ H hs dj (turned I hn hx hk) pq (by omega)
  | succ r ih =>
    intro j n q s₀ s H hj hq hs dj hx I isI hn pq hl nz rq x1 g1
    have hjl : j < ds.length := by omega
    obtain ⟨_, its, cc, rv, eL⟩ := I.hok a _ hl
    have isL : s.heap.IsList a its.toArray := ⟨_, eL, rfl, cc, rfl⟩
    obtain ⟨y, hy, ry⟩ := rq.get (List.getElem?_eq_getElem hjl)
    obtain ⟨uv, hu, ru⟩ := rv.get hy
    have yd : G.Yd q.i ds[j] := by rw [hq]; exact hitem j _ (List.getElem?_eq_getElem hjl)
    have hT := ok.yT _ _ yd
    obtain ⟨n, rfl⟩ : ∃ m, n = m + 1 := ⟨n - 1, by have := hs.cnt; omega⟩
    rw [show (model G.P G.w).den (cYf it) = Builtin.«proto.yield_from» ⟨[.ref it, .bool false, .none], []⟩ from den_yf (X := G.X s₀ q.H0 q.Z0 q.xp)]
    unfold Builtin.«proto.yield_from»
    try dsimp only
    refine seg_bind (wpAny_pure ?_)
    try dsimp only
    refine seg_bind (wpAny_attempt (wpAny_holding ?_))
    rw [if_neg Bool.false_ne_true, if_pos (show (Value.none == Value.none) = true from rfl)]
    refine wpAny_bind (wpAny_rule (wpAny_bind (lst_next isI isL (by simpa using hu) fun h' isI' hsb => ?_)))
    have I' := turned (s := s) I hn hx (h' := h') fun b o hb e => hsb.extBut b o hb e
    obtain ⟨oi, hoi, hoc, hod⟩ := id isI'
    refine wpAny_pure ?_
    try dsimp only
    refine seg_bind (wpAny_typeOf (T := "list_iterator") ⟨oi, hoi, hoc⟩ ?_)
    try dsimp only
    first
      | (refine seg_bind (wpAny_of_eq close_lst ?_); refine seg_bind (wpAny_pure ?_))
      | refine seg_bind (wpAny_bind (wpAny_of_eq close_lst (wpAny_pure ?_)))
      | refine seg_bind (wpAny_of_eq close_lst ?_)
    try dsimp only
    refine seg_bind (wpAny_sleptOver hoi hoc (by decide) ?_)
    refine seg_yield hsp rfl hgd ?_
    have I2 : Inv (G.X (cut G.n0 s₀) q.H0 q.Z0 q.xp) (ip ++ [(it, oi)]) σ H { s with heap := h' } := I'.pins_of fun p hp => by
      rcases List.mem_append.mp hp with z | z
      · exact I'.pin p (List.mem_append_right _ z)
      · rw [List.mem_singleton.mp z]
        refine ⟨hoi, hn, Nat.ne_of_gt hlo, fun hf => ?_, fun v e => by rw [hod] at e; cases e⟩
        exact Nat.lt_irrefl _ (Nat.lt_trans hlo (ok.low it hf))
    have lo2 : ∀ p ∈ ip ++ [(it, oi)], G.n0 ≤ p.1 := fun p hp => (List.mem_append.mp hp).elim (lo p) fun z => by rw [List.mem_singleton.mp z]; exact Nat.le_of_lt hlo
    have dj2 : Dj q.xp (ip ++ [(it, oi)]) := fun p hp p' hp' => (List.mem_append.mp hp').elim (dj p hp p') fun z => by rw [List.mem_singleton.mp z]; exact hx p hp
    have djo : Dj q.xp (ownOf G (ip ++ [(it, oi)]) { s with heap := h' }) := fun p hp p' hp' => by
      obtain ⟨h1, h2⟩ := hs.xpn p hp
      rcases List.mem_append.mp hp' with z | z
      · rw [List.mem_singleton.mp (of_pinsAt z).1]; exact h1
      · exact (List.mem_append.mp z).elim (h2 p') (dj2 p hp p')
    have en : G.T - (n + 1) = q.i := by have := hs.cnt; omega
    refine ⟨q.H0, q.Z0, H, y, ds[j], ownOf G (ip ++ [(it, oi)]) { s with heap := h' }, q.xp, hs.j, ru, ry, by rw [en]; exact yd, gives_of ok I2 x1 g1, ownP_of ok lo2 I2, djo, fun s2 H2 Z2 xp2 j2 wk => ?_⟩
    have I3 := wake_inv ok I2 wk
    have I4 : Inv (G.X (cut G.n0 s2) H2 Z2 xp2) ip σ H2 s2 := I3.pins_of fun p hp => I3.pin p (List.mem_append_right _ (List.mem_append_left _ hp))
    have hit2 := wk.ownk (it, oi) (List.mem_append_right _ (List.mem_append_right _ (List.mem_append_right _ (List.mem_singleton.mpr rfl))))
    have isI2 : s2.heap.IsListIter it a (j + 1) := ⟨oi, hit2.1, hoc, hod⟩
    have hl2 : H2 a = some (.lst vs) := wk.nap.keep a _ hl nz
    have nz2 : ¬ Z2 a := fun z => (wk.nap.young a z).elim nz fun e => by rw [hl] at e; cases e
    show Seg _ _ _ _ n s2 _ (Builtin.Generator.sleptOver (.ref it) false >>= fun _ => _) fs s2
    refine seg_bind (wpAny_sleptOver hit2.1 hoc (by decide) ?_)
    try dsimp only
    refine seg_bind (wpAny_pure ?_)
    have st2 : Stands G n ⟨q.i + 1, H2, Z2, xp2⟩ s2 := ⟨by show n + (q.i + 1) = _; have := hs.cnt; omega, j2, wk.sz, fun p hp => ⟨(wk.xok p hp).2.2.1, fun p' hp' => (wk.xok p hp).2.2.2.2.2 p' (List.mem_append_right _ (List.mem_append_left _ hp'))⟩⟩
    exact seg_again (plainId_quiet plain_yf _) (ih (j + 1) n ⟨q.i + 1, H2, Z2, xp2⟩ s2 s2 H2 (by omega) (by show q.i + 1 = _; omega) st2 (fun p hp p' hp' => (wk.xok p hp).2.2.2.2.2 p' (List.mem_append_right _ (List.mem_append_right _ (List.mem_append_left _ hp'))))
      (fun p hp => (wk.xok p hp).2.2.2.2.2 (it, oi) (List.mem_append_right _ (List.mem_append_right _ (List.mem_append_right _ (List.mem_singleton.mpr rfl))))) I4 isI2 hit2.2 (hstep q H H2 Z2 xp2 pq wk.nap) hl2 nz2 (rq.mono wk.nap.young wk.nap.keep) Ex.refl wk.nap.g)
/-- all items of a list are handed out -/
def tZYf (G : GD) (te : ByZ TE) : TZ := fun D q σ H => te q.H0 q.Z0 σ H fun x H1 => ∃ a vs ds, x = .ref a ∧ H1 a = some (.lst vs) ∧ ¬ q.Z0 a ∧ Rqs q.Z0 H1 vs ds ∧ (∀ k d, ds[k]? = some d → G.Yd (q.i + k) d) ∧ Ex G.b q.H0 H1 ∧ G.b.G H1 ∧
  ∃ Pq : Pt → Hp → Prop, Pq q H1 ∧ (∀ q' H' H2 Z2 xp2, Pq q' H' → Naps G.b H' q'.Z0 H2 Z2 → Pq ⟨q'.i + 1, H2, Z2, xp2⟩ H2) ∧ ∀ q' H', Pq q' H' → q'.i = q.i + ds.length → D.nx q' σ H'
theorem gw_yieldFrom {e : Expr} {yp pos : Pos} {te : ByZ TE} (he : ∀ s H Z xp, PE (G.X s H Z xp) e (te H Z)) (hc : G.A.handled = none) (hi : interactive G.env = false := by rfl) : GW G (.Expr (.YieldFrom e yp) pos) (tZYf G te) := by
  refine ⟨fun ok ip n q s₀ c fs K J gd lv s σ H Dn g hs k lo dj I ht => ?_⟩
  rw [exec_Expr G.env _ pos hi rfl]
  show Seg _ _ _ _ n s₀ c (.at pos fun _ => ((eval e G.env >>= fun v => (standAt yp >>= fun _ => yieldFrom G.env v)) >>= fun x => dropValue (.YieldFrom e yp) pos x).wrap K J gd lv) fs s
  refine seg_at (segw_bind2 ?_)
  rw [g.over]
  refine wpAny_mono ((he _ _ _ _).run ip s σ H _ I ht) (fun v s1 hv => ?_) fun x s' hx => k.exc n q s₀ x s' hs hx
  obtain ⟨x, H1, I1, rv, a, vs, ds, ex, hl, nz, rq, yd, x1, g1, Pq, p0, pstep, pend⟩ := hv
  subst ex
  obtain rfl : v = Value.ref a := rv
  obtain ⟨_, its, cc, rvs, eL⟩ := I1.hok a _ hl
  have isL : s1.heap.IsList a its.toArray := ⟨_, eL, rfl, cc, rfl⟩
  refine seg_at ?_
  show Seg _ _ _ _ n s₀ c ((yieldFrom G.env (.ref a)).wrap (fun b => (dropValue (.YieldFrom e yp) pos b).wrap K J gd lv) J gd lv) fs s1
  unfold yieldFrom
  refine seg_bind_wrap (wpAny_typeOf isL.typeIs ?_)
  rw [if_neg (show ¬ ((Value.type "list" == Value.type "coroutine") = true) by decide)]
  refine seg_bind_wrap (wpAny_holding ?_)
  rw [g.over]
  refine wpAny_pyIter_list isL ?_
  have ksz : ∀ b o, s1.heap.get? b = some o → b ≠ s1.heap.objs.size := fun b o e => Nat.ne_of_lt (Heap.lt_size e)
  have kp : ∀ b o, s1.heap.get? b = some o → (s1.heap.push { cls := .type "list_iterator", data := .fields #[.ref a, .int 0 0] }).get? b = some o := fun b o e => Heap.get?_push_of_some _ e
  have I2 : Inv (G.X (cut G.n0 s₀) q.H0 q.Z0 q.xp) ip σ H1 { s1 with heap := s1.heap.push { cls := .type "list_iterator", data := .fields #[.ref a, .int 0 0] } } := I1.kept (t' := s1.toks) kp
  refine seg_call fun p => ?_
  refine segz_yf (Pq := Pq) (a := a) (vs := vs) (ds := ds) (i0 := q.i) ok lo I1.lt (fun p hp => ?_) ?_ ?_ ?_ rq.length yd pstep (fun n' q' s₀' s' H' hs' dj' I' pq' ei => ?_) ds.length 0 n q s₀ _ H1 (Nat.zero_add _) rfl hs dj (fun p hp => ?_) I2 ⟨_, Heap.get?_push_size _ rfl, rfl, rfl⟩ (I1.hok.fresh (Nat.le_refl _)) p0 hl nz rq x1 g1
  · refine ksz p.1 p.2 (I1.pin p ?_).1
    exact (List.mem_append.mp hp).elim (fun z => List.mem_append_left _ (List.mem_append_left _ z)) fun z => List.mem_append_right _ z
  · show (G.A.over c fs).handled = none
    rw [g.over]; exact hc
  · show (splitAtGen fs).map _ = none
    rw [g.split]; rfl
  · show (gd false || fs.any Frame.guarded) = false
    rw [g.gd, g.guard]; rfl
  · exact seg_leaf (.ok (.ret .none)) (k.ok n' q' s₀' s' .next hs' dj' ⟨σ, H', I', pend q' H' pq' ei⟩)
  · exact ksz p.1 p.2 (I1.pin p (List.mem_append_left _ (List.mem_append_right _ hp))).1
theorem ZOk.nap {b : Bg} {Hm H1 : Hp} {Zm Z : Addr → Prop} {q : Pt} {ρ : VEnv} (f1 : ZOk b Hm Zm q Z σ H1 ρ) (no : noOwns ρ) {H2 : Hp} {Z2 : Addr → Prop} {xp2 : List (Addr × Obj)} (nap : Naps b H1 q.Z0 H2 Z2) : ZOk b Hm Zm ⟨q.i + 1, H2, Z2, xp2⟩ Z2 σ H2 ρ := by
  have zz : ∀ a, q.Z0 a → Z a := f1.f.v.zo
  have stay : Stay H1 Z H2 Z2 := ⟨fun a z => (nap.young a z).imp (zz a) id, fun a o e n => nap.keep a o e fun z => n (zz a z)⟩
  have v2 : VOk b Z2 Z2 σ H2 ρ := ⟨nap.g, nap.zb, fun _ z => z, nap.dom, fun _ z => .inl z, fun i d e => absurd e (noOwns_at no), fun i j d e a h1 _ _ _ => absurd h1 (noOwns_at no), fun i d e => by
    obtain ⟨u, h1, h2⟩ := f1.f.v.shr i d e
    exact ⟨u, h1, stay.rp h2⟩, f1.f.v.len⟩
  exact ⟨⟨v2, fun _ _ e _ _ => e, fun i d a e _ => absurd e (noOwns_at no)⟩, f1.st.trans stay⟩
@[simp] def zYf (t : VT) : VZ := fun ρ i De => noOwns ρ ∧ t ρ (fun d => ∃ ds : List PyData, d = .py (.list ds) ∧ (∀ k p, ds[k]? = some p → De.yd (i + k) p) ∧ De.nx ρ (i + ds.length)) (De.ex ρ)
theorem vz_yieldFrom {e : Expr} {t : VT} {yp pos : Pos} (he : ∀ s H Z xp, VE (G.X s H Z xp) G.b (WF (G.E H Z)) e t) (hc : G.A.handled = none) (hi : interactive G.env = false := by rfl) : VZt G (.Expr (.YieldFrom e yp) pos) (zYf t) :=
  gw_mono (gw_yieldFrom (te := fun H Z => LE G.b (WF (G.E H Z)) (fun Z _ H v d => Rp G.b Z H v d) t) he hc hi) fun Dn q σ H ⟨Hm, Zm, Z, ρ, De, f, ⟨no, z⟩, l⟩ => ⟨q.Z0, Z, ρ, _, _, f.f.v, z, fun v H1 d x1 g1 r1 q1 => by
    obtain ⟨ds, ed, yd, nx⟩ := q1
    subst ed
    have f1 := f.ex x1 g1
    have zz : ∀ a, q.Z0 a → Z a := f1.f.v.zo
    have r1 : Rq Z H1 v (.list ds) := r1
    cases r1 with
    | lst e nz rs =>
      exact ⟨_, _, ds, rfl, e, fun z => nz (zz _ z), rs.mono (fun a z => .inl (zz a z)) fun _ _ e _ => e, fun k d hd => l.yd _ _ (yd k d hd), fun a o e nb => f1.f.ext a o e nb fun z => z, g1,
        fun q' H' => ∃ Z', ZOk G.b Hm Zm q' Z' σ H' ρ, ⟨Z, f1⟩, fun q' H' H2 Z2 xp2 ⟨Z', f'⟩ nap => ⟨Z2, f'.nap no nap⟩, fun q' H' ⟨Z', f'⟩ ei => l.nx q' Z' σ H' ρ f' (by rw [ei]; exact nx)⟩, l.er f⟩
end
end VL
set_option Elab.async false
set_option linter.all false
set_option maxRecDepth 100000
set_option maxHeartbeats 8000000
/-! VL116: list(g(..)) of such a generator -/
namespace VL
open PySem PySem.Spec PyProof.Rows L2 GenW
abbrev in2 (X : Cx) : Cx := { X with A := X.A.in1.in1 }
section
variable {X : Cx} {pins : List (Addr × Obj)} {σ : L2.St} {H : Hp} {s : Shared}
theorem _root_.L2.Inv.toIn2 (I : Inv X pins σ H s) : Inv (in2 X) pins σ H s :=
  ⟨⟨I.ok.mod, I.ok.kind, I.ok.glob, I.ok.blt, I.ok.above, I.ok.inj, I.ok.has, I.ok.cab, I.ok.hd, I.ok.frames, I.ok.stk, I.ok.exf, I.ok.bs, I.ok.bsz, I.ok.noex, I.ok.exfs, I.ok.funs, I.ok.frf⟩, I.os, I.bare, I.base, I.loc, I.cell, I.free, I.freeC, I.pin, I.hok, I.len⟩
theorem _root_.L2.Inv.ofIn2 (hf : X.A.frames = some X.stack) (hd : X.calm = true → X.A.handled = none) (I : Inv (in2 X) pins σ H s) : Inv X pins σ H s :=
  ⟨⟨I.ok.mod, I.ok.kind, I.ok.glob, I.ok.blt, I.ok.above, I.ok.inj, I.ok.has, I.ok.cab, hd, hf, I.ok.stk, I.ok.exf, I.ok.bs, I.ok.bsz, I.ok.noex, I.ok.exfs, I.ok.funs, I.ok.frf⟩, I.os, I.bare, I.base, I.loc, I.cell, I.free, I.freeC, I.pin, I.hok, I.len⟩
end
@[simp] def vListZ (ns : Str → Prop) (S : SZ) (u : VA) : VT := fun ρ Q E => u ρ (fun ds =>
  (∃ out : List PyData, S ds (fun i d => out[i]? = some d) (fun i => i = out.length) (fun _ => False) ∧ out.length ≤ sizeLine ∧ Q (.py (.list out))) ∨ S ds (fun _ _ => False) (fun _ => False) (fun er => ns er.n ∧ E er)) E
section
variable {X : Cx} {b : Bg} {W : WX} {k j : Nat} {x nm : Str} {ps : List Str} {S : SZ} {e : Expr} {es : List Expr} {u : VA} {p p2 pos pos2 : Pos} {ns : Str → Prop}
/-- what the loop's caller holds at a turn -/
structure LTurn (X : Cx) (b : Bg) (pins : List (Addr × Obj)) (σ : L2.St) (H1 : Hp) (Z : Addr → Prop) (L : Addr) (out : List PyData) (i : Nat) (H0 : Hp) (s0 : Shared) : Prop where
  inv : Inv (in2 X) pins σ H0 s0
  at_ : ∃ xs, H0 L = some (.lst xs) ∧ Rqs (fun c => Z c ∨ c = L) H0 xs (out.take i)
  st : ∀ a o, H1 a = some o → ¬ b.B a → H0 a = some o
  g : b.G H0
  le : i ≤ out.length
theorem MadeZ.sleeps2 {pins : List (Addr × Obj)} {σ : L2.St} {H1 : Hp} {Z : Addr → Prop} {sc s' : Shared} {ds : List D} {G : GD} {cd : Code} {own : List (Addr × Obj)} {T : Nat} {J : Cons} {Y : Nat → PyData → Prop} {Q : Nat → Prop} {Ed : Er → Prop} (mz : MadeZ X.prog X.w X.base k X.stack b S ds H1 Z sc G cd own s') (hr : Room (k + 3) X.A) (I : Inv X pins σ H1 sc)
    (hS : S ds Y Q Ed) (hT : ∀ i d, Y i d → i < T) : SleepsAt (G.use X.A.in1.in1.in1 T J Y Q Ed) T own H1 Z s' := by
  obtain ⟨h1, h2, h3, h4, h5, h6⟩ := mz.is
  obtain ⟨ok, go⟩ := mz.run X.A.in1.in1.in1 T J Y Q Ed hr.in1.in1.in1 I.ok.frames hS hT
  refine ⟨mz.gen, _, mz.at_, fun s2 H2 Z2 xp2 j2 w2 => ⟨rfl, ?_⟩⟩
  have := go s2 H2 Z2 xp2 j2 w2
  have e1 : (G.use X.A.in1.in1.in1 T J Y Q Ed).P = X.prog := h1
  have e2 : (G.use X.A.in1.in1.in1 T J Y Q Ed).w = X.w := h2
  rw [e1, e2]
  unfold SegZ at this
  rw [e1, e2] at this
  exact this
theorem drainZ {pins : List (Addr × Obj)} {σ : L2.St} {H1 : Hp} {Z : Addr → Prop} {L : Addr} {out : List PyData} {G : GD} {R : Result → Shared → Prop} {res : Value} (Fd : Feeds G (in2 X)) (B : Below X pins G.n0) (hL : ∀ b ∈ frs X.stack, b < G.n0) (hLn : G.n0 < L) (nbL : ¬ b.B L) (hL1 : H1 L = none) (hZb : ∀ a, b.B a → Z a) (hZd : ∀ a, Z a → H1 a ≠ none) (hLc : L ≠ cStatics) (eb : G.b = b)
    (eT : G.T = out.length + 1) (eY : G.Yd = fun i d => out[i]? = some d) (eQ : G.Qd = fun i => i = out.length) (eE : ∀ H Z c d H', G.E H Z c d H' → False) (hsz : out.length ≤ sizeLine)
    (eJ : G.J = fun n s₀ H0 Z0 xp => Z0 = (fun c => Z c ∨ c = L) ∧ xp = [] ∧ LTurn X b pins σ H1 Z L out (out.length + 1 - n) H0 s₀)
    (hend : ∀ s' H' xs, Inv (in2 X) pins σ H' s' → H' L = some (.lst xs) → Rqs (fun c => Z c ∨ c = L) H' xs out → (∀ a o, H1 a = some o → ¬ b.B a → H' a = some o) → b.G H' → R (.ok (.ret res)) s') :
    ∀ (m i : Nat) (s : Shared) (H : Hp) (own : List (Addr × Obj)) (Ha : Hp) (Za : Addr → Prop), m = out.length - i → LTurn X b pins σ H1 Z L out i H s → (∀ p ∈ own, s.heap.get? p.1 = some p.2 ∧ H p.1 = none) → Naps b Ha Za H (fun c => Z c ∨ c = L) → SleepsAt G (out.length - i + 1) own Ha Za s → G.n0 ≤ s.heap.objs.size →
      codeAny (model X.prog X.w) X.A.in1 (.builtin "list.extend.loop" ⟨[.ref L, .ref G.a, res], []⟩) R s := by
  intro m
  induction m with
  | zero =>
    intro i s H own Ha Za em lt ko nap sl hz
    have ei : i = out.length := by have := lt.le; omega
    refine codeAny_builtin F.entry_extend_loop ?_
    rw [Around.under_plainId F.plain_extend_loop _]
    show wpAny _ X.A.in1.in1 (pyNext (.ref G.a) >>= _) _ _ s
    have j0 : G.J (out.length - i + 1) (awake G s) H (fun c => Z c ∨ c = L) [] := by
      rw [eJ]
      exact ⟨rfl, rfl, lt.inv.gensZ (allBare_setGen (s := s) lt.inv.bare rfl), lt.at_.imp fun _ h => by rw [show out.length + 1 - (out.length - i + 1) = i by omega]; exact h, lt.st, lt.g, by omega⟩
    refine wpAny_bind (turn_z (X := in2 X) Fd lt.inv ko (by rw [eb]; exact nap) hz sl j0 (fun p hp => by simp at hp) (fun H0 Z0 xp0 v xv d H4 own4 s4 gs4 j4 rv rq yd gv ow dj as4 bs4 at4 sl4 => ?_) (fun H0 Z0 xp0 H4 s4 h' j4 gv qd hk => ?_) fun er H0 Z0 xp0 s4 j4 cx => ?_)
    · rw [eT, eY, show out.length + 1 - (out.length - i + 1) = i by omega] at yd
      have yd : out[i]? = some d := yd
      have := (List.getElem?_eq_some_iff.mp yd).1
      omega
    · rw [eJ] at j4
      obtain ⟨ez, ex, lt4⟩ := j4
      rw [show out.length + 1 - (out.length - i + 1) = i by omega] at lt4
      have I5 : Inv (in2 X) pins σ H4 s4 := back_inv Fd ⟨B.s0, B.loc, B.cell, B.pin⟩ lt4.inv gv
      have x4 : Ex b H0 H4 := by have := gv.ex; rw [eb] at this; exact this
      have g4 : b.G H4 := by have := gv.g; rw [eb] at this; exact this
      obtain ⟨xs, hx, rx⟩ := lt4.at_
      rw [ei, List.take_length] at rx
      refine wpAny_pure (hend _ H4 xs ((I5.gensZ (allBare_setGen (s := s4) I5.bare rfl)).kept (t' := s4.toks) hk) (x4 L _ hx nbL) (rx.mono (fun _ z => .inl z) fun a o e n => x4 a o e fun z => n (.inl (hZb a z))) (fun a o e n => x4 a o (lt4.st a o e n) n) g4)
    · obtain ⟨a', Bh, H', cls, d', _, _, _, _, _, _, _, z, _⟩ := cx
      exact (eE _ _ _ _ _ z).elim
  | succ m ih =>
    intro i s H own Ha Za em lt ko nap sl hz
    refine codeAny_builtin F.entry_extend_loop ?_
    rw [Around.under_plainId F.plain_extend_loop _]
    show wpAny _ X.A.in1.in1 (pyNext (.ref G.a) >>= _) _ _ s
    have j0 : G.J (out.length - i + 1) (awake G s) H (fun c => Z c ∨ c = L) [] := by
      rw [eJ]
      exact ⟨rfl, rfl, lt.inv.gensZ (allBare_setGen (s := s) lt.inv.bare rfl), lt.at_.imp fun _ h => by rw [show out.length + 1 - (out.length - i + 1) = i by omega]; exact h, lt.st, lt.g, by omega⟩
    refine wpAny_bind (turn_z (X := in2 X) Fd lt.inv ko (by rw [eb]; exact nap) hz sl j0 (fun p hp => by simp at hp) (fun H0 Z0 xp0 v xv d H4 own4 s4 gs4 j4 rv rq yd gv ow dj as4 bs4 at4 sl4 => ?_) (fun H0 Z0 xp0 H4 s4 h' j4 gv qd hk => ?_) fun er H0 Z0 xp0 s4 j4 cx => ?_)
    · rw [eJ] at j4
      obtain ⟨ez, ex, lt4⟩ := j4
      subst ez
      rw [show out.length + 1 - (out.length - i + 1) = i by omega] at lt4
      rw [eT, eY, show out.length + 1 - (out.length - i + 1) = i by omega] at yd
      have yd : out[i]? = some d := yd
      have hlt := (List.getElem?_eq_some_iff.mp yd).1
      have I5 : Inv (in2 X) pins σ H4 s4 := back_inv Fd ⟨B.s0, B.loc, B.cell, B.pin⟩ lt4.inv gv
      have x4 : Ex b H0 H4 := by have := gv.ex; rw [eb] at this; exact this
      have g4 : b.G H4 := by have := gv.g; rw [eb] at this; exact this
      obtain ⟨xs, hx, rx⟩ := lt4.at_
      have hx4 : H4 L = some (.lst xs) := x4 L _ hx nbL
      have rx4 : Rqs (fun c => Z c ∨ c = L) H4 xs (out.take i) := rx.mono (fun _ z => .inl z) fun a o e n => x4 a o e fun z => n (.inl (hZb a z))
      have lxs : xs.length = i := by rw [rx4.length, List.length_take]; omega
      obtain ⟨_, its, cc, rvs, eL⟩ := I5.hok L _ hx4
      have hl := rvs.length
      have I6 : Inv (in2 X) pins σ H4 (s4.setGen G.g gs4) := I5.gensZ (allBare_setGen (s := s4) I5.bare bs4)
      show wpAny _ X.A.in1.in1 (updateSeq L (·.push v) >>= _) _ _ _
      have neL : ∀ p ∈ own4, p.1 ≠ L := fun p hp z => by
        have := (ow.2 p hp).2.1
        rw [z, hx4] at this
        cases this
      refine wpAny_bind (wpAny_updateSeq (a := L) (s := s4.setGen G.g gs4) eL rfl (wpAny_pure ⟨plainId_quiet F.plain_extend_loop _, ?_⟩) (by rw [List.size_toArray]; omega) (by show (its.toArray.push v).size ≤ sizeLine + 1; rw [Array.size_push, List.size_toArray]; omega))
      have kL : ∀ b o, b ≠ L → s4.heap.get? b = some o → (s4.heap.update L (Obj.mapSeq (·.push v))).get? b = some o := fun b o hb e => (Heap.get?_update_other _ _ (Ne.symm hb)).trans e
      have eL2 := Heap.get?_update_self (Obj.mapSeq (·.push v)) eL rfl
      have I7 : Inv (in2 X) pins σ (upd H4 L (.lst (xs ++ [xv]))) { s4.setGen G.g gs4 with heap := s4.heap.update L (Obj.mapSeq (·.push v)) } :=
        I6.write (t' := s4.toks) (by rw [hx4]; trivial) (.inl rfl) kL ⟨_, eL2⟩ ⟨by rw [List.length_append, List.length_singleton]; omega, its ++ [v], cc + 1, rvs.append (.cons rv .nil), by rw [eL2]; simp [Obj.mapSeq]⟩
      have up : ∀ c o, H4 c = some o → ¬ (Z c ∨ c = L) → upd H4 L (.lst (xs ++ [xv])) c = some o := fun c o ec n => by rw [upd_ne (fun z => n (.inr z))]; exact ec
      have etk : out.take (i + 1) = out.take i ++ [d] := by rw [List.take_add_one, yd]; rfl
      have lt7 : LTurn X b pins σ H1 Z L out (i + 1) (upd H4 L (.lst (xs ++ [xv]))) { s4.setGen G.g gs4 with heap := s4.heap.update L (Obj.mapSeq (·.push v)) } :=
        ⟨I7, ⟨_, upd_same, by rw [etk]; exact (rx4.mono (fun _ z => .inl z) up).append (.cons (Rq.mono (fun _ z => .inl z) up rq) .nil)⟩, fun a o ea n => by
          by_cases hz' : a = L
          · rw [hz', hL1] at ea; cases ea
          · rw [upd_ne hz']; exact x4 a o (lt4.st a o ea n) n, b.loc H4 _ (fun c hc => upd_ne fun z => nbL (by rw [← z]; exact hc)) (fun c o ho ec => by rw [upd_ne (fun z => by rw [z, hx4] at ec; cases ec; exact ho)]; exact ec) g4, hlt⟩
      have nap7 : Naps b H4 (fun c => Z c ∨ c = L) (upd H4 L (.lst (xs ++ [xv]))) (fun c => Z c ∨ c = L) := ⟨lt7.g, fun a z => .inl (hZb a z), fun a z => by
        by_cases hz' : a = L
        · rw [hz', upd_same]; simp
        · rw [upd_ne hz']
          exact ex_there x4 g4 fun hn => by
            have := nap.dom a z
            rcases z with z | z
            · exact hZd a z (by
                cases eq1 : H1 a with
                | none => rfl
                | some o =>
                  by_cases hb : b.B a
                  · exact absurd hn (b.dom H0 a lt4.g hb)
                  · rw [lt4.st a o eq1 hb] at hn; cases hn)
            · exact hz' z, fun _ z => .inl z, up⟩
      obtain ⟨z1, gs', z2, z3⟩ := sl4
      refine ih (i + 1) _ (upd H4 L (.lst (xs ++ [xv]))) own4 H4 (fun c => Z c ∨ c = L) (by omega) lt7 (fun p hp => ⟨kL _ _ (neL p hp) (ow.2 p hp).1, by rw [upd_ne (neL p hp)]; exact (ow.2 p hp).2.1⟩) nap7 ⟨gen_pin ow gv.gen fun p hp => kL _ _ (neL p hp) (ow.2 p hp).1, gs', z2, ?_⟩ ?_
      · rw [show out.length - (i + 1) + 1 = out.length - i by omega]
        exact z3
      · obtain ⟨o, ho⟩ := ow.1
        exact Nat.le_of_lt (Nat.lt_of_le_of_lt (ow.2 _ ho).2.2.1 (Heap.lt_size (kL _ _ (neL _ ho) (ow.2 _ ho).1)))
    · rw [eT, eQ, show out.length + 1 - (out.length - i + 1) = i by omega] at qd
      have qd : i = out.length := qd
      omega
    · obtain ⟨a', Bh, H', cls, d', _, _, _, _, _, _, _, z, _⟩ := cx
      exact (eE _ _ _ _ _ z).elim
/-- list(u) of a generator u: up to its loop -/
theorem list_upto {A : Around} {s : Shared} {a : Addr} {g : Nat} {P : Program} {w : World} {Q' : Value → Shared → Prop} {E : Value → Shared → Prop} (isg : s.heap.IsGen a g) (hl : s.heap.NoLimit) (ha : a < s.heap.objs.size)
    (go : ∀ h', (∀ b o, s.heap.get? b = some o → h'.get? b = some o) → (∃ c, h'.get? s.heap.objs.size = some (lstObj #[] c)) →
      codeAny (model P w) A.in1 (.builtin "list.extend.loop" ⟨[.ref s.heap.objs.size, .ref a, .none], []⟩) (fun r s' => match r with | .ok (.ret v) => v = .none ∧ Q' (.ref s.heap.objs.size) s' | .ok _ => False | .error e => E e s') { s with heap := h' }) :
    wpAny (model P w) A (call (.type "list") [.ref a]) Q' E s := by
  have neA : s.heap.objs.size ≠ a := Nat.ne_of_gt ha
  refine callType_codes (Q₁ := fun obj s₁ => obj = .ref s.heap.objs.size ∧ s₁ = { s with heap := s.heap.push { cls := .type "list", data := .seq #[] } }) F.called_list (F.typeCall_list_1 _) F.entry_list_init (code_list_new _ ⟨rfl, rfl⟩) fun obj s₁ ⟨eo, es⟩ => ?_
  subst eo es
  have hS : (s.heap.push { cls := .type "list", data := .seq #[] }).get? s.heap.objs.size = some { cls := .type "list", data := .seq #[] } := Heap.get?_push_size _ rfl
  refine ⟨⟨_, hS, rfl⟩, F.args_list_init_2 _ _, ?_⟩
  show wpAny _ A.in1.in1 (do let old ← Builtin.List.listItems (.ref s.heap.objs.size); Builtin.List.listUpdate (.ref s.heap.objs.size) (fun _ => #[]); letGo old.toList.reverse; Builtin.List.listExtendWith (.ref s.heap.objs.size) (.ref a) .none) _ _ _
  refine wpAny_bind ?_
  unfold Builtin.List.listItems
  refine wpAny_bind (wpAny_seqItems hS rfl (wpAny_pure ?_))
  show wpAny _ A.in1.in1 (updateSeq s.heap.objs.size (fun _ => #[]) >>= fun _ => letGo (#[] : Array Value).toList.reverse >>= fun _ => Builtin.List.listExtendWith (.ref s.heap.objs.size) (.ref a) .none) _ _ _
  refine wpAny_bind (wpAny_updateSeq hS rfl ?_)
  have hS2 := Heap.get?_update_self (Obj.mapSeq (fun _ => (#[] : Array Value))) hS rfl
  refine wpAny_bind (wpAny_letGo ?_)
  unfold Builtin.List.listExtendWith
  have up : ∀ (h : Heap) (f : Obj → Obj), (∀ b o, s.heap.get? b = some o → h.get? b = some o) → ∀ b o, s.heap.get? b = some o → (h.update s.heap.objs.size f).get? b = some o := fun h f q b o e =>
    (Heap.get?_update_other _ _ (Ne.symm (Nat.ne_of_lt (Heap.lt_size e)))).trans (q b o e)
  have k1 : ∀ b o, s.heap.get? b = some o → (s.heap.push { cls := .type "list", data := .seq #[] }).get? b = some o := fun b o e => Heap.get?_push_of_some _ e
  have k2 := up _ (Obj.mapSeq (fun _ => (#[] : Array Value))) k1
  have gty : ∀ {h : Heap}, (∀ b o, s.heap.get? b = some o → h.get? b = some o) → h.IsGen a g := fun {h} q => isg.keeps q
  refine wpAny_bind (wpAny_typeOf (Heap.IsGen.typeIs (s := { s with heap := _ }) (gty k2)) ?_)
  have c1 : Builtin.List.listSameRef (.ref s.heap.objs.size) (.ref a) = false := by simp [Builtin.List.listSameRef, neA]
  have c2 : (Value.type "generator" == Value.type "list") = false := by decide
  have c3 : (Value.type "generator" == Value.type "tuple") = false := by decide
  simp only [c1, c2, c3, Bool.or_false, Bool.false_eq_true, if_false]
  refine wpAny_bind (wpAny_pyIter_gen (s := { s with heap := _ }) (gty k2) (wpAny_bind (wpAny_holding ?_)))
  unfold Builtin.List.listLengthHint
  refine wpAny_bind (wpAny_specialOf (Heap.IsGen.typeIs (s := { s with heap := _ }) (gty k2)) F.gen_no_len ?_)
  show wpAny _ A.in1.in1 (specialOf (Value.ref a) (Str.ofString "__length_hint__") >>= _) _ _ _
  refine wpAny_bind (wpAny_specialOf (Heap.IsGen.typeIs (s := { s with heap := _ }) (gty k2)) F.gen_no_hint (wpAny_pure ?_))
  show wpAny _ A.in1.in1 (rule "list.extend.makes-room" >>= fun _ => Builtin.List.listTouch (.ref s.heap.objs.size) >>= fun _ => again (.builtin "list.extend.loop" ⟨[.ref s.heap.objs.size, .ref a, .none], []⟩)) _ _ _
  refine wpAny_bind (wpAny_rule (wpAny_bind ?_))
  show wpAny _ A.in1.in1 (updateSeq s.heap.objs.size (·.push .none) >>= fun _ => updateSeq s.heap.objs.size (·.pop)) _ _ _
  refine wpAny_bind (wpAny_updateSeq hS2 rfl ?_)
  have hS3 := Heap.get?_update_self (Obj.mapSeq (·.push Value.none)) hS2 rfl
  refine wpAny_updateSeq (hz := by seq_fits) hS3 rfl ?_
  have hS4 := Heap.get?_update_self (Obj.mapSeq (·.pop)) hS3 rfl
  have k4 := up _ (Obj.mapSeq (·.pop)) (up _ (Obj.mapSeq (·.push Value.none)) k2)
  refine wpAny_pure ⟨plainId_quiet F.plain_extend_loop _, ?_⟩
  refine codeAny_mono (go _ k4 ⟨_, hS4⟩) fun r s' q => ?_
  cases r with
  | error e => exact q
  | ok f =>
    cases f with
    | ret v => obtain ⟨e1, q1⟩ := q; subst e1; exact ⟨rfl, q1⟩
    | next => exact q.elim
    | brk => exact q.elim
    | cont => exact q.elim
theorem vn_listZ {call : Expr} (hm : VMk X b W k S call u) (hns : ∀ n, ns n → NoSt X.K b n) (hr : Room j X.A) (tk : Takes X W) (hg : Gl X nm) (hmg : X.mg nm = none) (hv : bootBuiltins nm = some (.type "list")) (hk : k + 3 ≤ j := by decide)
    (hnm : nm ≠ "__name__" := by decide) (hdb : (nm == ("__debug__" : Str)) = false := by decide)
    (he2 : starEach [call] X.env = (false, eval call X.env) :: starEach [] X.env := by rfl) :
    VN X b W (.Call (.Name nm p) [call] [] pos) (vListZ ns S u) := by
  refine ⟨fun pins s σ H Q I ⟨Zo, Z, ρ, Qd, Ed, v, q, l, m⟩ => ?_⟩
  have R := hr.mono hk
  refine wpAny_Call_Name_kw (ld_blt I hg hmg hv (PyProof.Rows.callWith_type1 ?_ he2 rfl) hnm hdb)
  rw [he2]
  refine Calls.spliced_cons (wpAny_mono (hm.run pins s σ H Zo Z ρ _ _ I v q (fun ds h => ?_) m) (fun v0 s1 h1 => Calls.spliced_nil ?_) fun _ _ z => z)
  · rcases h with ⟨out, h, _⟩ | h
    · exact ⟨_, _, _, h⟩
    · exact ⟨_, _, _, h⟩
  obtain ⟨ds, H1, sc, G0, cd, own, e0, x1, g1, q1, I1, mz⟩ := h1
  subst e0
  have v1 := v.ex x1 g1
  have I2 := mz.inv I1
  have hn0 : G0.n0 = sc.heap.objs.size := mz.is.2.2.2.2.1
  have hbG : G0.b = b := mz.is.2.2.2.2.2
  have B : Below X pins G0.n0 := by rw [hn0]; exact I1.below
  have bl : ∀ b ∈ frs X.stack, b < G0.n0 := fun b hb => by
    obtain ⟨_, o, ho, _⟩ := I1.stack.mem hb
    rw [hn0]; exact Heap.lt_size ho
  have aLt : G0.a < s1.heap.objs.size := by obtain ⟨o, _, _, ho, _⟩ := mz.gen; exact Heap.lt_size ho
  have szn : G0.n0 < s1.heap.objs.size := by
    obtain ⟨o, ho⟩ := mz.ownp.1
    exact Nat.lt_of_le_of_lt (mz.ownp.2 _ ho).2.2.1 (Heap.lt_size (mz.ownp.2 _ ho).1)
  refine list_upto mz.gen I2.nolimit aLt fun h' k' hL => ?_
  obtain ⟨cc, eL⟩ := hL
  generalize hD : s1.heap.objs.size = L at eL ⊢
  have hLn : H1 L = none := I2.hok.fresh (Nat.le_of_eq hD)
  have nzL : ¬ Z L := v1.fresh hLn
  have nbL : ¬ b.B L := v1.nb nzL
  have I3 : Inv X pins σ (upd H1 L (.lst [])) { s1 with heap := h' } := I2.laid (t' := s1.toks) k' (Nat.le_of_eq hD) ⟨Nat.zero_le _, [], cc, .nil, eL⟩
  have x13 : Ex b H1 (upd H1 L (.lst [])) := Ex.new hLn
  have g13 : b.G (upd H1 L (.lst [])) := Bg.new g1 hLn
  have nap0 : Naps b H1 Z (upd H1 L (.lst [])) (fun c => Z c ∨ c = L) := ⟨g13, fun a z => .inl (v1.zo _ (v1.zb a z)), fun a z => by
      rcases z with z | z
      · exact ex_there x13 g13 (v1.dom a z)
      · rw [z, upd_same]; simp, fun a z => z.imp id fun ez => by rw [ez]; exact hLn, fun a o eo n => by rw [upd_ne (fun z => by rw [z, hLn] at eo; cases eo)]; exact eo⟩
  have ko : ∀ p ∈ own, h'.get? p.1 = some p.2 ∧ (upd H1 L (.lst [])) p.1 = none := fun p hp => ⟨k' _ _ (mz.ownp.2 p hp).1, by
    rw [upd_ne (fun z => by have := Heap.lt_size (mz.ownp.2 p hp).1; rw [z, hD] at this; exact Nat.lt_irrefl _ this)]
    exact (mz.ownp.2 p hp).2.1⟩
  have hzz : G0.n0 ≤ h'.objs.size := by
    obtain ⟨o, ho⟩ := mz.ownp.1
    exact Nat.le_of_lt (Nat.lt_of_le_of_lt (mz.ownp.2 _ ho).2.2.1 (Heap.lt_size (ko _ ho).1))
  rcases q1 with ⟨out, hS, hsz, qq⟩ | hS
  · let Jc : Cons := fun n s₀ H0 Z0 xp => Z0 = (fun c => Z c ∨ c = L) ∧ xp = [] ∧ LTurn X b pins σ H1 Z L out (out.length + 1 - n) H0 s₀
    generalize hG : G0.use X.A.in1.in1.in1 (out.length + 1) Jc (fun i d => out[i]? = some d) (fun i => i = out.length) (fun _ => False) = G
    have Fd : Feeds G (in2 X) := by
      rw [← hG]
      obtain ⟨h1, h2, h3, h4, h5, h6⟩ := mz.is
      exact ⟨h1, h2, h3, h4, rfl, R.hd, by have := R.dp; show X.A.depth < _; omega⟩
    have en0 : G.n0 = G0.n0 := by rw [← hG]; rfl
    have ea : G.a = G0.a := by rw [← hG]; rfl
    have sl0 : SleepsAt G (out.length - 0 + 1) own H1 Z { s1 with heap := h' } := by
      have z : SleepsAt G (out.length + 1) own H1 Z s1 := by
        rw [← hG]
        exact mz.sleeps2 R I1 hS fun i d z => Nat.lt_succ_of_lt (List.getElem?_eq_some_iff.mp z).1
      obtain ⟨z1, gs, z2, z3⟩ := z
      exact ⟨z1.keeps k', gs, z2, z3⟩
    rw [← ea]
    refine drainZ (X := X) (b := b) (pins := pins) (σ := σ) (H1 := H1) (Z := Z) (L := L) (out := out) Fd (by rw [en0]; exact B) (by rw [en0]; exact bl) (by rw [en0, ← hD]; exact szn) nbL hLn (fun a z => v1.zo _ (v1.zb a z)) v1.dom (fun z => ?_) (by rw [← hG]; exact hbG) (by rw [← hG]; rfl) (by rw [← hG]; rfl) (by rw [← hG]; rfl) (fun H Z c d H' h => by rw [← hG] at h; obtain ⟨er, z, _⟩ := h; exact z) hsz (by rw [← hG]; rfl)
      (fun s' H' xs I' hx rx st' g' => ?_) (out.length - 0) 0 _ _ own H1 Z rfl ⟨I3.toIn2, ⟨[], upd_same, .nil⟩, fun a o ea' n => x13 a o ea' n, g13, Nat.zero_le _⟩ ko nap0 sl0 (by rw [en0]; exact hzz)
    · have := I2.nolimit
      obtain ⟨mc, hns, _⟩ := this
      have := hns.lt
      rw [hD, ← z] at this
      exact Nat.lt_irrefl _ this
    · refine ⟨rfl, .ref L, H', Inv.ofIn2 I2.ok.frames I2.ok.hd I', rfl, ?_⟩
      exact l _ _ (.py (.list out)) (x1.trans fun a o e n => st' a o e n) g' ⟨L, rfl, none_back g1 x1 L hLn, xs, hx, rx⟩ qq
  · let Jc : Cons := fun n s₀ H0 Z0 xp => H0 = upd H1 L (.lst []) ∧ xp = [] ∧ Z0 = (fun c => Z c ∨ c = L) ∧ Inv (in2 X) pins σ H0 s₀
    generalize hG : G0.use X.A.in1.in1.in1 1 Jc (fun _ _ => False) (fun _ => False) (fun er => ns er.n ∧ Ed er) = G
    have Fd : Feeds G (in2 X) := by
      rw [← hG]
      obtain ⟨h1, h2, h3, h4, h5, h6⟩ := mz.is
      exact ⟨h1, h2, h3, h4, rfl, R.hd, by have := R.dp; show X.A.depth < _; omega⟩
    have eJ : G.J = Jc := by rw [← hG]; rfl
    have en0 : G.n0 = G0.n0 := by rw [← hG]; rfl
    have ea : G.a = G0.a := by rw [← hG]; rfl
    have eY : G.Yd = fun _ _ => False := by rw [← hG]; rfl
    have eQ : G.Qd = fun _ => False := by rw [← hG]; rfl
    have eb : G.b = b := by rw [← hG]; exact hbG
    have eE : ∀ H Z c d H', G.E H Z c d H' → ∃ er, (ns er.n ∧ Ed er) ∧ Ex b H H' ∧ b.G H' ∧ ErRp b Z H' c d er := fun H Z c d H' h => by
      rw [← hG] at h
      obtain ⟨er, z1, z2, z3, z4⟩ := h
      have z2 : Ex G0.b H H' := z2
      have z3 : G0.b.G H' := z3
      have z4 : ErRp G0.b Z H' c d er := z4
      rw [hbG] at z2 z3 z4
      exact ⟨er, z1, z2, z3, z4⟩
    have sl0 : SleepsAt G (0 + 1) own H1 Z { s1 with heap := h' } := by
      have z : SleepsAt G 1 own H1 Z s1 := by
        rw [← hG]
        exact mz.sleeps2 R I1 hS fun i d z => z.elim
      obtain ⟨z1, gs, z2, z3⟩ := z
      exact ⟨z1.keeps k', gs, z2, z3⟩
    rw [← ea]
    refine codeAny_builtin F.entry_extend_loop ?_
    rw [Around.under_plainId F.plain_extend_loop _]
    show wpAny _ X.A.in1.in1 (pyNext (.ref G.a) >>= _) _ _ _
    have j0 : G.J (0 + 1) (awake G { s1 with heap := h' }) (upd H1 L (.lst [])) (fun c => Z c ∨ c = L) [] := by
      rw [eJ]
      exact ⟨rfl, rfl, rfl, I3.toIn2.gensZ (allBare_setGen (s := { s1 with heap := h' }) I3.bare rfl)⟩
    refine wpAny_bind (turn_z (X := in2 X) Fd I3.toIn2 ko (by rw [eb]; exact nap0) (by rw [en0]; exact hzz) sl0 j0 (fun p hp => by simp at hp) (fun H0 Z0 xp0 v xv d H4 own4 s4 gs4 j4 rv rq yd gv ow dj as4 bs4 at4 sl4 => ?_) (fun H0 Z0 xp0 H4 s4 h'' j4 gv qd hk => ?_) fun er H0 Z0 xp0 s4 j4 cx => ?_)
    · rw [eY] at yd; exact yd.elim
    · rw [eQ] at qd; exact qd.elim
    · rw [eJ] at j4
      obtain ⟨eH, exp, eZ, I4'⟩ := j4
      subst eH exp eZ
      have I4 : Inv X pins σ (upd H1 L (.lst [])) (awake G { s1 with heap := h' }) := Inv.ofIn2 I2.ok.frames I2.ok.hd I4'
      rw [Fd.P, Fd.w, Fd.outer] at cx
      have noz : ∀ cls d H', G.E (upd H1 L (.lst [])) (fun c => Z c ∨ c = L) cls d H' → (W cls d σ H' ∧ PySem.W.subIn X.K cls (.type "StopIteration") = some false) ∧ ∀ a, upd H1 L (.lst []) a ≠ none → H' a ≠ none := fun cls d H' z => by
        obtain ⟨er', ⟨zn, ze⟩, zx, zg, zr⟩ := eE _ _ _ _ _ z
        refine ⟨⟨m cls d H' er' ((x1.trans x13).trans zx) zg (zr.less fun a z => .inl z) ze, ?_⟩, fun a n => ex_there zx zg n⟩
        rw [zr.1]
        exact hns _ zn
      obtain ⟨sR, IR, xR, cxR⟩ := cx_of_cut (xp := []) (pn := G.pn) I4 (by rw [en0]; exact B) (by rw [en0]; exact bl) (fun p hp => by simp at hp) (fun cls d H' z => (noz cls d H' z).2) cx
      have cx' : L2.CX X.prog X.w X.stack (upd H1 L (.lst [])) sR (fun cls d H' => W cls d σ H' ∧ PySem.W.subIn X.K cls (.type "StopIteration") = some false) er s4 := by
        obtain ⟨a', Bh, H', cls, d', z1, z2, z3, z4, z5, z6, z7, z8⟩ := cxR
        exact ⟨a', Bh, H', cls, d', z1, z2, z3, z4, z5, z6, z7, (noz _ _ _ z8).1⟩
      have kin : X.K.In s4.heap := by
        obtain ⟨a', Bh, H', cls, d', z1, z2, z3, z4, _⟩ := id cx'
        refine IR.ok.mod.kin.keeps fun c' o ec => z2.1 c' o (z4.keep c' o (IR.bs c' o ec).1 (IR.bs c' o ec).2 fun hin => ?_)
        rcases List.mem_cons.mp (IR.stkSub c' hin) with z | z
        · have up := Nat.le_trans IR.ok.bsz IR.ok.above
          have low := Heap.lt_size ec
          rw [z] at low
          exact absurd (Nat.lt_of_lt_of_le low up) (Nat.lt_irrefl _)
        · exact IR.ok.nofr ec z
      refine ⟨by rw [Fd.P, Fd.w]; exact notStop_of (E := fun cls d H' => W cls d σ H' ∧ PySem.W.subIn X.K cls (.type "StopIteration") = some false) (fun cls d H' z => z.2) kin cx', ?_⟩
      refine tk _ _ (XE.of_call IR (E := fun cls d H' => W cls d σ H' ∧ PySem.W.subIn X.K cls (.type "StopIteration") = some false) (fun cls d H' z => z.1) ?_)
      obtain ⟨a', Bh, H', cls, d', z1, z2, z3, z4, z5, z6, z7, z8⟩ := cx'
      exact ⟨a', Bh, H', cls, d', z1, z2, z3, z4, z5, z6, allBare_setGen z7 rfl, z8⟩
end
end VL
set_option Elab.async false
set_option linter.all false
set_option maxRecDepth 100000
set_option maxHeartbeats 8000000
/-! VL117: generator defs of the text; a keyword-only parameter -/
namespace VL
open PySem PySem.Spec PyProof.Rows L2 GenW
section
variable {P : Program} {w : World} {K : PySem.W.Frag} {mg : Str → Option Value} {base : Heap} {b : Bg} {k : Nat} {x qual : Str} {st : Stmt} {f : Addr} {fd : FuncData} {N ps : List Str} {S : SZ}
/-- a generator def of the text, by its body -/
theorem fnZ (F : Fun K x qual st f fd) (Sc : GScope N ps (defScope st)) (hcell : ∀ n, cellsFrom n (defScope st).names [] = []) {g : VZ} (hlen : ∀ ds Y Q E, S ds Y Q E → ds.length = ps.length) (hps : ps.length ≤ N.length)
    (hbody : ∀ (cdv : Value) (A : Around) (outer : List Env) (n0 : Addr) (E : Hp → (Addr → Prop) → XK) (pn : List (Addr × Obj)) (a : Addr) (gi T : Nat) (J : Cons) (Y : Nat → PyData → Prop) (Q : Nat → Prop), Room k (A.deeper (envOfC qual (defScope st) n0 f cdv)) →
      VZs (GD.mk P w K mg base N qual (defScope st) f cdv A outer n0 E pn b a gi T J Y Q) (defBody st) g)
    (hlaw : ∀ ds Y Q E, S ds Y Q E → g (envOf N.length ds) 0 (finZ Y Q E)) : GFnZ P w K mg base b (k + 1) f fd ps S := by
  obtain ⟨oc, od, kV, doc, pm, an, cdv, ct, osl, rfl, lk, hcd⟩ := F.ex
  exact gfnz_of lk hcd Sc hcell hlen hps (fun A outer n0 E pn a gi T J Y Q hr => hbody cdv A outer n0 E pn a gi T J Y Q hr) hlaw
end
/-- .. with a keyword-only parameter that has a default -/
structure CalZW (P : Program) (w : World) (K : PySem.W.Frag) (mg : Str → Option Value) (base : Heap) (b : Bg) (k : Nat) (x : Str) (ps : List Str) (kn : Str) (dv : PyData) (S : SZ) where
  f : Addr
  fd : FuncData
  F : GFnZ P w K mg base b k f fd (ps ++ [kn]) S
  g : mg x = some (.ref f)
  kp : PySem.W.keepIn K (.ref f) = true
  b0 : ∃ v ds, Vals [v] ds ∧ Binds K fd (ps ++ [kn]) ds ∧ ∀ Z H, Rq Z H v dv
  b1 : KBn K fd (ps ++ [kn]) ps.length [kn] (fun us ws => us ++ ws) (fun vs zs => vs ++ zs)
@[simp] def szW (dv : PyData) (S : SZ) : SZ := fun ds Y Q E => S (ds ++ [.py dv]) Y Q E
section
variable {X : Cx} {b : Bg} {W : WX} {k j : Nat} {x kn : Str} {ps : List Str} {dv : PyData} {S : SZ} {e e2 : Expr} {es : List Expr} {u : VA} {t : VT} {p pos kpos : Pos}
/-- the arguments, then the keyword's -/
@[simp] def vArgK (u : VA) (t : VT) : VA := fun ρ Q E => u ρ (fun ds => t ρ (fun d => Q (ds ++ [d])) E) E
end
end VL
set_option Elab.async false
set_option linter.all false
set_option maxRecDepth 100000
set_option maxHeartbeats 4000000
namespace LawP
open PySem PySem.Spec PyProof.Rows L2 VL
def t_law_word (S_law_take : SV) : VS :=
  (sSeq (sPar [3, 4, 5] (mCons true (vLst vNil) (mCons false (vC (.py (.int 0))) (mCons false (vVar 1) mNil))))
  (sSeq (sWhile (vTst (vBin gGt (vBin gAdd (vBor 5) (vBor 4)) (vC (.py (.int 0)))))
  (sSeq (sSet 6 (vBin gIx (vLst (vCons (vCall S_law_take (vCons (vVar 0) (vCons (vC (.py (.int 2))) vNil))) (vCons (vC (.py (.int 1))) (vCons (vC (.py (.int 0))) (vCons (vCal gInt (vCons (vBin gGt (vCall S_law_take (vCons (vVar 0) (vCons (vC (.py (.int 5))) vNil))) (vC (.py (.int 0)))) vNil)) (vCons (vCal gInt (vCons (vBin gGt (vBor 4) (vC (.py (.int 2)))) vNil)) vNil)))))) (vBor 2)))
  (sIf (wOr (vTst (vBin gEq (vBor 5) (vC (.py (.int 0))))) (wAnd (vTst (vBin gGt (vBor 4) (vC (.py (.int 0))))) (vTst (vBin gEq (vBor 6) (vC (.py (.int 1)))))))
  (sSeq (sMut 3 gApp (vCons (vC (.py (.str "s"))) vNil))
  (sSet 4 (vBin gSub (vBor 4) (vC (.py (.int 1))))))
  (sSeq (sMut 3 gApp (vCons (vC (.py (.str "a"))) vNil))
  (sPar [4, 5] (mCons false (vBin gAdd (vBor 4) (vC (.py (.int 1)))) (mCons false (vBin gSub (vBor 5) (vC (.py (.int 1)))) mNil)))))))
  (sRet (vMth isS gTJoin (vC (.py (.str ""))) (vCons (vBor 3) vNil)))))
def t_law_odd (S_law_pick : SV) : VS :=
  (sSeq (sSet 1 (vLst (vCons (vC (.py .none)) (vCons (vC (.py (.bool true))) (vCons (vC (.py (.bool false))) (vCons (vUn gNeg (vC (.py (.int 1)))) (vCons (vC (.py (.int 0))) (vCons (vC (.py (.int 1))) (vCons (vC (.py (.int 40))) (vCons (vBin gAdd (vBin gPow (vC (.py (.int 10))) (vC (.py (.int 9)))) (vC (.py (.int 1)))) (vCons (vBin gPow (vC (.py (.int 10))) (vC (.py (.int 39)))) (vCons (vC (.py (.str ""))) (vCons (vC (.py (.str "a"))) (vCons (vC (.py (.str "as"))) (vCons (vC (.py (.str "0"))) (vCons (vTup vNil) (vCons (vLst vNil) (vCons vD0 (vCons (vTup (vCons (vC (.py (.int 0))) vNil)) (vCons (vLst (vCons (vC (.py (.int 0))) vNil)) (vCons (vTup (vCons (vC (.py (.bool true))) vNil)) vNil)))))))))))))))))))))
  (sRet (vCall S_law_pick (vCons (vVar 0) (vCons (vBin gAdd (vBor 1) (vLst (vCons (vTup (vCons (vC (.py (.str "a"))) (vCons (vC (.py (.str "s"))) vNil))) (vCons (vTup (vCons (vC (.py (.int 0))) (vCons (vC (.py (.int 0))) vNil))) (vCons (vC (.py (.str "none"))) (vCons (vD1 (.inr "a") (vC (.py (.int 0)))) (vCons (vTup (vCons (vC (.py (.int 1))) (vCons (vC (.py (.int 0))) vNil))) vNil))))))) vNil)))))
def t_law_twisted (S_law_take : SV) (S_law_pick : SV) : VS :=
  (sSeq (sSet 2 (vCall S_law_take (vCons (vVar 0) (vCons (vBin gAdd (vCal gLen (vCons (vBor 1) vNil)) (vC (.py (.int 1)))) vNil))))
  (sSeq (sSet 3 (vCall S_law_pick (vCons (vVar 0) (vCons (vLst (vCons (vC (.py (.str "a"))) (vCons (vC (.py (.str "s"))) (vCons (vC (.py (.str "x"))) (vCons (vC (.py (.str "A"))) (vCons (vC (.py (.str " "))) (vCons (vC (.py (.str "\n"))) (vCons (vC (.py (.str ""))) (vCons (vC (.py (.str "ss"))) (vCons (vC (.py (.str "aa"))) vNil)))))))))) vNil))))
  (sSeq (sSet 4 (vLst (vCons (vBin gAdd (vBin gAdd (vSl gSl (vBor 1) oNo (oAt (vBor 2))) (vBor 3)) (vSl gSl (vBor 1) (oAt (vBor 2)) oNo)) (vCons (vBin gAdd (vBin gAdd (vSl gSl (vBor 1) oNo (oAt (vBor 2))) (vBor 3)) (vSl gSl (vBor 1) (oAt (vBin gAdd (vBor 2) (vC (.py (.int 1))))) oNo)) (vCons (vBin gAdd (vSl gSl (vBor 1) oNo (oAt (vBor 2))) (vSl gSl (vBor 1) (oAt (vBin gAdd (vBor 2) (vC (.py (.int 1))))) oNo)) (vCons (vBkA (vBor 1) (oAt (vUn gNeg (vC (.py (.int 1)))))) vNil))))))
  (sRet (vCall S_law_pick (vCons (vVar 0) (vCons (vBin gAdd (vBor 4) (vLst (vCons (vSl gSl (vBor 1) oNo (oAt (vBor 2))) (vCons (vBin gAdd (vBor 1) (vBor 3)) (vCons (vBin gAdd (vSl gSl (vBor 1) (oAt (vBor 2)) oNo) (vSl gSl (vBor 1) oNo (oAt (vBor 2)))) vNil))))) vNil)))))))
def t_law_fault : VS :=
  (sSeq (sIf (wNot (vTst (vCal gIsi (vCons (vBor 1) (vCons (vC (.raw (.ty "str"))) vNil)))))
  (sRet (vTup (vCons (vC (.py .none)) (vCons (vC (.py (.str "string"))) vNil))))
  sNext)
  (sSeq (sFor (iR1 (vCons (vCal gLen (vCons (vBor 1) vNil)) vNil)) (tgName 2)
  (sIf (vTst (vBin (gIn true) (vBin gIx (vBor 1) (vBor 2)) (vLst (vCons (vC (.py (.str "a"))) (vCons (vC (.py (.str "s"))) vNil)))))
  (sRet (vTup (vCons (vVar 2) (vCons (vC (.py (.str "letter"))) vNil))))
  sNext))
  (sSeq (sFor (iR1 (vCons (vCal gLen (vCons (vBor 1) vNil)) vNil)) (tgName 2)
  (sSeq (sSet 3 (vSl gSl (vBor 1) oNo (oAt (vBor 2))))
  (sSeq (sIf (wAnd (vTst (vBin gEq (vBin gIx (vBor 1) (vBor 2)) (vC (.py (.str "a"))))) (vTst (vBin gEq (vMth isCt gCount (vBor 3) (vCons (vC (.py (.str "a"))) vNil)) (vCal gLen (vCons (vBor 0) vNil)))))
  (sRet (vTup (vCons (vVar 2) (vCons (vC (.py (.str "arrival"))) vNil))))
  sNext)
  (sIf (wAnd (vTst (vBin gEq (vBin gIx (vBor 1) (vBor 2)) (vC (.py (.str "s"))))) (vTst (vBin gEq (vMth isCt gCount (vBor 3) (vCons (vC (.py (.str "s"))) vNil)) (vMth isCt gCount (vBor 3) (vCons (vC (.py (.str "a"))) vNil)))))
  (sRet (vTup (vCons (vVar 2) (vCons (vC (.py (.str "service"))) vNil))))
  sNext))))
  (sRet (vC (.py .none))))))
def t_word_error : VS :=
  (sSeq (sIf (wNot (vTst (vCal gIsi (vCons (vBor 1) (vCons (vC (.raw (.ty "str"))) vNil)))))
  (sRet (vTup (vCons (vC (.py .none)) (vCons (vC (.py (.str "string"))) vNil))))
  sNext)
  (sSeq (sSet 2 (vLc [5, 6] (iEn (vCons (vBor 1) vNil)) (tgTup 2 (tgCons (tgName 5) (tgCons (tgName 6) tgNil))) (vTst (vBin (gIn true) (vBor 6) (vTup (vCons (vC (.py (.str "a"))) (vCons (vC (.py (.str "s"))) vNil))))) (vVar 5)))
  (sSeq (sIf (vTst (vBin gNe (vBor 2) (vLst vNil)))
  (sRet (vTup (vCons (vBin gIx (vBor 2) (vC (.py (.int 0)))) (vCons (vC (.py (.str "letter"))) vNil))))
  sNext)
  (sSeq (sPar [3, 4] (mCons false (vC (.py (.int 0))) (mCons false (vC (.py (.int 0))) mNil)))
  (sSeq (sFor (iEn (vCons (vVar 1) vNil)) (tgTup 2 (tgCons (tgName 5) (tgCons (tgName 6) tgNil)))
  (sIf (vTst (vBin gEq (vBor 6) (vC (.py (.str "a")))))
  (sSeq (sIf (vTst (vBin gEq (vBor 3) (vCal gLen (vCons (vBor 0) vNil))))
  (sRet (vTup (vCons (vVar 5) (vCons (vC (.py (.str "arrival"))) vNil))))
  sNext)
  (sAugA 3 gAugAdd (vC (.py (.int 1)))))
  (sSeq (sIf (vTst (vBin gEq (vBor 4) (vBor 3)))
  (sRet (vTup (vCons (vVar 5) (vCons (vC (.py (.str "service"))) vNil))))
  sNext)
  (sAugA 4 gAugAdd (vC (.py (.int 1)))))))
  (sRet (vC (.py .none))))))))
end LawP
set_option Elab.async false
set_option linter.all false
set_option maxRecDepth 100000
set_option maxHeartbeats 4000000
namespace LawP
open PySem PySem.Spec PyProof.Rows L2 VL
def t_law_drawn (S_law_take : SV) (S_law_pick : SV) : VS :=
  (sSeq (sPar [2, 3] (mCons false (vBin gAdd (vC (.py (.int 1))) (vCall S_law_take (vCons (vVar 0) (vCons (vVar 1) vNil)))) (mCons false (vCall S_law_take (vCons (vVar 0) (vCons (vC (.py (.int 6))) vNil))) mNil)))
  (sSeq (sSet 4 (vBin gIx (vLst (vCons (vC (.py (.int 2))) (vCons (vC (.py (.int 3))) (vCons (vBin gAdd (vC (.py (.int 1))) (vBin gFdiv (vBor 2) (vC (.py (.int 3))))) (vCons (vVar 2) (vCons (vC (.py (.int 1))) (vCons (vC (.py (.int 4))) vNil))))))) (vBor 3)))
  (sSeq (sSet 5 (vLc [6] (iR1 (vCons (vBor 4) vNil)) (tgName 6) wYes (vCall S_law_pick (vCons (vVar 0) (vCons (vLst (vCons (vVar 6) (vCons (vBin gSub (vBin gPow (vC (.py (.int 10))) (vC (.py (.int 9)))) (vBor 6)) (vCons (vBin gAdd (vBin gMulA (vC (.py (.int 7))) (vBor 6)) (vCall S_law_take (vCons (vVar 0) (vCons (vC (.py (.int 7))) vNil)))) vNil)))) vNil)))))
  (sSeq (sIf (vTst (vBin gEq (vBor 3) (vC (.py (.int 5)))))
  (sRet (vCal gTuple (vCons (vLc [6] (iR1 (vCons (vBor 2) vNil)) (tgName 6) wYes (vBin gIx (vBor 5) (vBin gMod (vBin gFdiv (vBor 6) (vC (.py (.int 2)))) (vBor 4)))) vNil)))
  sNext)
  (sRet (vCal gTuple (vCons (vLc [6] (iR1 (vCons (vBor 2) vNil)) (tgName 6) wYes (vBin gIx (vBor 5) (vCall S_law_take (vCons (vVar 0) (vCons (vVar 4) vNil))))) vNil)))))))
def t_mates : VS :=
  (sSeq (sPar [1, 2] (mCons true (vLst vNil) (mCons true vD0 mNil)))
  (sSeq (sFor (iEn (vCons (vVar 0) vNil)) (tgTup 2 (tgCons (tgName 3) (tgCons (tgName 4) tgNil)))
  (sSeq (sMut 1 gApp (vCons (vDGet2 (vBor 2) (vVar 4) (vC (.py .none))) vNil))
  (sDPutO 2 (vVar 4) (vVar 3))))
  (sRet (vCal gTuple (vCons (vBor 1) vNil)))))
end LawP
set_option Elab.async false
set_option linter.all false
namespace LawP
open PySem VL
/-! ### mates: the mathematics -/
/-- the latest person before i of the group g -/
def lastIn (row : List Int) (g : Int) (i : Nat) : Option Nat := ((List.range i).filter fun j => row[j]? == some g).getLast?
def mateOf (row : List Int) (i : Nat) : Option Nat := (row[i]?).bind fun g => lastIn row g i
def matesL (row : List Int) : List (Option Nat) := (List.range row.length).map (mateOf row)
theorem lastIn_succ (row : List Int) (g : Int) (i : Nat) : lastIn row g (i + 1) = if row[i]? = some g then some i else lastIn row g i := by
  unfold lastIn
  rw [List.range_succ, List.filter_append]
  by_cases h : row[i]? = some g
  · rw [if_pos h]; simp [h]
  · rw [if_neg h]; simp [h]
theorem lastIn_some {row : List Int} {g : Int} {i m : Nat} (h : lastIn row g i = some m) : m < i ∧ row[m]? = some g ∧ ∀ j, m < j → j < i → row[j]? ≠ some g := by
  induction i with
  | zero => simp [lastIn] at h
  | succ i ih =>
    rw [lastIn_succ] at h
    split at h
    · rename_i c
      cases h
      exact ⟨Nat.lt_succ_self _, c, fun j h1 h2 => by omega⟩
    · rename_i c
      obtain ⟨a, b, d⟩ := ih h
      refine ⟨by omega, b, fun j h1 h2 => ?_⟩
      by_cases e : j = i
      · rw [e]; exact c
      · exact d j h1 (by omega)
theorem lastIn_none {row : List Int} {g : Int} {i : Nat} (h : lastIn row g i = none) : ∀ j, j < i → row[j]? ≠ some g := by
  induction i with
  | zero => intro j hj; omega
  | succ i ih =>
    rw [lastIn_succ] at h
    split at h
    · cases h
    · rename_i c
      intro j hj
      by_cases e : j = i
      · rw [e]; exact c
      · exact ih h j (by omega)
theorem mateOf_at {row : List Int} {i : Nat} {g : Int} (h : row[i]? = some g) : mateOf row i = lastIn row g i := by unfold mateOf; rw [h]; rfl
end LawP
set_option Elab.async false
set_option linter.all false
set_option maxRecDepth 100000
set_option maxHeartbeats 4000000
namespace LawP
open PySem PySem.Spec PyProof.Rows L2 VL
/-! ### mates -/
def matesP (row : List Int) : PyData := .tuple ((matesL row).map oN)
@[simp] def S_mates : SV := fun ds Q _ => ∃ row : List Int, ds = [.py (tI row)] ∧ row.length ≤ 1000 ∧ Q (.py (matesP row))
theorem l_mates : ∀ ds Q E, S_mates ds Q E → t_mates (envOf 5 ds) (fin Q E) := by
  rintro ds Q E ⟨row, rfl, hl, q⟩
  simp [t_mates, tI, -forGo]
  refine for_inv (fun i ρ => ∃ acc ds x y, ρ = [.shr (.py (tI row)), .own (.py (.list acc)), .own (.py (.dict ds)), x, y] ∧ acc = ((matesL row).take i).map oN ∧ ds.length ≤ i ∧ ∀ g, getD ds (.inl g) = (lastIn row g i).map pN) (fun i d ρ hd iv nx ct hn => ?_) (fun ρ iv => ?_) ⟨[], [], _, _, rfl, by simp, by simp, fun g => by simp [lastIn]⟩
  · obtain ⟨acc, ds, x, y, rfl, ea, h1, h2⟩ := iv
    obtain ⟨g, hg, rfl⟩ := enumP_getD hd
    have hi : i < row.length := (List.getElem?_eq_some_iff.mp hg).1
    have hm : (matesL row)[i]? = some (mateOf row i) := by simp [matesL, hi]
    have la : acc.length = i := by rw [ea]; simp [matesL]; omega
    simp [VL.keyOf, h2]
    refine ⟨by omega, by omega, (hn _ ⟨_, _, _, _, rfl, ?_, ?_, fun g' => ?_⟩).1⟩
    · rw [take_succ_get hm, List.map_append, ea, mateOf_at hg]
      cases lastIn row g i <;> rfl
    · have := putD_len ds (.inl g) (.int i)
      omega
    · rw [getD_putD, lastIn_succ, h2, hg]
      by_cases c : g' = g
      · subst c; simp [pN]
      · simp [c, Ne.symm c]
  · obtain ⟨acc, ds, x, y, rfl, ea, _, _⟩ := iv
    rw [List.take_of_length_le (by simp [matesL, enumP_len])] at ea
    subst ea
    simpa [matesP] using q
/-! ### a drawn row -/
@[simp] def S_law_drawn (r : Addr) : SV
  | [.raw v, .py (.int m)], Q, _ => v = .ref r ∧ 1 ≤ m ∧ m ≤ 40 ∧ ∀ gs : List Int, gs ≠ [] → gs.length ≤ m → (∀ g ∈ gs, 0 ≤ g ∧ g ≤ 1000000000) → Q (.py (.tuple (gs.map PyData.int)))
  | _, _, _ => False
theorem l_law_drawn (r : Addr) : ∀ ds Q E, S_law_drawn r ds Q E → t_law_drawn (svTake r) (svPick r) (envOf 7 ds) (fin Q E)
  | [.raw v, .py (.int m)], Q, E, ⟨hv, h1, h2, q⟩ => by
    subst hv
    simp [t_law_drawn]
    refine ⟨by omega, by omega, fun x x0 x1 w w0 w1 => ?_⟩
    obtain ⟨kn, ek, k1, k2⟩ : ∃ kn : Int, atI [PyData.int 2, PyData.int 3, PyData.int (1 + (1 + x).fdiv 3), PyData.int (1 + x), PyData.int 1, PyData.int 4] w = some (.int kn) ∧ 1 ≤ kn ∧ kn ≤ 40 := by
      have f3 : (1 + x).fdiv 3 = (1 + x) / 3 := Int.fdiv_eq_ediv_of_nonneg _ (by omega)
      rcases (by omega : w = 0 ∨ w = 1 ∨ w = 2 ∨ w = 3 ∨ w = 4 ∨ w = 5) with rfl | rfl | rfl | rfl | rfl | rfl
      · exact ⟨2, rfl, by omega, by omega⟩
      · exact ⟨3, rfl, by omega, by omega⟩
      · exact ⟨_, rfl, by rw [f3]; omega, by rw [f3]; omega⟩
      · exact ⟨_, rfl, by omega, by omega⟩
      · exact ⟨1, rfl, by omega, by omega⟩
      · exact ⟨4, rfl, by omega, by omega⟩
    refine ⟨_, ek, ?_⟩
    simp
    refine ⟨⟨by omega, by omega⟩, ?_⟩
    refine lc_mem (fun p => ∃ g, p = .int g ∧ (0 ≤ g ∧ g ≤ 1000000000)) (fun d hd k hk => ?_) (by simp; omega) fun ps hl hps => ?_
    · obtain ⟨j, hj, rfl⟩ := mem_rangeP hd
      have hj' : (j : Int) < 40 := by omega
      simp [lcStep, AllIn]
      intro y y0 y1
      exact ⟨hk _ ⟨_, rfl, by omega, by omega⟩, hk _ ⟨_, rfl, by omega, by omega⟩, hk _ ⟨_, rfl, by omega, by omega⟩⟩
    obtain ⟨ns, rfl, hns⟩ := ints_of hps
    simp at hl
    have fin : ∀ ps : List PyData, ps.length = (1 + x).toNat → (∀ p ∈ ps, ∃ g, p = PyData.int g ∧ (0 ≤ g ∧ g ≤ 1000000000)) → Q (.py (.tuple ps)) := fun ps e h => by
      obtain ⟨gs, rfl, hg⟩ := ints_of h
      simp at e
      exact q gs (fun z => by rw [z] at e; simp at e; omega) (by omega) hg
    have at_ : ∀ i : Int, 0 ≤ i → i < kn → ∃ d, atI (ns.map PyData.int) i = some d ∧ ∃ g, d = .int g ∧ (0 ≤ g ∧ g ≤ 1000000000) := fun i i0 i1 => by
      obtain ⟨d, e, m⟩ := atI_ok (xs := ns.map PyData.int) i0 (by simp; omega)
      obtain ⟨g, hg, rfl⟩ := List.mem_map.mp m
      exact ⟨_, e, g, rfl, hns g hg⟩
    simp
    split
    · refine ⟨⟨by omega, by omega⟩, lc_mem (fun p => ∃ g, p = .int g ∧ (0 ≤ g ∧ g ≤ 1000000000)) (fun d hd k hk => ?_) (by simp; omega) fun ps hl hps => ?_⟩
      · obtain ⟨j, hj, rfl⟩ := mem_rangeP hd
        simp [lcStep]
        refine ⟨by omega, ?_⟩
        obtain ⟨d, e, hd⟩ := at_ _ (Int.emod_nonneg ((j : Int).fdiv 2) (by omega : kn ≠ 0)) (Int.emod_lt_of_pos _ (by omega))
        exact ⟨d, e, hk d hd⟩
      · simp at hl ⊢
        exact fin ps hl hps
    · refine ⟨⟨by omega, by omega⟩, lc_mem (fun p => ∃ g, p = .int g ∧ (0 ≤ g ∧ g ≤ 1000000000)) (fun d hd k hk => ?_) (by simp; omega) fun ps hl hps => ?_⟩
      · obtain ⟨j, hj, rfl⟩ := mem_rangeP hd
        simp [lcStep]
        refine ⟨by omega, by omega, fun y y0 y1 => ?_⟩
        obtain ⟨d, e, hd⟩ := at_ y y0 y1
        exact ⟨d, e, hk d hd⟩
      · simp at hl ⊢
        exact fin ps hl hps
end LawP
set_option Elab.async false
set_option linter.all false
namespace LawP
open PySem VL
/-! ### words: the mathematics -/
def isL (c : Nat) : Bool := c == 97 || c == 115
/-- the places of signs that are no letters -/
def badW (w : List Nat) : List Nat := (w.zipIdx.filter fun p => !isL p.1).map (·.2)
/-- the first arrival or service too many: n persons, from place k on, behind a arrivals and s services -/
def scanP (n : Nat) : Nat → Nat → Nat → List Nat → PyData
  | _, _, _, [] => .none
  | k, a, s, c :: w => if c = 97 then (if a = n then .tuple [.int k, .str "arrival"] else scanP n (k + 1) (a + 1) s w) else (if s = a then .tuple [.int k, .str "service"] else scanP n (k + 1) a (s + 1) w)
def wErrL (n : Nat) (w : List Nat) : PyData := match badW w with
  | i :: _ => .tuple [.int (i : Nat), .str "letter"]
  | [] => scanP n 0 0 0 w
def wErr (n : Nat) : PyData → PyData
  | .str z => wErrL n (sl z)
  | _ => .tuple [.none, .str "string"]
theorem badW_none {w : List Nat} (h : badW w = []) : ∀ c ∈ w, isL c = true := by
  intro c hc
  unfold badW at h
  rw [List.map_eq_nil_iff, List.filter_eq_nil_iff] at h
  obtain ⟨i, hi⟩ := List.getElem?_of_mem hc
  have := h (c, i) (by rw [List.mem_zipIdx_iff_getElem?]; exact hi)
  simpa using this
theorem badW_cons {w : List Nat} {i : Nat} {r : List Nat} (h : badW w = i :: r) : ∃ c, w[i]? = some c ∧ isL c = false ∧ ∀ j, j < i → ∀ d, w[j]? = some d → isL d = true := by
  have go : ∀ (w : List Nat) (k : Nat), ((w.zipIdx k).filter fun p => !isL p.1).map (·.2) = i :: r → ∃ c, k ≤ i ∧ w[i - k]? = some c ∧ isL c = false ∧ ∀ j, j < i - k → ∀ d, w[j]? = some d → isL d = true := by
    intro w
    induction w with
    | nil => intro k h; simp at h
    | cons c w ih =>
      intro k h
      rw [List.zipIdx_cons, List.filter_cons] at h
      by_cases hc : isL c = true
      · rw [if_neg (by simp [hc])] at h
        obtain ⟨d, h1, h2, h3, h4⟩ := ih (k + 1) h
        refine ⟨d, by omega, ?_, h3, fun j hj e he => ?_⟩
        · have : i - k = (i - (k + 1)) + 1 := by omega
          rw [this, List.getElem?_cons_succ]; exact h2
        · cases j with
          | zero => simp at he; subst he; exact hc
          | succ j => exact h4 j (by omega) e (by simpa using he)
      · rw [if_pos (by simpa using hc)] at h
        simp at h
        have : i = k := h.1.symm
        subst this
        exact ⟨c, Nat.le_refl _, by simp, by simpa using hc, fun j hj => by omega⟩
  obtain ⟨c, _, h2, h3, h4⟩ := go w 0 h
  exact ⟨c, by simpa using h2, h3, fun j hj d hd => h4 j (by simpa using hj) d hd⟩
theorem badW_first {w : List Nat} {j c : Nat} (hc : w[j]? = some c) (hn : isL c = false) (h : ∀ i, i < j → ∀ d, w[i]? = some d → isL d = true) : ∃ r, badW w = j :: r := by
  cases e : badW w with
  | nil =>
    have := badW_none e c (List.mem_of_getElem? hc)
    rw [hn] at this; cases this
  | cons i r =>
    obtain ⟨d, h1, h2, h3⟩ := badW_cons e
    rcases Nat.lt_trichotomy i j with l | l | l
    · have := h i l d h1
      rw [h2] at this; cases this
    · exact ⟨r, by rw [l]⟩
    · have := h3 j l c hc
      rw [hn] at this; cases this
theorem badW_nil {w : List Nat} (h : ∀ (i : Nat) d, w[i]? = some d → isL d = true) : badW w = [] := by
  cases e : badW w with
  | nil => rfl
  | cons i r =>
    obtain ⟨d, h1, h2, h3⟩ := badW_cons e
    have := h i d h1
    rw [h2] at this; cases this
/-- w is what is left of a history of n persons, behind a arrivals and s services -/
def goodW (n : Nat) : Nat → Nat → List Nat → Prop
  | a, s, [] => a = n ∧ s = n
  | a, s, c :: w => (c = 97 ∧ a < n ∧ goodW n (a + 1) s w) ∨ (c = 115 ∧ s < a ∧ goodW n a (s + 1) w)
/-- histories -/
def HistW (n : Nat) (w : List Nat) : Prop := goodW n 0 0 w
theorem goodW_len {n : Nat} : ∀ {w : List Nat} {a s : Nat}, goodW n a s w → w.length + a + s = 2 * n
  | [], a, s, ⟨h1, h2⟩ => by simp; omega
  | c :: w, a, s, h => by
    rcases h with ⟨_, _, h⟩ | ⟨_, _, h⟩
    · have := goodW_len h; simp; omega
    · have := goodW_len h; simp; omega
theorem HistW.len {n : Nat} {w : List Nat} (h : HistW n w) : w.length = 2 * n := by have := goodW_len h; omega
theorem goodW_let {n : Nat} : ∀ {w : List Nat} {a s : Nat}, goodW n a s w → ∀ c ∈ w, c = 97 ∨ c = 115
  | [], _, _, _, c, h => by simp at h
  | d :: w, a, s, h, c, hc => by
    rcases List.mem_cons.mp hc with rfl | hc
    · exact h.elim (fun q => .inl q.1) fun q => .inr q.1
    · exact h.elim (fun q => goodW_let q.2.2 c hc) fun q => goodW_let q.2.2 c hc
end LawP
set_option Elab.async false
set_option linter.all false
set_option maxRecDepth 100000
set_option maxHeartbeats 4000000
namespace LawP
open PySem PySem.Spec PyProof.Rows L2 VL
@[simp] theorem lit_a : Str.ofString "a" = mkS [97] := by decide +kernel
@[simp] theorem lit_s : Str.ofString "s" = mkS [115] := by decide +kernel
@[simp] theorem lit_e : Str.ofString "" = mkS [] := by decide +kernel
@[simp] theorem lit_as : Str.ofString "as" = mkS [97, 115] := by decide +kernel
def isSm (p : PyData) : Prop := ∀ z, p = .str z → z.length ≤ 100000
theorem str_ex (z : Str) : ∃ w, z = mkS w := ⟨sl z, (mkS_sl z).symm⟩
/-! ### word_error -/
@[simp] def S_word_error : SV
  | [.py (.tuple xs), .py p], Q, _ => isSm p ∧ Q (.py (wErr xs.length p))
  | _, _, _ => False
theorem l_word_error : ∀ ds Q E, S_word_error ds Q E → t_word_error (envOf 7 ds) (fin Q E)
  | [.py (.tuple xs), .py (.str z)], Q, E, ⟨hs, q⟩ => by
    obtain ⟨w, rfl⟩ := str_ex z
    have hw : w.length ≤ 100000 := by have := hs _ rfl; simpa using this
    simp [t_word_error, -forGo, -lcGo, signsD_mkS, enumP_enc]
    refine lc_encF' (encE encC) (fun p => !isL p.1) (fun p => pN p.2) (fun i p hp k h1 h2 => ?_) (by simp; omega) ?_
    · obtain ⟨c, hc, rfl⟩ := zipIdx_at hp
      simp [lcStep, isL] at h1 h2 ⊢
      by_cases a1 : c = 97
      · subst a1; simpa using h2
      · by_cases a2 : c = 115
        · subst a2; simpa using h2
        · have b1 : ¬ 97 = c := fun e => a1 e.symm
          have b2 : ¬ 115 = c := fun e => a2 e.symm
          simp [a1, a2, b1, b2] at h1 ⊢
          exact h1
    · have eb : (List.map (fun p => pN p.2) (List.filter (fun p => !isL p.1) w.zipIdx)) = (badW w).map pN := by simp [badW]
      rw [eb]
      have q' : Q (.py (wErrL xs.length w)) := by simpa [wErr] using q
      unfold wErrL at q'
      cases hb : badW w with
      | cons i r =>
        rw [hb] at q'
        simpa [pN] using q'
      | nil =>
        rw [hb] at q'
        have hL := badW_none hb
        simp [-forGo]
        refine for_enc' (encE encC) (fun k ρ => ∃ a s x y, ρ = [.shr (.py (.tuple xs)), .shr (.py (.str (mkS w))), .shr (.py (.list [])), .shr (.py (.int (a : Nat))), .shr (.py (.int (s : Nat))), x, y] ∧ Q (.py (scanP xs.length k a s (w.drop k)))) ⟨0, 0, _, _, rfl, q'⟩ (fun k p ρ hp iv nx ct hn => ?_) (fun ρ iv => ?_)
        · obtain ⟨a, s, x, y, rfl, h⟩ := iv
          obtain ⟨c, hc, rfl⟩ := zipIdx_at hp
          have hk : k < w.length := (List.getElem?_eq_some_iff.mp hc).1
          have hd : w.drop k = c :: w.drop (k + 1) := by
            rw [List.drop_eq_getElem_cons hk]
            congr 1
            exact (List.getElem?_eq_some_iff.mp hc).2
          rw [hd] at h
          unfold scanP at h
          have hl := hL c (List.mem_of_getElem? hc)
          simp
          by_cases c1 : c = 97
          · subst c1
            rw [if_pos rfl] at h
            simp
            by_cases e : a = xs.length
            · subst e
              rw [if_pos rfl] at h
              simpa using h
            · rw [if_neg e] at h
              have e' : ¬ (a : Int) = (xs.length : Int) := by omega
              simp [e, e']
              exact (hn _ ⟨a + 1, s, _, _, rfl, h⟩).1
          · rw [if_neg c1] at h
            simp [c1]
            by_cases e : s = a
            · subst e
              rw [if_pos rfl] at h
              simpa using h
            · rw [if_neg e] at h
              have e' : ¬ (s : Int) = (a : Int) := by omega
              simp [e, e']
              exact (hn _ ⟨a, s + 1, _, _, rfl, h⟩).1
        · obtain ⟨a, s, x, y, rfl, h⟩ := iv
          rw [List.drop_eq_nil_of_le (by simp)] at h
          exact h
  | [.py (.tuple xs), .py .none], Q, E, q | [.py (.tuple xs), .py (.bool _)], Q, E, q | [.py (.tuple xs), .py (.int _)], Q, E, q | [.py (.tuple xs), .py (.list _)], Q, E, q | [.py (.tuple xs), .py (.tuple _)], Q, E, q | [.py (.tuple xs), .py (.dict _)], Q, E, q => by simpa [t_word_error, wErr] using q.2
/-! ### is_history -/
def isHist (n : Nat) (p : PyData) : Bool := match p with
  | .str z => isNn (wErr n (.str z)) && decide (z.length = 2 * n)
  | _ => false
@[simp] def S_is_history : SV
  | [.py (.tuple xs), .py p], Q, _ => isSm p ∧ xs.length ≤ 100000 ∧ Q (.py (.bool (isHist xs.length p)))
  | _, _, _ => False
/-! ### what is drawn -/
def odds : List PyData := [.none, .bool true, .bool false, .int (-1), .int 0, .int 1, .int 40, .int 1000000001, .int 1000000000000000000000000000000000000000, .str "", .str "a", .str "as", .str "0", .tuple [], .list [], .dict [], .tuple [.int 0], .list [.int 0], .tuple [.bool true], .tuple [.str "a", .str "s"], .tuple [.int 0, .int 0], .str "none", .dict [(.str "a", .int 0)], .tuple [.int 1, .int 0]]
theorem odds_sw : ∀ p ∈ odds, Sw 160 2 p := by decide +kernel
@[simp] def S_law_odd (r : Addr) : SV
  | [.raw v], Q, _ => v = .ref r ∧ ∀ p ∈ odds, Q (.py p)
  | _, _, _ => False
theorem l_law_odd (r : Addr) : ∀ ds Q E, S_law_odd r ds Q E → t_law_odd (svPick r) (envOf 2 ds) (fin Q E)
  | [.raw v], Q, E, ⟨hv, q⟩ => by
    subst hv
    simp [t_law_odd, AllIn]
    intro y hy
    exact q y (by simpa [odds, or_assoc] using hy)
@[simp] def S_law_word (r : Addr) : SV
  | [.raw v, .py (.int m), .py (.int way)], Q, _ => v = .ref r ∧ 0 ≤ m ∧ m ≤ 1000 ∧ 0 ≤ way ∧ way < 5 ∧ ∀ w : List Nat, HistW m.toNat w → Q (.py (.str (mkS w)))
  | _, _, _ => False
theorem l_law_word (r : Addr) : ∀ ds Q E, S_law_word r ds Q E → t_law_word (svTake r) (envOf 7 ds) (fin Q E)
  | [.raw v, .py (.int m), .py (.int way)], Q, E, ⟨hv, m0, m1, w0, w1, q⟩ => by
    subst hv
    obtain ⟨n, rfl⟩ := Int.eq_ofNat_of_zero_le m0
    simp [t_law_word]
    refine ⟨fun k ρ => ∃ (acc : List Nat) (a s : Nat) (x : VL.Slot), ρ = [.shr (.raw (.ref r)), .shr (.py (.int (n : Nat))), .shr (.py (.int way)), .own (.py (.list (acc.map encC))), .shr (.py (.int ((a : Int) - s))), .shr (.py (.int ((n : Int) - a))), x] ∧ s ≤ a ∧ a ≤ n ∧ acc.length = a + s ∧ k = 2 * n - a - s ∧ (∀ w, goodW n a s w → HistW n (acc ++ w)),
      ⟨_, [], 0, 0, _, by simp; rfl, by omega, by omega, rfl, rfl, fun w h => h⟩, ?_⟩
    rintro k ρ ⟨acc, a, s, x, rfl, h1, h2, h3, h4, h5⟩
    have hS : s < a → ∃ m', m' < k ∧ ∃ (acc' : List Nat) (a' s' : Nat), (acc.map encC ++ [PyData.str (mkS [115])] = acc'.map encC ∧ (a : Int) - s - 1 = (a' : Int) - s' ∧ (a : Int) = a') ∧ s' ≤ a' ∧ a' ≤ n ∧ acc'.length = a' + s' ∧ m' = 2 * n - a' - s' ∧ ∀ w, goodW n a' s' w → HistW n (acc' ++ w) := fun h => by
      refine ⟨_, ?_, acc ++ [115], a, s + 1, ⟨by simp, by omega, rfl⟩, by omega, h2, by simp; omega, rfl, fun w hw => ?_⟩
      · omega
      · rw [List.append_assoc]
        exact h5 (115 :: w) (.inr ⟨rfl, h, hw⟩)
    have hA : a < n → ∃ m', m' < k ∧ ∃ (acc' : List Nat) (a' s' : Nat), (acc.map encC ++ [PyData.str (mkS [97])] = acc'.map encC ∧ (a : Int) - s + 1 = (a' : Int) - s' ∧ (n : Int) - a - 1 = (n : Int) - a') ∧ s' ≤ a' ∧ a' ≤ n ∧ acc'.length = a' + s' ∧ m' = 2 * n - a' - s' ∧ ∀ w, goodW n a' s' w → HistW n (acc' ++ w) := fun h => by
      refine ⟨_, ?_, acc ++ [97], a + 1, s, ⟨by simp, by omega, by omega⟩, by omega, by omega, by simp; omega, rfl, fun w hw => ?_⟩
      · omega
      · rw [List.append_assoc]
        exact h5 (97 :: w) (.inl ⟨rfl, h, hw⟩)
    simp
    split
    · rename_i c
      intro y y0 y1 z z0 z1
      obtain ⟨d, hd⟩ : ∃ d : Int, atI [PyData.int y, PyData.int 1, PyData.int 0, PyData.int (if 0 < z then 1 else 0), PyData.int (if 2 < (a : Int) - s then 1 else 0)] way = some (.int d) := by
        rcases (by omega : way = 0 ∨ way = 1 ∨ way = 2 ∨ way = 3 ∨ way = 4) with rfl | rfl | rfl | rfl | rfl
        · exact ⟨y, rfl⟩
        · exact ⟨1, rfl⟩
        · exact ⟨0, rfl⟩
        · exact ⟨_, rfl⟩
        · exact ⟨_, rfl⟩
      refine ⟨_, hd, ?_⟩
      by_cases c1 : (n : Int) - a = 0
      · rw [if_pos c1]
        refine ⟨by omega, ?_⟩
        have := hS (by omega)
        simpa using this
      · rw [if_neg c1]
        have hA' := hA (by omega)
        by_cases c2 : s < a
        · rw [if_pos c2]
          have hS' := hS c2
          simp
          split
          · exact ⟨by omega, by simpa using hS'⟩
          · exact ⟨by omega, by simpa using hA'⟩
        · rw [if_neg c2]
          exact ⟨by omega, by simpa using hA'⟩
    · rename_i c
      have e1 : a = n := by omega
      have e2 : s = n := by omega
      subst e1 e2
      have hw : HistW s acc := by have := h5 [] ⟨rfl, rfl⟩; simpa using this
      have h := hw.len
      refine ⟨_, allS_signs acc, ?_, ?_⟩
      · have := sum_signs acc
        simp at this ⊢
        omega
      · rw [join_signs]
        exact q acc (by simpa using hw)
/-! ### the law's own look at a word -/
@[simp] def S_law_fault : SV
  | [.py (.tuple xs), .py p], Q, _ => isSm p ∧ Q (.py (wErr xs.length p))
  | _, _, _ => False
theorem l_law_fault : ∀ ds Q E, S_law_fault ds Q E → t_law_fault (envOf 4 ds) (fin Q E)
  | [.py (.tuple xs), .py (.str z)], Q, E, ⟨hs, q⟩ => by
    obtain ⟨w, rfl⟩ := str_ex z
    have hw : w.length ≤ 100000 := by have := hs _ rfl; simpa using this
    simp [t_law_fault, -forGo]
    have q' : Q (.py (wErrL xs.length w)) := by simpa [wErr] using q
    unfold wErrL at q'
    refine ⟨by omega, by omega, ?_⟩
    refine for_enc (encR 0) (fun k ρ => ∃ x, ρ = [.shr (.py (.tuple xs)), .shr (.py (.str (mkS w))), x, .un] ∧ ∀ j, j < k → ∀ c, w[j]? = some c → isL c = true) ⟨_, rfl, fun j hj => by omega⟩ (fun k j ρ hj iv nx ct hn => ?_) (fun ρ iv => ?_)
    · obtain ⟨x, rfl, h⟩ := iv
      obtain ⟨rfl, hj⟩ := range_get hj
      obtain ⟨c, hc⟩ : ∃ c, w[j]? = some c := ⟨w[j], List.getElem?_eq_getElem hj⟩
      have ac : atI w (j : Int) = some c := atI_nat hc
      simp [ac]
      refine ⟨by omega, ?_⟩
      split
      · rename_i c1
        have hl : isL c = false := by simp [isL]; exact ⟨fun e => c1.1 e.symm, fun e => c1.2 e.symm⟩
        obtain ⟨r, hr⟩ := badW_first hc hl h
        rw [hr] at q'
        simpa using q'
      · rename_i c1
        refine (hn _ ⟨_, rfl, fun i hi d hd => ?_⟩).1
        by_cases e : i = j
        · subst e
          rw [hc] at hd; cases hd
          simp [isL]
          by_cases e1 : c = 97
          · exact .inl e1
          · exact .inr (Classical.byContradiction fun e2 => c1 ⟨fun z => e1 z.symm, fun z => e2 z.symm⟩)
        · exact h i (by omega) d hd
    · obtain ⟨x, rfl, h⟩ := iv
      have hb : badW w = [] := badW_nil fun i d hd => h i (by have := (List.getElem?_eq_some_iff.mp hd).1; simpa using this) d hd
      rw [hb] at q'
      simp [-forGo]
      refine ⟨by omega, by omega, ?_⟩
      refine for_enc (encR 0) (fun k ρ => ∃ x y, ρ = [.shr (.py (.tuple xs)), .shr (.py (.str (mkS w))), x, y] ∧ Q (.py (scanP xs.length k ((w.take k).count 97) ((w.take k).count 115) (w.drop k)))) ⟨_, _, rfl, by simpa using q'⟩ (fun k j ρ hj iv nx ct hn => ?_) (fun ρ iv => ?_)
      · obtain ⟨x, y, rfl, hq⟩ := iv
        obtain ⟨rfl, hj⟩ := range_get hj
        obtain ⟨c, hc⟩ : ∃ c, w[j]? = some c := ⟨w[j], List.getElem?_eq_getElem hj⟩
        have ac : atI w (j : Int) = some c := atI_nat hc
        have hl : isL c = true := h j (by simpa using hj) c hc
        have hd : w.drop j = c :: w.drop (j + 1) := by
          rw [List.drop_eq_getElem_cons hj]
          congr 1
          exact (List.getElem?_eq_some_iff.mp hc).2
        have ht : w.take (j + 1) = w.take j ++ [c] := take_succ_get hc
        have ec : cutL w none (some (j : Int)) = w.take j := by rw [cutL_take w (by omega)]; simp
        rw [hd] at hq
        unfold scanP at hq
        simp [ac, ec]
        refine ⟨by omega, ?_⟩
        have nxt : ∀ x y, Q (.py (scanP xs.length (j + 1) ((w.take (j + 1)).count 97) ((w.take (j + 1)).count 115) (w.drop (j + 1)))) → nx [.shr (.py (.tuple xs)), .shr (.py (.str (mkS w))), x, y] := fun x y hh => (hn _ ⟨_, _, rfl, hh⟩).1
        rw [ht] at nxt
        simp [isL] at hl
        rcases hl with e | e
        · subst e
          simp at hq nxt ⊢
          split
          · rename_i c1
            rw [if_pos (by omega)] at hq
            exact hq
          · rename_i c1
            rw [if_neg (by omega)] at hq
            exact ⟨by omega, nxt _ _ hq⟩
        · subst e
          simp at hq nxt ⊢
          split
          · rename_i c1
            rw [if_pos (by omega)] at hq
            exact ⟨by omega, hq⟩
          · rename_i c1
            rw [if_neg (by omega)] at hq
            exact ⟨by omega, nxt _ _ hq⟩
      · obtain ⟨x, y, rfl, hq⟩ := iv
        have : w.drop (List.range w.length).length = [] := List.drop_eq_nil_of_le (by simp)
        rw [this] at hq
        exact hq
  | [.py (.tuple xs), .py .none], Q, E, q | [.py (.tuple xs), .py (.bool _)], Q, E, q | [.py (.tuple xs), .py (.int _)], Q, E, q | [.py (.tuple xs), .py (.list _)], Q, E, q | [.py (.tuple xs), .py (.tuple _)], Q, E, q | [.py (.tuple xs), .py (.dict _)], Q, E, q => by simpa [t_law_fault, wErr] using q.2
/-! ### a word changed -/
@[simp] def S_law_twisted (r : Addr) : SV
  | [.raw v, .py (.str z)], Q, _ => v = .ref r ∧ z.length ≤ 50000 ∧ ∀ z' : Str, z'.length ≤ z.length + 10 → (∀ c ∈ sl z', c ∈ sl z ∨ c < 128) → Q (.py (.str z'))
  | _, _, _ => False
theorem l_law_twisted (r : Addr) : ∀ ds Q E, S_law_twisted r ds Q E → t_law_twisted (svTake r) (svPick r) (envOf 5 ds) (fin Q E)
  | [.raw v, .py (.str z)], Q, E, ⟨hv, hz, q⟩ => by
    subst hv
    obtain ⟨w, rfl⟩ := str_ex z
    simp at hz q
    simp [t_law_twisted]
    refine ⟨by omega, by omega, fun x x0 x1 => AllIn.of (S := fun y => ∃ g : List Nat, y = .str (mkS g) ∧ g.length ≤ 2 ∧ ∀ c ∈ g, c < 128) ?_ ?_⟩
    · have e1 : Str.ofString "x" = mkS [120] := by decide +kernel
      have e2 : Str.ofString "A" = mkS [65] := by decide +kernel
      have e3 : Str.ofString " " = mkS [32] := by decide +kernel
      have e4 : Str.ofString "\n" = mkS [10] := by decide +kernel
      have e5 : Str.ofString "ss" = mkS [115, 115] := by decide +kernel
      have e6 : Str.ofString "aa" = mkS [97, 97] := by decide +kernel
      simp [e1, e2, e3, e4, e5, e6]
    · rintro y ⟨g, rfl, hg, hc⟩
      simp
      have l1 := cutL_len w none (some x)
      have l2 := cutL_len w (some x) none
      have l3 := cutL_len w (some (x + 1)) none
      have l12 : (cutL w none (some x)).length + (cutL w (some x) none).length = w.length := by rw [cutL_take w x0, cutL_drop w x0, List.length_take, List.length_drop]; omega
      have l13 : (cutL w none (some x)).length + (cutL w (some (x + 1)) none).length ≤ w.length := by rw [cutL_take w x0, cutL_drop w (by omega), List.length_take, List.length_drop]; omega
      have m : ∀ lo hi, ∀ c ∈ cutL w lo hi, c ∈ w := fun lo hi c h => cutL_mem h
      repeat (refine ⟨by omega, ?_⟩)
      refine AllIn.of (S := fun y => ∃ u : List Nat, y = .str (mkS u) ∧ u.length ≤ w.length + 10 ∧ ∀ c ∈ u, c ∈ w ∨ c < 128) ?_ ?_
      · intro y hy
        simp only [List.mem_cons, List.not_mem_nil, or_false] at hy
        have P3 : ∀ (a b c : List Nat), (∀ d ∈ a, d ∈ w ∨ d < 128) → (∀ d ∈ b, d ∈ w ∨ d < 128) → (∀ d ∈ c, d ∈ w ∨ d < 128) → ∀ d ∈ a ++ (b ++ c), d ∈ w ∨ d < 128 := fun a b c h1 h2 h3 d hd => by
          rcases List.mem_append.mp hd with h | h
          · exact h1 d h
          · rcases List.mem_append.mp h with h | h
            · exact h2 d h
            · exact h3 d h
        have P2 : ∀ (a b : List Nat), (∀ d ∈ a, d ∈ w ∨ d < 128) → (∀ d ∈ b, d ∈ w ∨ d < 128) → ∀ d ∈ a ++ b, d ∈ w ∨ d < 128 := fun a b h1 h2 d hd => by
          rcases List.mem_append.mp hd with h | h
          · exact h1 d h
          · exact h2 d h
        have mc : ∀ lo hi, ∀ d ∈ cutL w lo hi, d ∈ w ∨ d < 128 := fun lo hi d h => .inl (m lo hi d h)
        have mg : ∀ d ∈ g, d ∈ w ∨ d < 128 := fun d h => .inr (hc d h)
        have mw : ∀ d ∈ w, d ∈ w ∨ d < 128 := fun d h => .inl h
        rcases hy with rfl | rfl | rfl | rfl | rfl | rfl | rfl
        · exact ⟨_, rfl, by simp; omega, P3 _ _ _ (mc _ _) mg (mc _ _)⟩
        · exact ⟨_, rfl, by simp; omega, P3 _ _ _ (mc _ _) mg (mc _ _)⟩
        · exact ⟨_, rfl, by simp; omega, P2 _ _ (mc _ _) (mc _ _)⟩
        · exact ⟨_, rfl, by simp, fun d h => .inl (List.mem_reverse.mp h)⟩
        · exact ⟨_, rfl, by omega, mc _ _⟩
        · exact ⟨_, rfl, by simp; omega, P2 _ _ mw mg⟩
        · exact ⟨_, rfl, by simp; omega, P2 _ _ (mc _ _) (mc _ _)⟩
      · rintro y ⟨u, rfl, hu, hm⟩
        exact q _ (by simpa using hu) (by simpa using hm)
end LawP
set_option Elab.async false
set_option linter.all false
set_option maxRecDepth 100000
set_option maxHeartbeats 4000000
namespace LawP
open PySem PySem.Spec PyProof.Rows L2 VL
/-! ### sizes of words and what is told of them -/
theorem sw_mkS {u : List Nat} {n : Nat} (h : u.length ≤ n) (hc : ∀ c ∈ u, c < 1114112) : Sw n 0 (.str (mkS u)) := by
  refine ⟨by simp only [PyData.showable], ?_, ?_, by simp only [PyData.depth]; omega⟩
  · simp only [PyData.leavesShort]
    rw [List.all_eq_true]
    intro c hm
    have := hc c (by simpa using hm)
    exact decide_eq_true (by omega)
  · simp only [PyData.weight]
    show (mkS u).length ≤ n
    simpa using h
theorem scanP_sw (n : Nat) : ∀ (w : List Nat) (k a s : Nat), k + w.length ≤ 100000 → Sw 200 3 (scanP n k a s w)
  | [], _, _, _, _ => by unfold scanP; decide +kernel
  | c :: w, k, a, s, h => by
    have i40 : Sw 60 2 (.int (k : Nat)) := (Sw.int (by simp at h; omega)).mono (by omega) (by omega)
    have t1 : Sw 60 2 (.str "arrival") := by decide +kernel
    have t2 : Sw 60 2 (.str "service") := by decide +kernel
    unfold scanP
    split
    · split
      · exact (Sw.t2 i40 t1).mono (by omega) (by omega)
      · exact scanP_sw n w _ _ _ (by simp at h; omega)
    · split
      · exact (Sw.t2 i40 t2).mono (by omega) (by omega)
      · exact scanP_sw n w _ _ _ (by simp at h; omega)
theorem wErr_sw (n : Nat) {p : PyData} (h : isSm p) : Sw 200 3 (wErr n p) := by
  have t0 : Sw 200 3 (.tuple [.none, .str "string"]) := by decide +kernel
  cases p <;> try exact t0
  rename_i z
  have hz := h z rfl
  show Sw 200 3 (wErrL n (sl z))
  unfold wErrL
  cases e : badW (sl z) with
  | nil =>
    show Sw 200 3 (scanP n 0 0 0 (sl z))
    exact scanP_sw n (sl z) _ _ _ (by rw [slen]; omega)
  | cons i r =>
    obtain ⟨c, hc, _, _⟩ := badW_cons e
    have := (List.getElem?_eq_some_iff.mp hc).1
    rw [slen] at this
    have t1 : Sw 60 2 (.str "letter") := by decide +kernel
    have i60 : Sw 60 2 (.int (i : Nat)) := (Sw.int (by omega)).mono (by omega) (by omega)
    show Sw 200 3 (.tuple [.int (i : Nat), .str "letter"])
    exact (Sw.t2 i60 t1).mono (by omega) (by omega)
/-- a value that the laws try -/
structure OkV (p : PyData) : Prop where
  sm : isSm p
  sw : Sw 100000 30 p
theorem OkV.txt {u : List Nat} (h : u.length ≤ 90000) (hc : ∀ c ∈ u, c < 128) : OkV (.str (mkS u)) :=
  ⟨fun z e => by simp at e; subst e; simp; omega, (sw_mkS (n := 100000) (by omega) fun c h => by have := hc c h; omega).mono (by omega) (by omega)⟩
theorem OkV.odd {p : PyData} (h : p ∈ odds) : OkV p := by
  refine ⟨fun z e => ?_, (odds_sw p h).mono (by omega) (by omega)⟩
  subst e
  have : ∀ p ∈ odds, (match p with | .str z => decide (z.length ≤ 100000) | _ => true) = true := by decide +kernel
  simpa using this _ h
theorem HistW.ok {n : Nat} {w : List Nat} (h : HistW n w) : ∀ c ∈ w, c < 128 := fun c hc => by rcases goodW_let h c hc with rfl | rfl <;> omega
end LawP
set_option Elab.async false
set_option linter.all false
namespace LawP
open PySem VL
/-! ### the queue: the mathematics -/
/-- p stands at place i -/
def insAt (ws : List Nat) (i p : Nat) : List Nat := ws.take i ++ p :: ws.drop i
/-- where p joins: behind the mate, or at the end -/
def joinPl (ws : List Nat) (m : Option Nat) : Nat := match m with
  | some k => if k ∈ ws then ws.idxOf k + 1 else ws.length
  | none => ws.length
def joinQ (ws : List Nat) (p : Nat) (m : Option Nat) : List Nat := insAt ws (joinPl ws m) p
theorem mem_insAt {ws : List Nat} {i p x : Nat} : x ∈ insAt ws i p ↔ x = p ∨ x ∈ ws := by
  unfold insAt
  rw [List.mem_append, List.mem_cons]
  constructor
  · rintro (h | h | h)
    · exact .inr (List.mem_of_mem_take h)
    · exact .inl h
    · exact .inr (List.mem_of_mem_drop h)
  · rintro (h | h)
    · exact .inr (.inl h)
    · rw [← List.take_append_drop i ws] at h
      exact (List.mem_append.mp h).elim .inl fun h => .inr (.inr h)
theorem insAt_len (ws : List Nat) (i p : Nat) : (insAt ws i p).length = ws.length + 1 := by
  unfold insAt
  rw [List.length_append, List.length_cons, List.length_take, List.length_drop]
  omega
theorem joinQ_len (ws : List Nat) (p : Nat) (m : Option Nat) : (joinQ ws p m).length = ws.length + 1 := insAt_len _ _ _
theorem mem_joinQ {ws : List Nat} {p x : Nat} {m : Option Nat} : x ∈ joinQ ws p m ↔ x = p ∨ x ∈ ws := mem_insAt
/-- members of a group stand in the order of their arrival, and who came behind a waiting one waits, too -/
structure QInv (row : List Int) (a : Nat) (ws : List Nat) : Prop where
  lt : ∀ x ∈ ws, x < a
  up : ∀ x ∈ ws, ∀ y, x < y → y < a → row[x]? = row[y]? → y ∈ ws
  ord : ws.Pairwise fun x y => row[x]? = row[y]? → x < y
  nd : ws.Nodup
theorem QInv.nil (row : List Int) (a : Nat) : QInv row a [] := ⟨by simp, by simp, .nil, .nil⟩
theorem QInv.serve {row : List Int} {a x : Nat} {ws : List Nat} (h : QInv row a (x :: ws)) : QInv row a ws := by
  obtain ⟨h1, h2, h3, h4⟩ := h
  rw [List.pairwise_cons] at h3
  rw [List.nodup_cons] at h4
  refine ⟨fun y hy => h1 y (List.mem_cons_of_mem _ hy), fun y hy z l1 l2 e => ?_, h3.2, h4.2⟩
  rcases List.mem_cons.mp (h2 y (List.mem_cons_of_mem _ hy) z l1 l2 e) with rfl | h
  · have := h3.1 y hy e.symm
    omega
  · exact h
theorem pair_idx {row : List Int} {ws : List Nat} {k x : Nat} (hp : ws.Pairwise fun x y => row[x]? = row[y]? → x < y) (hk : k ∈ ws) (h : x ∈ ws.drop (ws.idxOf k + 1)) (e : row[k]? = row[x]?) : k < x := by
  obtain ⟨j, hj, ej⟩ := List.mem_iff_getElem.mp h
  rw [List.getElem_drop] at ej
  rw [List.length_drop] at hj
  have hi := List.idxOf_lt_length_of_mem hk
  have e2 : ws[ws.idxOf k] = k := List.getElem_idxOf hi
  have := List.pairwise_iff_getElem.mp hp (ws.idxOf k) (ws.idxOf k + 1 + j) hi (by omega) (by omega)
  rw [e2, ej] at this
  exact this e
theorem QInv.mate_in {row : List Int} {a x : Nat} {ws : List Nat} {g : Int} (h : QInv row a ws) (hg : row[a]? = some g) (hx : x ∈ ws) (e : row[x]? = some g) : ∃ m, lastIn row g a = some m ∧ m ∈ ws := by
  have hxa := h.lt x hx
  cases hm : lastIn row g a with
  | none => exact absurd e (lastIn_none hm x hxa)
  | some m =>
    obtain ⟨m1, m2, m3⟩ := lastIn_some hm
    refine ⟨m, rfl, ?_⟩
    rcases Nat.lt_trichotomy x m with l | l | l
    · exact h.up x hx m l m1 (by rw [e, m2])
    · rw [← l]; exact hx
    · exact absurd e (m3 x l hxa)
theorem QInv.join {row : List Int} {a : Nat} {ws : List Nat} {g : Int} (h : QInv row a ws) (hg : row[a]? = some g) : QInv row (a + 1) (joinQ ws a (mateOf row a)) := by
  have hna : a ∉ ws := fun m => by have := h.lt a m; omega
  have same : ∀ i, (∀ x ∈ ws.drop i, row[x]? ≠ row[a]?) → QInv row (a + 1) (insAt ws i a) := fun i hd => by
    refine ⟨fun x hx => ?_, fun x hx y l1 l2 e => ?_, ?_, ?_⟩
    · rcases mem_insAt.mp hx with rfl | hx
      · omega
      · have := h.lt x hx; omega
    · rcases mem_insAt.mp hx with rfl | hx
      · omega
      · by_cases ey : y = a
        · exact mem_insAt.mpr (.inl ey)
        · exact mem_insAt.mpr (.inr (h.up x hx y l1 (by omega) e))
    · unfold insAt
      have hp := h.ord
      rw [← List.take_append_drop i ws, List.pairwise_append] at hp
      rw [List.pairwise_append, List.pairwise_cons]
      refine ⟨hp.1, ⟨fun x hx e => absurd e.symm (hd x hx), hp.2.1⟩, fun x hx y hy e => ?_⟩
      rcases List.mem_cons.mp hy with rfl | hy
      · exact h.lt x (List.mem_of_mem_take hx)
      · exact hp.2.2 x hx y hy e
    · unfold insAt
      have hp := h.nd
      rw [← List.take_append_drop i ws, List.nodup_append] at hp
      rw [List.nodup_append, List.nodup_cons]
      refine ⟨hp.1, ⟨fun m => hna (List.mem_of_mem_drop m), hp.2.1⟩, fun x hx y hy e => ?_⟩
      rcases List.mem_cons.mp hy with rfl | hy
      · exact hna (by rw [← e]; exact List.mem_of_mem_take hx)
      · exact hp.2.2 x hx y hy e
  unfold joinQ
  rw [mateOf_at hg]
  cases hm : lastIn row g a with
  | none =>
    exact same _ (by unfold joinPl; simp)
  | some m =>
    obtain ⟨m1, m2, m3⟩ := lastIn_some hm
    unfold joinPl
    simp only
    split
    · rename_i hmw
      refine same _ fun x hx e => ?_
      rw [hg] at e
      have := pair_idx h.ord hmw hx (by rw [m2, e])
      exact m3 x this (h.lt x (List.mem_of_mem_drop hx)) e
    · refine same _ (by simp)
/-- those of a's group who wait -/
def alike (row : List Int) (ws : List Nat) (a : Nat) : List Nat := ws.filter fun x => row[x]? == row[a]?
theorem alike_last {row : List Int} {a : Nat} {ws : List Nat} {g : Int} (h : QInv row a ws) (hg : row[a]? = some g) : joinPl ws (mateOf row a) = match (alike row ws a).getLast? with
    | some m => ws.idxOf m + 1
    | none => ws.length := by
  rw [mateOf_at hg]
  have mem : ∀ x, x ∈ alike row ws a ↔ x ∈ ws ∧ row[x]? = some g := fun x => by
    unfold alike
    rw [List.mem_filter, hg]
    simp
  cases hl : (alike row ws a).getLast? with
  | none =>
    have e : alike row ws a = [] := List.getLast?_eq_none_iff.mp hl
    simp only
    cases hm : lastIn row g a with
    | none => rfl
    | some m =>
      obtain ⟨m1, m2, m3⟩ := lastIn_some hm
      unfold joinPl
      simp only
      rw [if_neg]
      intro hmw
      have := (mem m).mpr ⟨hmw, m2⟩
      rw [e] at this; simp at this
  | some L =>
    simp only
    have hL : L ∈ alike row ws a := List.mem_of_getLast? hl
    obtain ⟨L1, L2⟩ := (mem L).mp hL
    obtain ⟨m, hm, hmw⟩ := h.mate_in hg L1 L2
    obtain ⟨m1, m2, m3⟩ := lastIn_some hm
    have hmA := (mem m).mpr ⟨hmw, m2⟩
    have e : m = L := by
      obtain ⟨pre, hpre⟩ : ∃ pre, alike row ws a = pre ++ [L] := by
        obtain ⟨ys, hys⟩ := List.getLast?_eq_some_iff.mp hl
        exact ⟨ys, hys⟩
      have hord : (alike row ws a).Pairwise fun x y => row[x]? = row[y]? → x < y := h.ord.sublist List.filter_sublist
      rw [hpre] at hmA hord
      rcases List.mem_append.mp hmA with h' | h'
      · have := (List.pairwise_append.mp hord).2.2 m h' L (by simp) (by rw [m2, L2])
        exact absurd L2 (m3 L this (h.lt L L1))
      · simpa using h'
    subst e
    rw [hm]
    unfold joinPl
    simp only
    rw [if_pos hmw]
/-! ### words done -/
/-- a beginning of a history, behind a arrivals and s services -/
def okP (n : Nat) : Nat → Nat → List Nat → Prop
  | _, _, [] => True
  | a, s, c :: w => (c = 97 ∧ a < n ∧ okP n (a + 1) s w) ∨ (c = 115 ∧ s < a ∧ okP n a (s + 1) w)
/-- letter, person, waiting: for each letter -/
def stepsL (row : List Int) : Nat → List Nat → List Nat → List (Nat × Nat × List Nat)
  | _, _, [] => []
  | a, ws, c :: w => if c = 97 then (c, a, joinQ ws a (mateOf row a)) :: stepsL row (a + 1) (joinQ ws a (mateOf row a)) w else match ws with
    | x :: ws' => (c, x, ws') :: stepsL row a ws' w
    | [] => []
theorem stepsL_a (row : List Int) (a : Nat) (ws w : List Nat) : stepsL row a ws (97 :: w) = (97, a, joinQ ws a (mateOf row a)) :: stepsL row (a + 1) (joinQ ws a (mateOf row a)) w := rfl
theorem stepsL_s (row : List Int) (a x : Nat) (ws w : List Nat) : stepsL row a (x :: ws) (115 :: w) = (115, x, ws) :: stepsL row a ws w := rfl
/-- who was served -/
def servedL (st : List (Nat × Nat × List Nat)) : List Nat := (st.filter fun p => p.1 == 115).map fun p => p.2.1
/-- who waits at the end -/
def waitL (st : List (Nat × Nat × List Nat)) : List Nat := match st.getLast? with
  | some p => p.2.2
  | none => []
theorem scan_ok {n : Nat} : ∀ {w : List Nat} {k a s : Nat}, (∀ c ∈ w, isL c = true) → s ≤ a → a ≤ n → (scanP n k a s w = .none ↔ okP n a s w)
  | [], k, a, s, _, _, _ => by simp [scanP, okP]
  | c :: w, k, a, s, hL, h1, h2 => by
    have hc := hL c List.mem_cons_self
    have hw : ∀ d ∈ w, isL d = true := fun d hd => hL d (List.mem_cons_of_mem _ hd)
    unfold scanP okP
    by_cases e : c = 97
    · subst e
      rw [if_pos rfl]
      by_cases e2 : a = n
      · rw [if_pos e2]
        simp
        intro h; omega
      · rw [if_neg e2, scan_ok hw (by omega) (by omega)]
        simp
        intro _; omega
    · have e' : c = 115 := by simp [isL] at hc; exact hc.resolve_left e
      subst e'
      rw [if_neg e]
      by_cases e2 : s = a
      · rw [if_pos e2]
        simp
        intro h; omega
      · rw [if_neg e2, scan_ok hw (by omega) h2]
        simp
        intro _; omega
theorem okP_let {n : Nat} : ∀ {w : List Nat} {a s : Nat}, okP n a s w → ∀ c ∈ w, isL c = true
  | [], _, _, _, c, h => by simp at h
  | d :: w, a, s, h, c, hc => by
    rcases List.mem_cons.mp hc with rfl | hc
    · rcases h with ⟨rfl, _⟩ | ⟨rfl, _⟩ <;> rfl
    · exact h.elim (fun q => okP_let q.2.2 c hc) fun q => okP_let q.2.2 c hc
theorem badW_okP {n : Nat} {w : List Nat} (h : okP n 0 0 w) : badW w = [] := badW_nil fun i d hd => okP_let h d (List.mem_of_getElem? hd)
theorem wErr_none {n : Nat} {w : List Nat} : wErrL n w = .none ↔ okP n 0 0 w := by
  unfold wErrL
  constructor
  · intro h
    cases e : badW w with
    | nil => rw [e] at h; exact (scan_ok (badW_none e) (Nat.le_refl _) (Nat.zero_le _)).mp h
    | cons i r => rw [e] at h; cases h
  · intro h
    rw [badW_okP h]
    exact (scan_ok (okP_let h) (Nat.le_refl _) (Nat.zero_le _)).mpr h
end LawP
set_option Elab.async false
set_option linter.all false
set_option maxRecDepth 100000
set_option maxHeartbeats 4000000
namespace LawP
open PySem PySem.Spec PyProof.Rows L2 VL
def t_check_word (S_word_error : SV) : VS :=
  (sSeq (sSet 2 (vCall S_word_error (vCons (vVar 0) (vCons (vVar 1) vNil))))
  (sIf (vTst (vBin (gIsN true) (vBor 2) (vC (.py .none))))
  (sRaise1 "BadWord" "error" (vVar 2))
  sNext))
def t_queue_with : VS :=
  (sSeq (sSet 3 (vIf (vTst (vBin (gIn false) (vBor 2) (vBor 0))) (vBin gAdd (vMth isSq gIndex (vBor 0) (vCons (vBor 2) vNil)) (vC (.py (.int 1)))) (vCal gLen (vCons (vBor 0) vNil))))
  (sRet (vBin gAdd (vBin gAdd (vSl gSl (vBor 0) oNo (oAt (vBor 3))) (vTup (vCons (vVar 1) vNil))) (vSl gSl (vBor 0) (oAt (vBor 3)) oNo))))
def t_steps_of (S_mates : SV) (S_queue_with : SV) : VS :=
  (sSeq (sPar [2, 3, 4, 5] (mCons true (vLst vNil) (mCons false (vTup vNil) (mCons false (vC (.py (.int 0))) (mCons false (vCall S_mates (vCons (vVar 0) vNil)) mNil)))))
  (sSeq (sFor (iS (vVar 1)) (tgName 6)
  (sSeq (sIf (vTst (vBin gEq (vBor 6) (vC (.py (.str "a")))))
  (sSeq (sPar [7, 4] (mCons false (vVar 4) (mCons false (vBin gAdd (vBor 4) (vC (.py (.int 1)))) mNil)))
  (sSet 3 (vCall S_queue_with (vCons (vVar 3) (vCons (vVar 7) (vCons (vBin gIx (vBor 5) (vBor 7)) vNil))))))
  (sPar [7, 3] (mCons false (vBin gIx (vBor 3) (vC (.py (.int 0)))) (mCons false (vSl gSl (vBor 3) (oAt (vC (.py (.int 1)))) oNo) mNil))))
  (sMut 2 gApp (vCons (vTup (vCons (vVar 6) (vCons (vVar 7) (vCons (vVar 3) vNil)))) vNil))))
  (sFrz 2 (sRet (vVar 2)))))
def t_law_played : VS :=
  (sSeq (sPar [2, 3, 4, 5] (mCons true (vLst vNil) (mCons false (vLst vNil) (mCons true (vLst vNil) (mCons false (vC (.py (.int 0))) mNil)))))
  (sSeq (sFor (iS (vVar 1)) (tgName 6)
  (sSeq (sIf (vTst (vBin gEq (vBor 6) (vC (.py (.str "s")))))
  (sSeq (sSet 7 (vBin gIx (vBor 3) (vC (.py (.int 0)))))
  (sSeq (sSet 3 (vSl gSl (vBor 3) (oAt (vC (.py (.int 1)))) oNo))
  (sMut 2 gApp (vCons (vVar 7) vNil))))
  (sSeq (sSet 7 (vVar 5))
  (sSeq (sSet 5 (vBin gAdd (vBor 5) (vC (.py (.int 1)))))
  (sSeq (sSet 8 (vLc [10] (iS (vBor 3)) (tgName 10) (vTst (vBin gEq (vBin gIx (vBor 0) (vBor 10)) (vBin gIx (vBor 0) (vBor 7)))) (vVar 10)))
  (sSeq (sSet 9 (vIf (vTst (vBin gNe (vBor 8) (vLst vNil))) (vBin gAdd (vMth isSq gIndex (vBor 3) (vCons (vBin gIx (vBor 8) (vUn gNeg (vC (.py (.int 1))))) vNil)) (vC (.py (.int 1)))) (vCal gLen (vCons (vBor 3) vNil))))
  (sSet 3 (vBin gAdd (vBin gAdd (vSl gSl (vBor 3) oNo (oAt (vBor 9))) (vLst (vCons (vVar 7) vNil))) (vSl gSl (vBor 3) (oAt (vBor 9)) oNo))))))))
  (sMut 4 gApp (vCons (vTup (vCons (vVar 6) (vCons (vVar 7) (vCons (vCal gTuple (vCons (vBor 3) vNil)) vNil)))) vNil))))
  (sFrz 4 (sRet (vLst (vCons (vCal gTuple (vCons (vBor 2) vNil)) (vCons (vCal gTuple (vCons (vBor 3) vNil)) (vCons (vVar 4) vNil))))))))
end LawP
set_option Elab.async false
set_option linter.all false
set_option maxRecDepth 100000
set_option maxHeartbeats 4000000
namespace LawP
open PySem PySem.Spec PyProof.Rows L2 VL
/-! ### queue_with -/
theorem ex_pN (ws : List Nat) (m : Option Nat) : (∃ x, x ∈ ws ∧ (pN x).eqv (oN m) = true) ↔ ∃ k, m = some k ∧ k ∈ ws := by
  constructor
  · rintro ⟨x, hx, e⟩
    cases m with
    | none => simp [pN, oN, PyData.eqv] at e
    | some k =>
      simp [pN, oN] at e
      have : x = k := by omega
      subst this
      exact ⟨_, rfl, hx⟩
  · rintro ⟨k, rfl, hk⟩
    exact ⟨k, hk, by simp [pN, oN]⟩
theorem plain_pN (ws : List Nat) : PyData.plainAll (ws.map pN) = true := by
  have : ws.map pN = (ws.map fun (n : Nat) => (n : Int)).map PyData.int := by rw [List.map_map]; rfl
  rw [this, plainAll_ints]
theorem depth_pN (ws : List Nat) : PyData.depthAll (ws.map pN) = 0 := by
  induction ws with
  | nil => rfl
  | cons w ws ih => rw [List.map_cons, depthAll_cons, ih]; rfl
theorem ix_pN {ws : List Nat} {k : Nat} (h : k ∈ ws) : ixOf (ws.map pN) (.int (k : Int)) = some (ws.idxOf k) := by
  induction ws with
  | nil => simp at h
  | cons w ws ih =>
    rw [List.map_cons, ixOf, List.idxOf_cons]
    by_cases e : w = k
    · have e1 : (pN w).eqv (.int (k : Int)) = true := by subst e; simp [pN]
      rw [if_pos e1, e]; simp
    · have e1 : ¬ (pN w).eqv (.int (k : Int)) = true := by simp [pN]; omega
      have e2 : (w == k) = false := beq_eq_false_iff_ne.mpr e
      have hk : k ∈ ws := by rcases List.mem_cons.mp h with h | h; exact absurd h.symm e; exact h
      rw [if_neg e1, ih hk, e2]; rfl
@[simp] def S_queue_with : SV := fun ds Q _ => ∃ (ws : List Nat) (p : Nat) (m : Option Nat), ds = [.py (tN ws), .py (pN p), .py (oN m)] ∧ ws.length ≤ 100000 ∧ Q (.py (tN (joinQ ws p m)))
theorem oN_plain (m : Option Nat) : (oN m).plain = true := by cases m <;> rfl
theorem oN_depth (m : Option Nat) : (oN m).depth = 0 := by cases m <;> rfl
theorem l_queue_with : ∀ ds Q E, S_queue_with ds Q E → t_queue_with (envOf 4 ds) (fin Q E) := by
  rintro ds Q E ⟨ws, p, m, rfl, hl, q⟩
  have cut : ∀ i : Nat, cutL (ws.map pN) none (some (i : Int)) ++ pN p :: cutL (ws.map pN) (some (i : Int)) none = (insAt ws i p).map pN := fun i => by
    rw [cutL_take _ (by omega), cutL_drop _ (by omega)]
    simp [insAt]
  have ln : ∀ i : Nat, (cutL (ws.map pN) none (some (i : Int))).length ≤ 16777215 ∧ (cutL (ws.map pN) none (some (i : Int))).length + 1 + (cutL (ws.map pN) (some (i : Int)) none).length ≤ 16777216 := fun i => by
    have h1 := cutL_len (ws.map pN) none (some (i : Int))
    have h2 := cutL_len (ws.map pN) (some (i : Int)) none
    rw [List.length_map] at h1 h2
    exact ⟨by omega, by omega⟩
  simp [t_queue_with, ex_pN, plain_pN, oN_plain, oN_depth, depth_pN]
  by_cases hk : ∃ k, m = some k ∧ k ∈ ws
  · rw [if_pos hk]
    obtain ⟨k, rfl, hk⟩ := hk
    refine ⟨_, ix_pN hk, ?_⟩
    have l := ln (ws.idxOf k + 1)
    have c := cut (ws.idxOf k + 1)
    push_cast at l c
    refine ⟨l.1, l.2, ?_⟩
    rw [c]
    simpa [joinQ, joinPl, hk] using q
  · rw [if_neg hk]
    have l := ln ws.length
    have c := cut ws.length
    refine ⟨l.1, l.2, ?_⟩
    rw [c]
    have : joinPl ws m = ws.length := by
      unfold joinPl
      cases m with
      | none => rfl
      | some k => simp only; rw [if_neg fun h => hk ⟨k, rfl, h⟩]
    simpa [joinQ, this] using q
/-! ### steps_of -/
def stepP (p : Nat × Nat × List Nat) : PyData := .tuple [.str (mkS [p.1]), pN p.2.1, tN p.2.2]
@[simp] def S_steps_of : SV := fun ds Q _ => ∃ (row : List Int) (w : List Nat), ds = [.py (tI row), .py (.str (mkS w))] ∧ row.length ≤ 1000 ∧ w.length ≤ 100000 ∧ okP row.length 0 0 w ∧ Q (.py (.list ((stepsL row 0 [] w).map stepP)))
theorem drop_at {α : Type} {w : List α} {k : Nat} {c : α} (hc : w[k]? = some c) : w.drop k = c :: w.drop (k + 1) := by
  have hk := (List.getElem?_eq_some_iff.mp hc).1
  rw [List.drop_eq_getElem_cons hk]
  congr 1
  exact (List.getElem?_eq_some_iff.mp hc).2
theorem l_steps_of : ∀ ds Q E, S_steps_of ds Q E → t_steps_of S_mates S_queue_with (envOf 8 ds) (fin Q E) := by
  rintro ds Q E ⟨row, w, rfl, hr, hw, hok, q⟩
  simp [t_steps_of, signsD_mkS, -forGo, -S_queue_with]
  refine ⟨hr, for_enc' encC (fun k ρ => ∃ acc a ws s x y, ρ = [.shr (.py (tI row)), .shr (.py (.str (mkS w))), .own (.py (.list acc)), .shr (.py (tN ws)), .shr (.py (.int (a : Nat))), .shr (.py (matesP row)), x, y] ∧ okP row.length a s (w.drop k) ∧ ws.length + s = a ∧ a ≤ k ∧
    acc ++ (stepsL row a ws (w.drop k)).map stepP = (stepsL row 0 [] w).map stepP ∧ acc.length = k) ⟨[], 0, [], 0, _, _, rfl, hok, rfl, Nat.le_refl _, rfl, rfl⟩ (fun k c ρ hc iv nx ct hn => ?_) (fun ρ iv => ?_)⟩
  · obtain ⟨acc, a, ws, s, x, y, rfl, h1, h2, h3, h4, h5⟩ := iv
    have hk := (List.getElem?_eq_some_iff.mp hc).1
    rw [drop_at hc] at h1 h4
    unfold okP at h1
    rcases h1 with ⟨rfl, ha, h1⟩ | ⟨rfl, ha, h1⟩
    · rw [stepsL_a] at h4
      have hm : (matesL row)[a]? = some (mateOf row a) := by simp [matesL, ha]
      have am : atI ((matesL row).map oN) (a : Int) = some (oN (mateOf row a)) := atI_map hm
      simp [matesP, am, -S_queue_with]
      refine ⟨ws, a, mateOf row a, by simp [pN], by omega, ?_⟩
      simp
      refine ⟨by omega, (hn _ ⟨_, a + 1, joinQ ws a (mateOf row a), s, _, _, rfl, h1, ?_, by omega, ?_, ?_⟩).1⟩
      · rw [joinQ_len]; omega
      · rw [List.append_assoc]
        exact h4
      · simp; omega
    · cases ws with
      | nil => simp at h2; omega
      | cons p ws =>
        rw [stepsL_s] at h4
        have c1 : cutL (pN p :: ws.map pN) (some 1) none = ws.map pN := by
          rw [cutL_drop _ (by omega)]; simp
        simp [c1]
        refine ⟨by omega, (hn _ ⟨_, a, ws, s + 1, _, _, rfl, h1, ?_, by omega, ?_, ?_⟩).1⟩
        · simp at h2; omega
        · rw [List.append_assoc]
          exact h4
        · simp; omega
  · obtain ⟨acc, a, ws, s, x, y, rfl, h1, h2, h3, h4, h5⟩ := iv
    rw [List.drop_eq_nil_of_le (by simp)] at h4
    simp [stepsL] at h4
    subst h4
    simpa using q
/-! ### check_word, run -/
@[simp] def S_check_word : SV
  | [.py (.tuple xs), .py p], Q, E => isSm p ∧ (wErr xs.length p = .none → Q (.py .none)) ∧ (wErr xs.length p ≠ .none → E ⟨"BadWord", [("error", wErr xs.length p)]⟩)
  | _, _, _ => False
theorem isNn_iff (p : PyData) : isNn p = true ↔ p = .none := by cases p <;> simp [isNn]
theorem l_check_word : ∀ ds Q E, S_check_word ds Q E → t_check_word S_word_error (envOf 3 ds) (fin Q E)
  | [.py (.tuple xs), .py p], Q, E, ⟨hs, q1, q2⟩ => by
    simp [t_check_word, -isNn]
    refine ⟨hs, ?_⟩
    cases h : isNn (wErr xs.length p) with
    | true =>
      simp [-isNn]
      exact q1 ((isNn_iff _).mp h)
    | false =>
      simp [-isNn]
      exact q2 fun e => by rw [(isNn_iff _).mpr e] at h; cases h
def runP (row : List Int) (w : List Nat) : PyData := .tuple [tN (servedL (stepsL row 0 [] w)), tN (waitL (stepsL row 0 [] w))]
@[simp] def S_run : SV := fun ds Q E => ∃ (row : List Int) (p : PyData), ds = [.py (tI row), .py p] ∧ row.length ≤ 1000 ∧ isSm p ∧ (∀ w, p = .str (mkS w) → okP row.length 0 0 w → Q (.py (runP row w))) ∧ (wErr row.length p ≠ .none → E ⟨"BadWord", [("error", wErr row.length p)]⟩)
theorem stepsL_len (row : List Int) : ∀ (w : List Nat) (a s : Nat) (ws : List Nat), okP row.length a s w → ws.length + s = a → (stepsL row a ws w).length = w.length
  | [], _, _, _, _, _ => rfl
  | c :: w, a, s, ws, h, e => by
    rcases h with ⟨rfl, h1, h⟩ | ⟨rfl, h1, h⟩
    · rw [stepsL_a, List.length_cons, stepsL_len row w (a + 1) s _ h (by rw [joinQ_len]; omega)]; rfl
    · cases ws with
      | nil => simp at e; omega
      | cons x ws => rw [stepsL_s, List.length_cons, stepsL_len row w a (s + 1) ws h (by simp at e; omega)]; rfl
/-! ### the law's own queue -/
@[simp] def S_law_played : SV := fun ds Q _ => ∃ (row : List Int) (w : List Nat), ds = [.py (tI row), .py (.str (mkS w))] ∧ row.length ≤ 1000 ∧ w.length ≤ 100000 ∧ okP row.length 0 0 w ∧
  Q (.py (.list [tN (servedL (stepsL row 0 [] w)), tN (waitL (stepsL row 0 [] w)), .list ((stepsL row 0 [] w).map stepP)]))
/-- what is known while a word is done: behind it the steps so far, the queue -/
structure Doing (row : List Int) (w : List Nat) (k : Nat) (acc : List (Nat × Nat × List Nat)) (a : Nat) (ws : List Nat) : Prop where
  ok : ∃ s, okP row.length a s (w.drop k) ∧ ws.length + s = a
  ak : a ≤ k
  st : acc ++ stepsL row a ws (w.drop k) = stepsL row 0 [] w
  len : acc.length = k
  qi : QInv row a ws
  wt : waitL acc = ws
theorem Doing.start (row : List Int) (w : List Nat) (h : okP row.length 0 0 w) : Doing row w 0 [] 0 [] := ⟨⟨0, h, rfl⟩, Nat.le_refl _, rfl, rfl, .nil _ _, rfl⟩
theorem waitL_snoc (acc : List (Nat × Nat × List Nat)) (z : Nat × Nat × List Nat) : waitL (acc ++ [z]) = z.2.2 := by simp [waitL]
theorem Doing.arr {row : List Int} {w : List Nat} {k a : Nat} {acc : List (Nat × Nat × List Nat)} {ws : List Nat} (h : Doing row w k acc a ws) (hc : w[k]? = some 97) : a < row.length ∧ Doing row w (k + 1) (acc ++ [(97, a, joinQ ws a (mateOf row a))]) (a + 1) (joinQ ws a (mateOf row a)) := by
  obtain ⟨⟨s, h1, h2⟩, h3, h4, h5, h6, h7⟩ := h
  rw [drop_at hc] at h1 h4
  rcases h1 with ⟨_, ha, h1⟩ | ⟨e, _⟩
  · rw [stepsL_a] at h4
    obtain ⟨g, hg⟩ : ∃ g, row[a]? = some g := ⟨row[a], List.getElem?_eq_getElem ha⟩
    exact ⟨ha, ⟨⟨s, h1, by rw [joinQ_len]; omega⟩, by omega, by rw [List.append_assoc]; exact h4, by simp; omega, h6.join hg, waitL_snoc _ _⟩⟩
  · cases e
theorem Doing.ser {row : List Int} {w : List Nat} {k a : Nat} {acc : List (Nat × Nat × List Nat)} {ws : List Nat} (h : Doing row w k acc a ws) (hc : w[k]? = some 115) : ∃ x ws', ws = x :: ws' ∧ Doing row w (k + 1) (acc ++ [(115, x, ws')]) a ws' := by
  obtain ⟨⟨s, h1, h2⟩, h3, h4, h5, h6, h7⟩ := h
  rw [drop_at hc] at h1 h4
  rcases h1 with ⟨e, _⟩ | ⟨_, ha, h1⟩
  · cases e
  · cases ws with
    | nil => simp at h2; omega
    | cons x ws =>
      rw [stepsL_s] at h4
      exact ⟨x, ws, rfl, ⟨⟨s + 1, h1, by simp at h2; omega⟩, by omega, by rw [List.append_assoc]; exact h4, by simp; omega, h6.serve, waitL_snoc _ _⟩⟩
theorem Doing.let {row : List Int} {w : List Nat} {k a c : Nat} {acc : List (Nat × Nat × List Nat)} {ws : List Nat} (h : Doing row w k acc a ws) (hc : w[k]? = some c) : c = 97 ∨ c = 115 := by
  obtain ⟨⟨s, h1, h2⟩, _⟩ := h
  rw [drop_at hc] at h1
  rcases h1 with ⟨e, _⟩ | ⟨e, _⟩
  · exact .inl e
  · exact .inr e
theorem Doing.fin {row : List Int} {w : List Nat} {k a : Nat} {acc : List (Nat × Nat × List Nat)} {ws : List Nat} (h : Doing row w k acc a ws) (hk : w.length ≤ k) : acc = stepsL row 0 [] w ∧ ws = waitL (stepsL row 0 [] w) := by
  have h4 := h.st
  rw [List.drop_eq_nil_of_le hk] at h4
  simp [stepsL] at h4
  exact ⟨h4, by rw [← h4]; exact h.wt.symm⟩
theorem servedL_snoc (acc : List (Nat × Nat × List Nat)) (c x : Nat) (ws : List Nat) : servedL (acc ++ [(c, x, ws)]) = servedL acc ++ if c = 115 then [x] else [] := by
  unfold servedL
  rw [List.filter_append, List.map_append]
  by_cases h : c = 115
  · simp [h]
  · simp [h]
theorem l_law_played : ∀ ds Q E, S_law_played ds Q E → t_law_played (envOf 11 ds) (fin Q E) := by
  rintro ds Q E ⟨row, w, rfl, hr, hw, hok, q⟩
  simp [t_law_played, signsD_mkS, -forGo]
  refine for_enc' encC (fun k ρ => ∃ acc a ws sv qs st x y z u, ρ = [.shr (.py (tI row)), .shr (.py (.str (mkS w))), .own (.py (.list sv)), .shr (.py (.list qs)), .own (.py (.list st)), .shr (.py (.int (a : Nat))), x, y, z, u, .un] ∧ Doing row w k acc a ws ∧ sv = (servedL acc).map pN ∧ qs = ws.map pN ∧ st = acc.map stepP) ⟨[], 0, [], _, _, _, _, _, _, _, rfl, .start row w hok, rfl, rfl, rfl⟩ (fun k c ρ hc iv nx ct hn => ?_) (fun ρ iv => ?_)
  · obtain ⟨acc, a, ws, sv, qs, st, x, y, z, u, rfl, h, e1, e2, e3⟩ := iv
    have hk := (List.getElem?_eq_some_iff.mp hc).1
    have la : acc.length = k := h.len
    have ls : sv.length ≤ k := by
      have := List.length_filter_le (fun p => p.1 == 115) acc
      rw [e1]; simp [servedL]; omega
    have lt : st.length = k := by rw [e3]; simp [la]
    rcases h.let hc with rfl | rfl
    · obtain ⟨ha, h'⟩ := h.arr hc
      obtain ⟨g, hg⟩ : ∃ g, row[a]? = some g := ⟨row[a], List.getElem?_eq_getElem ha⟩
      have ag : atI (row.map PyData.int) (a : Int) = some (.int g) := atI_map hg
      have lw : ws.length ≤ 100000 := by
        obtain ⟨⟨s, _, e⟩, e2, _⟩ := h
        omega
      subst e2
      simp [-lcGo]
      refine lc_encF' pN (fun x => row[x]? == row[a]?) pN (fun i x hx k2 h1 h2 => ?_) (by omega) ?_
      · have hxa := h.qi.lt x (List.mem_of_getElem? hx)
        obtain ⟨gx, hgx⟩ : ∃ g, row[x]? = some g := ⟨row[x], List.getElem?_eq_getElem (by omega)⟩
        have ax : atI (row.map PyData.int) (x : Int) = some (.int gx) := atI_map hgx
        simp [hgx, hg] at h1 h2
        simp [lcStep, pN, ax, ag]
        by_cases e : gx = g
        · simp [e]; exact h1 e
        · simp [e]; exact h2 e
      · have ea : List.filter (fun x => row[x]? == row[a]?) ws = alike row ws a := rfl
        rw [ea]
        have al := alike_last h.qi hg
        have cut : ∀ i : Nat, cutL (ws.map pN) none (some (i : Int)) ++ pN a :: cutL (ws.map pN) (some (i : Int)) none = (insAt ws i a).map pN := fun i => by
          rw [cutL_take _ (by omega), cutL_drop _ (by omega)]
          simp [insAt]
        have ln : ∀ i : Nat, (cutL (ws.map pN) none (some (i : Int))).length ≤ 16777215 ∧ (cutL (ws.map pN) none (some (i : Int))).length + 1 + (cutL (ws.map pN) (some (i : Int)) none).length ≤ 16777216 := fun i => by
          have h1 := cutL_len (ws.map pN) none (some (i : Int))
          have h2 := cutL_len (ws.map pN) (some (i : Int)) none
          rw [List.length_map] at h1 h2
          exact ⟨by omega, by omega⟩
        have end_ : ∀ (i : Nat) (q1 : List PyData) x y z u, i = joinPl ws (mateOf row a) → q1 = (insAt ws i a).map pN → nx [.shr (.py (tI row)), .shr (.py (.str (mkS w))), .own (.py (.list sv)), .shr (.py (.list q1)), .own (.py (.list (st ++ [.tuple [.str (mkS [97]), .int (a : Nat), .tuple q1]]))), .shr (.py (.int ((a : Int) + 1))), x, y, z, u, .un] := fun i q1 x y z u ei eq => by
          subst ei eq
          refine (hn _ ⟨_, a + 1, _, sv, _, _, _, _, _, _, rfl, h', by rw [e1, servedL_snoc]; simp, rfl, ?_⟩).1
          rw [e3]
          simp [stepP, joinQ, pN]
        rcases List.eq_nil_or_concat (alike row ws a) with hA | ⟨L', m, hA⟩
        · rw [hA] at al ⊢
          have l := ln ws.length
          simp
          refine ⟨l.1, l.2, by omega, end_ ws.length _ _ _ _ _ (by rw [al]; rfl) (cut _)⟩
        · rw [hA] at al ⊢
          have hm : m ∈ ws := (List.mem_filter.mp (by rw [← ea] at hA; rw [hA]; simp)).1
          have el : (L'.concat m).getLast? = some m := by rw [List.concat_eq_append]; simp
          rw [el] at al
          simp at al ⊢
          have l := ln (ws.idxOf m + 1)
          have c := cut (ws.idxOf m + 1)
          push_cast at l c
          refine ⟨_, atI_last _ _, plain_pN ws, rfl, .inl (by show 0 ≤ 60; omega), _, ix_pN hm, l.1, l.2, by omega, ?_⟩
          exact end_ (ws.idxOf m + 1) _ _ _ _ _ al.symm c
    · obtain ⟨p, ws', rfl, h'⟩ := h.ser hc
      subst e2
      have c1 : cutL (pN p :: ws'.map pN) (some 1) none = ws'.map pN := by
        rw [cutL_drop _ (by omega)]; simp
      simp [c1]
      refine ⟨by omega, by omega, (hn _ ⟨_, a, ws', _, _, _, _, _, _, _, rfl, h', ?_, rfl, ?_⟩).1⟩
      · rw [e1, servedL_snoc]; simp
      · rw [e3]; simp [stepP]
  · obtain ⟨acc, a, ws, sv, qs, st, x, y, z, u, rfl, h, e1, e2, e3⟩ := iv
    obtain ⟨f1, f2⟩ := h.fin (by simp)
    subst e1 e2 e3
    rw [f1, f2]
    simpa using q
/-! ### sizes -/
theorem okP_len {n : Nat} : ∀ {w : List Nat} {a s : Nat}, okP n a s w → a ≤ n → s ≤ a → w.length + a + s ≤ 2 * n
  | [], a, s, _, h1, h2 => by simp; omega
  | c :: w, a, s, h, h1, h2 => by
    rcases h with ⟨_, ha, h⟩ | ⟨_, ha, h⟩
    · have := okP_len h (by omega) (by omega); simp; omega
    · have := okP_len h h1 (by omega); simp; omega
theorem steps_bound {row : List Int} : ∀ {w : List Nat} {a s : Nat} {ws : List Nat}, okP row.length a s w → a ≤ row.length → ws.length + s = a → (∀ x ∈ ws, x < row.length) → ∀ e ∈ stepsL row a ws w, e.2.1 < row.length ∧ (∀ x ∈ e.2.2, x < row.length) ∧ e.2.2.length ≤ row.length ∧ (e.1 = 97 ∨ e.1 = 115)
  | [], _, _, _, _, _, _, _, e, he => by simp [stepsL] at he
  | c :: w, a, s, ws, h, h0, hl, hb, e, he => by
    rcases h with ⟨rfl, ha, h⟩ | ⟨rfl, ha, h⟩
    · rw [stepsL_a] at he
      have hb' : ∀ x ∈ joinQ ws a (mateOf row a), x < row.length := fun x hx => by
        rcases mem_joinQ.mp hx with rfl | hx
        · exact ha
        · exact hb x hx
      rcases List.mem_cons.mp he with rfl | he
      · exact ⟨ha, hb', by show (joinQ ws a (mateOf row a)).length ≤ _; rw [joinQ_len]; omega, .inl rfl⟩
      · exact steps_bound h (by omega) (by rw [joinQ_len]; omega) hb' e he
    · cases ws with
      | nil => simp at hl; omega
      | cons x ws =>
        rw [stepsL_s] at he
        rcases List.mem_cons.mp he with rfl | he
        · refine ⟨hb x List.mem_cons_self, fun y hy => hb y (List.mem_cons_of_mem _ hy), ?_, .inr rfl⟩
          simp at hl
          show ws.length ≤ row.length
          omega
        · exact steps_bound h h0 (by simp at hl; omega) (fun y hy => hb y (List.mem_cons_of_mem _ hy)) e he
theorem Sw.tN {n : Nat} {xs : List Nat} (h : ∀ x ∈ xs, x < 10 ^ 9) (hn : xs.length ≤ n) : Sw (41 * n) 3 (tN xs) := Sw.tup (w := 40) (d := 2) (fun p hp => by
  obtain ⟨x, hx, rfl⟩ := List.mem_map.mp hp
  exact Sw.pN (by have := h x hx; omega)) (by rw [List.length_map]; exact hn)
end LawP
set_option Elab.async false
set_option linter.all false
set_option maxRecDepth 100000
set_option maxHeartbeats 4000000
namespace LawP
open PySem PySem.Spec PyProof.Rows L2 VL
def t_each_step (S_check_word : SV) (S_steps_of : SV) : VZ :=
  (zThen (zP (sExpr (vCall S_check_word (vCons (vVar 0) (vCons (vVar 1) vNil)))))
  (zThen (zYf (vCall S_steps_of (vCons (vVar 0) (vCons (vVar 1) vNil))))
  zNil))
end LawP
set_option Elab.async false
set_option linter.all false
set_option maxRecDepth 100000
set_option maxHeartbeats 4000000
namespace LawP
open PySem PySem.Spec PyProof.Rows L2 VL
/-! ### each_step -/
@[simp] def S_each_step : SZ := fun ds Y Q E => ∃ (row : List Int) (p : PyData), ds = [.py (tI row), .py p] ∧ row.length ≤ 1000 ∧ isSm p ∧
  ((∃ w, p = .str (mkS w) ∧ okP row.length 0 0 w ∧ (∀ i d, ((stepsL row 0 [] w).map stepP)[i]? = some d → Y i d) ∧ Q w.length) ∨ (wErr row.length p ≠ .none ∧ E ⟨"BadWord", [("error", wErr row.length p)]⟩))
theorem l_each_step : ∀ ds Y Q E, S_each_step ds Y Q E → t_each_step S_check_word S_steps_of (envOf 2 ds) 0 (finZ Y Q E) := by
  rintro ds Y Q E ⟨row, p, rfl, hr, hs, h⟩
  rcases h with ⟨w, rfl, hok, hy, hq⟩ | ⟨hn, he⟩
  · have hw : w.length ≤ 100000 := by have := hs _ rfl; simpa using this
    have hl := stepsL_len row w 0 0 [] hok rfl
    have hn : wErr row.length (.str (mkS w)) = .none := wErr_none.mpr hok
    simp [t_each_step]
    refine ⟨hs, fun _ => ⟨row, w, ⟨rfl, rfl⟩, hr, hw, hok, ?_, ?_⟩, fun h => absurd hn h⟩
    · intro k p
      rintro a a1 b hk rfl
      exact hy k _ (by rw [List.getElem?_map, hk]; rfl)
    · rw [hl]; exact hq
  · simp [t_each_step]
    exact ⟨hs, fun h => absurd h hn, fun _ => he⟩
end LawP
set_option Elab.async false
set_option linter.all false
set_option maxRecDepth 100000
set_option maxHeartbeats 4000000
namespace LawP
open PySem PySem.Spec PyProof.Rows L2 VL
def t_law_begun (S_each_step : SZ) : VS :=
  (sSeq (sSetN 3 (vLst vNil))
  (sSeq (sForZ (fun n => n ∈ (["BadWord"] : List Str)) S_each_step (vCons (vVar 0) (vCons (vVar 1) vNil)) (tgName 4)
  (sSeq (sIf (vTst (vBin gEq (vCal gLen (vCons (vBor 3) vNil)) (vBor 2)))
  sBrk
  sNext)
  (sMut 3 gApp (vCons (vTup (vCons (vVar 4) (vCons (vCal gLen (vCons (vListZ (fun n => n ∈ (["BadWord"] : List Str)) S_each_step (vCons (vVar 0) (vCons (vVar 1) vNil))) vNil)) vNil))) vNil))))
  (sFrz 3 (sRet (vVar 3)))))
def t_law_told (S_each_step : SZ) : VS :=
  (sSeq (sSetN 2 (vLst vNil))
  (sSeq (sTry 4 ["BadWord"] "LineError"
  (sForZ (fun n => n ∈ (["BadWord"] : List Str)) S_each_step (vCons (vVar 0) (vCons (vVar 1) vNil)) (tgName 3)
  (sMut 2 gApp (vCons (vVar 3) vNil)))
  (fun a d er => (sSeq (sSet 5 (vAnd (vErrI a d er 4 ["BadWord"] "ValueError") (vNot (vErrIT a d er 4 ["BadWord"] ["BadHistory", "BadText", "NoHistory"]))))
  (sSet 2 (vIf (wAnd (vTst (vBor 5)) (vTst (vErrI a d er 4 ["BadWord"] "BadWord"))) (vTup (vCons (vErrF a d er 4 ["BadWord"] "error") vNil)) (vC (.py (.str "other"))))))))
  (sFrz 2 (sRet (vVar 2)))))
def t_law (S_law_drawn : SV) (S_law_word : SV) (S_law_take : SV) (S_law_twisted : SV) (S_law_odd : SV) (S_law_fault : SV) (S_law_played : SV) (S_law_told : SV) (S_law_begun : SV) : VS :=
  (sSeq (sFor (iR1 (vCons (vC (.py (.int 6))) vNil)) (tgName 2)
  (sSeq (sSet 3 (vCall S_law_drawn (vCons (vVar 1) (vCons (vBin gIx (vLst (vCons (vC (.py (.int 40))) (vCons (vC (.py (.int 8))) vNil))) (vBin gMod (vBor 2) (vC (.py (.int 2))))) vNil))))
  (sSeq (sSet 4 (vCall S_law_word (vCons (vVar 1) (vCons (vCal gLen (vCons (vBor 3) vNil)) (vCons (vCall S_law_take (vCons (vVar 1) (vCons (vC (.py (.int 5))) vNil))) vNil)))))
  (sSeq (sFor (iS (vLst (vCons (vVar 4) (vCons (vSl gSl (vBor 4) oNo (oAt (vCall S_law_take (vCons (vVar 1) (vCons (vCal gLen (vCons (vBor 4) vNil)) vNil))))) (vCons (vC (.py (.str ""))) (vCons (vCall S_law_twisted (vCons (vVar 1) (vCons (vVar 4) vNil))) (vCons (vCall S_law_odd (vCons (vVar 1) vNil)) (vCons (vLst (vCons (vVar 4) vNil)) vNil)))))))) (tgName 5)
  (sSeq (sPar [6, 7] (mCons false (vCal gRepr (vCons (vLst (vCons (vVar 3) (vCons (vVar 5) vNil))) vNil)) (mCons false (vCall S_law_fault (vCons (vVar 3) (vCons (vVar 5) vNil))) mNil)))
  (sSeq (sSet 8 (vIf (vTst (vBin (gIsN true) (vBor 7) (vC (.py .none)))) (vTup (vCons (vVar 7) vNil)) (vBin gIx (vCall S_law_played (vCons (vVar 3) (vCons (vVar 5) vNil))) (vC (.py (.int 2))))))
  (sIf (wOr (vTst (vBin gNe (vCal gRepr (vCons (vCall S_law_told (vCons (vVar 3) (vCons (vVar 5) vNil))) vNil)) (vCal gRepr (vCons (vBor 8) vNil)))) (vTst (vBin gNe (vCal gRepr (vCons (vLst (vCons (vVar 3) (vCons (vVar 5) vNil))) vNil)) (vBor 6))))
  (sRet (vC (.py (.bool false))))
  sNext))))
  (sSeq (sPar [9, 10] (mCons false (vCall S_law_take (vCons (vVar 1) (vCons (vC (.py (.int 4))) vNil))) (mCons false (vBin gIx (vCall S_law_played (vCons (vVar 3) (vCons (vVar 4) vNil))) (vC (.py (.int 2)))) mNil)))
  (sIf (vTst (vBin gNe (vCal gRepr (vCons (vCall S_law_begun (vCons (vVar 3) (vCons (vVar 4) (vCons (vVar 9) vNil)))) vNil)) (vCal gRepr (vCons (vLc [11] (iS (vSl gSl (vBor 10) oNo (oAt (vBor 9)))) (tgName 11) wYes (vTup (vCons (vVar 11) (vCons (vCal gLen (vCons (vBor 10) vNil)) vNil)))) vNil))))
  (sRet (vC (.py (.bool false))))
  sNext))))))
  (sRet (vC (.py (.bool true)))))
end LawP
set_option Elab.async false
set_option linter.all false
namespace VL
open PySem PySem.Spec PyProof.Rows L2 HT
@[simp] theorem atI_one {α : Type} (x y : α) (xs : List α) : atI (x :: y :: xs) 1 = some y := by have := @atI_nat _ (x :: y :: xs) 1 _ rfl; exact this
@[simp] theorem atI_two {α : Type} (x y z : α) (xs : List α) : atI (x :: y :: z :: xs) 2 = some z := by have := @atI_nat _ (x :: y :: z :: xs) 2 _ rfl; exact this
@[simp] theorem atI_three {α : Type} (x y z u : α) (xs : List α) : atI (x :: y :: z :: u :: xs) 3 = some u := by have := @atI_nat _ (x :: y :: z :: u :: xs) 3 _ rfl; exact this
end VL
namespace LawP
open PySem VL
/-! ### lists of persons -/
/-! ### what a word leads to -/
theorem goodW_okP {n : Nat} : ∀ {w : List Nat} {a s : Nat}, goodW n a s w → okP n a s w
  | [], _, _, _ => trivial
  | c :: w, a, s, h => by
    rcases h with ⟨e, ha, h⟩ | ⟨e, ha, h⟩
    · exact .inl ⟨e, ha, goodW_okP h⟩
    · exact .inr ⟨e, ha, goodW_okP h⟩
end LawP
set_option Elab.async false
set_option linter.all false
set_option maxRecDepth 100000
set_option maxHeartbeats 4000000
namespace LawP
open PySem PySem.Spec PyProof.Rows L2 VL
@[simp] theorem es1 : errSub "BadWord" "LineError" = true := by decide +kernel
@[simp] theorem es2 : errSub "BadWord" "ValueError" = true := by decide +kernel
@[simp] theorem es3 : errSub "BadWord" "BadWord" = true := by decide +kernel
@[simp] theorem es4 : errSub "BadWord" "BadHistory" = false := by decide +kernel
@[simp] theorem es5 : errSub "BadWord" "BadText" = false := by decide +kernel
@[simp] theorem es6 : errSub "BadWord" "NoHistory" = false := by decide +kernel
theorem es_ok {row : List Int} {w : List Nat} (hr : row.length ≤ 1000) (hl : w.length ≤ 100000) (ok : okP row.length 0 0 w) :
    S_each_step [.py (.tuple (row.map PyData.int)), .py (.str (mkS w))] (fun i d => ((stepsL row 0 [] w).map stepP)[i]? = some d) (fun i => i = ((stepsL row 0 [] w).map stepP).length) (fun _ => False) := by
  refine ⟨row, _, rfl, hr, fun z e => ?_, .inl ⟨w, rfl, ok, fun _ _ h => h, ?_⟩⟩
  · injection e with e; subst e; simpa using hl
  · rw [List.length_map, stepsL_len row w 0 0 [] ok rfl]
theorem es_bad {row : List Int} {p : PyData} {E : Er → Prop} (hr : row.length ≤ 1000) (hs : isSm p) (hn : wErr row.length p ≠ .none) (e : E ⟨"BadWord", [("error", wErr row.length p)]⟩) :
    S_each_step [.py (.tuple (row.map PyData.int)), .py p] (fun _ _ => False) (fun _ => False) E := ⟨row, _, rfl, hr, hs, .inr ⟨hn, e⟩⟩
/-- what is told of a call -/
def toldP (row : List Int) (p : PyData) : PyData := if isNn (wErr row.length p) = true then (match p with | .str z => .list ((stepsL row 0 [] (sl z)).map stepP) | _ => .none) else .tuple [wErr row.length p]
@[simp] def S_law_told : SV := fun ds Q _ => ∃ (row : List Int) (p : PyData), ds = [.py (tI row), .py p] ∧ row.length ≤ 1000 ∧ isSm p ∧ Q (.py (toldP row p))
theorem l_law_told : ∀ ds Q E, S_law_told ds Q E → t_law_told S_each_step (envOf 6 ds) (fin Q E) := by
  rintro ds Q E ⟨row, p, rfl, hr, hs, q⟩
  simp [t_law_told, -forGo, -S_each_step, and_assoc]
  cases h : isNn (wErr row.length p) with
  | true =>
    unfold toldP at q
    rw [if_pos h] at q
    have hn := (isNn_iff _).mp h
    cases p <;> simp [wErr] at hn
    rename_i z
    obtain ⟨w, rfl⟩ := str_ex z
    have ok : okP row.length 0 0 w := wErr_none.mp (by simpa [wErr] using hn)
    have hw : w.length ≤ 100000 := by have := hs _ rfl; simpa using this
    have lA := stepsL_len row w 0 0 [] ok rfl
    have es := es_ok hr hw ok
    refine .inl ⟨_, es, ?_⟩
    simp at q
    generalize stepsL row 0 [] w = A at *
    refine for_enc stepP (fun i ρ => ∃ s4 s5 s3, ρ = [.shr (.py (tI row)), .shr (.py (.str (mkS w))), .own (.py (.list ((A.take i).map stepP))), s3, s4, s5]) ⟨_, _, _, rfl⟩ (fun i z ρ hz iv nx ct hn => ?_) (fun ρ iv => ?_)
    · obtain ⟨s4, s5, s3, rfl⟩ := iv
      have hi := (List.getElem?_eq_some_iff.mp hz).1
      simp
      exact ⟨by omega, (hn _ ⟨_, _, _, by rw [take_succ_get hz, List.map_append, List.map_take]; rfl⟩).1⟩
    · obtain ⟨s4, s5, s3, rfl⟩ := iv
      rw [List.take_length]
      exact ⟨_, rfl, q⟩
  | false =>
    unfold toldP at q
    rw [if_neg (by rw [h]; simp)] at q
    have hn : wErr row.length p ≠ .none := fun e => by rw [(isNn_iff _).mpr e] at h; cases h
    refine .inr (es_bad hr hs hn ?_)
    simpa using q
/-- the first steps, each with how many there are -/
def begunP (A : List (Nat × Nat × List Nat)) (k : Nat) : PyData := .list ((A.take k).map fun z => .tuple [stepP z, pN A.length])
@[simp] def S_law_begun : SV := fun ds Q _ => ∃ (row : List Int) (w : List Nat) (k : Nat), ds = [.py (tI row), .py (.str (mkS w)), .py (.int (k : Int))] ∧ row.length ≤ 1000 ∧ w.length ≤ 100000 ∧ okP row.length 0 0 w ∧ Q (.py (begunP (stepsL row 0 [] w) k))
theorem l_law_begun : ∀ ds Q E, S_law_begun ds Q E → t_law_begun S_each_step (envOf 5 ds) (fin Q E) := by
  rintro ds Q E ⟨row, w, k, rfl, hr, hw, ok, q⟩
  simp [t_law_begun, -forGo, -S_each_step, and_assoc]
  have lA := stepsL_len row w 0 0 [] ok rfl
  have es := es_ok hr hw ok
  refine .inl ⟨_, es, ?_⟩
  generalize stepsL row 0 [] w = A at *
  refine for_enc stepP (fun i ρ => i ≤ k ∧ ∃ s4, ρ = [.shr (.py (tI row)), .shr (.py (.str (mkS w))), .shr (.py (.int (k : Int))), .own (.py (.list ((A.take i).map fun z => .tuple [stepP z, pN A.length]))), s4]) ⟨Nat.zero_le _, _, rfl⟩ (fun i z ρ hz iv nx ct hn => ?_) (fun ρ iv => ?_)
  · obtain ⟨h0, s4, rfl⟩ := iv
    have hi := (List.getElem?_eq_some_iff.mp hz).1
    simp [-S_each_step]
    by_cases c : i = k
    · subst c
      rw [if_pos (by omega)]
      rw [← List.map_take]
      exact q
    · rw [if_neg (by omega)]
      refine .inl ⟨_, es, by simp; omega, by omega, (hn _ ⟨by omega, .shr (.py (stepP z)), ?_⟩).1⟩
      rw [take_succ_get hz, List.map_append, List.map_take, List.length_map]
      rfl
  · obtain ⟨h0, s4, rfl⟩ := iv
    have e : A.take k = A := List.take_of_length_le h0
    unfold begunP at q
    rw [e] at q
    rw [List.take_length]
    exact ⟨_, rfl, q⟩
theorem Sw.t3x {a b c d : Nat} {p q r : PyData} (h : Sw a d p) (k : Sw b d q) (j : Sw c d r) : Sw (a + b + c + 3) (d + 1) (.tuple [p, q, r]) := by
  obtain ⟨h1, h2, h3, h4⟩ := h
  obtain ⟨k1, k2, k3, k4⟩ := k
  obtain ⟨j1, j2, j3, j4⟩ := j
  exact ⟨by simp [PyData.showable, PyData.showableAll, h1, k1, j1], by simp [PyData.leavesShort, PyData.leavesShortAll, h2, k2, j2], by simp only [PyData.weight, PyData.weightAll]; omega, by simp only [PyData.depth, PyData.depthAll]; omega⟩
theorem step_sw {row : List Int} {w : List Nat} (hr : row.length ≤ 40) (h : okP row.length 0 0 w) : ∀ z ∈ stepsL row 0 [] w, Sw 1700 4 (stepP z) := fun z hz => by
  obtain ⟨h1, h2, h3, h4⟩ := steps_bound (ws := []) h (Nat.zero_le _) rfl (by simp) z hz
  have s1 : Sw 1 0 (.str (mkS [z.1])) := sw_mkS (by simp) fun c hc => by rw [List.mem_singleton.mp hc]; omega
  have s3 : Sw 1640 3 (tN z.2.2) := Sw.tN (n := 40) (fun x hx => by have := h2 x hx; omega) (by omega)
  exact (Sw.t3x (s1.mono (w' := 1) (d' := 3) (by omega) (by omega)) ((Sw.pN (n := z.2.1) (by omega)).mono (w' := 40) (d' := 3) (by omega) (by omega)) s3).mono (by omega) (by omega)
theorem steps_sw {row : List Int} {w : List Nat} (hr : row.length ≤ 40) (h : okP row.length 0 0 w) : Sw 137000 5 (.list ((stepsL row 0 [] w).map stepP)) := by
  have := okP_len h (Nat.zero_le _) (Nat.le_refl _)
  have lA := stepsL_len row w 0 0 [] h rfl
  exact (Sw.lst (n := 80) (fun p hp => by obtain ⟨z, hz, rfl⟩ := List.mem_map.mp hp; exact step_sw hr h z hz) (by rw [List.length_map]; omega)).mono (by omega) (by omega)
theorem told_sw {row : List Int} {p : PyData} (hr : row.length ≤ 40) (hs : isSm p) : Sw 137000 5 (toldP row p) := by
  unfold toldP
  split
  · rename_i h
    have hn := (isNn_iff _).mp h
    cases p <;> simp [wErr] at hn
    rename_i z
    exact steps_sw hr (wErr_none.mp hn)
  · exact (Sw.tup (n := 1) (fun q hq => by rw [List.mem_singleton.mp hq]; exact wErr_sw _ hs) (by simp)).mono (by omega) (by omega)
theorem begun_sw {row : List Int} {w : List Nat} (hr : row.length ≤ 40) (h : okP row.length 0 0 w) {k : Nat} (hk : k ≤ 4) : Sw 20000 6 (begunP (stepsL row 0 [] w) k) := by
  have := okP_len h (Nat.zero_le _) (Nat.le_refl _)
  have lA := stepsL_len row w 0 0 [] h rfl
  refine (Sw.lst (n := 4) (w := 3402) (d := 5) (fun p hp => ?_) (by rw [List.length_map, List.length_take]; omega)).mono (by omega) (by omega)
  obtain ⟨z, hz, rfl⟩ := List.mem_map.mp hp
  exact ((step_sw hr h z (List.mem_of_mem_take hz)).t2 ((Sw.pN (by omega)).mono (by omega) (by omega))).mono (by omega) (by omega)
theorem l_law (r : Addr) : t_law (S_law_drawn r) (S_law_word r) (svTake r) (S_law_twisted r) (S_law_odd r) S_law_fault S_law_played S_law_told S_law_begun (envBag 12 1 r) (fin isTrue' noE) := by
  have e0 : envBag 12 1 r = [.un, .shr (.raw (.ref r)), .un, .un, .un, .un, .un, .un, .un, .un, .un, .un] := rfl
  rw [e0]
  simp only [t_law, sSeq, sFor, iR1, vCons, vC, vNil, asR1]
  refine ⟨by decide, for_enc (encR 0) (fun _ ρ => ∃ a b c d e f g h i, ρ = [.un, .shr (.raw (.ref r)), a, b, c, d, e, f, g, h, i, .un]) ⟨_, _, _, _, _, _, _, _, _, rfl⟩ (fun i x ρ hx iv nx ct hn => ?_) (fun ρ iv => ?_)⟩
  · obtain ⟨a, b, c, d, e, f, g, h, i, rfl⟩ := iv
    obtain ⟨rfl, hx⟩ := range_get hx
    have hd : ∃ m : Int, atI [PyData.int 40, PyData.int 8] ((x : Int) % 2) = some (.int m) ∧ 1 ≤ m ∧ m ≤ 40 := by
      have : (x : Int) % 2 = 0 ∨ (x : Int) % 2 = 1 := by omega
      rcases this with e | e <;> rw [e]
      · exact ⟨40, rfl, by omega, by omega⟩
      · exact ⟨8, rfl, by omega, by omega⟩
    obtain ⟨m, hm, m0, m1⟩ := hd
    simp [-forGo, -lcGo, hm, -S_law_word, -S_law_twisted, -S_law_odd, -S_law_begun]
    refine ⟨m0, m1, fun gs g0 g1 g2 y y0 y1 => ⟨rfl, by omega, by omega, y0, y1, fun w hw => ?_⟩⟩
    have lw : w.length = 2 * gs.length := by simpa using hw.len
    have gl : gs.length ≤ 40 := by omega
    have gp : 0 < gs.length := List.length_pos_iff.mpr g0
    have ow : okP gs.length 0 0 w := goodW_okP (show goodW gs.length 0 0 w from (by simpa using hw : HistW gs.length w))
    simp [-forGo, -lcGo, -S_law_odd, -S_law_twisted, -S_law_begun]
    refine ⟨by omega, by omega, by omega, fun z z0 z1 => ⟨by omega, rfl, ?_⟩⟩
    have okw := hw.ok
    have owv : OkV (.str (mkS w)) := .txt (by omega) okw
    have nest : OkV (.list [.str (mkS w)]) := by
      have sw : Sw 1000 20 (.str (mkS w)) := (sw_mkS (n := 1000) (by omega) fun c h => by have := okw c h; omega).mono (by omega) (by omega)
      exact ⟨fun z e => by simp at e, (Sw.lst (n := 1) (fun p hp => by rw [List.mem_singleton.mp hp]; exact sw) (by simp)).mono (by omega) (by omega)⟩
    have okc : ∀ lo hi, OkV (.str (mkS (cutL w lo hi))) := fun lo hi => .txt (by have := cutL_len w lo hi; omega) fun d hd => okw d (cutL_mem hd)
    refine ⟨by simp; omega, fun z2 hz2 hc2 => ?_⟩
    obtain ⟨w2, rfl⟩ := str_ex z2
    simp at hz2 hc2
    have ow2 : OkV (.str (mkS w2)) := .txt (by omega) fun c hc => (hc2 c hc).elim (okw c) id
    refine ⟨rfl, fun o ho => ?_⟩
    simp [-forGo, -lcGo, -S_law_begun]
    generalize hvals : [PyData.str (mkS w), PyData.str (mkS (cutL w none (some z))), PyData.str (mkS []), PyData.str (mkS w2), o, PyData.list [PyData.str (mkS w)]] = vals
    have hv : ∀ p ∈ vals, OkV p := fun p hp => by
      rw [← hvals] at hp
      simp only [List.mem_cons, List.not_mem_nil, or_false] at hp
      rcases hp with rfl | rfl | rfl | rfl | rfl | rfl
      · exact owv
      · exact okc _ _
      · exact .txt (by simp) (by simp)
      · exact ow2
      · exact .odd ho
      · exact nest
    have em : [D.py (PyData.str (mkS w)), D.py (PyData.str (mkS (cutL w none (some z)))), D.py (PyData.str (mkS [])), D.py (PyData.str (mkS w2)), D.py o, D.py (PyData.list [PyData.str (mkS w)])] = vals.map D.py := by rw [← hvals]; rfl
    rw [em]
    refine for_inv (fun _ ρ => ∃ d e f g h i, ρ = [.un, .shr (.raw (.ref r)), .shr (.py (.int (x : Nat))), .shr (.py (tI gs)), .shr (.py (.str (mkS w))), d, e, f, g, h, i, .un]) (fun t p ρ hp iv nx3 ct3 hn3 => ?_) (fun ρ iv => ?_) ⟨_, _, _, _, _, _, rfl⟩
    · obtain ⟨d, e, f, g, h, i, rfl⟩ := iv
      have ok := hv p (List.mem_of_getElem? hp)
      have sm := ok.sm
      have rok : ReprOk (.list [tI gs, p]) := (((Sw.tI (n := 40) (gs := gs) (fun g hg => by have := g2 g hg; omega) gl).mono (w' := 100000) (d' := 30) (by omega) (by omega)).l2 ok.sw).repr
      have tok : ReprOk (toldP gs p) := (told_sw gl sm).repr
      have end_ : ∀ d e f g h i, nx3 [.un, .shr (.raw (.ref r)), .shr (.py (.int (x : Nat))), .shr (.py (tI gs)), .shr (.py (.str (mkS w))), d, e, f, g, h, i, .un] := fun d e f g h i => (hn3 _ ⟨_, _, _, _, _, _, rfl⟩).1
      simp [-isNn, and_assoc]
      refine ⟨rok, sm, ?_⟩
      cases hnn : isNn (wErr gs.length p) with
      | true =>
        have hs : ∃ z, p = .str z := by
          cases p <;> simp [wErr] at hnn
          exact ⟨_, rfl⟩
        obtain ⟨zz, rfl⟩ := hs
        obtain ⟨wp, rfl⟩ := str_ex zz
        have hok : okP gs.length 0 0 wp := wErr_none.mp ((isNn_iff _).mp hnn)
        have hz : wp.length ≤ 100000 := by have := sm _ rfl; simpa using this
        have ed : toldP gs (.str (mkS wp)) = .list ((stepsL gs 0 [] wp).map stepP) := by unfold toldP; rw [if_pos hnn]
        rw [ed] at tok ⊢
        rw [if_pos rfl]
        exact ⟨wp, rfl, by omega, hz, hok, by omega, sm, tok, tok, rfl, rok, end_ _ _ _ _ _ _⟩
      | false =>
        have ed : toldP gs p = .tuple [wErr gs.length p] := by unfold toldP; rw [if_neg (by rw [hnn]; simp)]
        rw [ed] at tok ⊢
        rw [if_neg (by simp)]
        exact ⟨by omega, sm, tok, tok, rfl, rok, end_ _ _ _ _ _ _⟩
    · obtain ⟨d, e, f, g, h, i, rfl⟩ := iv
      simp [-lcGo]
      intro y2 y3 y4
      obtain ⟨kk, rfl⟩ := Int.eq_ofNat_of_zero_le y3
      have bok : ReprOk (begunP (stepsL gs 0 [] w) kk) := (begun_sw gl ow (by omega)).repr
      have lA := stepsL_len gs w 0 0 [] ow rfl
      refine ⟨gs, w, ⟨rfl, rfl⟩, by omega, by omega, ow, gs, w, kk, ⟨rfl, rfl, rfl⟩, by omega, by omega, ow, bok, ?_⟩
      rw [cutL_take _ y3, Int.toNat_natCast, ← List.map_take]
      generalize hA : stepsL gs 0 [] w = A at *
      refine lc_encM stepP (fun z => .tuple [stepP z, pN A.length]) (fun t z hz k hk => ?_) (by rw [List.length_take]; omega) ?_
      · simp [lcStep]
        exact hk
      · unfold begunP at bok ⊢
        simp
        rw [List.map_take] at bok
        exact ⟨bok, (hn _ ⟨_, _, _, _, _, _, _, _, _, rfl⟩).1⟩
  · obtain ⟨a, b, c, d, e, f, g, h, i, rfl⟩ := iv
    simp
end LawP
set_option Elab.async false
set_option linter.all false
set_option maxRecDepth 100000
set_option maxHeartbeats 4000000
namespace LawP
open PySem PySem.Spec PyProof.Rows L2 VL
abbrev topS (i : Nat) : Stmt := PySem.Challenge.pw_matesline_k08_steps_walked.main.body.getD i (.Pass ⟨0, 0, 0, 0⟩)
section
variable {P : Program} {w : World} {K : PySem.W.Frag} {mg : Str → Option Value} {base : Heap} {b : Bg} {f : Addr} {fd : FuncData}
abbrev s_BadWord : Stmt := clsDef (topS 2) 0
theorem sc_BadWord : FnScope ["self", "error"] ["self", "error"] (defScope s_BadWord) := ⟨rfl, rfl, rfl, by decide +kernel, rfl, by decide +kernel, by decide +kernel⟩
theorem wi_BadWord {fa : Addr} (F : Fun K "__init__" "BadWord.__init__" s_BadWord fa fd) : FnOk P w K mg base (L2.CX P w) 1 fa fd ["self", "error"] (spInit K "error") := ok_init F sc_BadWord rfl rfl rfl (by decide) (by decide)
abbrev s_law_drawn : Stmt := topS 19
abbrev N_law_drawn : List Str := ["_law_bag", "_law_most", "_law_many", "_law_way", "_law_kinds", "_law_names", "_law_k"]
theorem sc_law_drawn : FnScope N_law_drawn ["_law_bag", "_law_most"] (defScope s_law_drawn) := ⟨rfl, rfl, rfl, by decide +kernel, rfl, by decide +kernel, by decide +kernel⟩
theorem w_law_drawn {S : SV} {S_law_take : SV} {S_law_pick : SV} (F : Fun K "_law_drawn" "_law_drawn" s_law_drawn f fd) (F_law_take : Cal P w K mg base b 1 "_law_take" ["_law_bag", "_law_many"] S_law_take) (F_law_pick : Cal P w K mg base b 2 "_law_pick" ["_law_bag", "_law_items"] S_law_pick) (n_range : mg "range" = none) (n_tuple : mg "tuple" = none) (hlen : ∀ ds Q E, S ds Q E → ds.length = 2)
    (law : ∀ ds Q E, S ds Q E → t_law_drawn S_law_take S_law_pick (envOf 7 ds) (fin Q E)) : FnOk P w K mg base (L2.CX P w) 3 f fd ["_law_bag", "_law_most"] (spV b S) := by
  refine fnV F sc_law_drawn hlen (by decide) (fun cdv A outer s H E hr tk => ?_) law
  have hu := hr.units
  exact (vs_cons (vs_par2 (i := 2) (j := 3) rfl sc_law_drawn.nd rfl rfl (by decide) rfl rfl (vm_sh (ve_add (VE.toX ve_int) (VE.toX (ve_cal F_law_take hr tk (by rfl) (va_cons (ve_var (pv 0)) (va_cons (ve_var (pv 1)) va_nil))))) (vm_sh (ve_cal F_law_take hr tk (by rfl) (va_cons (ve_var (pv 0)) (va_cons ve_int va_nil))) vm_nil)) (by rfl))
      (vs_cons (vs_asg (i := 4) sc_law_drawn.nd rfl (.inr rfl) (ve_ix (VN.toX (vn_lst (va_cons ve_int (va_cons ve_int (va_cons (ve_add (VE.toX ve_int) (VE.toX (ve_fdiv (vx_var (pv 2)) (VE.toX ve_int)))) (va_cons (ve_var (pv 2)) (va_cons ve_int (va_cons ve_int va_nil)))))))) (vx_var (pv 3))))
      (vs_cons (vs_asg (i := 5) sc_law_drawn.nd rfl (.inr rfl) (VN.toE (vn_lc (own := [("_law_k", 6)]) rfl sc_law_drawn.nd (vib_range1 (by rfl) n_range (vxs_cons (vx_var (pv 4)) vxs_nil)) (blkOk_by (N := N_law_drawn) (sc := defScope s_law_drawn) (by decide +kernel)) (by decide) (fun _ _ _ _ _ => (vg_name (i := 6) sc_law_drawn.nd rfl (.inl rfl))) (fun _ _ _ _ _ => vts_nil) (fun _ _ _ _ _ => (ve_cal F_law_pick hr takes0 (by rfl) (va_cons (ve_var (pv 0)) (va_cons (VN.toE (vn_lst (va_cons (ve_var (pv 6)) (va_cons (ve_sub (VE.toX (ve_pow (VE.toX ve_int) (VE.toX ve_int))) (vx_var (pv 6))) (va_cons (ve_add (VE.toX (ve_mulA (VE.toX ve_int) (vx_var (pv 6)))) (VE.toX (ve_cal F_law_take hr takes0 (by rfl) (va_cons (ve_var (pv 0)) (va_cons ve_int va_nil))))) va_nil))))) va_nil)))))))
      (vs_cons (vs_if (vt_eq hu (vx_var (pv 3)) (VE.toX ve_int))
      (vs_one (vs_ret (ve_tupleC (by rfl) n_tuple (vxs_cons (VN.toX (vn_lc (own := [("_law_k", 6)]) rfl sc_law_drawn.nd (vib_range1 (by rfl) n_range (vxs_cons (vx_var (pv 2)) vxs_nil)) (blkOk_by (N := N_law_drawn) (sc := defScope s_law_drawn) (by decide +kernel)) (by decide) (fun _ _ _ _ _ => (vg_name (i := 6) sc_law_drawn.nd rfl (.inl rfl))) (fun _ _ _ _ _ => vts_nil) (fun _ _ _ _ _ => (ve_ix (vx_var (pv 5)) (VE.toX (ve_mod (VE.toX (ve_fdiv (vx_var (pv 6)) (VE.toX ve_int))) (vx_var (pv 4)))))))) vxs_nil))))
      vs_nil)
      (vs_one (vs_ret (ve_tupleC (by rfl) n_tuple (vxs_cons (VN.toX (vn_lc (own := [("_law_k", 6)]) rfl sc_law_drawn.nd (vib_range1 (by rfl) n_range (vxs_cons (vx_var (pv 2)) vxs_nil)) (blkOk_by (N := N_law_drawn) (sc := defScope s_law_drawn) (by decide +kernel)) (by decide) (fun _ _ _ _ _ => (vg_name (i := 6) sc_law_drawn.nd rfl (.inl rfl))) (fun _ _ _ _ _ => vts_nil) (fun _ _ _ _ _ => (ve_ix (vx_var (pv 5)) (VE.toX (ve_cal F_law_take hr takes0 (by rfl) (va_cons (ve_var (pv 0)) (va_cons (ve_var (pv 4)) va_nil)))))))) vxs_nil))))))))
abbrev s_law_word : Stmt := topS 20
abbrev N_law_word : List Str := ["_law_bag", "_law_many", "_law_way", "_law_letters", "_law_here", "_law_left", "_law_serves"]
theorem sc_law_word : FnScope N_law_word ["_law_bag", "_law_many", "_law_way"] (defScope s_law_word) := ⟨rfl, rfl, rfl, by decide +kernel, rfl, by decide +kernel, by decide +kernel⟩
theorem w_law_word {S : SV} {S_law_take : SV} (F : Fun K "_law_word" "_law_word" s_law_word f fd) (F_law_take : Cal P w K mg base b 1 "_law_take" ["_law_bag", "_law_many"] S_law_take) (n_int : mg "int" = none) (hlen : ∀ ds Q E, S ds Q E → ds.length = 3)
    (law : ∀ ds Q E, S ds Q E → t_law_word S_law_take (envOf 7 ds) (fin Q E)) : FnOk P w K mg base (L2.CX P w) 2 f fd ["_law_bag", "_law_many", "_law_way"] (spV b S) := by
  refine fnV F sc_law_word hlen (by decide) (fun cdv A outer s H E hr tk => ?_) law
  have hu := hr.units
  exact (vs_cons (vs_par3 (i := 3) (j := 4) (k := 5) rfl sc_law_word.nd rfl rfl rfl (by decide) (by decide) (by decide) rfl rfl rfl (vm_nw (vn_lst va_nil) (vm_sh ve_int (vm_sh (ve_var (pv 1)) vm_nil))) (by rfl))
      (vs_cons (vs_while (passes_of rfl) (vt_gt (VE.toX (ve_add (vx_var (pv 5)) (vx_var (pv 4)))) (VE.toX ve_int))
      (vs_cons (vs_asg (i := 6) sc_law_word.nd rfl (.inl rfl) (ve_ix (VN.toX (vn_lst (va_cons (ve_cal F_law_take hr tk (by rfl) (va_cons (ve_var (pv 0)) (va_cons ve_int va_nil))) (va_cons ve_int (va_cons ve_int (va_cons (ve_intC (by rfl) n_int (vxs_cons (VE.toX (ve_gt (VE.toX (ve_cal F_law_take hr tk (by rfl) (va_cons (ve_var (pv 0)) (va_cons ve_int va_nil)))) (VE.toX ve_int))) vxs_nil)) (va_cons (ve_intC (by rfl) n_int (vxs_cons (VE.toX (ve_gt (vx_var (pv 4)) (VE.toX ve_int))) vxs_nil)) va_nil))))))) (vx_var (pv 2))))
      (vs_one (vs_if (VWe.pt (vw_or (vt_eq hu (vx_var (pv 5)) (VE.toX ve_int)) (vw_or1 (VWe.pt (vw_and (vt_gt (vx_var (pv 4)) (VE.toX ve_int)) (vw_and1 (vt_eq hu (vx_var (pv 6)) (VE.toX ve_int))))))))
      (vs_cons (vs_app (pv 3) (va_cons ve_str va_nil))
      (vs_one (vs_asg (i := 4) sc_law_word.nd rfl (.inl rfl) (ve_sub (vx_var (pv 4)) (VE.toX ve_int)))))
      (vs_cons (vs_app (pv 3) (va_cons ve_str va_nil))
      (vs_one (vs_par2 (i := 4) (j := 5) rfl sc_law_word.nd rfl rfl (by decide) rfl rfl (vm_sh (ve_add (vx_var (pv 4)) (VE.toX ve_int)) (vm_sh (ve_sub (vx_var (pv 5)) (VE.toX ve_int)) vm_nil)) (by rfl))))))))
      (vs_one (vs_ret (ve_mth mx_join (VE.toX ve_str) (vxs_cons (vx_var (pv 3)) vxs_nil))))))
abbrev s_law_twisted : Stmt := topS 24
abbrev N_law_twisted : List Str := ["_law_bag", "_law_word_here", "_law_at", "_law_sign", "_law_some"]
theorem sc_law_twisted : FnScope N_law_twisted ["_law_bag", "_law_word_here"] (defScope s_law_twisted) := ⟨rfl, rfl, rfl, by decide +kernel, rfl, by decide +kernel, by decide +kernel⟩
theorem w_law_twisted {S : SV} {S_law_take : SV} {S_law_pick : SV} (F : Fun K "_law_twisted" "_law_twisted" s_law_twisted f fd) (F_law_take : Cal P w K mg base b 1 "_law_take" ["_law_bag", "_law_many"] S_law_take) (F_law_pick : Cal P w K mg base b 2 "_law_pick" ["_law_bag", "_law_items"] S_law_pick) (n_len : mg "len" = none) (hlen : ∀ ds Q E, S ds Q E → ds.length = 2)
    (law : ∀ ds Q E, S ds Q E → t_law_twisted S_law_take S_law_pick (envOf 5 ds) (fin Q E)) : FnOk P w K mg base (L2.CX P w) 3 f fd ["_law_bag", "_law_word_here"] (spV b S) := by
  refine fnV F sc_law_twisted hlen (by decide) (fun cdv A outer s H E hr tk => ?_) law
  exact (vs_cons (vs_asg (i := 2) sc_law_twisted.nd rfl (.inl rfl) (ve_cal F_law_take hr tk (by rfl) (va_cons (ve_var (pv 0)) (va_cons (ve_add (VE.toX (ve_len (by rfl) n_len (vxs_cons (vx_var (pv 1)) vxs_nil))) (VE.toX ve_int)) va_nil))))
      (vs_cons (vs_asg (i := 3) sc_law_twisted.nd rfl (.inl rfl) (ve_cal F_law_pick hr tk (by rfl) (va_cons (ve_var (pv 0)) (va_cons (VN.toE (vn_lst (va_cons ve_str (va_cons ve_str (va_cons ve_str (va_cons ve_str (va_cons ve_str (va_cons ve_str (va_cons ve_str (va_cons ve_str (va_cons ve_str va_nil))))))))))) va_nil))))
      (vs_cons (vs_asg (i := 4) sc_law_twisted.nd rfl (.inl rfl) (VN.toE (vn_lst (va_cons (ve_add (VE.toX (ve_add (VE.toX (ve_sl (vx_var (pv 1)) vo_no (vo_at (vx_var (pv 2))))) (vx_var (pv 3)))) (VE.toX (ve_sl (vx_var (pv 1)) (vo_at (vx_var (pv 2))) vo_no))) (va_cons (ve_add (VE.toX (ve_add (VE.toX (ve_sl (vx_var (pv 1)) vo_no (vo_at (vx_var (pv 2))))) (vx_var (pv 3)))) (VE.toX (ve_sl (vx_var (pv 1)) (vo_at (VE.toX (ve_add (vx_var (pv 2)) (VE.toX ve_int)))) vo_no))) (va_cons (ve_add (VE.toX (ve_sl (vx_var (pv 1)) vo_no (vo_at (vx_var (pv 2))))) (VE.toX (ve_sl (vx_var (pv 1)) (vo_at (VE.toX (ve_add (vx_var (pv 2)) (VE.toX ve_int)))) vo_no))) (va_cons (ve_backA (vx_var (pv 1)) (vo_at (VE.toX (ve_neg (VE.toX ve_int))))) va_nil)))))))
      (vs_one (vs_ret (ve_cal F_law_pick hr tk (by rfl) (va_cons (ve_var (pv 0)) (va_cons (ve_add (vx_var (pv 4)) (VN.toX (vn_lst (va_cons (ve_sl (vx_var (pv 1)) vo_no (vo_at (vx_var (pv 2)))) (va_cons (ve_add (vx_var (pv 1)) (vx_var (pv 3))) (va_cons (ve_add (VE.toX (ve_sl (vx_var (pv 1)) (vo_at (vx_var (pv 2))) vo_no)) (VE.toX (ve_sl (vx_var (pv 1)) vo_no (vo_at (vx_var (pv 2)))))) va_nil)))))) va_nil))))))))
abbrev s_law_odd : Stmt := topS 22
abbrev N_law_odd : List Str := ["_law_bag", "_law_items"]
theorem sc_law_odd : FnScope N_law_odd ["_law_bag"] (defScope s_law_odd) := ⟨rfl, rfl, rfl, by decide +kernel, rfl, by decide +kernel, by decide +kernel⟩
theorem w_law_odd {S : SV} {S_law_pick : SV} (F : Fun K "_law_odd" "_law_odd" s_law_odd f fd) (F_law_pick : Cal P w K mg base b 2 "_law_pick" ["_law_bag", "_law_items"] S_law_pick) (hlen : ∀ ds Q E, S ds Q E → ds.length = 1)
    (law : ∀ ds Q E, S ds Q E → t_law_odd S_law_pick (envOf 2 ds) (fin Q E)) : FnOk P w K mg base (L2.CX P w) 3 f fd ["_law_bag"] (spV b S) := by
  refine fnV F sc_law_odd hlen (by decide) (fun cdv A outer s H E hr tk => ?_) law
  exact (vs_cons (vs_asg (i := 1) sc_law_odd.nd rfl (.inl rfl) (VN.toE (vn_lst (va_cons ve_non (va_cons ve_bl (va_cons ve_bl (va_cons (ve_neg (VE.toX ve_int)) (va_cons ve_int (va_cons ve_int (va_cons ve_int (va_cons (ve_add (VE.toX (ve_pow (VE.toX ve_int) (VE.toX ve_int))) (VE.toX ve_int)) (va_cons (ve_pow (VE.toX ve_int) (VE.toX ve_int)) (va_cons ve_str (va_cons ve_str (va_cons ve_str (va_cons ve_str (va_cons (ve_tup va_nil) (va_cons (VN.toE (vn_lst va_nil)) (va_cons (VN.toE vn_dict0) (va_cons (ve_tup (va_cons ve_int va_nil)) (va_cons (VN.toE (vn_lst (va_cons ve_int va_nil))) (va_cons (ve_tup (va_cons ve_bl va_nil)) va_nil))))))))))))))))))))))
      (vs_one (vs_ret (ve_cal F_law_pick hr tk (by rfl) (va_cons (ve_var (pv 0)) (va_cons (ve_add (vx_var (pv 1)) (VN.toX (vn_lst (va_cons (ve_tup (va_cons ve_str (va_cons ve_str va_nil))) (va_cons (ve_tup (va_cons ve_int (va_cons ve_int va_nil))) (va_cons ve_str (va_cons (VN.toE (vn_dict1 ve_int)) (va_cons (ve_tup (va_cons ve_int (va_cons ve_int va_nil))) va_nil)))))))) va_nil))))))
abbrev s_law_fault : Stmt := topS 23
abbrev N_law_fault : List Str := ["_law_row", "_law_value", "_law_at", "_law_before"]
theorem sc_law_fault : FnScope N_law_fault ["_law_row", "_law_value"] (defScope s_law_fault) := ⟨rfl, rfl, rfl, by decide +kernel, rfl, by decide +kernel, by decide +kernel⟩
theorem w_law_fault {S : SV} (F : Fun K "_law_fault" "_law_fault" s_law_fault f fd) (n_isinstance : mg "isinstance" = none) (n_str : mg "str" = none) (n_range : mg "range" = none) (n_len : mg "len" = none) (hlen : ∀ ds Q E, S ds Q E → ds.length = 2)
    (law : ∀ ds Q E, S ds Q E → t_law_fault (envOf 4 ds) (fin Q E)) : FnOk P w K mg base (L2.CX P w) 1 f fd ["_law_row", "_law_value"] (spV b S) := by
  refine fnV F sc_law_fault hlen (by decide) (fun cdv A outer s H E hr tk => ?_) law
  have hu := hr.units
  exact (vs_cons (vs_if (vt_not (vt_val (VE.toX (ve_isi (by rfl) n_isinstance (vxs_cons (vx_var (pv 1)) (vxs_cons (VE.toX (ve_tyStr (by rfl) n_str)) vxs_nil))))))
      (vs_one (vs_ret (ve_tup (va_cons ve_non (va_cons ve_str va_nil)))))
      vs_nil)
      (vs_cons (vs_for (passes_of rfl) rfl (vi_range1 (by rfl) n_range (vxs_cons (VE.toX (ve_len (by rfl) n_len (vxs_cons (vx_var (pv 1)) vxs_nil))) vxs_nil)) (vg_name (i := 2) sc_law_fault.nd rfl (.inl rfl))
      (vs_one (vs_if (vt_notIn hu (VE.toX (ve_ix (vx_var (pv 1)) (vx_var (pv 2)))) (VN.toX (vn_lst (va_cons ve_str (va_cons ve_str va_nil)))))
      (vs_one (vs_ret (ve_tup (va_cons (ve_var (pv 2)) (va_cons ve_str va_nil)))))
      vs_nil)))
      (vs_cons (vs_for (passes_of rfl) rfl (vi_range1 (by rfl) n_range (vxs_cons (VE.toX (ve_len (by rfl) n_len (vxs_cons (vx_var (pv 1)) vxs_nil))) vxs_nil)) (vg_name (i := 2) sc_law_fault.nd rfl (.inl rfl))
      (vs_cons (vs_asg (i := 3) sc_law_fault.nd rfl (.inl rfl) (ve_sl (vx_var (pv 1)) vo_no (vo_at (vx_var (pv 2)))))
      (vs_cons (vs_if (VWe.pt (vw_and (vt_eq hu (VE.toX (ve_ix (vx_var (pv 1)) (vx_var (pv 2)))) (VE.toX ve_str)) (vw_and1 (vt_eq hu (VE.toX (ve_mth mx_cnt (vx_var (pv 3)) (vxs_cons (VE.toX ve_str) vxs_nil))) (VE.toX (ve_len (by rfl) n_len (vxs_cons (vx_var (pv 0)) vxs_nil)))))))
      (vs_one (vs_ret (ve_tup (va_cons (ve_var (pv 2)) (va_cons ve_str va_nil)))))
      vs_nil)
      (vs_one (vs_if (VWe.pt (vw_and (vt_eq hu (VE.toX (ve_ix (vx_var (pv 1)) (vx_var (pv 2)))) (VE.toX ve_str)) (vw_and1 (vt_eq hu (VE.toX (ve_mth mx_cnt (vx_var (pv 3)) (vxs_cons (VE.toX ve_str) vxs_nil))) (VE.toX (ve_mth mx_cnt (vx_var (pv 3)) (vxs_cons (VE.toX ve_str) vxs_nil)))))))
      (vs_one (vs_ret (ve_tup (va_cons (ve_var (pv 2)) (va_cons ve_str va_nil)))))
      vs_nil)))))
      (vs_one (vs_ret ve_non)))))
abbrev s_law_played : Stmt := topS 21
abbrev N_law_played : List Str := ["_law_row", "_law_word_here", "_law_served", "_law_queue", "_law_steps", "_law_person", "_law_letter", "_law_who", "_law_alike", "_law_place", "_law_other"]
theorem sc_law_played : FnScope N_law_played ["_law_row", "_law_word_here"] (defScope s_law_played) := ⟨rfl, rfl, rfl, by decide +kernel, rfl, by decide +kernel, by decide +kernel⟩
theorem w_law_played {S : SV} (F : Fun K "_law_played" "_law_played" s_law_played f fd) (n_len : mg "len" = none) (n_tuple : mg "tuple" = none) (hlen : ∀ ds Q E, S ds Q E → ds.length = 2)
    (law : ∀ ds Q E, S ds Q E → t_law_played (envOf 11 ds) (fin Q E)) : FnOk P w K mg base (L2.CX P w) 1 f fd ["_law_row", "_law_word_here"] (spV b S) := by
  refine fnV F sc_law_played hlen (by decide) (fun cdv A outer s H E hr tk => ?_) law
  have hu := hr.units
  exact (vs_cons (vs_parT (is := [2, 3, 4, 5]) rfl (pgs_cons (pg_name (i := 2) sc_law_played.nd rfl (.inl rfl)) (pgs_cons (pg_name (i := 3) sc_law_played.nd rfl (.inl rfl)) (pgs_cons (pg_name (i := 4) sc_law_played.nd rfl (.inl rfl)) (pgs_cons (pg_name (i := 5) sc_law_played.nd rfl (.inl rfl)) pgs_nil)))) (vm_nw (vn_lst va_nil) (vm_sh (VN.toE (vn_lst va_nil)) (vm_nw (vn_lst va_nil) (vm_sh ve_int vm_nil)))))
      (vs_cons (vs_for (passes_of rfl) rfl (vi_src (ve_var (pv 1))) (vg_name (i := 6) sc_law_played.nd rfl (.inl rfl))
      (vs_cons (vs_if (vt_eq hu (vx_var (pv 6)) (VE.toX ve_str))
      (vs_cons (vs_asg (i := 7) sc_law_played.nd rfl (.inr rfl) (ve_ix (vx_var (pv 3)) (VE.toX ve_int)))
      (vs_cons (vs_asg (i := 3) sc_law_played.nd rfl (.inl rfl) (ve_sl (vx_var (pv 3)) (vo_at (VE.toX ve_int)) vo_no))
      (vs_one (vs_app (pv 2) (va_cons (ve_var (pv 7)) va_nil)))))
      (vs_cons (vs_asg (i := 7) sc_law_played.nd rfl (.inr rfl) (ve_var (pv 5)))
      (vs_cons (vs_asg (i := 5) sc_law_played.nd rfl (.inl rfl) (ve_add (vx_var (pv 5)) (VE.toX ve_int)))
      (vs_cons (vs_setLcE (i := 8) (own := [("_law_other", 10)]) rfl sc_law_played.nd rfl rfl (by rfl) (vib_src (vx_var (pv 3))) (blkOk_by (N := N_law_played) (sc := defScope s_law_played) (by decide +kernel)) (by decide) (fun _ _ _ _ _ => (vg_name (i := 10) sc_law_played.nd rfl (.inl rfl))) (fun _ _ _ _ _ => (vts_one (vt_eq hu (VE.toX (ve_ix (vx_var (pv 0)) (vx_var (pv 10)))) (VE.toX (ve_ix (vx_var (pv 0)) (vx_var (pv 7))))))) (fun _ _ _ _ _ => (ve_var (pv 10))))
      (vs_cons (vs_asg (i := 9) sc_law_played.nd rfl (.inl rfl) (ve_if (vt_ne hu (vx_var (pv 8)) (VN.toX (vn_lst va_nil))) (ve_add (VE.toX (ve_mth (mx_index (hu65 hr)) (vx_var (pv 3)) (vxs_cons (VE.toX (ve_ix (vx_var (pv 8)) (VE.toX (ve_neg (VE.toX ve_int))))) vxs_nil))) (VE.toX ve_int)) (ve_len (by rfl) n_len (vxs_cons (vx_var (pv 3)) vxs_nil))))
      (vs_one (vs_asg (i := 3) sc_law_played.nd rfl (.inl rfl) (ve_add (VE.toX (ve_add (VE.toX (ve_sl (vx_var (pv 3)) vo_no (vo_at (vx_var (pv 9))))) (VN.toX (vn_lst (va_cons (ve_var (pv 7)) va_nil))))) (VE.toX (ve_sl (vx_var (pv 3)) (vo_at (vx_var (pv 9))) vo_no))))))))))
      (vs_one (vs_app (pv 4) (va_cons (ve_tup (va_cons (ve_var (pv 6)) (va_cons (ve_var (pv 7)) (va_cons (ve_tupleC (by rfl) n_tuple (vxs_cons (vx_var (pv 3)) vxs_nil)) va_nil)))) va_nil)))))
      (vs_one (vs_frz 4 (vs_ret (VN.toE (vn_lst (va_cons (ve_tupleC (by rfl) n_tuple (vxs_cons (vx_var (pv 2)) vxs_nil)) (va_cons (ve_tupleC (by rfl) n_tuple (vxs_cons (vx_var (pv 3)) vxs_nil)) (va_cons (ve_var (pv 4)) va_nil))))))))))
abbrev s_word_error : Stmt := topS 10
abbrev N_word_error : List Str := ["row", "value", "wrong", "arrivals", "services", "at", "letter"]
theorem sc_word_error : FnScope N_word_error ["row", "value"] (defScope s_word_error) := ⟨rfl, rfl, rfl, by decide +kernel, rfl, by decide +kernel, by decide +kernel⟩
theorem w_word_error {S : SV} (F : Fun K "word_error" "word_error" s_word_error f fd) (c_ARRIVAL : ∃ t, mg "ARRIVAL" = some (.str "a" t)) (c_SERVICE : ∃ t, mg "SERVICE" = some (.str "s" t)) (n_isinstance : mg "isinstance" = none) (n_str : mg "str" = none) (n_enumerate : mg "enumerate" = none) (n_len : mg "len" = none) (hlen : ∀ ds Q E, S ds Q E → ds.length = 2)
    (law : ∀ ds Q E, S ds Q E → t_word_error (envOf 7 ds) (fin Q E)) : FnOk P w K mg base (L2.CX P w) 1 f fd ["row", "value"] (spV b S) := by
  refine fnV F sc_word_error hlen (by decide) (fun cdv A outer s H E hr tk => ?_) law
  have hu := hr.units
  exact (vs_cons (vs_if (vt_not (vt_val (VE.toX (ve_isi (by rfl) n_isinstance (vxs_cons (vx_var (pv 1)) (vxs_cons (VE.toX (ve_tyStr (by rfl) n_str)) vxs_nil))))))
      (vs_one (vs_ret (ve_tup (va_cons ve_non (va_cons ve_str va_nil)))))
      vs_nil)
      (vs_cons (vs_setLcE (i := 2) (own := [("at", 5), ("letter", 6)]) rfl sc_word_error.nd rfl rfl (by rfl) (vib_enum (by rfl) n_enumerate (vxs_cons (vx_var (pv 1)) vxs_nil)) (blkOk_by (N := N_word_error) (sc := defScope s_word_error) (by decide +kernel)) (by decide) (fun _ _ _ _ _ => (vg_tup rfl (vgs_cons (vg_name (i := 5) sc_word_error.nd rfl (.inl rfl)) (vgs_cons (vg_name (i := 6) sc_word_error.nd rfl (.inl rfl)) vgs_nil)))) (fun _ _ _ _ _ => (vts_one (vt_notIn hu (vx_var (pv 6)) (VE.toX (ve_tup (va_cons (ve_gstr (by rfl) c_ARRIVAL) (va_cons (ve_gstr (by rfl) c_SERVICE) va_nil))))))) (fun _ _ _ _ _ => (ve_var (pv 5))))
      (vs_cons (vs_if (vt_ne hu (vx_var (pv 2)) (VN.toX (vn_lst va_nil)))
      (vs_one (vs_ret (ve_tup (va_cons (ve_ix (vx_var (pv 2)) (VE.toX ve_int)) (va_cons ve_str va_nil)))))
      vs_nil)
      (vs_cons (vs_parT (is := [3, 4]) rfl (pgs_cons (pg_name (i := 3) sc_word_error.nd rfl (.inl rfl)) (pgs_cons (pg_name (i := 4) sc_word_error.nd rfl (.inl rfl)) pgs_nil)) (vm_sh ve_int (vm_sh ve_int vm_nil)))
      (vs_cons (vs_for (passes_of rfl) rfl (vi_enum (by rfl) n_enumerate (va_cons (ve_var (pv 1)) va_nil)) (vg_tup rfl (vgs_cons (vg_name (i := 5) sc_word_error.nd rfl (.inl rfl)) (vgs_cons (vg_name (i := 6) sc_word_error.nd rfl (.inl rfl)) vgs_nil)))
      (vs_one (vs_if (vt_eq hu (vx_var (pv 6)) (VE.toX (ve_gstr (by rfl) c_ARRIVAL)))
      (vs_cons (vs_if (vt_eq hu (vx_var (pv 3)) (VE.toX (ve_len (by rfl) n_len (vxs_cons (vx_var (pv 0)) vxs_nil))))
      (vs_one (vs_ret (ve_tup (va_cons (ve_var (pv 5)) (va_cons ve_str va_nil)))))
      vs_nil)
      (vs_one (vs_augAdd (i := 3) sc_word_error.nd rfl (.inl rfl) ve_int)))
      (vs_cons (vs_if (vt_eq hu (vx_var (pv 4)) (vx_var (pv 3)))
      (vs_one (vs_ret (ve_tup (va_cons (ve_var (pv 5)) (va_cons ve_str va_nil)))))
      vs_nil)
      (vs_one (vs_augAdd (i := 4) sc_word_error.nd rfl (.inl rfl) ve_int))))))
      (vs_one (vs_ret ve_non)))))))
abbrev s_check_word : Stmt := topS 13
abbrev N_check_word : List Str := ["row", "value", "error"]
theorem sc_check_word : FnScope N_check_word ["row", "value"] (defScope s_check_word) := ⟨rfl, rfl, rfl, by decide +kernel, rfl, by decide +kernel, by decide +kernel⟩
theorem w_check_word {S : SV} {S_word_error : SV} (F : Fun K "check_word" "check_word" s_check_word f fd) (F_word_error : Cal P w K mg base b 1 "word_error" ["row", "value"] S_word_error) (M_BadWord : Mk1 P w K mg base b "BadWord" "error") (hlen : ∀ ds Q E, S ds Q E → ds.length = 2)
    (law : ∀ ds Q E, S ds Q E → t_check_word S_word_error (envOf 3 ds) (fin Q E)) : FnOk P w K mg base (L2.CX P w) 3 f fd ["row", "value"] (spV b S) := by
  refine fnV F sc_check_word hlen (by decide) (fun cdv A outer s H E hr tk => ?_) law
  exact (vs_cons (vs_asg (i := 2) sc_check_word.nd rfl (.inl rfl) (ve_cal F_word_error hr tk (by rfl) (va_cons (ve_var (pv 0)) (va_cons (ve_var (pv 1)) va_nil))))
      (vs_one (vs_if (vt_notN (vx_var (pv 2)) (VE.toX ve_non))
      (vs_one (vs_raise1 M_BadWord hr rfl tk (by rfl) (ve_var (pv 2))))
      vs_nil)))
abbrev s_mates : Stmt := topS 9
abbrev N_mates : List Str := ["row", "found", "last", "person", "group"]
theorem sc_mates : FnScope N_mates ["row"] (defScope s_mates) := ⟨rfl, rfl, rfl, by decide +kernel, rfl, by decide +kernel, by decide +kernel⟩
theorem w_mates {S : SV} (F : Fun K "mates" "mates" s_mates f fd) (n_enumerate : mg "enumerate" = none) (n_tuple : mg "tuple" = none) (hlen : ∀ ds Q E, S ds Q E → ds.length = 1)
    (law : ∀ ds Q E, S ds Q E → t_mates (envOf 5 ds) (fin Q E)) : FnOk P w K mg base (L2.CX P w) 1 f fd ["row"] (spV b S) := by
  refine fnV F sc_mates hlen (by decide) (fun cdv A outer s H E hr tk => ?_) law
  exact (vs_cons (vs_par2 (i := 1) (j := 2) rfl sc_mates.nd rfl rfl (by decide) rfl rfl (vm_nw (vn_lst va_nil) (vm_nw vn_dict0 vm_nil)) (by rfl))
      (vs_cons (vs_for (passes_of rfl) rfl (vi_enum (by rfl) n_enumerate (va_cons (ve_var (pv 0)) va_nil)) (vg_tup rfl (vgs_cons (vg_name (i := 3) sc_mates.nd rfl (.inl rfl)) (vgs_cons (vg_name (i := 4) sc_mates.nd rfl (.inl rfl)) vgs_nil)))
      (vs_cons (vs_app (pv 1) (va_cons (ve_dget2 (hu_of hr) (vx_var (pv 2)) (ve_var (pv 4)) ve_non ⟨rfl, rfl, rfl, rfl⟩) va_nil))
      (vs_one (vs_dputO (hu_of hr) (pv 2) (ve_var (pv 4)) (ve_var (pv 3))))))
      (vs_one (vs_ret (ve_tupleC (by rfl) n_tuple (vxs_cons (vx_var (pv 1)) vxs_nil))))))
abbrev s_queue_with : Stmt := topS 11
abbrev N_queue_with : List Str := ["waiting", "person", "mate", "at"]
theorem sc_queue_with : FnScope N_queue_with ["waiting", "person", "mate"] (defScope s_queue_with) := ⟨rfl, rfl, rfl, by decide +kernel, rfl, by decide +kernel, by decide +kernel⟩
theorem w_queue_with {S : SV} (F : Fun K "queue_with" "queue_with" s_queue_with f fd) (n_len : mg "len" = none) (hlen : ∀ ds Q E, S ds Q E → ds.length = 3)
    (law : ∀ ds Q E, S ds Q E → t_queue_with (envOf 4 ds) (fin Q E)) : FnOk P w K mg base (L2.CX P w) 1 f fd ["waiting", "person", "mate"] (spV b S) := by
  refine fnV F sc_queue_with hlen (by decide) (fun cdv A outer s H E hr tk => ?_) law
  have hu := hr.units
  exact (vs_cons (vs_asg (i := 3) sc_queue_with.nd rfl (.inl rfl) (ve_if (vt_in hu (vx_var (pv 2)) (vx_var (pv 0))) (ve_add (VE.toX (ve_mth (mx_index (hu65 hr)) (vx_var (pv 0)) (vxs_cons (vx_var (pv 2)) vxs_nil))) (VE.toX ve_int)) (ve_len (by rfl) n_len (vxs_cons (vx_var (pv 0)) vxs_nil))))
      (vs_one (vs_ret (ve_add (VE.toX (ve_add (VE.toX (ve_sl (vx_var (pv 0)) vo_no (vo_at (vx_var (pv 3))))) (VE.toX (ve_tup (va_cons (ve_var (pv 1)) va_nil))))) (VE.toX (ve_sl (vx_var (pv 0)) (vo_at (vx_var (pv 3))) vo_no))))))
abbrev s_steps_of : Stmt := topS 12
abbrev N_steps_of : List Str := ["row", "word", "found", "waiting", "arrived", "known", "letter", "person"]
theorem sc_steps_of : FnScope N_steps_of ["row", "word"] (defScope s_steps_of) := ⟨rfl, rfl, rfl, by decide +kernel, rfl, by decide +kernel, by decide +kernel⟩
theorem w_steps_of {S : SV} {S_mates : SV} {S_queue_with : SV} (F : Fun K "steps_of" "steps_of" s_steps_of f fd) (F_mates : Cal P w K mg base b 1 "mates" ["row"] S_mates) (F_queue_with : Cal P w K mg base b 1 "queue_with" ["waiting", "person", "mate"] S_queue_with) (c_ARRIVAL : ∃ t, mg "ARRIVAL" = some (.str "a" t)) (hlen : ∀ ds Q E, S ds Q E → ds.length = 2)
    (law : ∀ ds Q E, S ds Q E → t_steps_of S_mates S_queue_with (envOf 8 ds) (fin Q E)) : FnOk P w K mg base (L2.CX P w) 2 f fd ["row", "word"] (spV b S) := by
  refine fnV F sc_steps_of hlen (by decide) (fun cdv A outer s H E hr tk => ?_) law
  have hu := hr.units
  exact (vs_cons (vs_parT (is := [2, 3, 4, 5]) rfl (pgs_cons (pg_name (i := 2) sc_steps_of.nd rfl (.inl rfl)) (pgs_cons (pg_name (i := 3) sc_steps_of.nd rfl (.inl rfl)) (pgs_cons (pg_name (i := 4) sc_steps_of.nd rfl (.inl rfl)) (pgs_cons (pg_name (i := 5) sc_steps_of.nd rfl (.inl rfl)) pgs_nil)))) (vm_nw (vn_lst va_nil) (vm_sh (ve_tup va_nil) (vm_sh ve_int (vm_sh (ve_cal F_mates hr tk (by rfl) (va_cons (ve_var (pv 0)) va_nil)) vm_nil)))))
      (vs_cons (vs_for (passes_of rfl) rfl (vi_src (ve_var (pv 1))) (vg_name (i := 6) sc_steps_of.nd rfl (.inl rfl))
      (vs_cons (vs_if (vt_eq hu (vx_var (pv 6)) (VE.toX (ve_gstr (by rfl) c_ARRIVAL)))
      (vs_cons (vs_par2 (i := 7) (j := 4) rfl sc_steps_of.nd rfl rfl (by decide) rfl rfl (vm_sh (ve_var (pv 4)) (vm_sh (ve_add (vx_var (pv 4)) (VE.toX ve_int)) vm_nil)) (by rfl))
      (vs_one (vs_asg (i := 3) sc_steps_of.nd rfl (.inl rfl) (ve_cal F_queue_with hr tk (by rfl) (va_cons (ve_var (pv 3)) (va_cons (ve_var (pv 7)) (va_cons (ve_ix (vx_var (pv 5)) (vx_var (pv 7))) va_nil)))))))
      (vs_one (vs_par2 (i := 7) (j := 3) rfl sc_steps_of.nd rfl rfl (by decide) rfl rfl (vm_sh (ve_ix (vx_var (pv 3)) (VE.toX ve_int)) (vm_sh (ve_sl (vx_var (pv 3)) (vo_at (VE.toX ve_int)) vo_no) vm_nil)) (by rfl))))
      (vs_one (vs_app (pv 2) (va_cons (ve_tup (va_cons (ve_var (pv 6)) (va_cons (ve_var (pv 7)) (va_cons (ve_var (pv 3)) va_nil)))) va_nil)))))
      (vs_one (vs_frz 2 (vs_ret (ve_var (pv 2)))))))
abbrev s_each_step : Stmt := topS 14
abbrev N_each_step : List Str := ["row", "word"]
theorem sc_each_step : GScope N_each_step ["row", "word"] (defScope s_each_step) := ⟨rfl, rfl, rfl, by decide +kernel, rfl, by decide +kernel, by decide +kernel⟩
theorem w_each_step {S : SZ} {S_check_word : SV} {S_steps_of : SV} (F : Fun K "each_step" "each_step" s_each_step f fd) (F_check_word : Cal P w K mg base b 3 "check_word" ["row", "value"] S_check_word) (F_steps_of : Cal P w K mg base b 2 "steps_of" ["row", "word"] S_steps_of) (hlen : ∀ ds Y Q E, S ds Y Q E → ds.length = 2)
    (law : ∀ ds Y Q E, S ds Y Q E → t_each_step S_check_word S_steps_of (envOf 2 ds) 0 (finZ Y Q E)) : GFnZ P w K mg base b 4 f fd ["row", "word"] S := by
  refine fnZ F sc_each_step (fun _ => rfl) hlen (by decide) (fun cdv A outer n0 E pn a gi T J Y Q hr => ?_) law
  exact (vz_cons (vz_ps (fun _ _ _ _ => (vs_expr (ve_cal F_check_word hr takes_gcn (by rfl) (va_cons (ve_var (pv 0)) (va_cons (ve_var (pv 1)) va_nil))))))
      (vz_cons (vz_yieldFrom (fun _ _ _ _ => (ve_cal F_steps_of hr takes_gcn (by rfl) (va_cons (ve_var (pv 0)) (va_cons (ve_var (pv 1)) va_nil)))) hr.hd)
      vz_nil))
abbrev s_law_begun : Stmt := topS 26
abbrev N_law_begun : List Str := ["_law_row", "_law_word_here", "_law_bound", "_law_found", "_law_step"]
theorem sc_law_begun : FnScope N_law_begun ["_law_row", "_law_word_here", "_law_bound"] (defScope s_law_begun) := ⟨rfl, rfl, rfl, by decide +kernel, rfl, by decide +kernel, by decide +kernel⟩
theorem w_law_begun {S : SV} {S_each_step : SZ} (F : Fun K "_law_begun" "_law_begun" s_law_begun f fd) (F_each_step : CalZ P w K mg base b 4 "each_step" ["row", "word"] S_each_step) (n_len : mg "len" = none) (n_list : mg "list" = none) (NST : ∀ n, n ∈ (["BadWord"] : List Str) → NoSt K b n) (hlen : ∀ ds Q E, S ds Q E → ds.length = 3)
    (law : ∀ ds Q E, S ds Q E → t_law_begun S_each_step (envOf 5 ds) (fin Q E)) : FnOk P w K mg base (L2.CX P w) 8 f fd ["_law_row", "_law_word_here", "_law_bound"] (spV b S) := by
  refine fnV F sc_law_begun hlen (by decide) (fun cdv A outer s H E hr tk => ?_) law
  have hu := hr.units
  exact (vs_cons (vs_asgN (i := 3) sc_law_begun.nd rfl (.inl rfl) (vn_lst va_nil))
      (vs_cons (vs_forZ (ns := (fun n => n ∈ (["BadWord"] : List Str))) (mk_call F_each_step hr (by rfl) (va_cons (ve_var (pv 0)) (va_cons (ve_var (pv 1)) va_nil))) NST hr tk (passes_of rfl) (fun _ => (vg_name (i := 4) sc_law_begun.nd rfl (.inl rfl))) (fun W pn xe tk ps =>
      (vs_cons (vs_if (vt_eq hu (VE.toX (ve_len (by rfl) n_len (vxs_cons (vx_var (pv 3)) vxs_nil))) (vx_var (pv 2)))
      (vs_one vs_break)
      vs_nil)
      (vs_one (vs_app (pv 3) (va_cons (ve_tup (va_cons (ve_var (pv 4)) (va_cons (ve_len (by rfl) n_len (vxs_cons (VN.toX (vn_listZ (ns := (fun n => n ∈ (["BadWord"] : List Str))) (mk_call F_each_step hr (by rfl) (va_cons (ve_var (pv 0)) (va_cons (ve_var (pv 1)) va_nil))) NST hr tk (by rfl) n_list rfl)) vxs_nil)) va_nil))) va_nil))))))
      (vs_one (vs_frz 3 (vs_ret (ve_var (pv 3)))))))
abbrev s_law_told : Stmt := topS 25
abbrev N_law_told : List Str := ["_law_row", "_law_word_here", "_law_found", "_law_step", "error", "_law_alone"]
theorem sc_law_told : FnScope N_law_told ["_law_row", "_law_word_here"] (defScope s_law_told) := ⟨rfl, rfl, rfl, by decide +kernel, rfl, by decide +kernel, by decide +kernel⟩
theorem w_law_told {S : SV} {S_each_step : SZ} (F : Fun K "_law_told" "_law_told" s_law_told f fd) (F_each_step : CalZ P w K mg base b 4 "each_step" ["row", "word"] S_each_step) (n_isinstance : mg "isinstance" = none) (n_ValueError : mg "ValueError" = none) (T_LineError : ErrT K mg b ["BadWord"] "LineError") (NST : ∀ n, n ∈ (["BadWord"] : List Str) → NoSt K b n) (T_NoHistory : ErrT K mg b ["BadWord"] "NoHistory") (T_BadText : ErrT K mg b ["BadWord"] "BadText") (T_BadHistory : ErrT K mg b ["BadWord"] "BadHistory") (EC : ∀ n ∈ (["BadWord"] : List Str), ErrC K (b.cls n)) (EV : ∀ n ∈ (["BadWord"] : List Str), PySem.W.kitOne K (.ref (b.cls n)) (.type "ValueError") = some true) (T_BadWord : ErrT K mg b ["BadWord"] "BadWord") (FE_error : ∀ n ∈ (["BadWord"] : List Str), FldC K (b.cls n) "error") (hlen : ∀ ds Q E, S ds Q E → ds.length = 2)
    (law : ∀ ds Q E, S ds Q E → t_law_told S_each_step (envOf 6 ds) (fin Q E)) : FnOk P w K mg base (L2.CX P w) 6 f fd ["_law_row", "_law_word_here"] (spV b S) := by
  refine fnV F sc_law_told hlen (by decide) (fun cdv A outer s H E hr tk => ?_) law
  exact (vs_cons (vs_asgN (i := 2) sc_law_told.nd rfl (.inl rfl) (vn_lst va_nil))
      (vs_cons (vs_try (i := 4) rfl rfl sc_law_told.nd rfl rfl T_LineError (by rfl) tk (fun W pn xe tk ps =>
      (vs_one (vs_forZ (ns := (fun n => n ∈ (["BadWord"] : List Str))) (mk_call F_each_step hr (by rfl) (va_cons (ve_var (pv 0)) (va_cons (ve_var (pv 1)) va_nil))) NST hr tk ps (fun _ => (vg_name (i := 3) sc_law_told.nd rfl (.inl rfl))) (fun W pn xe tk ps =>
      (vs_one (vs_app (pv 2) (va_cons (ve_var (pv 3)) va_nil))))))) (fun a oe er d pn hz hf =>
      (vs_cons (vs_asg (i := 5) sc_law_told.nd rfl (.inl rfl) (ve_and (VE.toX (ve_errV EV EC hz hf (by rfl) n_isinstance (pv 4) (by rfl) n_ValueError)) (ve_one (ve_not (VE.toX (ve_errIT (pns_cons T_BadHistory (by rfl) (pns_cons T_BadText (by rfl) (pns_cons T_NoHistory (by rfl) pns_nil))) EC hz hf (by rfl) n_isinstance (pv 4) (by decide)))))))
      (vs_one (vs_asg (i := 2) sc_law_told.nd rfl (.inl rfl) (ve_if (VWe.pt (vw_and (vt_val (vx_var (pv 5))) (vw_and1 (vt_val (VE.toX (ve_errI T_BadWord EC hz hf (by rfl) n_isinstance (pv 4) (by rfl))))))) (ve_tup (va_cons (ve_errF FE_error hz hf (pv 4)) va_nil)) ve_str))))))
      (vs_one (vs_frz 2 (vs_ret (ve_var (pv 2)))))))
abbrev s_law : Stmt := topS 27
abbrev N_law : List Str := ["_law_script", "_law_bag", "_law_turn", "_law_row", "_law_word_here", "_law_value", "_law_shown", "_law_fault_here", "_law_due", "_law_bound", "_law_steps", "_law_step"]
theorem sc_law : FnScope N_law ["_law_script"] (defScope s_law) := ⟨rfl, rfl, rfl, by decide +kernel, rfl, by decide +kernel, by decide +kernel⟩
theorem w_law {S_law_drawn : SV} {S_law_word : SV} {S_law_take : SV} {S_law_twisted : SV} {S_law_odd : SV} {S_law_fault : SV} {S_law_played : SV} {S_law_told : SV} {S_law_begun : SV} (F_law_drawn : Cal P w K mg base b 3 "_law_drawn" ["_law_bag", "_law_most"] S_law_drawn) (F_law_word : Cal P w K mg base b 2 "_law_word" ["_law_bag", "_law_many", "_law_way"] S_law_word) (F_law_take : Cal P w K mg base b 1 "_law_take" ["_law_bag", "_law_many"] S_law_take) (F_law_twisted : Cal P w K mg base b 3 "_law_twisted" ["_law_bag", "_law_word_here"] S_law_twisted) (F_law_odd : Cal P w K mg base b 3 "_law_odd" ["_law_bag"] S_law_odd) (F_law_fault : Cal P w K mg base b 1 "_law_fault" ["_law_row", "_law_value"] S_law_fault) (F_law_played : Cal P w K mg base b 1 "_law_played" ["_law_row", "_law_word_here"] S_law_played) (F_law_told : Cal P w K mg base b 6 "_law_told" ["_law_row", "_law_word_here"] S_law_told) (F_law_begun : Cal P w K mg base b 8 "_law_begun" ["_law_row", "_law_word_here", "_law_bound"] S_law_begun) (n_range : mg "range" = none) (n_len : mg "len" = none) (n_repr : mg "repr" = none) (cdv : Value) (A : Around) (outer : List Env) (s : Shared) (H : Hp) (E : XK) (hr : Room 8 (A.deeper (envOfC "law" (defScope s_law) s.heap.objs.size f cdv))) (hgd : (A.deeper (envOfC "law" (defScope s_law) s.heap.objs.size f cdv)).guards = some []) (tk : Takes (cxOf (L2.CX P w) P w K mg base N_law "law" (defScope s_law) f cdv A outer s H E) (WF E)) : VSs (cxOf (L2.CX P w) P w K mg base N_law "law" (defScope s_law) f cdv A outer s H E) b (WF E) (defBody s_law).tail (t_law S_law_drawn S_law_word S_law_take S_law_twisted S_law_odd S_law_fault S_law_played S_law_told S_law_begun) := by
  have hu := hr.units
  exact (vs_cons (vs_for (passes_of rfl) rfl (vi_range1 (by rfl) n_range (vxs_cons (VE.toX ve_int) vxs_nil)) (vg_name (i := 2) sc_law.nd rfl (.inl rfl))
      (vs_cons (vs_asg (i := 3) sc_law.nd rfl (.inl rfl) (ve_cal F_law_drawn hr tk (by rfl) (va_cons (ve_var (pv 1)) (va_cons (ve_ix (VN.toX (vn_lst (va_cons ve_int (va_cons ve_int va_nil)))) (VE.toX (ve_mod (vx_var (pv 2)) (VE.toX ve_int)))) va_nil))))
      (vs_cons (vs_asg (i := 4) sc_law.nd rfl (.inl rfl) (ve_cal F_law_word hr tk (by rfl) (va_cons (ve_var (pv 1)) (va_cons (ve_len (by rfl) n_len (vxs_cons (vx_var (pv 3)) vxs_nil)) (va_cons (ve_cal F_law_take hr tk (by rfl) (va_cons (ve_var (pv 1)) (va_cons ve_int va_nil))) va_nil)))))
      (vs_cons (vs_for (passes_of rfl) rfl (vi_src (VN.toE (vn_lst (va_cons (ve_var (pv 4)) (va_cons (ve_sl (vx_var (pv 4)) vo_no (vo_at (VE.toX (ve_cal F_law_take hr tk (by rfl) (va_cons (ve_var (pv 1)) (va_cons (ve_len (by rfl) n_len (vxs_cons (vx_var (pv 4)) vxs_nil)) va_nil)))))) (va_cons ve_str (va_cons (ve_cal F_law_twisted hr tk (by rfl) (va_cons (ve_var (pv 1)) (va_cons (ve_var (pv 4)) va_nil))) (va_cons (ve_cal F_law_odd hr tk (by rfl) (va_cons (ve_var (pv 1)) va_nil)) (va_cons (VN.toE (vn_lst (va_cons (ve_var (pv 4)) va_nil))) va_nil))))))))) (vg_name (i := 5) sc_law.nd rfl (.inl rfl))
      (vs_cons (vs_par2 (i := 6) (j := 7) rfl sc_law.nd rfl rfl (by decide) rfl rfl (vm_sh (ve_repr hu hgd (by rfl) n_repr (vxs_cons (VN.toX (vn_lst (va_cons (ve_var (pv 3)) (va_cons (ve_var (pv 5)) va_nil)))) vxs_nil)) (vm_sh (ve_cal F_law_fault hr tk (by rfl) (va_cons (ve_var (pv 3)) (va_cons (ve_var (pv 5)) va_nil))) vm_nil)) (by rfl))
      (vs_cons (vs_asg (i := 8) sc_law.nd rfl (.inl rfl) (ve_if (vt_notN (vx_var (pv 7)) (VE.toX ve_non)) (ve_tup (va_cons (ve_var (pv 7)) va_nil)) (ve_ix (VE.toX (ve_cal F_law_played hr tk (by rfl) (va_cons (ve_var (pv 3)) (va_cons (ve_var (pv 5)) va_nil)))) (VE.toX ve_int))))
      (vs_one (vs_if (VWe.pt (vw_or (vt_ne hu (VE.toX (ve_repr hu hgd (by rfl) n_repr (vxs_cons (VE.toX (ve_cal F_law_told hr tk (by rfl) (va_cons (ve_var (pv 3)) (va_cons (ve_var (pv 5)) va_nil)))) vxs_nil))) (VE.toX (ve_repr hu hgd (by rfl) n_repr (vxs_cons (vx_var (pv 8)) vxs_nil)))) (vw_or1 (vt_ne hu (VE.toX (ve_repr hu hgd (by rfl) n_repr (vxs_cons (VN.toX (vn_lst (va_cons (ve_var (pv 3)) (va_cons (ve_var (pv 5)) va_nil)))) vxs_nil))) (vx_var (pv 6))))))
      (vs_one (vs_ret ve_bl))
      vs_nil)))))
      (vs_cons (vs_parT (is := [9, 10]) rfl (pgs_cons (pg_name (i := 9) sc_law.nd rfl (.inl rfl)) (pgs_cons (pg_name (i := 10) sc_law.nd rfl (.inr rfl)) pgs_nil)) (vm_sh (ve_cal F_law_take hr tk (by rfl) (va_cons (ve_var (pv 1)) (va_cons ve_int va_nil))) (vm_sh (ve_ix (VE.toX (ve_cal F_law_played hr tk (by rfl) (va_cons (ve_var (pv 3)) (va_cons (ve_var (pv 4)) va_nil)))) (VE.toX ve_int)) vm_nil)))
      (vs_one (vs_if (vt_ne hu (VE.toX (ve_repr hu hgd (by rfl) n_repr (vxs_cons (VE.toX (ve_cal F_law_begun hr tk (by rfl) (va_cons (ve_var (pv 3)) (va_cons (ve_var (pv 4)) (va_cons (ve_var (pv 9)) va_nil))))) vxs_nil))) (VE.toX (ve_repr hu hgd (by rfl) n_repr (vxs_cons (VN.toX (vn_lc (own := [("_law_step", 11)]) rfl sc_law.nd (vib_src (VE.toX (ve_sl (vx_var (pv 10)) vo_no (vo_at (vx_var (pv 9)))))) (blkOk_by (N := N_law) (sc := defScope s_law) (by decide +kernel)) (by decide) (fun _ _ _ _ _ => (vg_name (i := 11) sc_law.nd rfl (.inl rfl))) (fun _ _ _ _ _ => vts_nil) (fun _ _ _ _ _ => (ve_tup (va_cons (ve_var (pv 11)) (va_cons (ve_len (by rfl) n_len (vxs_cons (vx_var (pv 10)) vxs_nil)) va_nil)))))) vxs_nil))))
      (vs_one (vs_ret ve_bl))
      vs_nil)))))))
      (vs_one (vs_ret ve_bl)))
end
end LawP
set_option Elab.async false
set_option linter.all false
set_option maxRecDepth 100000
set_option maxHeartbeats 4000000
namespace LawP
open PySem PySem.Spec PyProof.Rows L2 VL
abbrev sOpened : Stmt := topS 16
abbrev sTake : Stmt := topS 17
abbrev sPick : Stmt := topS 18
theorem scOpened : FnScope ["_law_script", "_law_cells", "_law_cell"] ["_law_script"] (defScope sOpened) := ⟨rfl, rfl, rfl, by decide +kernel, rfl, by decide +kernel, by decide +kernel⟩
theorem scTake : FnScope ["_law_bag", "_law_many", "_law_rest", "_law_drawn_here", "_law_cells", "_law_seed"] ["_law_bag", "_law_many"] (defScope sTake) := ⟨rfl, rfl, rfl, by decide +kernel, rfl, by decide +kernel, by decide +kernel⟩
theorem scPick : FnScope ["_law_bag", "_law_items"] ["_law_bag", "_law_items"] (defScope sPick) := ⟨rfl, rfl, rfl, by decide +kernel, rfl, by decide +kernel, by decide +kernel⟩
section
variable {P : Program} {w : World} {K : PySem.W.Frag} {mg : Str → Option Value} {base : Heap} {f f2 : Addr} {fd fd2 : FuncData}
theorem ok_take {k : Nat} (F : Fun K "_law_take" "_law_take" sTake f fd) (ml : mg "len" = none) : FnOk P w K mg base (L2.CX P w) (k + 1) f fd ["_law_bag", "_law_many"] spTake := by
  refine F.okX scTake (fun vs H Q E h => ?_) (fun cdv A outer s H vs Q E hr h => ?_)
  · obtain ⟨r, l1, l2, gs, ds, n, m, rfl, _⟩ := h
    rfl
  · have hu := hr.units
    have h1 := hu_of hr
    refine ⟨_, pss_cons (ps_while (passes_of rfl) (pt_cmpR (op_neP hu) (pe_dget h1 (pv 0) pe_str (fun _ _ => rfl)) (pe_lst pa_nil) (nomark _))
        (pss_cons (ps_set (i := 2) scTake.nd rfl (.inl rfl) (pe_bm PySem.F.plainAttrs_list PySem.F.slot_list_pop PySem.F.type_list_pop mt_popAt (pe_dget h1 (pv 0) pe_str (fun _ _ => rfl)) (pa_cons pe_int pa_nil)))
          (pss_one (ps_if (pt_cmpR op_gt (pv 2) pe_int (nomark _))
            (pss_cons (ps_expr (pe_bm PySem.F.plainAttrs_list PySem.F.slot_list_insert PySem.F.type_list_insert mt_insert (pe_dget h1 (pv 0) pe_str (fun _ _ => rfl)) (pa_cons pe_int (pa_cons (pe_op op_fdivB (pv 2) (pv 1)) pa_nil))))
              (pss_one (ps_ret (pe_op op_mod (pv 2) (pv 1))))) pss_nil))))
      (pss_cons (ps_par (i := 3) (j := 4) rfl scTake.nd rfl rfl (by decide) rfl rfl (pa_cons (pe_dget h1 (pv 0) pe_str (fun _ _ => rfl)) (pa_cons (pe_dget h1 (pv 0) pe_str (fun _ _ => rfl)) pa_nil)) (by rfl))
      (pss_cons (ps_dput h1 (pv 0) pe_str (pe_op op_add (pv 3) pe_int) (by rfl))
      (pss_cons (ps_set (i := 5) scTake.nd rfl (.inl rfl) (pe_op op_add (pe_op op_mod (pe_ix ix_list (pv 4) (pe_op op_mod (pv 3) (pe_callB call_len_seq (by rfl) ml PySem.boot_len (pa_cons (pv 4) pa_nil))) (fun _ _ => rfl)) pe_int) (pe_op op_mul pe_int (pe_op op_add (pv 3) pe_int))))
      (pss_cons (ps_set (i := 5) scTake.nd rfl (.inl rfl) (pe_op op_mod (pe_op op_mul (pe_op op_mod (pv 5) pe_int) (pe_op op_add (pe_op op_mod (pv 5) pe_int) pe_int)) pe_int))
      (pss_cons (ps_set (i := 5) scTake.nd rfl (.inl rfl) (pe_op op_mod (pe_op op_mul (pe_op op_mod (pe_op op_add (pe_op op_mul (pv 5) (pv 5)) (pe_op op_mul pe_int (pv 3))) pe_int) pe_int) pe_int))
      (pss_one (ps_ret (pe_op op_mod (pe_op op_fdivB (pv 5) pe_int) (pv 1))))))))), ?_⟩
    obtain ⟨r, l1, l2, gs, ds, n, m, rfl, hb, m0, m1, q⟩ := h
    refine ⟨fun k σ H' => ∃ x2 gs', k = List.length gs' ∧ σ = [some (.ref r), some (.int m), x2, none, none, none] ∧ KeepB r l1 l2 H H' ∧ bagAt r l1 l2 gs' ds n H', ⟨_, none, gs, rfl, rfl, .refl, hb⟩, ?_⟩
    rintro k σ H1 ⟨x2, gs', rfl, rfl, kp, b1⟩
    have e1 : ∀ {p : Addr} {o : HO}, H1 p = none → bagAt r l1 l2 gs' ds n (upd H1 p o) := fun {p o} hp => ⟨by rw [upd_ne (ne_of_none b1.1 hp)]; exact b1.1, by rw [upd_ne (ne_of_none b1.2.1 hp)]; exact b1.2.1, by rw [upd_ne (ne_of_none b1.2.2.1 hp)]; exact b1.2.2.1, b1.2.2.2⟩
    refine ⟨.ref r, rfl, r, .ref l1, rfl, DGet.k (k := kG) b1.1, Nat.zero_le _, fun p hp => ?_⟩
    have b2 := e1 (o := .lst []) hp
    have kp2 : KeepB r l1 l2 H (upd H1 p (.lst [])) := kp.upd (.inr (.inr (.inr hp)))
    refine ⟨.list (gs'.map PyData.int), .list [], .lst b2.2.1 not_false (.of_ints _), .lst upd_same not_false .nil, (by simp only [PyData.plain]; exact plain_ints gs'), rfl, .inr (by decide), _, rfl, ?_⟩
    generalize upd H1 p (.lst []) = H2 at b2 kp2
    cases gs' with
    | cons g gs' =>
      refine ⟨fun σ H' => ∃ m', m' < (g :: gs').length ∧ ∃ x2 gs'', m' = List.length gs'' ∧ σ = [some (.ref r), some (.int m), x2, none, none, none] ∧ KeepB r l1 l2 H H' ∧ bagAt r l1 l2 gs'' ds n H', fun σ' H' h => h, ?_⟩
      -- rest = bag['great'].pop(0)
      refine ⟨.ref r, rfl, r, .ref l1, rfl, DGet.k (k := kG) b2.1, .inl ⟨rfl, _, SqL.of b2.2.1⟩, ?_⟩
      refine ⟨l1, (g :: gs').map V.int, 0, 0, .int g, rfl, rfl, b2.2.1, by decide, by decide, by simp [seqIndex?], rfl, ?_⟩
      have b3 : bagAt r l1 l2 gs' ds n (upd H2 l1 (.lst (gs'.map V.int))) := ⟨by rw [upd_ne b2.rl1]; exact b2.1, upd_same, by rw [upd_ne (Ne.symm b2.2.2.2.2.2)]; exact b2.2.2.1, Nat.le_of_succ_le b2.2.2.2.1, b2.2.2.2.2⟩
      have kp3 : KeepB r l1 l2 H (upd H2 l1 (.lst (gs'.map V.int))) := kp2.upd (.inr (.inl rfl))
      have e3 : ((g :: gs').map V.int).eraseIdx 0 = gs'.map V.int := rfl
      rw [e3]
      generalize upd H2 l1 (.lst (gs'.map V.int)) = H3 at b3 kp3
      -- if rest > 0
      refine ⟨.int g, rfl, g, 0, rfl, rfl, _, rfl, ite2 (fun c => ?_) (fun c => ?_)⟩
      · refine ⟨.ref r, rfl, r, .ref l1, rfl, DGet.k (k := kG) b3.1, .inl ⟨rfl, _, SqL.of b3.2.1⟩, .int g, rfl, .int m, rfl, g, m, rfl, rfl, ⟨by omega, by omega⟩, ?_⟩
        have hl : gs'.length < sizeLine := Nat.lt_of_le_of_lt b3.2.2.2.1 (by decide)
        refine ⟨l1, _, 0, _, rfl, rfl, b3.2.1, by rw [List.length_map]; exact hl, Int.le_refl _, by decide, ?_⟩
        have b4 : bagAt r l1 l2 (g.fdiv m :: gs') ds n (upd H3 l1 (.lst ((g.fdiv m :: gs').map V.int))) := ⟨by rw [upd_ne b3.rl1]; exact b3.1, upd_same, by rw [upd_ne (Ne.symm b3.2.2.2.2.2)]; exact b3.2.2.1, b2.2.2.2.1, b3.2.2.2.2⟩
        exact ⟨.int g, rfl, .int m, rfl, g, m, rfl, rfl, m0, q _ _ _ _ (kp3.upd (.inr (.inl rfl))) b4 (Int.emod_nonneg _ (by omega)) (Int.emod_lt_of_pos _ m0)⟩
      · exact ⟨gs'.length, Nat.lt_succ_self _, some (.int g), gs', rfl, rfl, kp3, b3⟩
    | nil =>
      -- here, cells = bag['drawn'], bag['cells']
      refine ⟨.ref r, rfl, r, .int n, rfl, DGet.k (k := kN) b2.1, .ref r, rfl, r, .ref l2, rfl, DGet.k (k := kC) b2.1, _, _, rfl, ?_⟩
      -- bag['drawn'] = here + 1
      refine ⟨.int n, rfl, n, 1, rfl, rfl, .ref r, rfl, r, _, rfl, DPut.k (k := kN) b2.1 (show 3 < sizeLine by decide), ?_⟩
      have b3 : bagAt r l1 l2 [] ds (n + 1) (upd H2 r (.dK [(kG, .ref l1), (kC, .ref l2), (kN, .int (n + 1))])) := ⟨upd_same, by rw [upd_ne b2.rl1.symm]; exact b2.2.1, by rw [upd_ne b2.rl2.symm]; exact b2.2.2.1, b2.2.2.2⟩
      have kp3 : KeepB r l1 l2 H (upd H2 r (.dK [(kG, .ref l1), (kC, .ref l2), (kN, .int (n + 1))])) := kp2.upd (.inl rfl)
      have e3 : putK [(kG, V.ref l1), (kC, .ref l2), (kN, .int n)] kN (.int (n + 1)) = [(kG, .ref l1), (kC, .ref l2), (kN, .int (n + 1))] := rfl
      rw [e3]
      generalize upd H2 r (.dK [(kG, .ref l1), (kC, .ref l2), (kN, .int (n + 1))]) = H3 at b3 kp3
      have dl : 0 < ds.length := List.length_pos_iff.mpr b3.2.2.2.2.1
      have hL : SqL K H3 l2 (ds.map V.int) := SqL.of b3.2.2.1
      have i0 : 0 ≤ n % ((ds.map V.int).length : Int) := Int.emod_nonneg _ (by rw [List.length_map]; omega)
      have i1 : n % ((ds.map V.int).length : Int) < (ds.map V.int).length := Int.emod_lt_of_pos _ (by rw [List.length_map]; omega)
      obtain ⟨j, ej⟩ : ∃ j : Nat, n % ((ds.map V.int).length : Int) = (j : Int) := ⟨_, (Int.toNat_of_nonneg i0).symm⟩
      have hj : j < ds.length := by rw [ej, List.length_map] at i1; omega
      refine ⟨.ref l2, rfl, .int n, rfl, .ref l2, rfl, l2, _, rfl, .inl hL, n, _, rfl, rfl, (by show (0 : Int) < ((ds.map V.int).length : Int); rw [List.length_map]; omega), l2, _, _, .int ds[j], rfl, rfl, hL, ?_, ?_⟩
      · rw [ej]
        exact atI_nat (by rw [List.getElem?_map, List.getElem?_eq_getElem hj]; rfl)
      -- the first seed
      refine ⟨ds[j], 3037000493, rfl, rfl, (show (0 : Int) < 3037000493 by decide), .int n, rfl, n, 1, rfl, rfl, 2862933555, n + 1, rfl, rfl, .inl ⟨by decide, by decide⟩, _, _, rfl, rfl, ?_⟩
      dsimp only
      generalize ds[j] % 3037000493 + 2862933555 * (n + 1) = s0
      -- the second
      have w1 : ∀ x : Int, 0 ≤ x % 3037000493 ∧ x % 3037000493 < 3037000493 := fun x => ⟨Int.emod_nonneg _ (by decide), Int.emod_lt_of_pos _ (by decide)⟩
      refine ⟨.int s0, rfl, s0, 3037000493, rfl, rfl, (show (0 : Int) < 3037000493 by decide), .int s0, rfl, s0, 65521, rfl, rfl, (show (0 : Int) < 65521 by decide), _, 7, rfl, rfl, _, _, rfl, rfl, .inl ⟨by have := w1 s0; omega, by have := w1 s0; omega⟩, _, 3037000493, rfl, rfl, (show (0 : Int) < 3037000493 by decide), ?_⟩
      dsimp only
      generalize hs1 : s0 % 3037000493 * (s0 % 65521 + 7) % 3037000493 = s1
      have w2 : 0 ≤ s1 ∧ s1 < 3037000493 := by rw [← hs1]; exact w1 _
      -- the third
      refine ⟨.int s1, rfl, .int s1, rfl, s1, s1, rfl, rfl, .inl ⟨by omega, by omega⟩, .int n, rfl, 30517, n, rfl, rfl, .inl ⟨by decide, by decide⟩, _, _, rfl, rfl, _, 3037000493, rfl, rfl, (show (0 : Int) < 3037000493 by decide), _, 1013904223, rfl, rfl, .inr ⟨by decide, by decide⟩, _, 3037000493, rfl, rfl, (show (0 : Int) < 3037000493 by decide), ?_⟩
      dsimp only
      generalize (s1 * s1 + 30517 * n) % 3037000493 * 1013904223 % 3037000493 = s2
      refine ⟨.int s2, rfl, s2, 8, rfl, rfl, ⟨by decide, by decide⟩, .int m, rfl, _, m, rfl, rfl, m0, q _ _ _ _ kp3 b3 (Int.emod_nonneg _ (by omega)) (Int.emod_lt_of_pos _ m0)⟩
theorem ok_opened {k : Nat} (F : Fun K "_law_opened" "_law_opened" sOpened f fd) (ma : mg "abs" = none) (mi : mg "int" = none) : FnOk P w K mg base (L2.CX P w) (k + 1) f fd ["_law_script"] (spOpened K) := by
  refine F.okX scOpened (fun vs H Q E h => ?_) (fun cdv A outer s H vs Q E hr h => ?_)
  · obtain ⟨a, ns, rfl, _⟩ := h
    rfl
  · have hu := hr.units
    have h1 := hu_of hr
    refine ⟨_, pss_cons (ps_setLc (i := 1) (own := [("_law_cell", 2)]) rfl scOpened.nd rfl rfl (by rfl) (pi_list (pe_slice sl_list (pv 0) po_none (po_some pe_int))) (blkOk_by (N := ["_law_script", "_law_cells", "_law_cell"]) (sc := defScope sOpened) (by decide +kernel))
        (fun _ _ _ _ _ => pg_name (i := 2) scOpened.nd rfl (.inl rfl)) (fun _ _ _ _ _ => pts_nil) (fun _ _ _ _ _ => pe_callB call_abs (by rfl) ma boot_abs (pa_cons (pv 2) pa_nil)))
      (pss_one (ps_ret (pe_disp (pps_cons pe_str (vn_lc (b := bg0) (W := noW) (own := [("_law_cell", 2)]) rfl scOpened.nd (vib_src (vx_var (pv 1))) (blkOk_by (N := ["_law_script", "_law_cells", "_law_cell"]) (sc := defScope sOpened) (by decide +kernel)) (by decide)
          (fun _ _ _ _ _ => vg_name (i := 2) scOpened.nd rfl (.inl rfl)) (fun _ _ _ _ _ => vts_one (vt_ge (vx_var (pv 2)) (VE.toX (ve_pow (VE.toX ve_int) (VE.toX ve_int))))) (fun _ _ _ _ _ => ve_var (pv 2)))
        (pps_cons pe_str (pe_op op_cat (pv 1) (pe_op op_rep (pe_lst (pa_cons pe_int pa_nil)) (pe_callTy call_int1 (by rfl) mi PySem.Pv.boot_int (pa_cons (pe_cmpR (op_eqP hu) (pv 1) (pe_lst pa_nil) (nomark _)) pa_nil))))
        (pps_cons pe_str pe_int pps_nil))) rfl rfl (by simp) (by decide)))), ?_⟩
    obtain ⟨a, ns, rfl, hS, hl, q⟩ := h
    -- the cells
    refine ⟨.ref a, rfl, 61, rfl, a, _, rfl, hS, fun p hp => ?_⟩
    obtain ⟨ms, ems, hms⟩ := cut_ints ns none (some 61)
    rw [ems]
    refine ⟨p, rfl, ⟨_, SqL.of upd_same⟩, fun D hD => ?_⟩
    have hz : ms.length ≤ 1000 := by omega
    have keep : ∀ {H1 H2 : Hp} {b : Addr} {o : HO}, (∀ c o, H1 c = some o → H2 c = some o) → H2 b = none → ∀ c o', H1 c = some o' → upd H2 b o c = some o' := fun {H1 H2 b o} k hn c o' e => by rw [upd_ne (ne_of_none (k c o' e) hn)]; exact k c o' e
    refine lc_list (xs := ms.map V.int) (fun i H' => (∀ c o, H c = some o → H' c = some o) ∧ H' p = some (.lst (ms.map V.int)) ∧ H D = none ∧ D ≠ p ∧ H' D = some (.lst (((ms.take i).map absI).map V.int))) ?_ (fun i H' _ h => SqL.of h.2.1) ?_ ?_
    · have np : D ≠ p := fun e => by rw [e, upd_same] at hD; cases hD
      refine ⟨keep (keep (fun _ _ e => e) hp) hD, by rw [upd_ne np.symm]; exact upd_same, ?_, np, by rw [upd_same]; rfl⟩
      rw [upd_ne np] at hD
      exact hD
    · intro i x H' hx ⟨k, e2, np, npp, e3⟩
      rw [List.getElem?_map] at hx
      cases em : ms[i]? with
      | none => rw [em] at hx; cases hx
      | some m =>
        rw [em] at hx
        cases hx
        have hi : i < ms.length := (List.getElem?_eq_some_iff.mp em).1
        have nd : ∀ c o, H c = some o → c ≠ D := fun c o e z => by rw [z, np] at e; cases e
        refine ⟨rfl, ?_⟩
        unfold tYes
        dsimp only
        rw [if_pos rfl]
        refine ⟨.int m, rfl, m, rfl, _, e3, ?_, fun c o e => ?_, ?_, np, npp, ?_⟩
        · rw [List.length_map, List.length_map, List.length_take]
          exact Nat.lt_of_le_of_lt (show min i ms.length ≤ 1000 by omega) (by decide)
        · rw [upd_ne (nd c o e)]
          exact k c o e
        · rw [upd_ne npp.symm]
          exact e2
        · rw [upd_same, List.take_add_one, em]
          simp
    · intro H1 ⟨k, e2, np, npp, e3⟩
      rw [List.length_map, List.take_length] at e3
      have hcs : (ms.map absI).length ≤ 63 := by rw [List.length_map]; omega
      generalize ms.map absI = cs at e3 hcs
      -- the dict: its lists
      refine fun r hr => ?_
      have nr : ∀ c o, H c = some o → c ≠ r := fun c o e z => by
        have := k c o e
        rw [z, hr] at this; cases this
      have hD1 : (upd H1 r (.dK [])) D = some (.lst (cs.map V.int)) := by rw [upd_ne (ne_of_none e3 hr)]; exact e3
      have k1 : ∀ c o, H c = some o → (upd H1 r (.dK [])) c = some o := keep k hr
      have Hr0 : H r = none := by
        cases e : H r with
        | none => rfl
        | some o => rw [k r o e] at hr; cases hr
      have hr1 : (upd H1 r (.dK [])) r = some (.dK []) := upd_same
      generalize upd H1 r (.dK []) = H2 at hD1 k1 hr1
      refine ⟨nz, nz, [.un, .shr (.py (.list (cs.map PyData.int))), .un], fun d => d = .py (.list ((bigs (10 ^ 18) cs).map PyData.int)), noE, VOk.plain rfl ?_, ⟨?_, _, .inl rfl, ?_⟩, fun v H3 d x3 g3 ⟨l1, e4, n1, ow⟩ ed => ?_, fun _ _ _ _ _ _ _ h => h⟩
      · intro i s hs
        match i, hs with
        | 0, hs => cases hs; exact .inl rfl
        | 1, hs => cases hs; exact .inr ⟨_, .ref D, rfl, rfl, Rq.lst hD1 not_false (.of_ints cs)⟩
        | 2, hs => cases hs; exact .inl rfl
      · intro i hi d e
        rw [List.mem_singleton.mp hi] at e
        cases e
      · refine bigs_go (k := 10 ^ 18) ?_ (fun ρ c Q E e q => ⟨_, .inl e, ⟨by decide, by decide, by decide⟩, _, rfl, q⟩) (fun ρ d Q E e q => ⟨d, e, q⟩) cs [] (by simp; omega) rfl
        show 2 < 3
        decide
      subst e4 ed
      obtain ⟨xs1, hl1, rq1⟩ := ow
      have ex1 := rq1.ints
      subst ex1
      have x3' : ∀ c o, H2 c = some o → H3 c = some o := fun c o e => x3 c o e not_false
      have D3 := x3' _ _ hD1
      have r3 := x3' _ _ hr1
      have nl1 : H2 l1 = none := n1
      -- the second list
      refine ⟨.ref D, rfl, Nat.succ_le_of_lt (by decide), fun p1 hp1 => ?_⟩
      refine ⟨.ref D, rfl, Nat.zero_le _, fun p2 hp2 => ?_⟩
      have k4 : ∀ c o, H3 c = some o → upd H3 p1 (.lst [.int 73]) c = some o := keep (fun _ _ e => e) hp1
      have k5 : ∀ c o, H3 c = some o → upd (upd H3 p1 (.lst [.int 73])) p2 (.lst []) c = some o := keep k4 hp2
      have p12 : p1 ≠ p2 := fun e => by rw [e, upd_same] at hp2; cases hp2
      have g1 : upd (upd H3 p1 (.lst [.int 73])) p2 (.lst []) p1 = some (.lst [.int 73]) := by rw [upd_ne p12]; exact upd_same
      refine ⟨.list (cs.map PyData.int), .list [], .lst (k5 _ _ D3) not_false (.of_ints cs), .lst upd_same not_false .nil, by simp only [PyData.plain]; exact plain_ints cs, rfl, .inr (by decide), .inr ⟨_, rfl, ?_⟩⟩
      have nD1 : D ≠ p1 := ne_of_none D3 hp1
      generalize hH4 : upd (upd H3 p1 (.lst [.int 73])) p2 (.lst []) = H4 at k5 g1
      refine ⟨p1, _, [.int 73], rfl, rfl, g1, ?_, ?_, ?_, fun p3 hp3 => ?_⟩
      · split <;> decide
      · split <;> decide
      · split <;> decide
      have n13 : p1 ≠ p3 := ne_of_none g1 hp3
      have nD3 : D ≠ p3 := ne_of_none (k5 _ _ D3) hp3
      refine ⟨D, p3, cs.map V.int, _, rfl, rfl, by rw [upd_ne nD3]; exact k5 _ _ D3, upd_same, ?_, fun l2 hl2 => ?_⟩
      · rw [List.length_map]
        have z : ∀ m : Nat, m ≤ 200 → m ≤ sizeLine := fun m h => Nat.le_trans h (by decide)
        refine z _ ?_
        split
        · show cs.length + 1 ≤ 200
          omega
        · show cs.length + 0 ≤ 200
          omega
      -- the end
      have k6 : ∀ c o, H3 c = some o → upd (upd H4 p3 (.lst (List.replicate (if (PyData.list (cs.map PyData.int)).eqv (.list []) = true then (1 : Int) else 0).toNat [V.int 73]).flatten)) l2 (.lst (cs.map V.int ++ (List.replicate (if (PyData.list (cs.map PyData.int)).eqv (.list []) = true then (1 : Int) else 0).toNat [V.int 73]).flatten)) c = some o := keep (keep k5 hp3) hl2
      obtain ⟨es, he, hne⟩ : ∃ es : List Int, cs.map V.int ++ (List.replicate (if (PyData.list (cs.map PyData.int)).eqv (.list []) = true then (1 : Int) else 0).toNat [V.int 73]).flatten = es.map V.int ∧ es ≠ [] := by
        cases cs with
        | nil => exact ⟨[73], rfl, by simp⟩
        | cons c cs => exact ⟨c :: cs, by show _ ++ [] = _; rw [List.append_nil], by simp⟩
      rw [he] at k6 ⊢
      generalize hH5 : upd (upd H4 p3 (.lst (List.replicate (if (PyData.list (cs.map PyData.int)).eqv (.list []) = true then (1 : Int) else 0).toNat [V.int 73]).flatten)) l2 (.lst (es.map V.int)) = H5 at k6
      have e5 : H5 l2 = some (.lst (es.map V.int)) := by rw [← hH5]; exact upd_same
      have nl12 : l1 ≠ l2 := ne_of_none (k5 _ _ hl1) (by
        cases e : H4 l2 with
        | none => rfl
        | some o =>
          have : (upd H4 p3 (.lst (List.replicate (if (PyData.list (cs.map PyData.int)).eqv (.list []) = true then (1 : Int) else 0).toNat [V.int 73]).flatten)) l2 ≠ none := by
            by_cases q : l2 = p3
            · rw [q, upd_same]; simp
            · rw [upd_ne q, e]; simp
          exact absurd hl2 this)
      have r5 := k6 _ _ r3
      have nz5 : ∀ c o, H c = some o → H5 c = some o := fun c o e => k6 c o (x3' c o (k1 c o e))
      have back : ∀ c, H5 c = none → H c = none := fun c e => by
        cases q : H c with
        | none => rfl
        | some o => rw [nz5 c o q] at e; cases e
      have o1 : H l1 = none := by
        cases q : H l1 with
        | none => rfl
        | some o => rw [k1 l1 o q] at nl1; cases nl1
      have o2 : H l2 = none := by
        cases q : H l2 with
        | none => rfl
        | some o =>
          have := k5 l2 o (x3' l2 o (k1 l2 o q))
          have e' : (upd H4 p3 (.lst (List.replicate (if (PyData.list (cs.map PyData.int)).eqv (.list []) = true then (1 : Int) else 0).toNat [V.int 73]).flatten)) l2 = some o := keep (fun _ _ e => e) hp3 l2 o this
          rw [hl2] at e'; cases e'
      refine ⟨r5, [(kG, .ref l1), (kC, .ref l2), (kN, .int 0)], rfl, (show 3 ≤ 15 by decide), ?_⟩
      have em : mergeK ([] : List (Key × V)) [(kG, .ref l1), (kC, .ref l2), (kN, .int 0)] = [(kG, .ref l1), (kC, .ref l2), (kN, .int 0)] := rfl
      rw [em]
      have nr1 : l1 ≠ r := fun e => by rw [e] at hl1; rw [r3] at hl1; cases hl1
      have nr2 : l2 ≠ r := fun e => by rw [e] at e5; rw [r5] at e5; cases e5
      refine q r l1 l2 (bigs (10 ^ 18) cs) es 0 _ (fun c o e => ?_) Hr0 o1 o2 ⟨upd_same, by rw [upd_ne nr1]; exact k6 _ _ hl1, by rw [upd_ne nr2]; exact e5, ?_, hne, nl12⟩
      · rw [upd_ne (nr c o e)]
        exact nz5 c o e
      · exact Nat.le_trans (List.length_filter_le _ _) hcs
theorem ok_pick {k : Nat} {cls : Str → Addr} {r l1 l2 : Addr} (F : Fun K "_law_pick" "_law_pick" sPick f fd) (FT : FnOk P w K mg base (L2.CX P w) k f2 fd2 ["_law_bag", "_law_many"] (spV (bagB cls r l1 l2) (svTake r))) (gT : mg "_law_take" = some (.ref f2)) (kT : PySem.W.keepIn K (.ref f2) = true) (bT : Binds K fd2 ["_law_bag", "_law_many"] []) (ml : mg "len" = none) :
    FnOk P w K mg base (L2.CX P w) (k + 1) f fd ["_law_bag", "_law_items"] (spV (bagB cls r l1 l2) (svPick r)) := by
  refine fnV F scPick (fun ds Q E h => by obtain ⟨p, xs, e, _⟩ := svPick_ex h; rw [e]; rfl) (by decide) (fun cdv A outer s H E hr tk => vs_one (vs_ret (ve_ix (vx_var (pv 1)) (VE.toX (ve_call FT hr tk (by rfl) gT kT bT (va_cons (ve_var (pv 0)) (va_cons (ve_len (by rfl) ml (vxs_cons (vx_var (pv 1)) vxs_nil)) va_nil))))))) ?_
  intro ds Q E hh
  obtain ⟨p, xs, rfl, hp, hne, hl, q⟩ := svPick_ex hh
  have hpos : 0 < xs.length := List.length_pos_iff.mpr hne
  have at_ : ∀ x : Int, 0 ≤ x → x < xs.length → ∃ d, atI xs x = some d ∧ d ∈ xs := fun x x0 x1 => by
    obtain ⟨j, rfl⟩ := Int.eq_ofNat_of_zero_le x0
    have hj : j < xs.length := by omega
    exact ⟨xs[j], atI_nat (List.getElem?_eq_getElem hj), List.getElem_mem hj⟩
  rcases hp with rfl | rfl | ⟨z, rfl, hz, rfl⟩
  · refine ⟨_, .inl rfl, _, rfl, _, .inl rfl, rfl, by omega, by omega, fun x x0 x1 => ?_⟩
    obtain ⟨d, e, m⟩ := at_ x x0 x1
    exact ⟨d, e, q d m⟩
  · refine ⟨_, .inl rfl, _, rfl, _, .inl rfl, rfl, by omega, by omega, fun x x0 x1 => ?_⟩
    obtain ⟨d, e, m⟩ := at_ x x0 x1
    exact ⟨d, e, q d m⟩
  · have el : (signsD z).length = z.length := by unfold signsD; rw [List.length_map, Array.length_toList]; rfl
    refine ⟨_, .inl rfl, _, rfl, _, .inl rfl, hz, rfl, by omega, by omega, fun x x0 x1 => ?_⟩
    obtain ⟨j, rfl⟩ := Int.eq_ofNat_of_zero_le x0
    have hj : j < z.cps.toList.length := by rw [Array.length_toList]; have : (j : Int) < z.cps.size := x1; omega
    refine ⟨hz, z.cps.toList[j], atI_nat (List.getElem?_eq_getElem hj), q _ ?_⟩
    unfold signsD
    exact List.mem_map.mpr ⟨_, List.getElem_mem hj, rfl⟩
end
end LawP
set_option Elab.async false
set_option linter.all false
set_option maxRecDepth 100000
set_option maxHeartbeats 4000000
namespace LawP
open PySem PySem.Spec PyProof.Rows L2 VL
theorem all_mk {l : PySem.W.OpenLaw} {w : World} {K : PySem.W.Frag} {h : Heap} {mg : Str → Option Value} {fa : Addr} (X : K.In h) (G : h.Ns mainGlobals mg) (hfa : mg "law" = some (.ref fa))
    (d16 : DefK K "_law_opened" (topS 16)) (d17 : DefK K "_law_take" (topS 17)) (d18 : DefK K "_law_pick" (topS 18)) (d19 : DefK K "_law_drawn" (topS 19)) (d20 : DefK K "_law_word" (topS 20)) (d24 : DefK K "_law_twisted" (topS 24)) (d22 : DefK K "_law_odd" (topS 22)) (d23 : DefK K "_law_fault" (topS 23)) (d21 : DefK K "_law_played" (topS 21)) (d10 : DefK K "word_error" (topS 10)) (d13 : DefK K "check_word" (topS 13)) (d9 : DefK K "mates" (topS 9)) (d11 : DefK K "queue_with" (topS 11)) (d12 : DefK K "steps_of" (topS 12)) (d14 : DefK K "each_step" (topS 14)) (d26 : DefK K "_law_begun" (topS 26)) (d25 : DefK K "_law_told" (topS 25)) (d27 : DefK K "law" (topS 27))
    {t0 : Tok} (m0 : PySem.W.nsIn K mainGlobals "ARRIVAL" = some (some (.str "a" t0))) {t1 : Tok} (m1 : PySem.W.nsIn K mainGlobals "SERVICE" = some (some (.str "s" t1)))
    (z_range : PySem.W.nsIn K mainGlobals "range" = some none) (z_tuple : PySem.W.nsIn K mainGlobals "tuple" = some none) (z_int : PySem.W.nsIn K mainGlobals "int" = some none) (z_len : PySem.W.nsIn K mainGlobals "len" = some none) (z_isinstance : PySem.W.nsIn K mainGlobals "isinstance" = some none) (z_str : PySem.W.nsIn K mainGlobals "str" = some none) (z_enumerate : PySem.W.nsIn K mainGlobals "enumerate" = some none) (z_list : PySem.W.nsIn K mainGlobals "list" = some none) (z_ValueError : PySem.W.nsIn K mainGlobals "ValueError" = some none) (z_repr : PySem.W.nsIn K mainGlobals "repr" = some none) (z_abs : PySem.W.nsIn K mainGlobals "abs" = some none) (R_BadWord : Rai1 K "BadWord" "BadWord.__init__" "error" s_BadWord) (Q_LineError : TstK K "LineError") (Q_NoHistory : TstK K "NoHistory") (Q_BadText : TstK K "BadText") (Q_BadHistory : TstK K "BadHistory") (Q_BadWord : TstK K "BadWord") (S_BadWord_LineError : SubK K "BadWord" "LineError") (S_BadWord_NoHistory : SubK K "BadWord" "NoHistory") (S_BadWord_BadText : SubK K "BadWord" "BadText") (S_BadWord_BadHistory : SubK K "BadWord" "BadHistory") (S_BadWord_BadWord : SubK K "BadWord" "BadWord") (ST_BadWord : NoStK K "BadWord") :
    ∃ fd : FuncData, (∀ (s : Shared) (v : Value), BindsTo s fd ⟨[v], []⟩ [("_law_script", v)]) ∧ ∀ base : Heap, K.In base → base.Ns mainGlobals mg → FnG l.prog w K mg base 9 fa fd ["_law_script"] (spLaw K) := by
  obtain ⟨f27, oc, kV, doc, pm, cdv, ct, od, an, osl, a, ql, qc, qp⟩ := d27.ex
  have e := hfa.symm.trans (PySem.W.mg_of X G a)
  cases e
  have y_range := PySem.W.mg_none_of X G z_range
  have y_tuple := PySem.W.mg_none_of X G z_tuple
  have y_int := PySem.W.mg_none_of X G z_int
  have y_len := PySem.W.mg_none_of X G z_len
  have y_isinstance := PySem.W.mg_none_of X G z_isinstance
  have y_str := PySem.W.mg_none_of X G z_str
  have y_enumerate := PySem.W.mg_none_of X G z_enumerate
  have y_list := PySem.W.mg_none_of X G z_list
  have y_ValueError := PySem.W.mg_none_of X G z_ValueError
  have y_repr := PySem.W.mg_none_of X G z_repr
  have y_abs := PySem.W.mg_none_of X G z_abs
  have c0 := PySem.W.mg_of X G m0
  have c1 := PySem.W.mg_of X G m1
  obtain ⟨f16, v16, F16, g16, p16, e16⟩ := d16.use X G
  have B16 := F16.binds (ps := ["_law_script"]) fun _ _ _ _ _ _ us hl => match us, hl with | [_], _ => rfl
  obtain ⟨f17, v17, F17, g17, p17, e17⟩ := d17.use X G
  have B17 := F17.binds (ps := ["_law_bag", "_law_many"]) fun _ _ _ _ _ _ us hl => match us, hl with | [_, _], _ => rfl
  obtain ⟨f18, v18, F18, g18, p18, e18⟩ := d18.use X G
  have B18 := F18.binds (ps := ["_law_bag", "_law_items"]) fun _ _ _ _ _ _ us hl => match us, hl with | [_, _], _ => rfl
  obtain ⟨f19, v19, F19, g19, p19, e19⟩ := d19.use X G
  have B19 := F19.binds (ps := ["_law_bag", "_law_most"]) fun _ _ _ _ _ _ us hl => match us, hl with | [_, _], _ => rfl
  obtain ⟨f20, v20, F20, g20, p20, e20⟩ := d20.use X G
  have B20 := F20.binds (ps := ["_law_bag", "_law_many", "_law_way"]) fun _ _ _ _ _ _ us hl => match us, hl with | [_, _, _], _ => rfl
  obtain ⟨f24, v24, F24, g24, p24, e24⟩ := d24.use X G
  have B24 := F24.binds (ps := ["_law_bag", "_law_word_here"]) fun _ _ _ _ _ _ us hl => match us, hl with | [_, _], _ => rfl
  obtain ⟨f22, v22, F22, g22, p22, e22⟩ := d22.use X G
  have B22 := F22.binds (ps := ["_law_bag"]) fun _ _ _ _ _ _ us hl => match us, hl with | [_], _ => rfl
  obtain ⟨f23, v23, F23, g23, p23, e23⟩ := d23.use X G
  have B23 := F23.binds (ps := ["_law_row", "_law_value"]) fun _ _ _ _ _ _ us hl => match us, hl with | [_, _], _ => rfl
  obtain ⟨f21, v21, F21, g21, p21, e21⟩ := d21.use X G
  have B21 := F21.binds (ps := ["_law_row", "_law_word_here"]) fun _ _ _ _ _ _ us hl => match us, hl with | [_, _], _ => rfl
  obtain ⟨f10, v10, F10, g10, p10, e10⟩ := d10.use X G
  have B10 := F10.binds (ps := ["row", "value"]) fun _ _ _ _ _ _ us hl => match us, hl with | [_, _], _ => rfl
  obtain ⟨f13, v13, F13, g13, p13, e13⟩ := d13.use X G
  have B13 := F13.binds (ps := ["row", "value"]) fun _ _ _ _ _ _ us hl => match us, hl with | [_, _], _ => rfl
  obtain ⟨f9, v9, F9, g9, p9, e9⟩ := d9.use X G
  have B9 := F9.binds (ps := ["row"]) fun _ _ _ _ _ _ us hl => match us, hl with | [_], _ => rfl
  obtain ⟨f11, v11, F11, g11, p11, e11⟩ := d11.use X G
  have B11 := F11.binds (ps := ["waiting", "person", "mate"]) fun _ _ _ _ _ _ us hl => match us, hl with | [_, _, _], _ => rfl
  obtain ⟨f12, v12, F12, g12, p12, e12⟩ := d12.use X G
  have B12 := F12.binds (ps := ["row", "word"]) fun _ _ _ _ _ _ us hl => match us, hl with | [_, _], _ => rfl
  obtain ⟨f14, v14, F14, g14, p14, e14⟩ := d14.use X G
  have B14 := F14.binds (ps := ["row", "word"]) fun _ _ _ _ _ _ us hl => match us, hl with | [_, _], _ => rfl
  obtain ⟨f26, v26, F26, g26, p26, e26⟩ := d26.use X G
  have B26 := F26.binds (ps := ["_law_row", "_law_word_here", "_law_bound"]) fun _ _ _ _ _ _ us hl => match us, hl with | [_, _, _], _ => rfl
  obtain ⟨f25, v25, F25, g25, p25, e25⟩ := d25.use X G
  have B25 := F25.binds (ps := ["_law_row", "_law_word_here"]) fun _ _ _ _ _ _ us hl => match us, hl with | [_, _], _ => rfl
  obtain ⟨C_BadWord, R_BadWord⟩ := R_BadWord.ex
  have k_BadWord : (clsOf [("BadWord", C_BadWord)] fa) "BadWord" = C_BadWord := clsOf_hd
  refine ⟨PySem.W.fnOf "law" "law" (defArgs (topS 27)) (defBody (topS 27)) (defScope (topS 27)) .none kV doc pm an cdv ct, fun s v => .of_eq rfl, fun base _ _ => ?_⟩
  have O17 : FnOk l.prog w K mg base (L2.CX l.prog w) 1 f17 v17 ["_law_bag", "_law_many"] spTake := ok_take F17 y_len
  have O16 : FnOk l.prog w K mg base (L2.CX l.prog w) 1 f16 v16 ["_law_script"] (spOpened K) := ok_opened (k := 0) F16 y_abs y_int
  refine lawV (cls := (clsOf [("BadWord", C_BadWord)] fa)) (i := 1) (k := 8) (t := fun r => t_law (S_law_drawn r) (S_law_word r) (svTake r) (S_law_twisted r) (S_law_odd r) S_law_fault S_law_played S_law_told S_law_begun) (fun_mk (st := topS 27) ql qc qp) sc_law rfl O16 g16 p16 B16 (by omega) rfl rfl (by first | exact .inl rfl | exact .inr rfl) rfl rfl (fun r l1 l2 cdv A outer s H E hr hgd tk => ?_) l_law
  have RI_BadWord : RaiI K ((bagB (clsOf [("BadWord", C_BadWord)] fa) r l1 l2).cls "BadWord") "BadWord" "BadWord.__init__" "error" s_BadWord := by
    show RaiI K ((clsOf [("BadWord", C_BadWord)] fa) "BadWord") _ _ _ _
    rw [k_BadWord]; exact R_BadWord
  have RB_BadWord := RI_BadWord.b
  obtain ⟨M_BadWord⟩ := RI_BadWord.mk1 (P := l.prog) (w := w) (base := base) (prm := "error") X G (fun fa fd F => wi_BadWord F) (fun _ _ _ _ _ _ us hl => match us, hl with | [_, _], _ => rfl)
  have EB : ∀ n ∈ (["BadWord"] : List Str), RaiB K ((bagB (clsOf [("BadWord", C_BadWord)] fa) r l1 l2).cls n) n := fun n hn => by
    simp only [List.mem_cons, List.not_mem_nil, or_false] at hn
    rcases hn with rfl
    · exact RB_BadWord
  have EC : ∀ n ∈ (["BadWord"] : List Str), ErrC K ((bagB (clsOf [("BadWord", C_BadWord)] fa) r l1 l2).cls n) := fun n hn => (EB n hn).ec
  have EV := errV EB
  have NST : ∀ n, n ∈ (["BadWord"] : List Str) → NoSt K (bagB (clsOf [("BadWord", C_BadWord)] fa) r l1 l2) n := fun n hn => by
    simp only [List.mem_cons, List.not_mem_nil, or_false] at hn
    rcases hn with rfl
    · exact noSt_of ST_BadWord RB_BadWord
  have T_LineError : ErrT K mg (bagB (clsOf [("BadWord", C_BadWord)] fa) r l1 l2) ["BadWord"] "LineError" := errT X G Q_LineError (fun n hn => by
    simp only [List.mem_cons, List.not_mem_nil, or_false] at hn
    rcases hn with rfl
    · exact ⟨S_BadWord_LineError, RB_BadWord⟩)
  have T_NoHistory : ErrT K mg (bagB (clsOf [("BadWord", C_BadWord)] fa) r l1 l2) ["BadWord"] "NoHistory" := errT X G Q_NoHistory (fun n hn => by
    simp only [List.mem_cons, List.not_mem_nil, or_false] at hn
    rcases hn with rfl
    · exact ⟨S_BadWord_NoHistory, RB_BadWord⟩)
  have T_BadText : ErrT K mg (bagB (clsOf [("BadWord", C_BadWord)] fa) r l1 l2) ["BadWord"] "BadText" := errT X G Q_BadText (fun n hn => by
    simp only [List.mem_cons, List.not_mem_nil, or_false] at hn
    rcases hn with rfl
    · exact ⟨S_BadWord_BadText, RB_BadWord⟩)
  have T_BadHistory : ErrT K mg (bagB (clsOf [("BadWord", C_BadWord)] fa) r l1 l2) ["BadWord"] "BadHistory" := errT X G Q_BadHistory (fun n hn => by
    simp only [List.mem_cons, List.not_mem_nil, or_false] at hn
    rcases hn with rfl
    · exact ⟨S_BadWord_BadHistory, RB_BadWord⟩)
  have T_BadWord : ErrT K mg (bagB (clsOf [("BadWord", C_BadWord)] fa) r l1 l2) ["BadWord"] "BadWord" := errT X G Q_BadWord (fun n hn => by
    simp only [List.mem_cons, List.not_mem_nil, or_false] at hn
    rcases hn with rfl
    · exact ⟨S_BadWord_BadWord, RB_BadWord⟩)
  have FE_error : ∀ n ∈ (["BadWord"] : List Str), FldC K ((bagB (clsOf [("BadWord", C_BadWord)] fa) r l1 l2).cls n) "error" := fun n hn => by
    simp only [List.mem_cons, List.not_mem_nil, or_false] at hn
    rcases hn with rfl
    · exact RI_BadWord.fld
  have T17 := take_v (cls := (clsOf [("BadWord", C_BadWord)] fa)) (r := r) (l1 := l1) (l2 := l2) O17
  have C17 : Cal l.prog w K mg base (bagB (clsOf [("BadWord", C_BadWord)] fa) r l1 l2) 1 "_law_take" ["_law_bag", "_law_many"] (svTake r) := ⟨f17, v17, T17, g17, p17, B17⟩
  have C18 : Cal l.prog w K mg base (bagB (clsOf [("BadWord", C_BadWord)] fa) r l1 l2) 2 "_law_pick" ["_law_bag", "_law_items"] (svPick r) := ⟨f18, v18, ok_pick F18 T17 g17 p17 B17 y_len, g18, p18, B18⟩
  have C19 : Cal l.prog w K mg base (bagB (clsOf [("BadWord", C_BadWord)] fa) r l1 l2) 3 "_law_drawn" ["_law_bag", "_law_most"] (S_law_drawn r) := ⟨f19, v19, w_law_drawn F19 C17 C18 y_range y_tuple (fun ds Q E h => by first | (simp only [S_law_drawn] at h; split at h <;> first | rfl | exact h.elim) | (obtain ⟨rfl, _⟩ := h; rfl) | (obtain ⟨_, rfl, _⟩ := h; rfl) | (obtain ⟨_, _, rfl, _⟩ := h; rfl) | (obtain ⟨_, _, _, rfl, _⟩ := h; rfl) | (obtain ⟨_, _, _, _, rfl, _⟩ := h; rfl) | (obtain ⟨_, _, _, _, _, rfl, _⟩ := h; rfl) | (obtain ⟨_, _, _, _, _, _, rfl, _⟩ := h; rfl)) (l_law_drawn r), g19, p19, B19⟩
  have C20 : Cal l.prog w K mg base (bagB (clsOf [("BadWord", C_BadWord)] fa) r l1 l2) 2 "_law_word" ["_law_bag", "_law_many", "_law_way"] (S_law_word r) := ⟨f20, v20, w_law_word F20 C17 y_int (fun ds Q E h => by first | (simp only [S_law_word] at h; split at h <;> first | rfl | exact h.elim) | (obtain ⟨rfl, _⟩ := h; rfl) | (obtain ⟨_, rfl, _⟩ := h; rfl) | (obtain ⟨_, _, rfl, _⟩ := h; rfl) | (obtain ⟨_, _, _, rfl, _⟩ := h; rfl) | (obtain ⟨_, _, _, _, rfl, _⟩ := h; rfl) | (obtain ⟨_, _, _, _, _, rfl, _⟩ := h; rfl) | (obtain ⟨_, _, _, _, _, _, rfl, _⟩ := h; rfl)) (l_law_word r), g20, p20, B20⟩
  have C24 : Cal l.prog w K mg base (bagB (clsOf [("BadWord", C_BadWord)] fa) r l1 l2) 3 "_law_twisted" ["_law_bag", "_law_word_here"] (S_law_twisted r) := ⟨f24, v24, w_law_twisted F24 C17 C18 y_len (fun ds Q E h => by first | (simp only [S_law_twisted] at h; split at h <;> first | rfl | exact h.elim) | (obtain ⟨rfl, _⟩ := h; rfl) | (obtain ⟨_, rfl, _⟩ := h; rfl) | (obtain ⟨_, _, rfl, _⟩ := h; rfl) | (obtain ⟨_, _, _, rfl, _⟩ := h; rfl) | (obtain ⟨_, _, _, _, rfl, _⟩ := h; rfl) | (obtain ⟨_, _, _, _, _, rfl, _⟩ := h; rfl) | (obtain ⟨_, _, _, _, _, _, rfl, _⟩ := h; rfl)) (l_law_twisted r), g24, p24, B24⟩
  have C22 : Cal l.prog w K mg base (bagB (clsOf [("BadWord", C_BadWord)] fa) r l1 l2) 3 "_law_odd" ["_law_bag"] (S_law_odd r) := ⟨f22, v22, w_law_odd F22 C18 (fun ds Q E h => by first | (simp only [S_law_odd] at h; split at h <;> first | rfl | exact h.elim) | (obtain ⟨rfl, _⟩ := h; rfl) | (obtain ⟨_, rfl, _⟩ := h; rfl) | (obtain ⟨_, _, rfl, _⟩ := h; rfl) | (obtain ⟨_, _, _, rfl, _⟩ := h; rfl) | (obtain ⟨_, _, _, _, rfl, _⟩ := h; rfl) | (obtain ⟨_, _, _, _, _, rfl, _⟩ := h; rfl) | (obtain ⟨_, _, _, _, _, _, rfl, _⟩ := h; rfl)) (l_law_odd r), g22, p22, B22⟩
  have C23 : Cal l.prog w K mg base (bagB (clsOf [("BadWord", C_BadWord)] fa) r l1 l2) 1 "_law_fault" ["_law_row", "_law_value"] S_law_fault := ⟨f23, v23, w_law_fault F23 y_isinstance y_str y_range y_len (fun ds Q E h => by first | (simp only [S_law_fault] at h; split at h <;> first | rfl | exact h.elim) | (obtain ⟨rfl, _⟩ := h; rfl) | (obtain ⟨_, rfl, _⟩ := h; rfl) | (obtain ⟨_, _, rfl, _⟩ := h; rfl) | (obtain ⟨_, _, _, rfl, _⟩ := h; rfl) | (obtain ⟨_, _, _, _, rfl, _⟩ := h; rfl) | (obtain ⟨_, _, _, _, _, rfl, _⟩ := h; rfl) | (obtain ⟨_, _, _, _, _, _, rfl, _⟩ := h; rfl)) l_law_fault, g23, p23, B23⟩
  have C21 : Cal l.prog w K mg base (bagB (clsOf [("BadWord", C_BadWord)] fa) r l1 l2) 1 "_law_played" ["_law_row", "_law_word_here"] S_law_played := ⟨f21, v21, w_law_played F21 y_len y_tuple (fun ds Q E h => by first | (simp only [S_law_played] at h; split at h <;> first | rfl | exact h.elim) | (obtain ⟨rfl, _⟩ := h; rfl) | (obtain ⟨_, rfl, _⟩ := h; rfl) | (obtain ⟨_, _, rfl, _⟩ := h; rfl) | (obtain ⟨_, _, _, rfl, _⟩ := h; rfl) | (obtain ⟨_, _, _, _, rfl, _⟩ := h; rfl) | (obtain ⟨_, _, _, _, _, rfl, _⟩ := h; rfl) | (obtain ⟨_, _, _, _, _, _, rfl, _⟩ := h; rfl)) l_law_played, g21, p21, B21⟩
  have C10 : Cal l.prog w K mg base (bagB (clsOf [("BadWord", C_BadWord)] fa) r l1 l2) 1 "word_error" ["row", "value"] S_word_error := ⟨f10, v10, w_word_error F10 ⟨_, c0⟩ ⟨_, c1⟩ y_isinstance y_str y_enumerate y_len (fun ds Q E h => by first | (simp only [S_word_error] at h; split at h <;> first | rfl | exact h.elim) | (obtain ⟨rfl, _⟩ := h; rfl) | (obtain ⟨_, rfl, _⟩ := h; rfl) | (obtain ⟨_, _, rfl, _⟩ := h; rfl) | (obtain ⟨_, _, _, rfl, _⟩ := h; rfl) | (obtain ⟨_, _, _, _, rfl, _⟩ := h; rfl) | (obtain ⟨_, _, _, _, _, rfl, _⟩ := h; rfl) | (obtain ⟨_, _, _, _, _, _, rfl, _⟩ := h; rfl)) l_word_error, g10, p10, B10⟩
  have C13 : Cal l.prog w K mg base (bagB (clsOf [("BadWord", C_BadWord)] fa) r l1 l2) 3 "check_word" ["row", "value"] S_check_word := ⟨f13, v13, w_check_word F13 C10 M_BadWord (fun ds Q E h => by first | (simp only [S_check_word] at h; split at h <;> first | rfl | exact h.elim) | (obtain ⟨rfl, _⟩ := h; rfl) | (obtain ⟨_, rfl, _⟩ := h; rfl) | (obtain ⟨_, _, rfl, _⟩ := h; rfl) | (obtain ⟨_, _, _, rfl, _⟩ := h; rfl) | (obtain ⟨_, _, _, _, rfl, _⟩ := h; rfl) | (obtain ⟨_, _, _, _, _, rfl, _⟩ := h; rfl) | (obtain ⟨_, _, _, _, _, _, rfl, _⟩ := h; rfl)) l_check_word, g13, p13, B13⟩
  have C9 : Cal l.prog w K mg base (bagB (clsOf [("BadWord", C_BadWord)] fa) r l1 l2) 1 "mates" ["row"] S_mates := ⟨f9, v9, w_mates F9 y_enumerate y_tuple (fun ds Q E h => by first | (simp only [S_mates] at h; split at h <;> first | rfl | exact h.elim) | (obtain ⟨rfl, _⟩ := h; rfl) | (obtain ⟨_, rfl, _⟩ := h; rfl) | (obtain ⟨_, _, rfl, _⟩ := h; rfl) | (obtain ⟨_, _, _, rfl, _⟩ := h; rfl) | (obtain ⟨_, _, _, _, rfl, _⟩ := h; rfl) | (obtain ⟨_, _, _, _, _, rfl, _⟩ := h; rfl) | (obtain ⟨_, _, _, _, _, _, rfl, _⟩ := h; rfl)) l_mates, g9, p9, B9⟩
  have C11 : Cal l.prog w K mg base (bagB (clsOf [("BadWord", C_BadWord)] fa) r l1 l2) 1 "queue_with" ["waiting", "person", "mate"] S_queue_with := ⟨f11, v11, w_queue_with F11 y_len (fun ds Q E h => by first | (simp only [S_queue_with] at h; split at h <;> first | rfl | exact h.elim) | (obtain ⟨rfl, _⟩ := h; rfl) | (obtain ⟨_, rfl, _⟩ := h; rfl) | (obtain ⟨_, _, rfl, _⟩ := h; rfl) | (obtain ⟨_, _, _, rfl, _⟩ := h; rfl) | (obtain ⟨_, _, _, _, rfl, _⟩ := h; rfl) | (obtain ⟨_, _, _, _, _, rfl, _⟩ := h; rfl) | (obtain ⟨_, _, _, _, _, _, rfl, _⟩ := h; rfl)) l_queue_with, g11, p11, B11⟩
  have C12 : Cal l.prog w K mg base (bagB (clsOf [("BadWord", C_BadWord)] fa) r l1 l2) 2 "steps_of" ["row", "word"] S_steps_of := ⟨f12, v12, w_steps_of F12 C9 C11 ⟨_, c0⟩ (fun ds Q E h => by first | (simp only [S_steps_of] at h; split at h <;> first | rfl | exact h.elim) | (obtain ⟨rfl, _⟩ := h; rfl) | (obtain ⟨_, rfl, _⟩ := h; rfl) | (obtain ⟨_, _, rfl, _⟩ := h; rfl) | (obtain ⟨_, _, _, rfl, _⟩ := h; rfl) | (obtain ⟨_, _, _, _, rfl, _⟩ := h; rfl) | (obtain ⟨_, _, _, _, _, rfl, _⟩ := h; rfl) | (obtain ⟨_, _, _, _, _, _, rfl, _⟩ := h; rfl)) l_steps_of, g12, p12, B12⟩
  have C14 : CalZ l.prog w K mg base (bagB (clsOf [("BadWord", C_BadWord)] fa) r l1 l2) 4 "each_step" ["row", "word"] S_each_step := ⟨f14, v14, w_each_step F14 C13 C12 (fun ds Y Q E h => by first | (simp only [S_each_step] at h; split at h <;> first | rfl | exact h.elim) | (obtain ⟨rfl, _⟩ := h; rfl) | (obtain ⟨_, rfl, _⟩ := h; rfl) | (obtain ⟨_, _, rfl, _⟩ := h; rfl) | (obtain ⟨_, _, _, rfl, _⟩ := h; rfl) | (obtain ⟨_, _, _, _, rfl, _⟩ := h; rfl) | (obtain ⟨_, _, _, _, _, rfl, _⟩ := h; rfl)) l_each_step, g14, p14, B14⟩
  have C26 : Cal l.prog w K mg base (bagB (clsOf [("BadWord", C_BadWord)] fa) r l1 l2) 8 "_law_begun" ["_law_row", "_law_word_here", "_law_bound"] S_law_begun := ⟨f26, v26, w_law_begun F26 C14 y_len y_list NST (fun ds Q E h => by first | (simp only [S_law_begun] at h; split at h <;> first | rfl | exact h.elim) | (obtain ⟨rfl, _⟩ := h; rfl) | (obtain ⟨_, rfl, _⟩ := h; rfl) | (obtain ⟨_, _, rfl, _⟩ := h; rfl) | (obtain ⟨_, _, _, rfl, _⟩ := h; rfl) | (obtain ⟨_, _, _, _, rfl, _⟩ := h; rfl) | (obtain ⟨_, _, _, _, _, rfl, _⟩ := h; rfl) | (obtain ⟨_, _, _, _, _, _, rfl, _⟩ := h; rfl)) l_law_begun, g26, p26, B26⟩
  have C25 : Cal l.prog w K mg base (bagB (clsOf [("BadWord", C_BadWord)] fa) r l1 l2) 6 "_law_told" ["_law_row", "_law_word_here"] S_law_told := ⟨f25, v25, w_law_told F25 C14 y_isinstance y_ValueError T_LineError NST T_NoHistory T_BadText T_BadHistory EC EV T_BadWord FE_error (fun ds Q E h => by first | (simp only [S_law_told] at h; split at h <;> first | rfl | exact h.elim) | (obtain ⟨rfl, _⟩ := h; rfl) | (obtain ⟨_, rfl, _⟩ := h; rfl) | (obtain ⟨_, _, rfl, _⟩ := h; rfl) | (obtain ⟨_, _, _, rfl, _⟩ := h; rfl) | (obtain ⟨_, _, _, _, rfl, _⟩ := h; rfl) | (obtain ⟨_, _, _, _, _, rfl, _⟩ := h; rfl) | (obtain ⟨_, _, _, _, _, _, rfl, _⟩ := h; rfl)) l_law_told, g25, p25, B25⟩
  exact w_law C19 C20 C17 C24 C22 C23 C21 C25 C26 y_range y_len y_repr cdv A outer s H E hr hgd tk
end LawP
set_option linter.all false
set_option maxRecDepth 100000
set_option maxHeartbeats 0
open PySem PySem.W PyProof.Rows in
theorem PySem.Challenge.cw_matesline_k08_steps_walked_holds : PySem.Challenge.rw_matesline_k08_steps_walked.Holds := by
  w_on; o_law; k_head; (case hw => w_witness2)
  k_fill
  refine VL.walkG (l := PySem.Challenge.rw_matesline_k08_steps_walked) (n := 63) (k := 9) (x := "_law_script") (sp := fun w => VL.spLaw _) rfl (by decide) rfl ⟨rfl, by decide, by decide⟩ (fun w h Y => PySem.W.kIn_of Y) ?F (fun _ _ a ns hl _ hS => ⟨a, ns, rfl, hS, hl, fun _ => rfl⟩)
  case F =>
    intro w mg fa h KX G hmg
    refine' LawP.all_mk KX G hmg ?d16 ?d17 ?d18 ?d19 ?d20 ?d24 ?d22 ?d23 ?d21 ?d10 ?d13 ?d9 ?d11 ?d12 ?d14 ?d26 ?d25 ?d27 ?m0 ?m1 ?z0 ?z1 ?z2 ?z3 ?z4 ?z5 ?z6 ?z7 ?z8 ?z9 ?z10 ?r0 ?q0 ?q1 ?q2 ?q3 ?q4 ?s0 ?s1 ?s2 ?s3 ?s4 ?st0
    (case d16 => refine' VL.defK ?a ?l ?c ?k; (case a => k_is); (case l => k_is); (case c => k_is); (case k => k_is))
    (case d17 => refine' VL.defK ?a ?l ?c ?k; (case a => k_is); (case l => k_is); (case c => k_is); (case k => k_is))
    (case d18 => refine' VL.defK ?a ?l ?c ?k; (case a => k_is); (case l => k_is); (case c => k_is); (case k => k_is))
    (case d19 => refine' VL.defK ?a ?l ?c ?k; (case a => k_is); (case l => k_is); (case c => k_is); (case k => k_is))
    (case d20 => refine' VL.defK ?a ?l ?c ?k; (case a => k_is); (case l => k_is); (case c => k_is); (case k => k_is))
    (case d24 => refine' VL.defK ?a ?l ?c ?k; (case a => k_is); (case l => k_is); (case c => k_is); (case k => k_is))
    (case d22 => refine' VL.defK ?a ?l ?c ?k; (case a => k_is); (case l => k_is); (case c => k_is); (case k => k_is))
    (case d23 => refine' VL.defK ?a ?l ?c ?k; (case a => k_is); (case l => k_is); (case c => k_is); (case k => k_is))
    (case d21 => refine' VL.defK ?a ?l ?c ?k; (case a => k_is); (case l => k_is); (case c => k_is); (case k => k_is))
    (case d10 => refine' VL.defK ?a ?l ?c ?k; (case a => k_is); (case l => k_is); (case c => k_is); (case k => k_is))
    (case d13 => refine' VL.defK ?a ?l ?c ?k; (case a => k_is); (case l => k_is); (case c => k_is); (case k => k_is))
    (case d9 => refine' VL.defK ?a ?l ?c ?k; (case a => k_is); (case l => k_is); (case c => k_is); (case k => k_is))
    (case d11 => refine' VL.defK ?a ?l ?c ?k; (case a => k_is); (case l => k_is); (case c => k_is); (case k => k_is))
    (case d12 => refine' VL.defK ?a ?l ?c ?k; (case a => k_is); (case l => k_is); (case c => k_is); (case k => k_is))
    (case d14 => refine' VL.defK ?a ?l ?c ?k; (case a => k_is); (case l => k_is); (case c => k_is); (case k => k_is))
    (case d26 => refine' VL.defK ?a ?l ?c ?k; (case a => k_is); (case l => k_is); (case c => k_is); (case k => k_is))
    (case d25 => refine' VL.defK ?a ?l ?c ?k; (case a => k_is); (case l => k_is); (case c => k_is); (case k => k_is))
    (case d27 => refine' VL.defK ?a ?l ?c ?k; (case a => k_is); (case l => k_is); (case c => k_is); (case k => k_is))
    (case m0 => k_is)
    (case m1 => k_is)
    (case z0 => k_is)
    (case z1 => k_is)
    (case z2 => k_is)
    (case z3 => k_is)
    (case z4 => k_is)
    (case z5 => k_is)
    (case z6 => k_is)
    (case z7 => k_is)
    (case z8 => k_is)
    (case z9 => k_is)
    (case z10 => k_is)
    (case r0 => refine' VL.rai1 (VL.raiB ?a1 ?a2 ?a3 ?a4 ?a5 ?b1 ?b2 ?b3 ?b4 ?b5 ?b6 ?b7 ?b8) ?c1 ?c2 ?c3 ?c4 ?d1 ?d2 ?d3 ?d4 ?d5; (case a1 => k_is); (case a2 => k_is); (case a3 => k_is); (case a4 => k_is); (case a5 => k_is); (case b1 => k_is); (case b2 => k_is); (case b3 => k_is); (case b4 => k_is); (case b5 => k_is); (case b6 => k_is); (case b7 => k_is); (case b8 => k_is); (case c1 => k_is); (case c2 => decide +kernel); (case c3 => k_is); (case c4 => k_is); (case d1 => k_is); (case d2 => k_is); (case d3 => k_is); (case d4 => k_is); (case d5 => k_is))
    (case q0 => refine' VL.tstK ?a1 ?a2 ?a3 ?a4; (case a1 => k_is); (case a2 => k_is); (case a3 => k_is); (case a4 => k_is))
    (case q1 => refine' VL.tstK ?a1 ?a2 ?a3 ?a4; (case a1 => k_is); (case a2 => k_is); (case a3 => k_is); (case a4 => k_is))
    (case q2 => refine' VL.tstK ?a1 ?a2 ?a3 ?a4; (case a1 => k_is); (case a2 => k_is); (case a3 => k_is); (case a4 => k_is))
    (case q3 => refine' VL.tstK ?a1 ?a2 ?a3 ?a4; (case a1 => k_is); (case a2 => k_is); (case a3 => k_is); (case a4 => k_is))
    (case q4 => refine' VL.tstK ?a1 ?a2 ?a3 ?a4; (case a1 => k_is); (case a2 => k_is); (case a3 => k_is); (case a4 => k_is))
    (case st0 => refine' VL.noStK ?a1 ?a2; (case a1 => k_is); (case a2 => k_is))
    (case s0 => refine' VL.subK ?a1 ?a2 ?a3 ?a4; (case a1 => k_is); (case a2 => k_is); (case a3 => k_is); (case a4 => decide +kernel))
    (case s1 => refine' VL.subK ?a1 ?a2 ?a3 ?a4; (case a1 => k_is); (case a2 => k_is); (case a3 => k_is); (case a4 => decide +kernel))
    (case s2 => refine' VL.subK ?a1 ?a2 ?a3 ?a4; (case a1 => k_is); (case a2 => k_is); (case a3 => k_is); (case a4 => decide +kernel))
    (case s3 => refine' VL.subK ?a1 ?a2 ?a3 ?a4; (case a1 => k_is); (case a2 => k_is); (case a3 => k_is); (case a4 => decide +kernel))
    (case s4 => refine' VL.subK ?a1 ?a2 ?a3 ?a4; (case a1 => k_is); (case a2 => k_is); (case a3 => k_is); (case a4 => decide +kernel))
