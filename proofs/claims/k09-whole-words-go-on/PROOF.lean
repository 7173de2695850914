import PyProof.Rows.All
import PySem.Challenge.RW_matesline_k09_whole_words_go_on
import HandS.ForMost
import HandS.ForExc
import HandS.TupAny
import HandS.TupMul
import HandS.More
import HandS.Style
import HandS.IsInst
import HandS.Deep
import KE.DataEq
import HandS.RaiseMore
import KE.KIndexOf
import PyProof.SeqIndex
import PyProof.EqAt
import HandS.Iter
import HandS.Zip
import HandS.Rev
import KE.GoesMore
import KE.GoesEnum
import HandS.Comp
import HandS.WordsExc
import HandS.ExcOwn
import PyProof.ReprReads
import PyProof.ReprRoads
import HandS.Ends
import HandS.Dict
import KE.KRevSl
import HandS.AnyAll
import HandS.Text
import PyProof.ReprLen
import PyProof.Rows.ReprOcc
import HandS.StrMore
import HandS.Strs
import HandS.SetFor
import HandS.Steps
import HandS.ExcInit
import HandS.ExcField
import HandS.ExcIs
import HandS.Small
import KE.KIsAll
import HandS.Star
import HandS.SortInts
import HandS.TupSets
import HandS.Conv
import HandS.SortRule
import PyProof.ListStr
import HandS.Flow
import HandS.Lambda
import HandS.EndTab
import KE.KNest
import HandS.EndOwn
import HandS.HotCalls
import HandS.Defaults
import HandS.CallSlots
import HandS.Replace
import KE.DataMinMax
import HandS.NoneIn
import PyProof.EqKinds
import KE.KEqDict
import PyProof.Rows.SortShellAny
import KE.KDictZip
import KE.KItemsList
import HandS.ListItems
import KE.KDictList
import HandS.Keys
import Flt.Ops
import PyProof.FString5
import HandS.SetTxt0
import KE.SortKeyed
import KE.SortData
import HandS.GenList
import HandS.GenOver
set_option Elab.async false
set_option linter.all false
set_option maxRecDepth 100000
set_option maxHeartbeats 4000000
namespace VL
open PySem PySem.Spec PyProof.Rows L2
/-! ## tuples whose very object is known (so that it has no dict of its own) -/
abbrev tob (its : List Value) : Obj := { cls := .type "tuple", data := .seq its.toArray }
/-- a held tuple -/
abbrev HO.th (o : Obj) (xs : List V) : HO := .frz o (.tup xs)
theorem th_ok {P : Program} {w : World} {H : Hp} {h : Heap} {a : Addr} {xs : List V} {its : List Value} (hz : xs.length ≤ sizeLine) (r : Vals xs its) (e : h.get? a = some (tob its)) : ObjOk P w H h a (HO.th (tob its) xs) :=
  ⟨e, hz, its, r, ⟨_, e, rfl, _, rfl⟩⟩
theorem SqT.th {K : PySem.W.Frag} {H : Hp} {a : Addr} {o : Obj} {xs : List V} (h : H a = some (HO.th o xs)) : SqT K H a xs := .inl (.inr ⟨o, h⟩)
/-- what is wanted of a new tuple -/
abbrev NewT (H : Hp) (xs : List V) (Q : VK) : Prop := ∀ (p : Addr) (o : Obj), H p = none → o.dict = none → Q (.ref p) (upd H p (HO.th o xs))
section
variable {X : Cx} {e : Expr} {es : List Expr} {te : TE} {t : TA} {pos : Pos} {pins : List (Addr × Obj)} {σ : L2.St} {H : Hp} {s : Shared} {Q : VK}
theorem new_th {xs : List V} {its : List Value} {tk : Nat} (I : Inv X pins σ H s) (hz : xs.length ≤ sizeLine) (r : Vals xs its) (q : NewT H xs Q) : EP X pins σ Q (.ref s.heap.objs.size) { s with heap := s.heap.push (tob its), toks := tk } :=
  ⟨.ref s.heap.objs.size, upd H s.heap.objs.size (HO.th (tob its) xs), I.laid (t' := tk) (fun _ _ e => Heap.get?_push_of_some _ e) (Nat.le_refl _) (th_ok hz r (Heap.get?_push_size _ rfl)), rfl, q _ _ (I.hok.fresh (Nat.le_refl _)) rfl⟩
def tTupF (t : TA) : TE := fun σ H Q => t σ H fun xs H1 => xs.length ≤ sizeLine ∧ NewT H1 xs Q
theorem pe_tupF {x1} (h : PA X es t) : PE X (.Tuple es x1 pos) (tTupF t) := by
  refine ⟨fun pins s σ H Q I hq => wpAny_Tuple_spliced (thn (h.run pos pins s σ H _ I hq) ?_)⟩
  rintro us s1 ⟨xs, H1, I1, r, z, q⟩
  exact ⟨Nat.le_trans (Nat.le_of_eq r.length.symm) z, new_th (tk := s1.toks) I1 z r q⟩
def rCatF (K : PySem.W.Frag) : R2 := fun x y H Q => ∃ a c xs ys, x = .ref a ∧ y = .ref c ∧ SqT K H a xs ∧ SqT K H c ys ∧ xs.length + ys.length ≤ sizeLine ∧
  (xs = [] → Q (.ref c) H) ∧ (xs ≠ [] → ys = [] → Q (.ref a) H) ∧ (xs ≠ [] → ys ≠ [] → NewT H (xs ++ ys) Q)
theorem op_catF : OpR X (binaryOp .Add) (rCatF X.K) := by
  intro pins s σ H x y v u Q I rx ry ⟨a, c, xs, ys, ex, ey, ha, hc, hz, q0, q1, q2⟩
  subst ex ey
  obtain rfl : v = .ref a := rx
  obtain rfl : u = .ref c := ry
  obtain ⟨i1, r1, p1, _⟩ := I.tuple ha
  obtain ⟨i2, r2, p2, _⟩ := I.tuple hc
  cases xs with
  | nil =>
    cases r1
    exact cat_tup0 p1 p2 ⟨.ref c, H, I, rfl, q0 rfl⟩
  | cons x0 xr =>
    have hx : x0 :: xr ≠ [] := by simp
    refine HT.cat_tup p1 p2 (fun z => hx (r1.nil_iff.mp z)) (fun z => ⟨.ref a, H, I, rfl, q1 hx (r2.nil_iff.mp z)⟩) (fun z => ?_) (by have h1 := r1.length; have h2 := r2.length; omega)
    exact new_th (tk := s.toks) I (by rw [List.length_append]; exact hz) (r1.append r2) (q2 hx fun w => z (r2.nil_iff.mpr w))
def rSlF (K : PySem.W.Frag) : V → Option Int → Option Int → Hp → VK → Prop := fun x lo hi H Q => ∃ a xs, x = .ref a ∧ SqT K H a xs ∧
  (HT.sIx xs.length 0 lo = 0 ∧ HT.sIx xs.length xs.length hi = xs.length → Q (.ref a) H) ∧ (¬ (HT.sIx xs.length 0 lo = 0 ∧ HT.sIx xs.length xs.length hi = xs.length) → NewT H (cutV xs lo hi) Q)
theorem sl_tupF : SlR X (rSlF X.K) := by
  intro pins s σ H x v vl vu lo hi sl Q I rx hs pl pu ⟨a, xs, ex, hx, q1, q2⟩
  subst ex
  obtain rfl : v = .ref a := rx
  obtain ⟨its, r, ht, hz⟩ := I.tuple hx
  have hn : its.toArray.size = xs.length := by rw [List.size_toArray, r.length]
  refine ⟨"tuple", _, PyProof.Rows.slot_tuple_getitem.lookup, ht.typeIs, ?_⟩
  by_cases hw : HT.sIx xs.length 0 lo = 0 ∧ HT.sIx xs.length xs.length hi = xs.length
  · exact getItem_tuple_whole ht hs pl pu (by rw [hn]; exact hw) ⟨.ref a, H, I, rfl, q1 hw⟩
  · refine HT.getItem_tuple_cut ht hs pl pu (by rw [hn]; exact hw) ?_ (by rw [hn]; exact hz)
    rw [hn]
    exact new_th (tk := s.toks) I (Nat.le_trans (cutV_length xs lo hi) hz) ((r.drop _).take _) (q2 hw)
def rTupOf (K : PySem.W.Frag) : List V → Hp → VK → Prop := fun xs H Q => ∃ p ys, xs = [.ref p] ∧ ((SqL K H p ys ∧ NewT H ys Q) ∨ (SqT K H p ys ∧ Q (.ref p) H))
theorem call_tupF : CallR X (.type "tuple") (rTupOf X.K) := by
  intro pins s σ H xs us Q I r ⟨p, ys, ex, h⟩
  subst ex
  obtain ⟨u, rfl, ru⟩ := vals1 r
  obtain rfl : u = .ref p := ru
  rcases h with ⟨hq, q⟩ | ⟨hq, q⟩
  · obtain ⟨its, r', pl, hz⟩ := I.list hq
    refine call_tuple_list pl.isList (fun h' kp => ?_) (by rw [List.size_toArray, ← r'.length]; exact hz)
    exact new_th (s := { s with heap := h' }) (tk := s.toks) (I.kept (t' := s.toks) kp) hz r' q
  · obtain ⟨its, r', pl, hz⟩ := I.tuple hq
    exact call_tuple_same pl ⟨.ref p, H, I, rfl, q⟩
def rRepF (K : PySem.W.Frag) : R2 := fun x y H Q => ∃ l k xs, x = .ref l ∧ y = .int k ∧ SqT K H l xs ∧ xs ≠ [] ∧ 2 ≤ k ∧ k ≤ 1000 ∧ xs.length ≤ 1000 ∧ NewT H (List.replicate k.toNat xs).flatten Q
theorem op_repF : OpR X (binaryOp .Mult) (rRepF X.K) := by
  intro pins s σ H x y v u Q I rx ry ⟨l, k, xs, ex, ey, hT, hne, h2, h3, hz, q⟩
  subst ex ey
  obtain rfl : v = .ref l := rx
  obtain ⟨t, rfl⟩ := ry
  obtain ⟨its, r, ⟨o, ho, hc, n, hd⟩, hs⟩ := I.tuple hT
  obtain ⟨oc, dd, dt, slt⟩ := o
  obtain rfl : oc = .type "tuple" := hc
  obtain rfl : dt = .seq its.toArray n := hd
  have hle : its.length = xs.length := r.length.symm
  have hi : its.toArray.isEmpty = false := by
    cases xs with
    | nil => exact absurd rfl hne
    | cons _ _ => cases r; rfl
  have hsz : its.toArray.size = xs.length := by rw [List.size_toArray, hle]
  have hm : ((its.toArray.size : Nat) : Int) * k ≤ 1000000 := by
    rw [hsz]
    exact Int.le_trans (Int.mul_le_mul_of_nonneg_right (show ((xs.length : Nat) : Int) ≤ 1000 by omega) (by omega)) (by omega)
  have fl : (List.replicate k.toNat xs).flatten.length ≤ sizeLine := by
    rw [PyProof.Rows.lm_len_rep_flat, sizeLine_eq]
    exact Nat.le_trans (Nat.mul_le_mul (show k.toNat ≤ 1000 by omega) hz) (by decide)
  have fl2 : (List.replicate k.toNat its).flatten.length ≤ sizeLine := by
    rw [PyProof.Rows.lm_len_rep_flat, hle, ← PyProof.Rows.lm_len_rep_flat]
    exact fl
  have c1 : (its.toArray.isEmpty || k == 1) = false := by simp only [hi, Bool.false_or]; exact beq_eq_false_iff_ne.mpr (by omega)
  have c2 : (decide (k ≤ 0) || its.toArray.isEmpty) = false := by simp only [hi, Bool.or_false]; exact decide_eq_false (by omega)
  have c4 : Builtin.Tuple.tupleTooMany (((its.toArray.size : Nat) : Int) * k) = false := by
    unfold Builtin.Tuple.tupleTooMany
    simp only [sizeLine_eq]
    exact decide_eq_false (by omega)
  have road := tuple_mulW l its.toArray n dd slt k t (by simp; omega) c1 c2 (by omega) c4 (by rw [size_rep, List.size_toArray]; exact fl2)
  refine wpAny_binaryOp_repeat_ref (U := "int") (T := "tuple") (by decide) ⟨_, ho, rfl⟩ (typeIs_int · k t) noFill_tuple_mul F.fills_int_mul F.slot_int_rmul repeat_tuple F.slot_int_index.lookup ?_
  refine call_meets F.slot_int_rmul (typeIs_int s k t) F.entry_int_rmul (F.args_int_rmul_2 _ _) (int_rmul_tuple k t l its.toArray n dd slt) ⟨ho, rfl, ⟨_, ho, rfl⟩, ?_⟩
  refine call_meets F.slot_tuple_mul ⟨_, ho, rfl⟩ F.entry_tuple_mul (F.args_tuple_mul_2 _ _) road ⟨ho, ?_⟩
  rw [size_rep]
  exact new_th (tk := s.toks) I fl (r.rep k.toNat) q
end
end VL
set_option Elab.async false
set_option linter.all false
set_option maxRecDepth 100000
set_option maxHeartbeats 4000000
namespace VL
open PySem PySem.Spec PyProof.Rows L2
/-- things that no rule here writes -/
def still : HO → Prop
  | .ext _ => True
  | .frz _ (.lst _) => True
  | _ => False
/-- any other thing, by what is true of it at its address -/
structure Abs where
  R : (Addr → Prop) → Hp → Addr → Prop
  at_ : ∀ {Z H a}, R Z H a → ∃ o, H a = some o
  noext : ∀ {Z H a}, R Z H a → ∀ o : HO, still o → H a ≠ some o
  mono : ∀ {Z Z' : Addr → Prop} {H H' : Hp} {a : Addr}, (∀ a, Z' a → Z a ∨ H a = none) → (∀ a o, H a = some o → ¬ Z a → H' a = some o) → (∀ o, H a = some o → H' a = some o) → R Z H a → R Z' H' a
/-- what a value is worth: plain data, an own object of plain data that stands still, a value as it is -/
inductive D where
  | py (p : PyData)
  | obj (a : Addr) (n : Str) (fs : List (Str × PyData))
  | raw (v : V)
  | err (a : Addr) (d : Option Addr) (n : Str) (fs : List (Str × PyData))
  | abs (A : Abs)
@[simp] def kD : Key → PyData
  | .inl i => .int i
  | .inr x => .str x
mutual
/-- v is worth d in H; nothing that it reaches lies in Z -/
inductive Rq (Z : Addr → Prop) (H : Hp) : V → PyData → Prop
  | non : Rq Z H .non .none
  | bl (k : Bool) : Rq Z H (.bl k) (.bool k)
  | int (i : Int) : Rq Z H (.int i) (.int i)
  | str (x : Str) : Rq Z H (.str x) (.str x)
  | lst {a : Addr} {xs : List V} {ds : List PyData} : H a = some (.lst xs) → ¬ Z a → Rqs Z H xs ds → Rq Z H (.ref a) (.list ds)
  | tup {a : Addr} {o : Obj} {xs : List V} {ds : List PyData} : H a = some (HO.th o xs) → o.dict = none → ¬ Z a → Rqs Z H xs ds → Rq Z H (.ref a) (.tuple ds)
  | dct {a : Addr} {kvs : List (Key × V)} {ds : List (PyData × PyData)} : H a = some (.dK kvs) → ¬ Z a → Rqk Z H kvs ds → Rq Z H (.ref a) (.dict ds)
inductive Rqs (Z : Addr → Prop) (H : Hp) : List V → List PyData → Prop
  | nil : Rqs Z H [] []
  | cons {v : V} {d : PyData} {vs : List V} {ds : List PyData} : Rq Z H v d → Rqs Z H vs ds → Rqs Z H (v :: vs) (d :: ds)
inductive Rqk (Z : Addr → Prop) (H : Hp) : List (Key × V) → List (PyData × PyData) → Prop
  | nil : Rqk Z H [] []
  | cons {k : Key} {v : V} {d : PyData} {vs : List (Key × V)} {ds : List (PyData × PyData)} : Rq Z H v d → Rqk Z H vs ds → Rqk Z H ((k, v) :: vs) ((kD k, d) :: ds)
end
section
variable {Z Z' : Addr → Prop} {H H' : Hp}
mutual
theorem Rq.mono (hz : ∀ a, Z' a → Z a ∨ H a = none) (hs : ∀ a o, H a = some o → ¬ Z a → H' a = some o) : ∀ {v : V} {d : PyData}, Rq Z H v d → Rq Z' H' v d
  | _, _, .non => .non
  | _, _, .bl k => .bl k
  | _, _, .int i => .int i
  | _, _, .str x => .str x
  | _, _, .lst e n r => .lst (hs _ _ e n) (fun z => (hz _ z).elim n fun q => by rw [e] at q; cases q) (Rqs.mono hz hs r)
  | _, _, .tup e d n r => .tup (hs _ _ e n) d (fun z => (hz _ z).elim n fun q => by rw [e] at q; cases q) (Rqs.mono hz hs r)
  | _, _, .dct e n r => .dct (hs _ _ e n) (fun z => (hz _ z).elim n fun q => by rw [e] at q; cases q) (Rqk.mono hz hs r)
theorem Rqs.mono (hz : ∀ a, Z' a → Z a ∨ H a = none) (hs : ∀ a o, H a = some o → ¬ Z a → H' a = some o) : ∀ {v : List V} {d : List PyData}, Rqs Z H v d → Rqs Z' H' v d
  | _, _, .nil => .nil
  | _, _, .cons r t => .cons (Rq.mono hz hs r) (Rqs.mono hz hs t)
theorem Rqk.mono (hz : ∀ a, Z' a → Z a ∨ H a = none) (hs : ∀ a o, H a = some o → ¬ Z a → H' a = some o) : ∀ {v : List (Key × V)} {d : List (PyData × PyData)}, Rqk Z H v d → Rqk Z' H' v d
  | _, _, .nil => .nil
  | _, _, .cons r t => .cons (Rq.mono hz hs r) (Rqk.mono hz hs t)
end
theorem Rqs.length : ∀ {v : List V} {d : List PyData}, Rqs Z H v d → v.length = d.length
  | _, _, .nil => rfl
  | _, _, .cons _ t => congrArg (· + 1) (Rqs.length t)
theorem Rqk.length : ∀ {v : List (Key × V)} {d : List (PyData × PyData)}, Rqk Z H v d → v.length = d.length
  | _, _, .nil => rfl
  | _, _, .cons _ t => congrArg (· + 1) (Rqk.length t)
theorem Rqs.append : ∀ {v w : List V} {d e : List PyData}, Rqs Z H v d → Rqs Z H w e → Rqs Z H (v ++ w) (d ++ e)
  | _, _, _, _, .nil, s => s
  | _, _, _, _, .cons r t, s => .cons r (Rqs.append t s)
theorem Rqs.get : ∀ {v : List V} {d : List PyData} {i : Nat} {x : PyData}, Rqs Z H v d → d[i]? = some x → ∃ u, v[i]? = some u ∧ Rq Z H u x
  | _, _, _, _, .nil, e => by simp at e
  | _, _, 0, _, .cons r _, e => by simp at e; subst e; exact ⟨_, rfl, r⟩
  | _, _, i + 1, x, .cons _ t, e => by
    obtain ⟨u, h1, h2⟩ := Rqs.get (i := i) (x := x) t (by simpa using e)
    exact ⟨u, by simpa using h1, h2⟩
theorem Rqs.take : ∀ {v : List V} {d : List PyData} (n : Nat), Rqs Z H v d → Rqs Z H (v.take n) (d.take n)
  | _, _, 0, _ => .nil
  | _, _, _ + 1, .nil => .nil
  | _, _, n + 1, .cons r t => .cons r (Rqs.take n t)
theorem Rqs.drop : ∀ {v : List V} {d : List PyData} (n : Nat), Rqs Z H v d → Rqs Z H (v.drop n) (d.drop n)
  | _, _, 0, r => r
  | _, _, _ + 1, .nil => .nil
  | _, _, n + 1, .cons _ t => Rqs.drop n t
theorem Rqs.rep {v : List V} {d : List PyData} (r : Rqs Z H v d) : ∀ n : Nat, Rqs Z H (List.replicate n v).flatten (List.replicate n d).flatten
  | 0 => .nil
  | n + 1 => by rw [List.replicate_succ, List.replicate_succ, List.flatten_cons, List.flatten_cons]; exact r.append (Rqs.rep r n)
/-- ints are ints -/
theorem Rqs.ints : ∀ {v : List V} {ns : List Int}, Rqs Z H v (ns.map PyData.int) → v = ns.map V.int
  | _, [], .nil => rfl
  | _, n :: ns, .cons r t => by
    cases r
    rw [List.map_cons, Rqs.ints t]
theorem Rqs.strs : ∀ {v : List V} {ns : List Str}, Rqs Z H v (ns.map PyData.str) → v = ns.map V.str
  | _, [], .nil => rfl
  | _, n :: ns, .cons r t => by
    cases r
    rw [List.map_cons, Rqs.strs t]
theorem Rqs.of_ints : ∀ (ns : List Int), Rqs Z H (ns.map V.int) (ns.map PyData.int)
  | [] => .nil
  | n :: ns => .cons (.int n) (Rqs.of_ints ns)
end
/-- what surrounds the code: the classes' addresses, what others may change (B) while G stands -/
structure Bg where
  cls : Str → Addr
  B : Addr → Prop
  G : Hp → Prop
  loc : ∀ H H' : Hp, (∀ a, B a → H' a = H a) → (∀ a o, still o → H a = some o → H' a = some o) → G H → G H'
  dom : ∀ (H : Hp) (a : Addr), G H → B a → H a ≠ none
/-- an error: its class's name, its fields -/
structure Er where
  n : Str
  fs : List (Str × PyData)
/-- fields -/
inductive Rqf (Z : Addr → Prop) (H : Hp) : List (Str × V) → List (Str × PyData) → Prop
  | nil : Rqf Z H [] []
  | cons {k : Str} {v : V} {d : PyData} {vs : List (Str × V)} {ds : List (Str × PyData)} : Rq Z H v d → Rqf Z H vs ds → Rqf Z H ((k, v) :: vs) ((k, d) :: ds)
section
variable {Z Z' : Addr → Prop} {H H' : Hp}
theorem Rqf.mono (hz : ∀ a, Z' a → Z a ∨ H a = none) (hs : ∀ a o, H a = some o → ¬ Z a → H' a = some o) : ∀ {v : List (Str × V)} {d : List (Str × PyData)}, Rqf Z H v d → Rqf Z' H' v d
  | _, _, .nil => .nil
  | _, _, .cons r t => .cons (r.mono hz hs) (Rqf.mono hz hs t)
end
/-- v is worth d -/
def Rp (b : Bg) (Z : Addr → Prop) (H : Hp) (v : V) : D → Prop
  | .py p => Rq Z H v p
  | .obj a n fs => ∃ dx xs, v = .ref a ∧ H a = some (.ins (b.cls n) dx xs) ∧ ¬ Z a ∧ Rqf Z H xs fs
  | .abs A => ∃ a, v = .ref a ∧ ¬ Z a ∧ A.R Z H a
  | .raw u => v = u
  | .err a d _ fs => v = .ref a ∧ ((d = none ∧ fs = []) ∨ ∃ dd xs, d = some dd ∧ H dd = some (.xd xs) ∧ ¬ Z dd ∧ Rqf Z H xs fs)
inductive Rps (b : Bg) (Z : Addr → Prop) (H : Hp) : List V → List D → Prop
  | nil : Rps b Z H [] []
  | cons {v : V} {d : D} {vs : List V} {ds : List D} : Rp b Z H v d → Rps b Z H vs ds → Rps b Z H (v :: vs) (d :: ds)
section
variable {b : Bg} {Z Z' : Addr → Prop} {H H' : Hp}
theorem Rp.mono (hz : ∀ a, Z' a → Z a ∨ H a = none) (hs : ∀ a o, H a = some o → ¬ Z a → H' a = some o) {v : V} {d : D} (r : Rp b Z H v d) : Rp b Z' H' v d := by
  cases d with
  | py p => exact Rq.mono hz hs r
  | abs A =>
    obtain ⟨a, e, nz, q⟩ := r
    obtain ⟨o, h⟩ := A.at_ q
    exact ⟨a, e, fun z => (hz _ z).elim nz (fun q => by rw [h] at q; cases q), A.mono hz hs (fun o h => hs _ _ h nz) q⟩
  | obj a n fs =>
    obtain ⟨dx, xs, e, h, nz, q⟩ := r
    exact ⟨dx, xs, e, hs _ _ h nz, fun z => (hz _ z).elim nz (fun q => by rw [h] at q; cases q), q.mono hz hs⟩
  | raw u => exact r
  | err a d n fs =>
    obtain ⟨e, r⟩ := r
    refine ⟨e, r.imp id ?_⟩
    rintro ⟨dd, xs, e1, h, nz, q⟩
    exact ⟨dd, xs, e1, hs _ _ h nz, fun z => (hz _ z).elim nz (fun q => by rw [h] at q; cases q), q.mono hz hs⟩
theorem Rps.mono (hz : ∀ a, Z' a → Z a ∨ H a = none) (hs : ∀ a o, H a = some o → ¬ Z a → H' a = some o) : ∀ {v : List V} {d : List D}, Rps b Z H v d → Rps b Z' H' v d
  | _, _, .nil => .nil
  | _, _, .cons r t => .cons (r.mono hz hs) (Rps.mono hz hs t)
theorem Rps.length : ∀ {v : List V} {d : List D}, Rps b Z H v d → v.length = d.length
  | _, _, .nil => rfl
  | _, _, .cons _ t => congrArg (· + 1) (Rps.length t)
theorem Rps.pys : ∀ {v : List V} {d : List PyData}, Rps b Z H v (d.map D.py) → Rqs Z H v d
  | _, [], .nil => .nil
  | _, x :: d, .cons r t => .cons r (Rps.pys t)
theorem Rqs.to : ∀ {v : List V} {d : List PyData}, Rqs Z H v d → Rps b Z H v (d.map D.py)
  | _, _, .nil => .nil
  | _, _, .cons r t => .cons r (Rqs.to t)
end
/-- an owned object: it lies in Z itself, its items do not -/
def Ow (b : Bg) (Z : Addr → Prop) (H : Hp) (a : Addr) : D → Prop
  | .py (.list ds) => ∃ xs, H a = some (.lst xs) ∧ Rqs Z H xs ds
  | .py (.dict ds) => ∃ kvs, H a = some (.dK kvs) ∧ Rqk Z H kvs ds
  | .obj c n fs => a = c ∧ ∃ dx xs, H a = some (.ins (b.cls n) dx xs) ∧ Rqf Z H xs fs
  | .abs A => A.R Z H a
  | _ => False
section
variable {b : Bg} {Z Z' : Addr → Prop} {H H' : Hp} {a : Addr} {d : D}
theorem Ow.noext (h : Ow b Z H a d) (o : HO) (ho : still o) : H a ≠ some o := fun z => by
  cases d with
  | py p =>
    cases p with
    | list ds => obtain ⟨xs, e, _⟩ := h; rw [e] at z; cases z; exact ho
    | dict ds => obtain ⟨xs, e, _⟩ := h; rw [e] at z; cases z; exact ho
    | _ => exact False.elim h
  | obj c n fs => obtain ⟨_, _, _, e, _⟩ := h; rw [e] at z; cases z; exact ho
  | abs A => exact A.noext h o ho z
  | _ => exact False.elim h
theorem Ow.at (h : Ow b Z H a d) : ∃ o, H a = some o := by
  cases d with
  | py p =>
    cases p with
    | list ds => obtain ⟨xs, e, _⟩ := h; exact ⟨_, e⟩
    | dict ds => obtain ⟨xs, e, _⟩ := h; exact ⟨_, e⟩
    | _ => exact False.elim h
  | obj c n fs => obtain ⟨_, dx, xs, e, _⟩ := h; exact ⟨_, e⟩
  | abs A => exact A.at_ h
  | raw u => exact False.elim h
  | err _ _ _ _ => exact False.elim h
theorem Ow.mono (hz : ∀ a, Z' a → Z a ∨ H a = none) (hs : ∀ a o, H a = some o → ¬ Z a → H' a = some o) (ha : ∀ o, H a = some o → H' a = some o) (h : Ow b Z H a d) : Ow b Z' H' a d := by
  cases d with
  | py p =>
    cases p with
    | list ds => obtain ⟨xs, e, r⟩ := h; exact ⟨xs, ha _ e, r.mono hz hs⟩
    | dict ds => obtain ⟨xs, e, r⟩ := h; exact ⟨xs, ha _ e, r.mono hz hs⟩
    | _ => exact False.elim h
  | obj c n fs => obtain ⟨ec, dx, xs, e, r⟩ := h; exact ⟨ec, dx, xs, ha _ e, r.mono hz hs⟩
  | abs A => exact A.mono hz hs ha h
  | raw u => exact False.elim h
  | err _ _ _ _ => exact False.elim h
/-- given away -/
theorem Ow.rp (hz : ∀ a, Z' a → Z a) (na : ¬ Z' a) (h : Ow b Z H a d) : Rp b Z' H (.ref a) d := by
  have hm : ∀ a, Z' a → Z a ∨ H a = none := fun a z => .inl (hz a z)
  cases d with
  | py p =>
    cases p with
    | list ds => obtain ⟨xs, e, r⟩ := h; exact Rq.lst e na (r.mono hm fun _ _ e _ => e)
    | dict ds => obtain ⟨xs, e, r⟩ := h; exact Rq.dct e na (r.mono hm fun _ _ e _ => e)
    | _ => exact False.elim h
  | obj c n fs => obtain ⟨ec, dx, xs, e, r⟩ := h; subst ec; exact ⟨dx, xs, rfl, e, na, r.mono hm fun _ _ e _ => e⟩
  | abs A => exact ⟨a, rfl, na, A.mono hm (fun _ _ e _ => e) (fun _ e => e) h⟩
  | raw u => exact False.elim h
  | err _ _ _ _ => exact False.elim h
end
end VL
set_option Elab.async false
set_option linter.all false
set_option maxRecDepth 100000
set_option maxHeartbeats 4000000
namespace VL
open PySem PySem.Spec PyProof.Rows L2
/-- a name's slot: nothing known, a shared value, an object that nobody else holds -/
inductive Slot where
  | un | shr (d : D) | own (d : D)
abbrev VEnv := List Slot
/-- all that stood and may not be changed by others stands -/
def Ex (b : Bg) (H H' : Hp) : Prop := ∀ a o, H a = some o → ¬ b.B a → H' a = some o
section
variable {b : Bg} {H H1 H2 : Hp}
theorem Ex.refl : Ex b H H := fun _ _ e _ => e
theorem Ex.trans (x : Ex b H H1) (y : Ex b H1 H2) : Ex b H H2 := fun a o e n => y a o (x a o e n) n
theorem Ex.new {a : Addr} {o : HO} (h : H a = none) : Ex b H (upd H a o) := fun c u e _ => by
  rw [upd_ne (ne_of_none e h)]
  exact e
theorem Bg.new {a : Addr} {o : HO} (g : b.G H) (h : H a = none) : b.G (upd H a o) :=
  b.loc H _ (fun c hc => upd_ne fun e => b.dom H c g hc (by rw [e]; exact h)) (fun c o _ e => by rw [upd_ne (ne_of_none e h)]; exact e) g
end
/-- the names' values and what they own. Zo: what the callers own, and B; Z: all that is owned now -/
structure VOk (b : Bg) (Zo Z : Addr → Prop) (σ : L2.St) (H : Hp) (ρ : VEnv) : Prop where
  g : b.G H
  zb : ∀ a, b.B a → Zo a
  zo : ∀ a, Zo a → Z a
  dom : ∀ a, Z a → H a ≠ none
  zi : ∀ a, Z a → Zo a ∨ ∃ (i : Nat) (d : D), ρ[i]? = some (.own d) ∧ σ[i]? = some (some (.ref a))
  own : ∀ (i : Nat) (d : D), ρ[i]? = some (.own d) → ∃ a, σ[i]? = some (some (.ref a)) ∧ Z a ∧ ¬ Zo a ∧ Ow b Z H a d
  inj : ∀ (i j : Nat) (d e : D) (a : Addr), ρ[i]? = some (.own d) → ρ[j]? = some (.own e) → σ[i]? = some (some (.ref a)) → σ[j]? = some (some (.ref a)) → i = j
  shr : ∀ (i : Nat) (d : D), ρ[i]? = some (.shr d) → ∃ v, σ[i]? = some (some v) ∧ Rp b Z H v d
  len : ρ.length = σ.length
section
variable {b : Bg} {Zo Z : Addr → Prop} {σ : L2.St} {H H' : Hp} {ρ : VEnv}
theorem VOk.nb (v : VOk b Zo Z σ H ρ) {a : Addr} (h : ¬ Z a) : ¬ b.B a := fun z => h (v.zo _ (v.zb _ z))
theorem VOk.fresh (v : VOk b Zo Z σ H ρ) {a : Addr} (h : H a = none) : ¬ Z a := fun z => v.dom a z h
theorem VOk.keep (v : VOk b Zo Z σ H ρ) (x : Ex b H H') : ∀ a o, H a = some o → ¬ Z a → H' a = some o := fun a o e n => x a o e (v.nb n)
theorem VOk.rp (v : VOk b Zo Z σ H ρ) (x : Ex b H H') {u : V} {d : D} (r : Rp b Z H u d) : Rp b Z H' u d := r.mono (fun a z => .inl z) (v.keep x)
theorem VOk.rq (v : VOk b Zo Z σ H ρ) (x : Ex b H H') {u : V} {d : PyData} (r : Rq Z H u d) : Rq Z H' u d := r.mono (fun a z => .inl z) (v.keep x)
theorem VOk.rqs (v : VOk b Zo Z σ H ρ) (x : Ex b H H') {u : List V} {d : List PyData} (r : Rqs Z H u d) : Rqs Z H' u d := r.mono (fun a z => .inl z) (v.keep x)
/-- behind an expression -/
theorem VOk.ex (v : VOk b Zo Z σ H ρ) (x : Ex b H H') (g : b.G H') : VOk b Zo Z σ H' ρ where
  g := g
  zb := v.zb
  zo := v.zo
  dom := fun a z => by
    by_cases hb : b.B a
    · exact b.dom H' a g hb
    · cases e : H a with
      | none => exact absurd e (v.dom a z)
      | some o => rw [x a o e hb]; simp
  zi := v.zi
  own := fun i d e => by
    obtain ⟨a, h1, h2, h3, h4⟩ := v.own i d e
    exact ⟨a, h1, h2, h3, h4.mono (fun _ z => .inl z) (v.keep x) fun o q => x a o q fun z => h3 (v.zb a z)⟩
  inj := v.inj
  shr := fun i d e => by
    obtain ⟨u, h1, h2⟩ := v.shr i d e
    exact ⟨u, h1, v.rp x h2⟩
  len := v.len
end
/-! ### readings -/
abbrev VT := VEnv → (D → Prop) → (Er → Prop) → Prop
abbrev VB := VEnv → (Bool → Prop) → (Er → Prop) → Prop
abbrev VA := VEnv → (List D → Prop) → (Er → Prop) → Prop
/-- an error as it lies: its class, its own dict -/
def ErRp (b : Bg) (Z : Addr → Prop) (H : Hp) (c : Value) (d : Option Addr) (er : Er) : Prop :=
  c = .ref (b.cls er.n) ∧ ((d = none ∧ er.fs = []) ∨ ∃ a xs, d = some a ∧ H a = some (.xd xs) ∧ ¬ Z a ∧ Rqf Z H xs er.fs)
/-- a borrowed value: it may be an owned object itself -/
def Rb (b : Bg) (Z : Addr → Prop) (H : Hp) (v : V) (d : D) : Prop := Rp b Z H v d ∨ ∃ a, v = .ref a ∧ ¬ b.B a ∧ Z a ∧ Ow b Z H a d
/-- a new object that nobody holds -/
def Rn (b : Bg) (Z : Addr → Prop) (H0 H : Hp) (v : V) (d : D) : Prop := ∃ a, v = .ref a ∧ H0 a = none ∧ Ow b (fun c => Z c ∨ c = a) H a d
/-- how a reading over values is one over the heap -/
def LE (b : Bg) (W : WX) (R : (Addr → Prop) → Hp → Hp → V → D → Prop) (t : VT) : TE := fun σ H Q => ∃ Zo Z ρ Qd Ed, VOk b Zo Z σ H ρ ∧ t ρ Qd Ed ∧
  (∀ v H' d, Ex b H H' → b.G H' → R Z H H' v d → Qd d → Q v H') ∧ ∀ c x H' er, Ex b H H' → b.G H' → ErRp b Z H' c x er → Ed er → W c x σ H'
def LB (b : Bg) (W : WX) (t : VB) : TT := fun σ H Q => ∃ Zo Z ρ Qd Ed, VOk b Zo Z σ H ρ ∧ t ρ Qd Ed ∧
  (∀ k H', Ex b H H' → b.G H' → Qd k → Q k H') ∧ ∀ c x H' er, Ex b H H' → b.G H' → ErRp b Z H' c x er → Ed er → W c x σ H'
def LA (b : Bg) (W : WX) (t : VA) : TA := fun σ H Q => ∃ Zo Z ρ Qd Ed, VOk b Zo Z σ H ρ ∧ t ρ Qd Ed ∧
  (∀ v H' d, Ex b H H' → b.G H' → Rps b Z H' v d → Qd d → Q v H') ∧ ∀ c x H' er, Ex b H H' → b.G H' → ErRp b Z H' c x er → Ed er → W c x σ H'
/-- an expression: its value; borrowed; new -/
def VE (X : Cx) (b : Bg) (W : WX) (e : Expr) (t : VT) : Prop := PE X e (LE b W (fun Z _ H v d => Rp b Z H v d) t)
def VX (X : Cx) (b : Bg) (W : WX) (e : Expr) (t : VT) : Prop := PE X e (LE b W (fun Z _ H v d => Rb b Z H v d) t)
def VN (X : Cx) (b : Bg) (W : WX) (e : Expr) (t : VT) : Prop := PE X e (LE b W (fun Z H0 H v d => Rn b Z H0 H v d) t)
def VTe (X : Cx) (b : Bg) (W : WX) (e : Expr) (t : VB) : Prop := PT X e (LB b W t)
def VAs (X : Cx) (b : Bg) (W : WX) (es : List Expr) (t : VA) : Prop := PA X es (LA b W t)
theorem pe_mono {X : Cx} {e : Expr} {t t' : TE} (h : PE X e t) (m : ∀ σ H Q, t' σ H Q → t σ H Q) : PE X e t' :=
  ⟨fun pins s σ H Q I q => h.run pins s σ H Q I (m σ H Q q)⟩
theorem pt_mono {X : Cx} {e : Expr} {t t' : TT} (h : PT X e t) (m : ∀ σ H Q, t' σ H Q → t σ H Q) : PT X e t' :=
  ⟨fun pins s σ H Q I q => h.run pins s σ H Q I (m σ H Q q)⟩
theorem pa_mono {X : Cx} {e : List Expr} {t t' : TA} (h : PA X e t) (m : ∀ σ H Q, t' σ H Q → t σ H Q) : PA X e t' :=
  ⟨fun pos pins s σ H Q I q => h.run pos pins s σ H Q I (m σ H Q q)⟩
theorem ps_mono {X : Cx} {e : Stmt} {t t' : TS} (h : PS X e t) (m : ∀ D σ H, t' D σ H → t D σ H) : PS X e t' :=
  ⟨fun pins s σ H D I q => h.run pins s σ H D I (m D σ H q)⟩
theorem pss_mono {X : Cx} {e : List Stmt} {t t' : TS} (h : PSs X e t) (m : ∀ D σ H, t' D σ H → t D σ H) : PSs X e t' :=
  ⟨fun pins s σ H D I q => h.run pins s σ H D I (m D σ H q)⟩
section
variable {X : Cx} {b : Bg} {W : WX} {e e1 e2 : Expr} {es : List Expr} {t t1 t2 : VT} {pos : Pos}
theorem VE.toX (h : VE X b W e t) : VX X b W e t := pe_mono h fun σ H Q ⟨Zo, Z, ρ, Qd, Ed, v, q, l, m⟩ => ⟨Zo, Z, ρ, Qd, Ed, v, q, fun u H' d x g r => l u H' d x g (.inl r), m⟩
theorem VN.toE (h : VN X b W e t) : VE X b W e t := pe_mono h fun σ H Q ⟨Zo, Z, ρ, Qd, Ed, v, q, l, m⟩ => ⟨Zo, Z, ρ, Qd, Ed, v, q, fun u H' d x g ⟨a, e, n, o⟩ => by
  subst e
  exact l _ H' d x g (o.rp (fun _ z => .inl z) (v.fresh n)), m⟩
theorem VN.toX (h : VN X b W e t) : VX X b W e t := VE.toX (VN.toE h)
/-! ### names, constants -/
@[simp] def vVar (i : Nat) : VT := fun ρ Q _ => ∃ d, ρ[i]? = some (.shr d) ∧ Q d
@[simp] def vBor (i : Nat) : VT := fun ρ Q _ => ∃ d, (ρ[i]? = some (.shr d) ∨ ρ[i]? = some (.own d)) ∧ Q d
@[simp] def vC (d : D) : VT := fun _ Q _ => Q d
theorem ve_var {i : Nat} (h : PE X e (tVar i)) : VE X b W e (vVar i) := pe_mono h fun σ H Q ⟨Zo, Z, ρ, Qd, Ed, v, ⟨d, e, q⟩, l, _⟩ => by
  obtain ⟨u, h1, h2⟩ := v.shr i d e
  exact ⟨u, h1, l u H d Ex.refl v.g h2 q⟩
theorem vx_var {i : Nat} (h : PE X e (tVar i)) : VX X b W e (vBor i) := pe_mono h fun σ H Q ⟨Zo, Z, ρ, Qd, Ed, v, ⟨d, e, q⟩, l, _⟩ => by
  rcases e with e | e
  · obtain ⟨u, h1, h2⟩ := v.shr i d e
    exact ⟨u, h1, l u H d Ex.refl v.g (.inl h2) q⟩
  · obtain ⟨a, h1, h2, h3, h4⟩ := v.own i d e
    exact ⟨.ref a, h1, l _ H d Ex.refl v.g (.inr ⟨a, rfl, fun z => h3 (v.zb a z), h2, h4⟩) q⟩
theorem ve_const {v : V} {p : PyData} (h : PE X e (tC v)) (r : ∀ (Z : Addr → Prop) (H : Hp), Rq Z H v p) : VE X b W e (vC (.py p)) :=
  pe_mono h fun σ H Q ⟨Zo, Z, ρ, Qd, Ed, v, q, l, _⟩ => l _ H (.py p) Ex.refl v.g (r Z H) q
theorem ve_int {i : Int} {j} : VE X b W (.Constant (.int i) j pos) (vC (.py (.int i))) := ve_const pe_int fun _ _ => .int i
theorem ve_bl {k : Bool} {j} : VE X b W (.Constant (.bool k) j pos) (vC (.py (.bool k))) := ve_const pe_bl fun _ _ => .bl k
theorem ve_non {j} : VE X b W (.Constant .none j pos) (vC (.py .none)) := ve_const pe_non fun _ _ => .non
theorem ve_str {x : Str} {j} : VE X b W (.Constant (.str x) j pos) (vC (.py (.str x))) := ve_const pe_str fun _ _ => .str x
theorem ve_raw {v : V} (h : PE X e (tC v)) : VE X b W e (vC (.raw v)) :=
  pe_mono h fun σ H Q ⟨Zo, Z, ρ, Qd, Ed, u, q, l, _⟩ => l v H (.raw v) Ex.refl u.g rfl q
/-! ### argument lists, displays -/
@[simp] def vNil : VA := fun _ Q _ => Q []
@[simp] def vCons (t : VT) (u : VA) : VA := fun ρ Q E => t ρ (fun d => u ρ (fun ds => Q (d :: ds)) E) E
theorem va_nil : VAs X b W [] vNil := pa_mono pa_nil fun σ H Q ⟨Zo, Z, ρ, Qd, Ed, v, q, l, _⟩ => l [] H [] Ex.refl v.g .nil q
theorem va_cons {u : VA} (h : VE X b W e t) (k : VAs X b W es u) (hs : starEach (e :: es) X.env = (false, eval e X.env) :: starEach es X.env := by rfl) : VAs X b W (e :: es) (vCons t u) :=
  pa_mono (pa_cons h k hs) fun σ H Q ⟨Zo, Z, ρ, Qd, Ed, v, q, l, m⟩ => ⟨Zo, Z, ρ, _, Ed, v, q, fun x H1 d x1 g1 r1 q1 =>
    ⟨Zo, Z, ρ, _, Ed, v.ex x1 g1, q1, fun xs H2 ds x2 g2 r2 q2 => l (x :: xs) H2 (d :: ds) (x1.trans x2) g2 (.cons ((v.ex x1 g1).rp x2 r1) r2) q2, fun c y H2 er x2 g2 r2 q2 => m c y H2 er (x1.trans x2) g2 r2 q2⟩, m⟩
@[simp] def pys : List D → Option (List PyData)
  | [] => some []
  | .py p :: ds => (pys ds).map (p :: ·)
  | _ :: _ => none
theorem pys_of : ∀ {ds : List D} {ps : List PyData}, pys ds = some ps → ds = ps.map D.py
  | [], ps, h => by cases h; rfl
  | .py p :: ds, ps, h => by
    cases e : pys ds with
    | none => rw [pys, e] at h; cases h
    | some qs => rw [pys, e] at h; cases h; rw [List.map_cons, ← pys_of e]
  | .obj _ _ _ :: _, _, h => by cases h
  | .abs _ :: _, _, h => by cases h
  | .raw _ :: _, _, h => by cases h
  | .err _ _ _ _ :: _, _, h => by cases h
theorem Rqs.up' {Z : Addr → Prop} {H : Hp} {a : Addr} {o : HO} {v : List V} {ds : List PyData} (r : Rqs Z H v ds) (h : H a = none) : Rqs (fun c => Z c ∨ c = a) (upd H a o) v ds :=
  r.mono (fun c z => z.imp id fun e => by rw [e]; exact h) fun c u e _ => by
    rw [upd_ne (ne_of_none e h)]
    exact e
/-- a tuple, a list of written items -/
@[simp] def vTup (u : VA) : VT := fun ρ Q E => u ρ (fun ds => ∃ ps, pys ds = some ps ∧ ps.length ≤ sizeLine ∧ Q (.py (.tuple ps))) E
@[simp] def vLst (u : VA) : VT := fun ρ Q E => u ρ (fun ds => ∃ ps, pys ds = some ps ∧ ps.length ≤ sizeLine ∧ Q (.py (.list ps))) E
theorem Rps.pyL {Z : Addr → Prop} {H : Hp} {v : List V} {ds : List D} {ps : List PyData} (r : Rps b Z H v ds) (e : VL.pys ds = some ps) : Rqs Z H v ps := by
  rw [pys_of e] at r
  exact r.pys
theorem up {Z : Addr → Prop} {H : Hp} {a : Addr} {o : HO} (h : H a = none) : ∀ c u, H c = some u → ¬ Z c → upd H a o c = some u := fun c u e _ => by
  rw [upd_ne (ne_of_none e h)]
  exact e
theorem Rqs.up {Z : Addr → Prop} {H : Hp} {a : Addr} {o : HO} {v : List V} {ds : List PyData} (r : Rqs Z H v ds) (h : H a = none) : Rqs Z (upd H a o) v ds := r.mono (fun _ z => .inl z) (VL.up h)
theorem ve_tup {u : VA} {x1} (k : VAs X b W es u) : VE X b W (.Tuple es x1 pos) (vTup u) :=
  pe_mono (pe_tupF k) fun σ H Q ⟨Zo, Z, ρ, Qd, Ed, v, q, l, m⟩ => ⟨Zo, Z, ρ, _, Ed, v, q, fun xs H1 ds x1 g1 r1 ⟨ps, e, hl, q1⟩ => by
    have r2 := r1.pyL e
    refine ⟨by rw [r2.length]; exact hl, fun p o hp ho => l _ _ _ (x1.trans (Ex.new hp)) (Bg.new g1 hp) ?_ q1⟩
    exact Rq.tup upd_same ho ((v.ex x1 g1).fresh hp) (r2.up hp), m⟩
theorem vn_lst {u : VA} (k : VAs X b W es u) : VN X b W (.List es pos) (vLst u) :=
  pe_mono (pe_lst k) fun σ H Q ⟨Zo, Z, ρ, Qd, Ed, v, q, l, m⟩ => ⟨Zo, Z, ρ, _, Ed, v, q, fun xs H1 ds x1 g1 r1 ⟨ps, e, hl, q1⟩ => (by
    have r2 := r1.pyL e
    refine ⟨by rw [r2.length]; exact hl, fun p hp => l _ _ (.py (.list ps)) (x1.trans (Ex.new hp)) (Bg.new g1 hp) ⟨p, rfl, ?_, xs, upd_same, r2.up' hp⟩ q1⟩
    cases e : H p with
    | none => rfl
    | some o =>
      by_cases hb : b.B p
      · exact absurd hp (b.dom _ _ g1 hb)
      · rw [x1 p o e hb] at hp; cases hp), m⟩
end
end VL
set_option Elab.async false
set_option linter.all false
set_option maxRecDepth 100000
set_option maxHeartbeats 4000000
namespace VL
open PySem PySem.Spec PyProof.Rows L2
/-! ### what a borrowed value is -/
section
variable {b : Bg} {Z : Addr → Prop} {H : Hp} {v : V}
theorem Rb.list {ds : List PyData} (r : Rb b Z H v (.py (.list ds))) : ∃ a xs, v = .ref a ∧ H a = some (.lst xs) ∧ Rqs Z H xs ds := by
  rcases r with r | ⟨a, e, _, _, xs, h, q⟩
  · cases r with
    | lst e n q => exact ⟨_, _, rfl, e, q⟩
  · exact ⟨a, xs, e, h, q⟩
theorem Rb.dict {ds : List (PyData × PyData)} (r : Rb b Z H v (.py (.dict ds))) : ∃ a xs, v = .ref a ∧ H a = some (.dK xs) ∧ Rqk Z H xs ds := by
  rcases r with r | ⟨a, e, _, _, xs, h, q⟩
  · cases r with
    | dct e n q => exact ⟨_, _, rfl, e, q⟩
  · exact ⟨a, xs, e, h, q⟩
theorem Rb.tuple {ds : List PyData} (r : Rb b Z H v (.py (.tuple ds))) : ∃ a o xs, v = .ref a ∧ H a = some (HO.th o xs) ∧ o.dict = none ∧ ¬ Z a ∧ Rqs Z H xs ds := by
  rcases r with r | ⟨a, e, _, _, q⟩
  · cases r with
    | tup e d n q => exact ⟨_, _, _, rfl, e, d, n, q⟩
  · exact q.elim
theorem Rb.int {i : Int} (r : Rb b Z H v (.py (.int i))) : v = .int i := by
  rcases r with r | ⟨a, e, _, _, q⟩
  · cases r; rfl
  · exact q.elim
theorem Rb.str {i : Str} (r : Rb b Z H v (.py (.str i))) : v = .str i := by
  rcases r with r | ⟨a, e, _, _, q⟩
  · cases r; rfl
  · exact q.elim
theorem Rb.bool {i : Bool} (r : Rb b Z H v (.py (.bool i))) : v = .bl i := by
  rcases r with r | ⟨a, e, _, _, q⟩
  · cases r; rfl
  · exact q.elim
theorem Rb.none (r : Rb b Z H v (.py .none)) : v = .non := by
  rcases r with r | ⟨a, e, _, _, q⟩
  · cases r; rfl
  · exact q.elim
theorem Rb.obj {a : Addr} {n : Str} {fs : List (Str × PyData)} (r : Rb b Z H v (.obj a n fs)) : ∃ dx xs, v = .ref a ∧ H a = some (.ins (b.cls n) dx xs) ∧ Rqf Z H xs fs := by
  rcases r with ⟨dx, xs, e, h, _, q⟩ | ⟨a, e, _, _, rfl, dx, xs, h, q⟩
  · exact ⟨dx, xs, e, h, q⟩
  · exact ⟨dx, xs, e, h, q⟩
theorem Rb.ex {H' : Hp} (hk : ∀ a o, H a = some o → ¬ Z a → H' a = some o) (x : Ex b H H') {d : D} (r : Rb b Z H v d) : Rb b Z H' v d := by
  rcases r with r | ⟨a, e, nb, z, q⟩
  · exact .inl (r.mono (fun _ z => .inl z) hk)
  · exact .inr ⟨a, e, nb, z, q.mono (fun _ z => .inl z) hk fun o h => x a o h nb⟩
end
/-- the ground of a rule by values: G stands, B lies in Z, Z is there -/
structure Gd (b : Bg) (Z : Addr → Prop) (H : Hp) : Prop where
  g : b.G H
  zb : ∀ a, b.B a → Z a
  dom : ∀ a, Z a → H a ≠ none
theorem VOk.gd {b : Bg} {Zo Z : Addr → Prop} {σ : L2.St} {H : Hp} {ρ : VEnv} (v : VOk b Zo Z σ H ρ) : Gd b Z H := ⟨v.g, fun a z => v.zo a (v.zb a z), v.dom⟩
section
variable {b : Bg} {Z : Addr → Prop} {H : Hp}
theorem Gd.fresh (g : Gd b Z H) {a : Addr} (h : H a = none) : ¬ Z a := fun z => g.dom a z h
theorem Gd.new (g : Gd b Z H) {a : Addr} {o : HO} (h : H a = none) : b.G (upd H a o) := Bg.new g.g h
end
/-- a rule by the heap's values serves a reading g over values; R: what comes of it -/
def OpD (b : Bg) (R : (Addr → Prop) → Hp → Hp → V → D → Prop) (r : R2) (g : D → D → (D → Prop) → Prop) : Prop :=
  ∀ (Z : Addr → Prop) (H : Hp) (x y : V) (dx dy : D) (Q : VK) (Qd : D → Prop), Gd b Z H → Rb b Z H x dx → Rb b Z H y dy → g dx dy Qd →
    (∀ v H' d, Ex b H H' → b.G H' → R Z H H' v d → Qd d → Q v H') → r x y H Q
abbrev RE (b : Bg) : (Addr → Prop) → Hp → Hp → V → D → Prop := fun Z _ H v d => Rp b Z H v d
abbrev RN (b : Bg) : (Addr → Prop) → Hp → Hp → V → D → Prop := fun Z H0 H v d => Rn b Z H0 H v d
@[simp] def vBin (g : D → D → (D → Prop) → Prop) (ta tb : VT) : VT := fun ρ Q E => ta ρ (fun x => tb ρ (fun y => g x y Q) E) E
@[simp] def vUn (g : D → (D → Prop) → Prop) (ta : VT) : VT := fun ρ Q E => ta ρ (fun x => g x Q) E
theorem Rn.of {b : Bg} {Z : Addr → Prop} {H H1 H2 : Hp} {v : V} {d : D} (g : b.G H1) (x : Ex b H H1) (r : Rn b Z H1 H2 v d) : Rn b Z H H2 v d := by
  obtain ⟨a, e, h, o⟩ := r
  refine ⟨a, e, ?_, o⟩
  cases q : H a with
  | none => rfl
  | some u =>
    by_cases hb : b.B a
    · exact absurd h (b.dom _ _ g hb)
    · rw [x a u q hb] at h; cases h
section
variable {X : Cx} {b : Bg} {W : WX} {e e1 e2 e3 : Expr} {es : List Expr} {t t1 t2 t3 : VT} {pos : Pos} {r : R2} {g : D → D → (D → Prop) → Prop}
/-- the core of all rules of two values -/
theorem core2 {R : (Addr → Prop) → Hp → Hp → V → D → Prop} (hR : ∀ Z H H1 H2 v d, b.G H1 → Ex b H H1 → R Z H1 H2 v d → R Z H H2 v d) (hd : OpD b R r g) :
    ∀ σ H Q, LE b W R (vBin g t1 t2) σ H Q → tOp r (LE b W (fun Z _ H v d => Rb b Z H v d) t1) (LE b W (fun Z _ H v d => Rb b Z H v d) t2) σ H Q :=
  fun σ H Q ⟨Zo, Z, ρ, Qd, Ed, v, q, l, m⟩ => ⟨Zo, Z, ρ, _, Ed, v, q, fun x H1 d x1 g1 r1 q1 =>
    ⟨Zo, Z, ρ, _, Ed, v.ex x1 g1, q1, fun y H2 d2 x2 g2 r2 q2 =>
      hd Z H2 x y d d2 Q Qd ((v.ex x1 g1).ex x2 g2).gd (r1.ex ((v.ex x1 g1).keep x2) x2) r2 q2 fun u H3 d3 x3 g3 r3 q3 => l u H3 d3 ((x1.trans x2).trans x3) g3 (hR _ _ _ _ _ _ g2 (x1.trans x2) r3) q3,
      fun c z H2 er x2 g2 r2 q2 => m c z H2 er (x1.trans x2) g2 r2 q2⟩, m⟩
theorem hRE : ∀ (Z : Addr → Prop) (H H1 H2 : Hp) (v : V) (d : D), b.G H1 → Ex b H H1 → RE b Z H1 H2 v d → RE b Z H H2 v d := fun _ _ _ _ _ _ _ _ r => r
theorem hRN : ∀ (Z : Addr → Prop) (H H1 H2 : Hp) (v : V) (d : D), b.G H1 → Ex b H H1 → RN b Z H1 H2 v d → RN b Z H H2 v d := fun _ _ _ _ _ _ g x r => r.of g x
theorem ve_op {op : Operator} (ho : OpR X (binaryOp op) r) (hd : OpD b (RE b) r g) (h1 : VX X b W e1 t1) (h2 : VX X b W e2 t2) : VE X b W (.BinOp e1 op e2 pos) (vBin g t1 t2) :=
  pe_mono (pe_op ho h1 h2) (core2 hRE hd)
theorem ve_cmp {op : CmpOp} (ho : OpR X (compareOp op) r) (hd : OpD b (RE b) r g) (h1 : VX X b W e1 t1) (h2 : VX X b W e2 t2) (hm : behindInMarks op e2 = false) : VE X b W (.Compare e1 [op] [e2] pos) (vBin g t1 t2) :=
  pe_mono (pe_cmpR ho h1 h2 hm) (core2 hRE hd)
/-- a value that is a bool, as a test -/
@[simp] def vTst (t : VT) : VB := fun ρ Q E => t ρ (fun d => ∃ k, d = .py (.bool k) ∧ Q k) E
theorem core2t (hd : OpD b (RE b) r g) : ∀ σ H Q, LB b W (vTst (vBin g t1 t2)) σ H Q → tTest (tOp r (LE b W (fun Z _ H v d => Rb b Z H v d) t1) (LE b W (fun Z _ H v d => Rb b Z H v d) t2)) σ H Q :=
  fun σ H Q ⟨Zo, Z, ρ, Qd, Ed, v, q, l, m⟩ => core2 (t1 := t1) (t2 := t2) hRE hd σ H _ ⟨Zo, Z, ρ, _, Ed, v, q, fun x H1 d x1 g1 r1 ⟨k, e, q1⟩ => ⟨k, by
    subst e
    exact Rb.bool (b := b) (.inl r1), l k H1 x1 g1 q1⟩, m⟩
theorem vt_cmp {op : CmpOp} (ho : OpR X (compareOp op) r) (hd : OpD b (RE b) r g) (h1 : VX X b W e1 t1) (h2 : VX X b W e2 t2) (hm : behindInMarks op e2 = false) : VTe X b W (.Compare e1 [op] [e2] pos) (vTst (vBin g t1 t2)) :=
  pt_mono (pt_cmpR ho h1 h2 hm) (core2t hd)
/-- any expression whose value is a bool, as a test -/
theorem vt_val (h : VX X b W e t) (he : ∀ whole, isTrue e X.env whole = (do let v ← whole; standAt e.pos; holding [v] (truthy v)) := by intro _; rfl) : VTe X b W e (vTst t) :=
  pt_mono (pt_val h he) fun σ H Q ⟨Zo, Z, ρ, Qd, Ed, v, q, l, m⟩ => ⟨Zo, Z, ρ, _, Ed, v, q, fun x H1 d x1 g1 r1 ⟨k, e, q1⟩ => ⟨k, by
    subst e
    exact r1.bool, l k H1 x1 g1 q1⟩, m⟩
/-! ### arithmetic -/
@[simp] def gAdd : D → D → (D → Prop) → Prop
  | .py (.int i), .py (.int j), Q => Q (.py (.int (i + j)))
  | .py (.str x), .py (.str y), Q => x.length + y.length ≤ sizeLine ∧ Q (.py (.str (x ++ y)))
  | .py (.list x), .py (.list y), Q => x.length + y.length ≤ sizeLine ∧ Q (.py (.list (x ++ y)))
  | .py (.tuple x), .py (.tuple y), Q => x.length + y.length ≤ sizeLine ∧ Q (.py (.tuple (x ++ y)))
  | _, _, _ => False
@[simp] def gCat : D → D → (D → Prop) → Prop
  | .py (.list x), .py (.list y), Q => x.length + y.length ≤ sizeLine ∧ Q (.py (.list (x ++ y)))
  | _, _, _ => False
theorem rn_catL : OpD b (RN b) rCat gCat := by
  intro Z H x y dx dy Q Qd gd rx ry h k
  match dx, dy, h, rx, ry with
  | .py (.list xs), .py (.list ys), ⟨hl, h⟩, rx, ry =>
    obtain ⟨a, us, rfl, ha, qa⟩ := rx.list
    obtain ⟨c, ws, rfl, hc, qc⟩ := ry.list
    refine ⟨a, c, us, ws, rfl, rfl, ha, hc, by rw [qa.length, qc.length]; exact hl, fun p hp => k _ _ (.py (.list (xs ++ ys))) (Ex.new hp) (gd.new hp) ⟨p, rfl, hp, _, upd_same, (qa.append qc).up' hp⟩ h⟩
theorem OpD.toE {r : R2} {g : D → D → (D → Prop) → Prop} (h : OpD b (RN b) r g) : OpD b (RE b) r g := fun Z H x y dx dy Q Qd gd rx ry q k =>
  h Z H x y dx dy Q Qd gd rx ry q fun v H' d x1 g1 ⟨a, e, n, o⟩ q1 => k v H' d x1 g1 (by subst e; exact o.rp (fun _ z => .inl z) (gd.fresh n)) q1
theorem rd_add : OpD b (RE b) (fun x y H Q => rI0 (fun i j => .int (i + j)) x y H Q ∨ (fun x y H Q => (∃ i j, x = .str i ∧ y = .str j ∧ i.length + j.length ≤ sizeLine ∧ Q (.str (i ++ j)) H) ∨ (fun x y H Q => rCat x y H Q ∨ rCatF X.K x y H Q) x y H Q) x y H Q) gAdd := by
  intro Z H x y dx dy Q Qd gd rx ry h k
  match dx, dy, h, rx, ry with
  | .py (.int i), .py (.int j), h, rx, ry =>
    rw [rx.int, ry.int]
    exact .inl ⟨i, j, rfl, rfl, k _ H (.py (.int (i + j))) Ex.refl gd.g (.int _) h⟩
  | .py (.str i), .py (.str j), ⟨hl, h⟩, rx, ry =>
    rw [rx.str, ry.str]
    exact .inr (.inl ⟨i, j, rfl, rfl, hl, k _ H (.py (.str (i ++ j))) Ex.refl gd.g (.str _) h⟩)
  | .py (.list xs), .py (.list ys), h, rx, ry =>
    exact .inr (.inr (.inl (OpD.toE rn_catL Z H x y (.py (.list xs)) (.py (.list ys)) Q Qd gd rx ry h k)))
  | .py (.tuple xs), .py (.tuple ys), ⟨hl, h⟩, rx, ry =>
    obtain ⟨a, oa, us, rfl, ha, da, na, qa⟩ := rx.tuple
    obtain ⟨c, oc, ws, rfl, hc, dc, nc, qc⟩ := ry.tuple
    refine .inr (.inr (.inr ⟨a, c, us, ws, rfl, rfl, SqT.th ha, SqT.th hc, by rw [qa.length, qc.length]; exact hl, fun e => ?_, fun _ e => ?_, fun _ _ p o hp ho => ?_⟩))
    · subst e
      cases qa
      exact k _ H (.py (.tuple ys)) Ex.refl gd.g (.tup hc dc nc qc) h
    · subst e
      cases qc
      rw [List.append_nil] at h
      exact k _ H (.py (.tuple xs)) Ex.refl gd.g (.tup ha da na qa) h
    · exact k _ _ (.py (.tuple (xs ++ ys))) (Ex.new hp) (gd.new hp) (.tup upd_same ho (gd.fresh hp) ((qa.append qc).up hp)) h
theorem ve_add (h1 : VX X b W e1 t1) (h2 : VX X b W e2 t2) : VE X b W (.BinOp e1 .Add e2 pos) (vBin gAdd t1 t2) := ve_op (OpR.or op_add (OpR.or op_add_str (OpR.or op_cat op_catF))) rd_add h1 h2
/-- ints in, under C; a plain value out -/
@[simp] def gI (C : Int → Int → Prop) (f : Int → Int → PyData) : D → D → (D → Prop) → Prop
  | .py (.int i), .py (.int j), Q => C i j ∧ Q (.py (f i j))
  | _, _, _ => False
theorem rd_I {C : Int → Int → Prop} {f : Int → Int → V} {f' : Int → Int → PyData} (hf : ∀ (Z : Addr → Prop) (H : Hp) i j, Rq Z H (f i j) (f' i j)) : OpD b (RE b) (rI C f) (gI C f') := by
  intro Z H x y dx dy Q Qd gd rx ry h k
  match dx, dy, h, rx, ry with
  | .py (.int i), .py (.int j), ⟨hc, h⟩, rx, ry =>
    rw [rx.int, ry.int]
    exact ⟨i, j, rfl, rfl, hc, k _ H (.py (f' i j)) Ex.refl gd.g (hf Z H i j) h⟩
/-- .. without a condition -/
@[simp] def gI0 (f : Int → Int → PyData) : D → D → (D → Prop) → Prop
  | .py (.int i), .py (.int j), Q => Q (.py (f i j))
  | _, _, _ => False
theorem rd_I0 {f : Int → Int → V} {f' : Int → Int → PyData} (hf : ∀ (Z : Addr → Prop) (H : Hp) i j, Rq Z H (f i j) (f' i j)) : OpD b (RE b) (rI0 f) (gI0 f') := by
  intro Z H x y dx dy Q Qd gd rx ry h k
  match dx, dy, h, rx, ry with
  | .py (.int i), .py (.int j), h, rx, ry =>
    rw [rx.int, ry.int]
    exact ⟨i, j, rfl, rfl, k _ H (.py (f' i j)) Ex.refl gd.g (hf Z H i j) h⟩
abbrev gSub := gI0 fun i j => .int (i - j)
abbrev gFdiv := gI CDivN fun i j => .int (i.fdiv j)
abbrev gMod := gI (fun _ j => 0 < j) fun i j => .int (i % j)
abbrev gPow := gI CPow fun i j => .int (i ^ j.toNat)
abbrev gGt := gI0 fun i j => .bool (decide (j < i))
abbrev gGe := gI0 fun i j => .bool (decide (j ≤ i))
theorem ve_sub (h1 : VX X b W e1 t1) (h2 : VX X b W e2 t2) : VE X b W (.BinOp e1 .Sub e2 pos) (vBin gSub t1 t2) := ve_op op_sub (rd_I0 fun _ _ _ _ => .int _) h1 h2
theorem ve_fdiv (h1 : VX X b W e1 t1) (h2 : VX X b W e2 t2) : VE X b W (.BinOp e1 .FloorDiv e2 pos) (vBin gFdiv t1 t2) := ve_op op_fdivN (rd_I fun _ _ _ _ => .int _) h1 h2
theorem ve_mod (h1 : VX X b W e1 t1) (h2 : VX X b W e2 t2) : VE X b W (.BinOp e1 .Mod e2 pos) (vBin gMod t1 t2) := ve_op op_mod (rd_I fun _ _ _ _ => .int _) h1 h2
theorem ve_pow (h1 : VX X b W e1 t1) (h2 : VX X b W e2 t2) : VE X b W (.BinOp e1 .Pow e2 pos) (vBin gPow t1 t2) := ve_op op_pow (rd_I fun _ _ _ _ => .int _) h1 h2
theorem ve_gt (h1 : VX X b W e1 t1) (h2 : VX X b W e2 t2) : VE X b W (.Compare e1 [.Gt] [e2] pos) (vBin gGt t1 t2) := ve_cmp op_gt (rd_I0 fun _ _ _ _ => .bl _) h1 h2 (nobehind _ (by decide) (by decide))
theorem vt_gt (h1 : VX X b W e1 t1) (h2 : VX X b W e2 t2) : VTe X b W (.Compare e1 [.Gt] [e2] pos) (vTst (vBin gGt t1 t2)) := vt_cmp op_gt (rd_I0 fun _ _ _ _ => .bl _) h1 h2 (nobehind _ (by decide) (by decide))
theorem vt_ge (h1 : VX X b W e1 t1) (h2 : VX X b W e2 t2) : VTe X b W (.Compare e1 [.GtE] [e2] pos) (vTst (vBin gGe t1 t2)) := vt_cmp op_ge (rd_I0 fun _ _ _ _ => .bl _) h1 h2 (nobehind _ (by decide) (by decide))
end
end VL
set_option Elab.async false
set_option linter.all false
set_option maxRecDepth 100000
set_option maxHeartbeats 4000000
namespace VL
open PySem PySem.Spec PyProof.Rows L2
abbrev nz : Addr → Prop := fun _ => False
section
variable {X : Cx} {pins : List (Addr × Obj)} {σ : L2.St} {H : Hp} {s : Shared} {Z : Addr → Prop}
theorem keys_read {h : Heap} {P : Program} {w : World} : ∀ {es : List DictEntry} {kvs : List (Key × V)} {vs : List (Key × Value)}, KV kvs vs → Pairs (mixKind P w) es vs →
    ReadsAll h (es.map (·.key)) (kvs.map fun p => kD p.1) [] ∧ Vals (kvs.map (·.2)) (es.map (·.val))
  | _, _, _, .nil, .nil => ⟨.nil, .nil⟩
  | _, _, _, .cons (a := p) (b := q) r t, .cons (e := e) hk hv hp => by
    obtain ⟨i1, i2⟩ := keys_read (h := h) t hp
    obtain ⟨p1, p2⟩ := p
    obtain ⟨q1, q2⟩ := q
    obtain ⟨e1, e2⟩ := r
    have e1' : p1 = q1 := e1
    subst e1'
    refine ⟨?_, .cons (show L2.RelV p2 e.val by rw [hv]; exact e2) i2⟩
    have hk' : keyIs p1 e.key = true := hk
    rcases keyIs_shape hk' with ⟨i, u, a1, a2⟩ | ⟨x, u, a1, a2⟩
    · subst a1
      rw [List.map_cons, List.map_cons, a2]
      exact ReadsAll.cons (as := []) (Reads.int i u) i1
    · subst a1
      rw [List.map_cons, List.map_cons, a2]
      exact ReadsAll.cons (as := []) (Reads.str x u) i1
mutual
theorem Rq.reads (I : Inv X pins σ H s) : ∀ {v : V} {d : PyData}, Rq Z H v d → ∀ u, RelV v u → ∃ as, Reads s.heap u d as ∧ ∀ a ∈ as, H a ≠ none
  | _, _, .non, _, r => by cases r; exact ⟨_, Reads.none, fun _ h => nomatch h⟩
  | _, _, .bl k, _, r => by cases r; exact ⟨_, Reads.bool k, fun _ h => nomatch h⟩
  | _, _, .int i, _, r => by obtain ⟨t, rfl⟩ := r; exact ⟨_, Reads.int i t, fun _ h => nomatch h⟩
  | _, _, .str x, _, r => by obtain ⟨t, rfl⟩ := r; exact ⟨_, Reads.str x t, fun _ h => nomatch h⟩
  | _, _, .lst (a := a) e n q, _, r => by
    cases r
    obtain ⟨its, rv, ⟨o, m, ho, hc, _, hd⟩, _⟩ := I.list (SqL.of e)
    obtain ⟨as, h1, h2⟩ := Rqs.reads I q _ rv
    refine ⟨_, Reads.list ho hc hd h1, fun b hb => ?_⟩
    rcases List.mem_cons.mp hb with rfl | hb
    · rw [e]; simp
    · exact h2 b hb
  | _, _, .tup (a := a) e _ n q, _, r => by
    cases r
    obtain ⟨its, rv, ⟨o, ho, hc, m, hd⟩, _⟩ := I.tuple (SqT.th e)
    obtain ⟨as, h1, h2⟩ := Rqs.reads I q _ rv
    exact ⟨_, Reads.tuple ho hc hd h1, h2⟩
  | _, _, .dct (a := a) (kvs := kvs) (ds := ds) e n q, _, r => by
    cases r
    obtain ⟨_, _, vs, kv, o, es, ep, ho, he, hd, _, hp, _⟩ := dk_of I.hok e
    obtain ⟨k1, k2⟩ := keys_read (h := s.heap) kv hp
    obtain ⟨bs, h1, h2, h3⟩ := Rqk.reads I q _ k2
    rw [h3] at k1
    refine ⟨_, Reads.dict ho he.1 hd k1 h1, fun b hb => ?_⟩
    rcases List.mem_append.mp hb with hb | hb
    · rw [List.mem_singleton.mp hb, e]; simp
    · exact h2 b hb
theorem Rqs.reads (I : Inv X pins σ H s) : ∀ {v : List V} {d : List PyData}, Rqs Z H v d → ∀ u, Vals v u → ∃ as, ReadsAll s.heap u d as ∧ ∀ a ∈ as, H a ≠ none
  | _, _, .nil, _, r => by cases r; exact ⟨_, ReadsAll.nil, fun _ h => nomatch h⟩
  | _, _, .cons q t, _, r => by
    cases r with
    | cons r rr =>
      obtain ⟨as, h1, h2⟩ := Rq.reads I q _ r
      obtain ⟨bs, h3, h4⟩ := Rqs.reads I t _ rr
      exact ⟨_, ReadsAll.cons h1 h3, fun a ha => (List.mem_append.mp ha).elim (h2 a) (h4 a)⟩
theorem Rqk.reads (I : Inv X pins σ H s) : ∀ {v : List (Key × V)} {d : List (PyData × PyData)}, Rqk Z H v d → ∀ u, Vals (v.map (·.2)) u → ∃ as, ReadsAll s.heap u (d.map (·.2)) as ∧ (∀ a ∈ as, H a ≠ none) ∧ v.map (fun p => kD p.1) = d.map (·.1)
  | _, _, .nil, _, r => by cases r; exact ⟨_, ReadsAll.nil, fun _ h => (nomatch h), rfl⟩
  | _, _, .cons q t, _, r => by
    cases r with
    | cons r rr =>
      obtain ⟨as, h1, h2⟩ := Rq.reads I q _ r
      obtain ⟨bs, h3, h4, h5⟩ := Rqk.reads I t _ rr
      exact ⟨_, ReadsAll.cons h1 h3, fun a ha => (List.mem_append.mp ha).elim (h2 a) (h4 a), by rw [List.map_cons, List.map_cons, h5]⟩
end
end
/-- a borrowed plain value, as data -/
theorem Rb.q {b : Bg} {Z : Addr → Prop} {H : Hp} {v : V} {p : PyData} (r : Rb b Z H v (.py p)) : Rq nz H v p := by
  rcases r with r | ⟨a, e, _, _, q⟩
  · exact Rq.mono (fun _ z => z.elim) (fun _ _ e _ => e) r
  · subst e
    exact Ow.rp (b := b) (d := .py p) (Z' := nz) (fun _ z => z.elim) (fun z => z) q
/-! ### ==, in -/
section
variable {X : Cx}
def rEqP : R2 := fun x y H Q => ∃ p q, Rq nz H x p ∧ Rq nz H y q ∧ p.plain = true ∧ q.plain = true ∧ (p.depth ≤ 60 ∨ q.depth ≤ 60) ∧ Q (.bl (p.eqv q)) H
def rNeP : R2 := fun x y H Q => ∃ p q, Rq nz H x p ∧ Rq nz H y q ∧ p.plain = true ∧ q.plain = true ∧ (p.depth ≤ 60 ∨ q.depth ≤ 60) ∧ Q (.bl (!p.eqv q)) H
theorem op_eqP (hu : X.A.units + 64 < cLine) : OpR X (compareOp .Eq) rEqP := by
  intro pins s σ H x y v u Q I rx ry ⟨p, q, hp, hq, p1, q1, hd, h⟩
  obtain ⟨as, r1, _⟩ := hp.reads I _ rx
  obtain ⟨bs, r2, _⟩ := hq.reads I _ ry
  exact SeqAt.eq_plain r1 r2 p1 q1 (by omega) ⟨.bl _, H, I, rfl, h⟩
theorem op_neP (hu : X.A.units + 64 < cLine) : OpR X (compareOp .NotEq) rNeP := by
  intro pins s σ H x y v u Q I rx ry ⟨p, q, hp, hq, p1, q1, hd, h⟩
  obtain ⟨as, r1, _⟩ := hp.reads I _ rx
  obtain ⟨bs, r2, _⟩ := hq.reads I _ ry
  exact SeqAt.ne_plain r1 r2 p1 q1 (by omega) ⟨.bl _, H, I, rfl, h⟩
def rInP (neg : Bool) : R2 := fun x y H Q => ∃ p qs, Rq nz H x p ∧ (Rq nz H y (.list qs) ∨ Rq nz H y (.tuple qs)) ∧ p.plain = true ∧ PyData.plainAll qs = true ∧ (p.depth ≤ 60 ∨ PyData.depthAll qs ≤ 60) ∧ Q (.bl (neg ^^ qs.any fun y => PyData.eqv y p)) H
theorem op_inP (hu : X.A.units + 64 < cLine) : OpR X (compareOp .In) (rInP false) := by
  intro pins s σ H x y v u Q I rx ry ⟨p, q, hp, hq, p1, q1, hd, h⟩
  obtain ⟨as, r1, _⟩ := hp.reads I _ rx
  rw [Bool.false_xor] at h
  rcases hq with hq | hq
  · obtain ⟨bs, r2, _⟩ := hq.reads I _ ry
    exact SeqAt.in_list_data r2 r1 q1 p1 (by omega) ⟨.bl _, H, I, rfl, h⟩
  · obtain ⟨bs, r2, _⟩ := hq.reads I _ ry
    exact SeqAt.in_tuple_data r2 r1 q1 p1 (by omega) ⟨.bl _, H, I, rfl, h⟩
theorem op_notInP (hu : X.A.units + 64 < cLine) : OpR X (compareOp .NotIn) (rInP true) := by
  intro pins s σ H x y v u Q I rx ry ⟨p, q, hp, hq, p1, q1, hd, h⟩
  obtain ⟨as, r1, _⟩ := hp.reads I _ rx
  rw [Bool.true_xor] at h
  rcases hq with hq | hq
  · obtain ⟨bs, r2, _⟩ := hq.reads I _ ry
    exact SeqAt.notIn_list_data r2 r1 q1 p1 (by omega) ⟨.bl _, H, I, rfl, h⟩
  · obtain ⟨bs, r2, _⟩ := hq.reads I _ ry
    exact SeqAt.notIn_tuple_data r2 r1 q1 p1 (by omega) ⟨.bl _, H, I, rfl, h⟩
end
/-- p == q, whatever plain data they are -/
@[simp] def gEq : D → D → (D → Prop) → Prop
  | .py (.tuple xs), .py (.tuple []), Q => Q (.py (.bool xs.isEmpty))
  | .py (.list xs), .py (.list []), Q => Q (.py (.bool xs.isEmpty))
  | .py p, .py q, Q => p.plain = true ∧ q.plain = true ∧ (p.depth ≤ 60 ∨ q.depth ≤ 60) ∧ Q (.py (.bool (p.eqv q)))
  | _, _, _ => False
@[simp] def gNe : D → D → (D → Prop) → Prop
  | .py (.tuple xs), .py (.tuple []), Q => Q (.py (.bool (!xs.isEmpty)))
  | .py (.list xs), .py (.list []), Q => Q (.py (.bool (!xs.isEmpty)))
  | .py p, .py q, Q => p.plain = true ∧ q.plain = true ∧ (p.depth ≤ 60 ∨ q.depth ≤ 60) ∧ Q (.py (.bool (!p.eqv q)))
  | _, _, _ => False
/-- x in c, c a list, a tuple, a text -/
@[simp] def gIn (neg : Bool) : D → D → (D → Prop) → Prop
  | .py (.str x), .py (.str y), Q => Q (.py (.bool (neg ^^ Txt.contains y x)))
  | .py p, .py (.list q), Q => p.plain = true ∧ PyData.plainAll q = true ∧ (p.depth ≤ 60 ∨ PyData.depthAll q ≤ 60) ∧ Q (.py (.bool (neg ^^ q.any fun y => PyData.eqv y p)))
  | .py p, .py (.tuple q), Q => p.plain = true ∧ PyData.plainAll q = true ∧ (p.depth ≤ 60 ∨ PyData.depthAll q ≤ 60) ∧ Q (.py (.bool (neg ^^ q.any fun y => PyData.eqv y p)))
  | _, _, _ => False
section
variable {X : Cx} {b : Bg} {W : WX} {e e1 e2 e3 : Expr} {es : List Expr} {t t1 t2 t3 : VT} {pos : Pos} {r : R2} {g : D → D → (D → Prop) → Prop}
/-- beside an empty one: no item is looked at -/
def rZ (K : PySem.W.Frag) (f : Bool → Bool) : R2 := fun x y H Q => ∃ a c xs, x = .ref a ∧ y = .ref c ∧ ((SqL K H a xs ∧ SqL K H c []) ∨ (SqT K H a xs ∧ SqT K H c [])) ∧ Q (.bl (f xs.isEmpty)) H
theorem op_eqZ (hu : X.A.units + 64 < cLine) : OpR X (compareOp .Eq) (rZ X.K id) := by
  intro pins s σ H x y v u Q I rx ry ⟨a, c, xs, ex, ey, hh, q⟩
  subst ex ey
  obtain rfl : v = .ref a := rx
  obtain rfl : u = .ref c := ry
  rcases hh with ⟨h1, h2⟩ | ⟨h1, h2⟩
  · obtain ⟨its, r, p, _⟩ := I.list h1
    obtain ⟨its2, r2, p2, _⟩ := I.list h2
    cases r2
    cases r with
    | nil => exact SeqAt.eq_listAt (e := fun _ => true) p.isList p2.isList rfl (by omega) (fun j h => absurd h (Nat.not_lt_zero j)) ⟨.bl _, H, I, rfl, q⟩
    | cons r rs => exact SeqAt.eq_list_lengthsAt p.isList p2.isList rfl (by omega) ⟨.bl _, H, I, rfl, q⟩
  · obtain ⟨its, r, p, _⟩ := I.tuple h1
    obtain ⟨its2, r2, p2, _⟩ := I.tuple h2
    cases r2
    refine SeqAt.eq_tupleAt (e := fun _ => true) p p2 (by omega) (fun j h1 h2 => absurd h2 (Nat.not_lt_zero j)) ⟨.bl _, H, I, ?_, q⟩
    cases r <;> simp [L2.RelV]
theorem op_neZ (hu : X.A.units + 64 < cLine) : OpR X (compareOp .NotEq) (rZ X.K not) := by
  intro pins s σ H x y v u Q I rx ry ⟨a, c, xs, ex, ey, hh, q⟩
  subst ex ey
  obtain rfl : v = .ref a := rx
  obtain rfl : u = .ref c := ry
  rcases hh with ⟨h1, h2⟩ | ⟨h1, h2⟩
  · obtain ⟨its, r, p, _⟩ := I.list h1
    obtain ⟨its2, r2, p2, _⟩ := I.list h2
    cases r2
    cases r with
    | nil => exact SeqAt.RcNeAt.lists (e := fun _ => true) p.isList p2.isList rfl (by omega) (fun j h => absurd h (Nat.not_lt_zero j)) _ _ _ _ ⟨.bl _, H, I, rfl, q⟩
    | cons r rs => exact SeqAt.RcNeAt.lists_lengths p.isList p2.isList rfl (by omega) _ _ _ _ ⟨.bl _, H, I, rfl, q⟩
  · obtain ⟨its, r, p, _⟩ := I.tuple h1
    obtain ⟨its2, r2, p2, _⟩ := I.tuple h2
    cases r2
    refine SeqAt.RcNeAt.tuples (e := fun _ => true) p p2 (by omega) (fun j h1 h2 => absurd h2 (Nat.not_lt_zero j)) _ _ _ _ ⟨.bl _, H, I, ?_, q⟩
    cases r <;> simp [L2.RelV]
theorem rz_of {f : Bool → Bool} {K : PySem.W.Frag} {Z : Addr → Prop} {H : Hp} {x y : V} {Q : VK} {Qd : D → Prop} {xs : List PyData} (gd : Gd b Z H) (h : Qd (.py (.bool (f xs.isEmpty)))) (k : ∀ v H' d, Ex b H H' → b.G H' → RE b Z H H' v d → Qd d → Q v H') :
    (Rb b Z H x (.py (.list xs)) → Rb b Z H y (.py (.list [])) → rZ K f x y H Q) ∧ (Rb b Z H x (.py (.tuple xs)) → Rb b Z H y (.py (.tuple [])) → rZ K f x y H Q) := by
  have ee : ∀ {us : List V}, Rqs Z H us xs → xs.isEmpty = us.isEmpty := fun q => by cases q <;> rfl
  refine ⟨fun rx ry => ?_, fun rx ry => ?_⟩
  · obtain ⟨a, us, rfl, ha, qa⟩ := rx.list
    obtain ⟨c, ws, rfl, hc, qc⟩ := ry.list
    cases qc
    exact ⟨a, c, us, rfl, rfl, .inl ⟨SqL.of ha, SqL.of hc⟩, k _ H (.py (.bool _)) Ex.refl gd.g (by rw [← ee qa]; exact .bl _) h⟩
  · obtain ⟨a, oa, us, rfl, ha, _, _, qa⟩ := rx.tuple
    obtain ⟨c, oc, ws, rfl, hc, _, _, qc⟩ := ry.tuple
    cases qc
    exact ⟨a, c, us, rfl, rfl, .inr ⟨SqT.th ha, SqT.th hc⟩, k _ H (.py (.bool _)) Ex.refl gd.g (by rw [← ee qa]; exact .bl _) h⟩
theorem rd_eq : OpD b (RE b) (fun x y H Q => rEqP x y H Q ∨ rZ X.K id x y H Q) gEq := by
  intro Z H x y dx dy Q Qd gd rx ry h k
  unfold gEq at h
  split at h
  · exact .inr ((rz_of (f := id) gd h k).2 rx ry)
  · exact .inr ((rz_of (f := id) gd h k).1 rx ry)
  · obtain ⟨h1, h2, h3, h⟩ := h
    exact .inl ⟨_, _, rx.q, ry.q, h1, h2, h3, k _ H (.py (.bool _)) Ex.refl gd.g (.bl _) h⟩
  · exact h.elim
theorem rd_ne : OpD b (RE b) (fun x y H Q => rNeP x y H Q ∨ rZ X.K not x y H Q) gNe := by
  intro Z H x y dx dy Q Qd gd rx ry h k
  unfold gNe at h
  split at h
  · exact .inr ((rz_of (f := not) gd h k).2 rx ry)
  · exact .inr ((rz_of (f := not) gd h k).1 rx ry)
  · obtain ⟨h1, h2, h3, h⟩ := h
    exact .inl ⟨_, _, rx.q, ry.q, h1, h2, h3, k _ H (.py (.bool _)) Ex.refl gd.g (.bl _) h⟩
  · exact h.elim
theorem vt_eq (hu : X.A.units + 64 < cLine) (h1 : VX X b W e1 t1) (h2 : VX X b W e2 t2) : VTe X b W (.Compare e1 [.Eq] [e2] pos) (vTst (vBin gEq t1 t2)) := vt_cmp (OpR.or (op_eqP hu) (op_eqZ hu)) rd_eq h1 h2 (nobehind _ (by decide) (by decide))
theorem vt_ne (hu : X.A.units + 64 < cLine) (h1 : VX X b W e1 t1) (h2 : VX X b W e2 t2) : VTe X b W (.Compare e1 [.NotEq] [e2] pos) (vTst (vBin gNe t1 t2)) := vt_cmp (OpR.or (op_neP hu) (op_neZ hu)) rd_ne h1 h2 (nobehind _ (by decide) (by decide))
def rInS2 : R2 := fun x y H Q => ∃ i j, x = .str i ∧ y = .str j ∧ Q (.bl (Txt.contains j i)) H
def rNotInS2 : R2 := fun x y H Q => ∃ i j, x = .str i ∧ y = .str j ∧ Q (.bl (!Txt.contains j i)) H
theorem op_inS2 : OpR X (compareOp .In) rInS2 := fun pins s σ H x y v u Q I rx ry ⟨i, j, e1, e2, q⟩ => op_in_str pins s σ H x y v u Q I rx ry ⟨i, j, e1, e2, q⟩
theorem op_notInS2 : OpR X (compareOp .NotIn) rNotInS2 := fun pins s σ H x y v u Q I rx ry ⟨i, j, e1, e2, q⟩ => op_notIn_str pins s σ H x y v u Q I rx ry ⟨i, j, e1, e2, by
  have e : (Builtin.Str.occurrences j i 0 j.length 1).isEmpty = !Txt.contains j i := by unfold Txt.contains; rw [Bool.not_not]
  first | exact q | (rw [e]; exact q)⟩
theorem rd_in {neg : Bool} (r0 : R2) (h0 : ∀ (H : Hp) (i j : Str) (Q : VK), Q (.bl (neg ^^ Txt.contains j i)) H → r0 (.str i) (.str j) H Q) : OpD b (RE b) (fun x y H Q => r0 x y H Q ∨ rInP neg x y H Q) (gIn neg) := by
  intro Z H x y dx dy Q Qd gd rx ry h k
  have lst : ∀ {p : PyData} {q : List PyData}, Rb b Z H x (.py p) → Rb b Z H y (.py (.list q)) → (p.plain = true ∧ PyData.plainAll q = true ∧ (p.depth ≤ 60 ∨ PyData.depthAll q ≤ 60) ∧ Qd (.py (.bool (neg ^^ q.any fun y => PyData.eqv y p)))) → rInP neg x y H Q :=
    fun {p q} rx ry ⟨h1, h2, h3, h⟩ => ⟨p, q, rx.q, .inl ry.q, h1, h2, h3, k _ H (.py (.bool _)) Ex.refl gd.g (.bl _) h⟩
  have tup : ∀ {p : PyData} {q : List PyData}, Rb b Z H x (.py p) → Rb b Z H y (.py (.tuple q)) → (p.plain = true ∧ PyData.plainAll q = true ∧ (p.depth ≤ 60 ∨ PyData.depthAll q ≤ 60) ∧ Qd (.py (.bool (neg ^^ q.any fun y => PyData.eqv y p)))) → rInP neg x y H Q :=
    fun {p q} rx ry ⟨h1, h2, h3, h⟩ => ⟨p, q, rx.q, .inr ry.q, h1, h2, h3, k _ H (.py (.bool _)) Ex.refl gd.g (.bl _) h⟩
  match dx, dy, h, rx, ry with
  | .py (.str i), .py (.str j), h, rx, ry =>
    rw [rx.str, ry.str]
    exact .inl (h0 H i j Q (k _ H (.py (.bool _)) Ex.refl gd.g (.bl _) h))
  | .py .none, .py (.list q), h, rx, ry => exact .inr (lst rx ry h)
  | .py (.bool _), .py (.list q), h, rx, ry => exact .inr (lst rx ry h)
  | .py (.int _), .py (.list q), h, rx, ry => exact .inr (lst rx ry h)
  | .py (.str _), .py (.list q), h, rx, ry => exact .inr (lst rx ry h)
  | .py (.list _), .py (.list q), h, rx, ry => exact .inr (lst rx ry h)
  | .py (.tuple _), .py (.list q), h, rx, ry => exact .inr (lst rx ry h)
  | .py .none, .py (.tuple q), h, rx, ry => exact .inr (tup rx ry h)
  | .py (.bool _), .py (.tuple q), h, rx, ry => exact .inr (tup rx ry h)
  | .py (.int _), .py (.tuple q), h, rx, ry => exact .inr (tup rx ry h)
  | .py (.str _), .py (.tuple q), h, rx, ry => exact .inr (tup rx ry h)
  | .py (.list _), .py (.tuple q), h, rx, ry => exact .inr (tup rx ry h)
  | .py (.tuple _), .py (.tuple q), h, rx, ry => exact .inr (tup rx ry h)
  | .py (.dict _), .py (.list q), h, rx, ry => exact .inr (lst rx ry h)
  | .py (.dict _), .py (.tuple q), h, rx, ry => exact .inr (tup rx ry h)
theorem vt_in (hu : X.A.units + 64 < cLine) (h1 : VX X b W e1 t1) (h2 : VX X b W e2 t2) (hm : behindInMarks .In e2 = false := by rfl) : VTe X b W (.Compare e1 [.In] [e2] pos) (vTst (vBin (gIn false) t1 t2)) :=
  vt_cmp (OpR.or op_inS2 (op_inP hu)) (rd_in rInS2 fun H i j Q q => ⟨i, j, rfl, rfl, by rw [Bool.false_xor] at q; exact q⟩) h1 h2 hm
theorem vt_notIn (hu : X.A.units + 64 < cLine) (h1 : VX X b W e1 t1) (h2 : VX X b W e2 t2) (hm : behindInMarks .NotIn e2 = false := by rfl) : VTe X b W (.Compare e1 [.NotIn] [e2] pos) (vTst (vBin (gIn true) t1 t2)) :=
  vt_cmp (OpR.or op_notInS2 (op_notInP hu)) (rd_in rNotInS2 fun H i j Q q => ⟨i, j, rfl, rfl, by rw [Bool.true_xor] at q; exact q⟩) h1 h2 hm
/-! ### is None -/
@[simp] def isNn : PyData → Bool
  | .none => true
  | _ => false
@[simp] def gIsN (neg : Bool) : D → D → (D → Prop) → Prop
  | .py p, .py .none, Q => Q (.py (.bool (neg ^^ isNn p)))
  | .raw v, .py .none, Q => Q (.py (.bool (neg ^^ decide (v = V.non))))
  | .obj _ _ _, .py .none, Q => Q (.py (.bool neg))
  | _, _, _ => False
theorem Rq.isN {Z : Addr → Prop} {H : Hp} {v : V} {p : PyData} (r : Rq Z H v p) : decide (v = V.non) = isNn p := by
  cases r <;> rfl
theorem rd_isN {neg : Bool} {f : Bool → Bool} (hf : ∀ k, f k = (neg ^^ k)) : OpD b (RE b) (fun x y H Q => y = .non ∧ Q (.bl (f (decide (x = .non)))) H) (gIsN neg) := by
  intro Z H x y dx dy Q Qd gd rx ry h k
  match dx, dy, h, rx, ry with
  | .py p, .py .none, h, rx, ry =>
    refine ⟨ry.none, ?_⟩
    rw [rx.q.isN, hf]
    exact k _ H (.py (.bool _)) Ex.refl gd.g (.bl _) h
  | .raw v, .py .none, h, rx, ry =>
    refine ⟨ry.none, ?_⟩
    have e : x = v := by
      rcases rx with r | ⟨a, e, _, _, q⟩
      · exact r
      · exact q.elim
    rw [hf, e]
    exact k _ H (.py (.bool _)) Ex.refl gd.g (.bl _) h
  | .obj _ _ _, .py .none, h, rx, ry =>
    refine ⟨ry.none, ?_⟩
    obtain ⟨dx, xs, e, _⟩ := rx.obj
    subst e
    rw [hf, decide_eq_false (by intro h; cases h), Bool.xor_false]
    exact k _ H (.py (.bool _)) Ex.refl gd.g (.bl _) h
theorem vt_notN (h1 : VX X b W e1 t1) (h2 : VX X b W e2 t2) : VTe X b W (.Compare e1 [.IsNot] [e2] pos) (vTst (vBin (gIsN true) t1 t2)) := vt_cmp op_notN (rd_isN (f := not) fun k => by rw [Bool.true_xor]) h1 h2 (nobehind _ (by decide) (by decide))
/-! ### chains, and, or, not, if -/
@[simp] def vChain (g g' : D → D → (D → Prop) → Prop) (ta tb tc : VT) : VT := fun ρ Q E => ta ρ (fun x => tb ρ (fun y => g x y fun z => ∃ k, z = .py (.bool k) ∧ if k = true then tc ρ (fun w => g' y w Q) E else Q (.py (.bool false))) E) E
@[simp] def vAnd (ta tb : VT) : VT := fun ρ Q E => ta ρ (fun x => ∃ k, x = .py (.bool k) ∧ if k = true then tb ρ Q E else Q (.py (.bool false))) E
@[simp] def vOr (ta tb : VT) : VT := fun ρ Q E => ta ρ (fun x => ∃ k, x = .py (.bool k) ∧ if k = true then Q (.py (.bool true)) else tb ρ Q E) E
@[simp] def vNot (ta : VT) : VT := fun ρ Q E => ta ρ (fun x => ∃ k, x = .py (.bool k) ∧ Q (.py (.bool (!k)))) E
@[simp] def vIf (c : VB) (ta tb : VT) : VT := fun ρ Q E => c ρ (fun k => if k = true then ta ρ Q E else tb ρ Q E) E
theorem ve_if {c : Expr} {tc : VB} (hc : VTe X b W c tc) (h1 : VE X b W e1 t1) (h2 : VE X b W e2 t2) : VE X b W (.IfExp c e1 e2 pos) (vIf tc t1 t2) :=
  pe_mono (pe_ifExp hc h1 h2) fun σ H Q ⟨Zo, Z, ρ, Qd, Ed, v, q, l, m⟩ => ⟨Zo, Z, ρ, _, Ed, v, q, fun k H1 x1 g1 q1 => by
    cases k with
    | true => exact ⟨Zo, Z, ρ, _, Ed, v.ex x1 g1, q1, fun y H2 d2 x2 g2 r2 q2 => l y H2 d2 (x1.trans x2) g2 r2 q2, fun c z H2 er x2 g2 r2 q2 => m c z H2 er (x1.trans x2) g2 r2 q2⟩
    | false => exact ⟨Zo, Z, ρ, _, Ed, v.ex x1 g1, q1, fun y H2 d2 x2 g2 r2 q2 => l y H2 d2 (x1.trans x2) g2 r2 q2, fun c z H2 er x2 g2 r2 q2 => m c z H2 er (x1.trans x2) g2 r2 q2⟩, m⟩
/-! ### tests -/
@[simp] def wAnd (t u : VB) : VB := fun ρ Q E => t ρ (fun c => if c = true then u ρ Q E else Q false) E
@[simp] def wOr (t u : VB) : VB := fun ρ Q E => t ρ (fun c => if c = true then Q true else u ρ Q E) E
@[simp] def wNot (t : VB) : VB := fun ρ Q E => t ρ (fun c => Q (!c)) E
/-- and, or: whatever their whole is -/
def VWe (X : Cx) (b : Bg) (W : WX) (e : Expr) (t : VB) : Prop := PW X e (LB b W t)
theorem pw_mono {e : Expr} {t t' : TT} (h : PW X e t) (m : ∀ σ H Q, t' σ H Q → t σ H Q) : PW X e t' := ⟨fun w pins s σ H Q I q => h.run w pins s σ H Q I (m σ H Q q)⟩
theorem VWe.pt {t : VB} (h : VWe X b W e t) : VTe X b W e t := PW.pt h
theorem lb_then {k : Bool} {u : VB} {Zo Z : Addr → Prop} {σ : L2.St} {H H1 : Hp} {ρ : VEnv} {Q : Bool → Hp → Prop} {Qd : Bool → Prop} {Ed : Er → Prop} (v : VOk b Zo Z σ H ρ) (l : ∀ k H', Ex b H H' → b.G H' → Qd k → Q k H') (m : ∀ c x H' er, Ex b H H' → b.G H' → ErRp b Z H' c x er → Ed er → W c x σ H')
    (x1 : Ex b H H1) (g1 : b.G H1) (q : u ρ Qd Ed) : LB b W u σ H1 Q :=
  ⟨Zo, Z, ρ, _, Ed, v.ex x1 g1, q, fun k H2 x2 g2 q2 => l k H2 (x1.trans x2) g2 q2, fun c z H2 er x2 g2 r2 q2 => m c z H2 er (x1.trans x2) g2 r2 q2⟩
theorem vw_and1 {t : VB} (h : VTe X b W e t) : VWe X b W (.BoolOp .And [e] pos) t := pw_and1 h
theorem vw_or1 {t : VB} (h : VTe X b W e t) : VWe X b W (.BoolOp .Or [e] pos) t := pw_or1 h
theorem vw_and {t u : VB} (h1 : VTe X b W e1 t) (h2 : VWe X b W (.BoolOp .And (e2 :: es) pos) u) : VWe X b W (.BoolOp .And (e1 :: e2 :: es) pos) (wAnd t u) :=
  pw_mono (pw_and h1 h2) fun σ H Q ⟨Zo, Z, ρ, Qd, Ed, v, q, l, m⟩ => ⟨Zo, Z, ρ, _, Ed, v, q, fun k H1 x1 g1 q1 => by
    cases k with
    | true => exact lb_then (k := true) v l m x1 g1 q1
    | false => exact l false H1 x1 g1 q1, m⟩
theorem vw_or {t u : VB} (h1 : VTe X b W e1 t) (h2 : VWe X b W (.BoolOp .Or (e2 :: es) pos) u) : VWe X b W (.BoolOp .Or (e1 :: e2 :: es) pos) (wOr t u) :=
  pw_mono (pw_or h1 h2) fun σ H Q ⟨Zo, Z, ρ, Qd, Ed, v, q, l, m⟩ => ⟨Zo, Z, ρ, _, Ed, v, q, fun k H1 x1 g1 q1 => by
    cases k with
    | false => exact lb_then (k := true) v l m x1 g1 q1
    | true => exact l true H1 x1 g1 q1, m⟩
theorem vt_not {t : VB} (h1 : VTe X b W e1 t) : VTe X b W (.UnaryOp .Not e1 pos) (wNot t) :=
  pt_mono (pt_not h1) fun σ H Q ⟨Zo, Z, ρ, Qd, Ed, v, q, l, m⟩ => ⟨Zo, Z, ρ, _, Ed, v, q, fun k H1 x1 g1 q1 => l _ H1 x1 g1 q1, m⟩
end
end VL
set_option Elab.async false
set_option linter.all false
set_option maxRecDepth 100000
set_option maxHeartbeats 4000000
namespace VL
open PySem PySem.Spec PyProof.Rows L2
/-- a text by its signs -/
abbrev mkS (l : List Nat) : Str := ⟨l.toArray⟩
abbrev sl (x : Str) : List Nat := x.cps.toList
/-! ### many borrowed values -/
inductive Rbs (b : Bg) (Z : Addr → Prop) (H : Hp) : List V → List D → Prop
  | nil : Rbs b Z H [] []
  | cons {v : V} {d : D} {vs : List V} {ds : List D} : Rb b Z H v d → Rbs b Z H vs ds → Rbs b Z H (v :: vs) (d :: ds)
def LAX (b : Bg) (W : WX) (t : VA) : TA := fun σ H Q => ∃ Zo Z ρ Qd Ed, VOk b Zo Z σ H ρ ∧ t ρ Qd Ed ∧
  (∀ v H' d, Ex b H H' → b.G H' → Rbs b Z H' v d → Qd d → Q v H') ∧ ∀ c x H' er, Ex b H H' → b.G H' → ErRp b Z H' c x er → Ed er → W c x σ H'
def VXs (X : Cx) (b : Bg) (W : WX) (es : List Expr) (t : VA) : Prop := PA X es (LAX b W t)
/-- a rule of a list of values -/
def CalD (b : Bg) (R : (Addr → Prop) → Hp → Hp → V → D → Prop) (r : List V → Hp → VK → Prop) (g : List D → (D → Prop) → Prop) : Prop :=
  ∀ (Z : Addr → Prop) (H : Hp) (x : List V) (dx : List D) (Q : VK) (Qd : D → Prop), Gd b Z H → Rbs b Z H x dx → g dx Qd → (∀ v H' d, Ex b H H' → b.G H' → R Z H H' v d → Qd d → Q v H') → r x H Q
@[simp] def vCal (g : List D → (D → Prop) → Prop) (ta : VA) : VT := fun ρ Q E => ta ρ (fun ds => g ds Q) E
@[simp] def vMet (g : D → List D → (D → Prop) → Prop) (to : VT) (ta : VA) : VT := fun ρ Q E => to ρ (fun d => ta ρ (fun ds => g d ds Q) E) E
section
variable {X : Cx} {b : Bg} {W : WX} {e e1 e2 e3 : Expr} {es : List Expr} {t t1 t2 t3 : VT} {u : VA} {pos p : Pos} {r : List V → Hp → VK → Prop} {g : List D → (D → Prop) → Prop} {x : Str} {id T : String}
theorem vxs_nil : VXs X b W [] vNil := pa_mono pa_nil fun σ H Q ⟨Zo, Z, ρ, Qd, Ed, v, q, l, _⟩ => l [] H [] Ex.refl v.g .nil q
theorem vxs_cons (h : VX X b W e t) (k : VXs X b W es u) (hs : starEach (e :: es) X.env = (false, eval e X.env) :: starEach es X.env := by rfl) : VXs X b W (e :: es) (vCons t u) :=
  pa_mono (pa_cons h k hs) fun σ H Q ⟨Zo, Z, ρ, Qd, Ed, v, q, l, m⟩ => ⟨Zo, Z, ρ, _, Ed, v, q, fun x H1 d x1 g1 r1 q1 =>
    ⟨Zo, Z, ρ, _, Ed, v.ex x1 g1, q1, fun xs H2 ds x2 g2 r2 q2 => l (x :: xs) H2 (d :: ds) (x1.trans x2) g2 (.cons (r1.ex ((v.ex x1 g1).keep x2) x2) r2) q2, fun c y H2 er x2 g2 r2 q2 => m c y H2 er (x1.trans x2) g2 r2 q2⟩, m⟩
theorem coreC {R : (Addr → Prop) → Hp → Hp → V → D → Prop} (hR : ∀ Z H H1 H2 v d, b.G H1 → Ex b H H1 → R Z H1 H2 v d → R Z H H2 v d) (hd : CalD b R r g) : ∀ σ H Q, LE b W R (vCal g u) σ H Q → tCB r (LAX b W u) σ H Q :=
  fun σ H Q ⟨Zo, Z, ρ, Qd, Ed, v, q, l, m⟩ => ⟨Zo, Z, ρ, _, Ed, v, q, fun xs H1 ds x1 g1 r1 q1 => hd Z H1 xs ds Q Qd (v.ex x1 g1).gd r1 q1 fun w H2 d x2 g2 r2 q2 => l w H2 d (x1.trans x2) g2 (hR _ _ _ _ _ _ g1 x1 r2) q2, m⟩
theorem ve_callB (hc : CallR X (.builtin id) r) (hd : CalD b (RE b) r g) (hg : Gl X x) (hm : X.mg x = none) (hv : bootBuiltins x = some (.builtin id)) (ha : VXs X b W (e :: es) u) (hn : x ≠ "__name__" := by decide) (hdb : (x == ("__debug__" : Str)) = false := by decide)
    (he : starEach (e :: es) X.env = (false, eval e X.env) :: starEach es X.env := by rfl) (hpl : (backTo pos (starEach es X.env)).any (·.1) = false := by rfl) : VE X b W (.Call (.Name x p) (e :: es) [] pos) (vCal g u) :=
  pe_mono (pe_callB hc hg hm hv ha hn hdb he hpl) (coreC hRE hd)
theorem vn_callB (hc : CallR X (.builtin id) r) (hd : CalD b (RN b) r g) (hg : Gl X x) (hm : X.mg x = none) (hv : bootBuiltins x = some (.builtin id)) (ha : VXs X b W (e :: es) u) (hn : x ≠ "__name__" := by decide) (hdb : (x == ("__debug__" : Str)) = false := by decide)
    (he : starEach (e :: es) X.env = (false, eval e X.env) :: starEach es X.env := by rfl) (hpl : (backTo pos (starEach es X.env)).any (·.1) = false := by rfl) : VN X b W (.Call (.Name x p) (e :: es) [] pos) (vCal g u) :=
  pe_mono (pe_callB hc hg hm hv ha hn hdb he hpl) (coreC hRN hd)
theorem ve_callTy (hc : CallR X (.type T) r) (hd : CalD b (RE b) r g) (hg : Gl X x) (hm : X.mg x = none) (hv : bootBuiltins x = some (.type T)) (ha : VXs X b W (e :: es) u) (hn : x ≠ "__name__" := by decide) (hdb : (x == ("__debug__" : Str)) = false := by decide)
    (he : starEach (e :: es) X.env = (false, eval e X.env) :: starEach es X.env := by rfl) (hpl : (backTo pos (starEach es X.env)).any (·.1) = false := by rfl) : VE X b W (.Call (.Name x p) (e :: es) [] pos) (vCal g u) :=
  pe_mono (pe_callTy hc hg hm hv ha hn hdb he hpl) (coreC hRE hd)
theorem vn_callTy (hc : CallR X (.type T) r) (hd : CalD b (RN b) r g) (hg : Gl X x) (hm : X.mg x = none) (hv : bootBuiltins x = some (.type T)) (ha : VXs X b W (e :: es) u) (hn : x ≠ "__name__" := by decide) (hdb : (x == ("__debug__" : Str)) = false := by decide)
    (he : starEach (e :: es) X.env = (false, eval e X.env) :: starEach es X.env := by rfl) (hpl : (backTo pos (starEach es X.env)).any (·.1) = false := by rfl) : VN X b W (.Call (.Name x p) (e :: es) [] pos) (vCal g u) :=
  pe_mono (pe_callTy hc hg hm hv ha hn hdb he hpl) (coreC hRN hd)
/-! ### items -/
@[simp] def gIx : D → D → (D → Prop) → Prop
  | .py (.list xs), .py (.int i), Q => ∃ d, atI xs i = some d ∧ Q (.py d)
  | .py (.tuple xs), .py (.int i), Q => ∃ d, atI xs i = some d ∧ Q (.py d)
  | .py (.str z), .py (.int i), Q => z.length ≤ sizeLine ∧ ∃ c, atI z.cps.toList i = some c ∧ Q (.py (.str (mkS [c])))
  | _, _, _ => False
theorem Rqs.atI {Z : Addr → Prop} {H : Hp} {v : List V} {d : List PyData} {i : Int} {x : PyData} (r : Rqs Z H v d) (h : L2.atI d i = some x) : ∃ u, L2.atI v i = some u ∧ Rq Z H u x := by
  unfold L2.atI at h ⊢
  rw [r.length]
  cases e : ixN d.length i with
  | none => rw [e] at h; cases h
  | some j =>
    rw [e] at h
    exact r.get h
theorem rd_ix {K : PySem.W.Frag} : OpD b (RE b) (rIx K) gIx := by
  intro Z H x y dx dy Q Qd gd rx ry h k
  match dx, dy, h, rx, ry with
  | .py (.list xs), .py (.int i), ⟨d, e, h⟩, rx, ry =>
    obtain ⟨a, us, rfl, ha, qa⟩ := rx.list
    obtain ⟨w, e1, r1⟩ := qa.atI e
    exact .inl ⟨a, us, i, w, rfl, ry.int, SqL.of ha, e1, k w H (.py d) Ex.refl gd.g r1 h⟩
  | .py (.tuple xs), .py (.int i), ⟨d, e, h⟩, rx, ry =>
    obtain ⟨a, oa, us, rfl, ha, da, na, qa⟩ := rx.tuple
    obtain ⟨w, e1, r1⟩ := qa.atI e
    exact .inr (.inl ⟨a, us, i, w, rfl, ry.int, SqT.th ha, e1, k w H (.py d) Ex.refl gd.g r1 h⟩)
  | .py (.str z), .py (.int i), ⟨hl, c, e, h⟩, rx, ry =>
    exact .inr (.inr ⟨z, i, c, rx.str, ry.int, hl, e, k _ H (.py (.str (mkS [c]))) Ex.refl gd.g (.str _) h⟩)
theorem ve_ix (h1 : VX X b W e1 t1) (h2 : VX X b W e2 t2) (hs : PlainIx e2 := by exact fun _ _ => rfl) : VE X b W (.Subscript e1 e2 pos) (vBin gIx t1 t2) :=
  pe_mono (pe_ix ix_seq h1 h2 hs) (core2 hRE rd_ix)
/-! ### slices -/
def cutL {α : Type} (xs : List α) (lo hi : Option Int) : List α := (xs.drop (HT.sIx xs.length 0 lo)).take (HT.sIx xs.length xs.length hi - HT.sIx xs.length 0 lo)
theorem Rqs.cut {Z : Addr → Prop} {H : Hp} {v : List V} {d : List PyData} (lo hi : Option Int) (r : Rqs Z H v d) : Rqs Z H (cutV v lo hi) (cutL d lo hi) := by
  unfold cutV cutL
  rw [r.length]
  exact (r.drop _).take _
theorem cutL_whole {α : Type} {xs : List α} {lo hi : Option Int} (h : HT.sIx xs.length 0 lo = 0 ∧ HT.sIx xs.length xs.length hi = xs.length) : cutL xs lo hi = xs := by
  unfold cutL
  rw [h.1, h.2]
  simp
abbrev VO := VEnv → (Option Int → Prop) → (Er → Prop) → Prop
def LO (b : Bg) (W : WX) (t : VO) : TO := fun σ H Q => ∃ Zo Z ρ Qd Ed, VOk b Zo Z σ H ρ ∧ t ρ Qd Ed ∧
  (∀ k H', Ex b H H' → b.G H' → Qd k → Q k H') ∧ ∀ c x H' er, Ex b H H' → b.G H' → ErRp b Z H' c x er → Ed er → W c x σ H'
def VPt (X : Cx) (b : Bg) (W : WX) (e : Option Expr) (t : VO) : Prop := PO X e (LO b W t)
theorem po_mono {e : Option Expr} {t t' : TO} (h : PO X e t) (m : ∀ σ H Q, t' σ H Q → t σ H Q) : PO X e t' := ⟨fun pins s σ H Q I q => h.run pins s σ H Q I (m σ H Q q)⟩
@[simp] def oNo : VO := fun _ Q _ => Q none
@[simp] def oAt (t : VT) : VO := fun ρ Q E => t ρ (fun d => ∃ i, d = .py (.int i) ∧ Q (some i)) E
theorem vo_no : VPt X b W none oNo := po_mono po_none fun σ H Q ⟨Zo, Z, ρ, Qd, Ed, v, q, l, m⟩ => l none H Ex.refl v.g q
theorem vo_at (h : VX X b W e t) : VPt X b W (some e) (oAt t) := po_mono (po_some h) fun σ H Q ⟨Zo, Z, ρ, Qd, Ed, v, q, l, m⟩ => ⟨Zo, Z, ρ, _, Ed, v, q, fun x H1 d x1 g1 r1 ⟨i, e, q1⟩ => by
    subst e
    exact ⟨i, r1.int, l _ H1 x1 g1 q1⟩, m⟩
@[simp] def gSl : D → Option Int → Option Int → (D → Prop) → Prop
  | .py (.list xs), lo, hi, Q => Q (.py (.list (cutL xs lo hi)))
  | .py (.tuple xs), lo, hi, Q => Q (.py (.tuple (cutL xs lo hi)))
  | .py (.str z), lo, hi, Q => z.length ≤ sizeLine ∧ Q (.py (.str (mkS (cutL z.cps.toList lo hi))))
  | _, _, _, _ => False
@[simp] def gSlL : D → Option Int → Option Int → (D → Prop) → Prop
  | .py (.list xs), lo, hi, Q => Q (.py (.list (cutL xs lo hi)))
  | _, _, _, _ => False
@[simp] def vSl (g : D → Option Int → Option Int → (D → Prop) → Prop) (t : VT) (tl th : VO) : VT := fun ρ Q E => t ρ (fun x => tl ρ (fun lo => th ρ (fun hi => g x lo hi Q) E) E) E
def SliD (b : Bg) (R : (Addr → Prop) → Hp → Hp → V → D → Prop) (r : V → Option Int → Option Int → Hp → VK → Prop) (g : D → Option Int → Option Int → (D → Prop) → Prop) : Prop :=
  ∀ (Z : Addr → Prop) (H : Hp) (x : V) (lo hi : Option Int) (dx : D) (Q : VK) (Qd : D → Prop), Gd b Z H → Rb b Z H x dx → g dx lo hi Qd → (∀ v H' d, Ex b H H' → b.G H' → R Z H H' v d → Qd d → Q v H') → r x lo hi H Q
theorem coreS {R : (Addr → Prop) → Hp → Hp → V → D → Prop} {r : V → Option Int → Option Int → Hp → VK → Prop} {g : D → Option Int → Option Int → (D → Prop) → Prop} {tl th : VO} (hR : ∀ Z H H1 H2 v d, b.G H1 → Ex b H H1 → R Z H1 H2 v d → R Z H H2 v d) (hd : SliD b R r g) :
    ∀ σ H Q, LE b W R (vSl g t tl th) σ H Q → tSl r (LE b W (fun Z _ H v d => Rb b Z H v d) t) (LO b W tl) (LO b W th) σ H Q :=
  fun σ H Q ⟨Zo, Z, ρ, Qd, Ed, v, q, l, m⟩ => ⟨Zo, Z, ρ, _, Ed, v, q, fun x H1 d x1 g1 r1 q1 =>
    ⟨Zo, Z, ρ, _, Ed, v.ex x1 g1, q1, fun lo H2 x2 g2 q2 => ⟨Zo, Z, ρ, _, Ed, (v.ex x1 g1).ex x2 g2, q2, fun hi H3 x3 g3 q3 =>
        hd Z H3 x lo hi d Q Qd (((v.ex x1 g1).ex x2 g2).ex x3 g3).gd ((r1.ex ((v.ex x1 g1).keep x2) x2).ex (((v.ex x1 g1).ex x2 g2).keep x3) x3) q3 fun u H4 d4 x4 g4 r4 q4 => l u H4 d4 (((x1.trans x2).trans x3).trans x4) g4 (hR _ _ _ _ _ _ g3 ((x1.trans x2).trans x3) r4) q4,
        fun c z H3 er x3 g3 r3 q3 => m c z H3 er ((x1.trans x2).trans x3) g3 r3 q3⟩,
      fun c z H2 er x2 g2 r2 q2 => m c z H2 er (x1.trans x2) g2 r2 q2⟩, m⟩
theorem rd_slL {K : PySem.W.Frag} : SliD b (RN b) (rSlL K) gSlL := by
  intro Z H x lo hi dx Q Qd gd rx h k
  match dx, h, rx with
  | .py (.list xs), h, rx =>
    obtain ⟨a, us, rfl, ha, qa⟩ := rx.list
    exact ⟨a, us, rfl, SqL.of ha, fun p hp => k _ _ (.py (.list (cutL xs lo hi))) (Ex.new hp) (gd.new hp) ⟨p, rfl, hp, _, upd_same, (qa.cut lo hi).up' hp⟩ h⟩
theorem cutS_eq (z : Str) (lo hi : Option Int) : cutS z lo hi = mkS (cutL z.cps.toList lo hi) := by
  unfold cutS cutL
  first | rfl | simp [Str.length]
theorem rd_sl {K : PySem.W.Frag} : SliD b (RE b) (fun x lo hi H Q => rSlL K x lo hi H Q ∨ (fun x lo hi H Q => rSlF K x lo hi H Q ∨ rSlS x lo hi H Q) x lo hi H Q) gSl := by
  intro Z H x lo hi dx Q Qd gd rx h k
  match dx, h, rx with
  | .py (.list xs), h, rx =>
    refine .inl (rd_slL Z H x lo hi (.py (.list xs)) Q Qd gd rx h fun v H' d x1 g1 ⟨a, e, n, o⟩ q1 => k v H' d x1 g1 ?_ q1)
    subst e
    exact o.rp (fun _ z => .inl z) (gd.fresh n)
  | .py (.tuple xs), h, rx =>
    obtain ⟨a, oa, us, rfl, ha, da, na, qa⟩ := rx.tuple
    refine .inr (.inl ⟨a, us, rfl, SqT.th ha, fun hw => ?_, fun _ p o hp ho => ?_⟩)
    · rw [qa.length] at hw
      have h : Qd (.py (.tuple (cutL xs lo hi))) := h
      rw [cutL_whole hw] at h
      exact k _ H (.py (.tuple xs)) Ex.refl gd.g (.tup ha da na qa) h
    · exact k _ _ (.py (.tuple (cutL xs lo hi))) (Ex.new hp) (gd.new hp) (.tup upd_same ho (gd.fresh hp) ((qa.cut lo hi).up hp)) h
  | .py (.str z), ⟨hl, h⟩, rx =>
    refine .inr (.inr ⟨z, rx.str, hl, ?_⟩)
    rw [cutS_eq]
    exact k _ H (.py (.str _)) Ex.refl gd.g (.str _) h
theorem ve_sl {lo hi : Option Expr} {tl th : VO} {p2 : Pos} (h : VX X b W e t) (h1 : VPt X b W lo tl) (h2 : VPt X b W hi th) : VE X b W (.Subscript e (.Slice lo hi none p2) pos) (vSl gSl t tl th) :=
  pe_mono (pe_slice (sl_list.or (sl_tupF.or sl_str)) h h1 h2) (coreS hRE rd_sl)
end
end VL
set_option Elab.async false
set_option linter.all false
set_option maxRecDepth 100000
set_option maxHeartbeats 4000000
namespace VL
open PySem PySem.Spec PyProof.Rows L2
section
variable {X : Cx} {b : Bg} {W : WX} {e e1 e2 e3 o : Expr} {es : List Expr} {t t1 t2 t3 : VT} {u : VA} {pos p apos cpos : Pos} {x name : Str} {id T : String}
theorem Rbs.one {Z : Addr → Prop} {H : Hp} {v : List V} {d : D} (r : Rbs b Z H v [d]) : ∃ x, v = [x] ∧ Rb b Z H x d := by
  cases r with
  | cons r t => cases t; exact ⟨_, rfl, r⟩
theorem Rbs.two {Z : Addr → Prop} {H : Hp} {v : List V} {d d2 : D} (r : Rbs b Z H v [d, d2]) : ∃ x y, v = [x, y] ∧ Rb b Z H x d ∧ Rb b Z H y d2 := by
  cases r with
  | cons r t =>
    cases t with
    | cons r2 t => cases t; exact ⟨_, _, rfl, r, r2⟩
/-! ### built-in functions -/
@[simp] def gLen : List D → (D → Prop) → Prop
  | [.py (.list xs)], Q => Q (.py (.int xs.length))
  | [.py (.tuple xs)], Q => Q (.py (.int xs.length))
  | [.py (.str z)], Q => z.length ≤ sizeLine ∧ Q (.py (.int z.length))
  | [.py (.dict xs)], Q => Q (.py (.int xs.length))
  | _, _ => False
def rLen (K : PySem.W.Frag) : List V → Hp → VK → Prop := fun xs H Q => (fun xs H Q => ∃ x n, xs = [x] ∧ LenV K x H n ∧ Q (.int n) H) xs H Q ∨ (fun xs H Q => ∃ a kvs, xs = [V.ref a] ∧ H a = some (.dK kvs) ∧ Q (.int kvs.length) H) xs H Q
theorem rd_len : CalD b (RE b) (rLen X.K) gLen := by
  intro Z H vs ds Q Qd gd rx h k
  match ds, h, rx with
  | [.py (.list xs)], h, rx =>
    obtain ⟨x, rfl, r⟩ := rx.one
    obtain ⟨a, us, rfl, ha, qa⟩ := r.list
    exact .inl ⟨_, us.length, rfl, .inl ⟨us, SqL.of ha, rfl⟩, k _ H (.py (.int us.length)) Ex.refl gd.g (.int _) (by rw [qa.length]; exact h)⟩
  | [.py (.tuple xs)], h, rx =>
    obtain ⟨x, rfl, r⟩ := rx.one
    obtain ⟨a, oa, us, rfl, ha, da, na, qa⟩ := r.tuple
    exact .inl ⟨_, us.length, rfl, .inr ⟨us, SqT.th ha, rfl⟩, k _ H (.py (.int us.length)) Ex.refl gd.g (.int _) (by rw [qa.length]; exact h)⟩
  | [.py (.str z)], ⟨hl, h⟩, rx =>
    obtain ⟨x, rfl, r⟩ := rx.one
    exact .inl ⟨_, z.length, rfl, (by rw [r.str]; exact ⟨hl, rfl⟩), k _ H (.py (.int z.length)) Ex.refl gd.g (.int _) h⟩
  | [.py (.dict xs)], h, rx =>
    obtain ⟨x, rfl, r⟩ := rx.one
    obtain ⟨a, us, rfl, ha, qa⟩ := r.dict
    exact .inr ⟨a, us, rfl, ha, k _ H (.py (.int us.length)) Ex.refl gd.g (.int _) (by rw [qa.length]; exact h)⟩
theorem ve_len (hg : Gl X "len") (hm : X.mg "len" = none) (ha : VXs X b W [e] u) (he : starEach [e] X.env = (false, eval e X.env) :: starEach [] X.env := by rfl) (hpl : (backTo pos (starEach [] X.env)).any (·.1) = false := by rfl) :
    VE X b W (.Call (.Name "len" p) [e] [] pos) (vCal gLen u) := ve_callB (CallR.or call_len call_lenD) rd_len hg hm PySem.boot_len ha (by decide) (by decide) he hpl
@[simp] def gAbs : List D → (D → Prop) → Prop
  | [.py (.int i)], Q => Q (.py (.int (if i < 0 then -i else i)))
  | _, _ => False
@[simp] def gInt : List D → (D → Prop) → Prop
  | [.py (.int i)], Q => Q (.py (.int i))
  | [.py (.bool k)], Q => Q (.py (.int (if k then 1 else 0)))
  | [.py (.str z)], Q => ∃ n, intText? z = some n ∧ z.length ≤ 640 ∧ Q (.py (.int n))
  | _, _ => False
theorem rd_int : CalD b (RE b) (fun xs H Q => (fun xs H Q => (∃ i, xs = [.int i] ∧ Q (.int i) H) ∨ ∃ k, xs = [.bl k] ∧ Q (.int (if k then 1 else 0)) H) xs H Q ∨ (fun xs H Q => ∃ a n, xs = [.str a] ∧ PySem.intText? a = some n ∧ a.length ≤ 640 ∧ Q (.int n) H) xs H Q) gInt := by
  intro Z H vs ds Q Qd gd rx h k
  match ds, h, rx with
  | [.py (.int i)], h, rx =>
    obtain ⟨x, rfl, r⟩ := rx.one
    exact .inl (.inl ⟨i, by rw [r.int], k _ H (.py (.int i)) Ex.refl gd.g (.int i) h⟩)
  | [.py (.bool i)], h, rx =>
    obtain ⟨x, rfl, r⟩ := rx.one
    exact .inl (.inr ⟨i, by rw [r.bool], k _ H (.py (.int _)) Ex.refl gd.g (.int _) h⟩)
  | [.py (.str z)], ⟨n, h1, h2, h⟩, rx =>
    obtain ⟨x, rfl, r⟩ := rx.one
    exact .inr ⟨z, n, by rw [r.str], h1, h2, k _ H (.py (.int n)) Ex.refl gd.g (.int n) h⟩
@[simp] def gStr : List D → (D → Prop) → Prop
  | [.py (.int i)], Q => i.natAbs.log2 < 1920 ∧ Q (.py (.str (toString i)))
  | [.py (.str z)], Q => Q (.py (.str z))
  | _, _ => False
@[simp] def gBool : List D → (D → Prop) → Prop
  | [.py (.int i)], Q => Q (.py (.bool (i != 0)))
  | [.py (.bool k)], Q => Q (.py (.bool k))
  | _, _ => False
@[simp] def gTuple : List D → (D → Prop) → Prop
  | [.py (.list xs)], Q => Q (.py (.tuple xs))
  | [.py (.tuple xs)], Q => Q (.py (.tuple xs))
  | _, _ => False
theorem rd_tuple {K : PySem.W.Frag} : CalD b (RE b) (rTupOf K) gTuple := by
  intro Z H vs ds Q Qd gd rx h k
  match ds, h, rx with
  | [.py (.list xs)], h, rx =>
    obtain ⟨x, rfl, r⟩ := rx.one
    obtain ⟨a, us, rfl, ha, qa⟩ := r.list
    exact ⟨a, us, rfl, .inl ⟨SqL.of ha, fun p o hp ho => k _ _ (.py (.tuple xs)) (Ex.new hp) (gd.new hp) (.tup upd_same ho (gd.fresh hp) (qa.up hp)) h⟩⟩
  | [.py (.tuple xs)], h, rx =>
    obtain ⟨x, rfl, r⟩ := rx.one
    obtain ⟨a, oa, us, rfl, ha, da, na, qa⟩ := r.tuple
    exact ⟨a, us, rfl, .inr ⟨SqT.th ha, k _ H (.py (.tuple xs)) Ex.refl gd.g (.tup ha da na qa) h⟩⟩
@[simp] def gList : List D → (D → Prop) → Prop
  | [.py (.list xs)], Q => Q (.py (.list xs))
  | [.py (.tuple xs)], Q => Q (.py (.list xs))
  | _, _ => False
theorem rd_list {K : PySem.W.Frag} : CalD b (RN b) (fun xs H Q => ∃ p ys, xs = [.ref p] ∧ (SqL K H p ys ∨ SqT K H p ys) ∧ ∀ l, H l = none → Q (.ref l) (upd H l (.lst ys))) gList := by
  intro Z H vs ds Q Qd gd rx h k
  match ds, h, rx with
  | [.py (.list xs)], h, rx =>
    obtain ⟨x, rfl, r⟩ := rx.one
    obtain ⟨a, us, rfl, ha, qa⟩ := r.list
    exact ⟨a, us, rfl, .inl (SqL.of ha), fun p hp => k _ _ (.py (.list xs)) (Ex.new hp) (gd.new hp) ⟨p, rfl, hp, us, upd_same, qa.up' hp⟩ h⟩
  | [.py (.tuple xs)], h, rx =>
    obtain ⟨x, rfl, r⟩ := rx.one
    obtain ⟨a, oa, us, rfl, ha, da, na, qa⟩ := r.tuple
    exact ⟨a, us, rfl, .inr (SqT.th ha), fun p hp => k _ _ (.py (.list xs)) (Ex.new hp) (gd.new hp) ⟨p, rfl, hp, us, upd_same, qa.up' hp⟩ h⟩
def allB : List PyData → Option (List Bool)
  | [] => some []
  | .bool k :: r => (allB r).map (k :: ·)
  | _ :: _ => none
def allI : List PyData → Option (List Int)
  | [] => some []
  | .int k :: r => (allI r).map (k :: ·)
  | _ :: _ => none
def allS : List PyData → Option (List Str)
  | [] => some []
  | .str k :: r => (allS r).map (k :: ·)
  | _ :: _ => none
theorem allI_map (l : List Int) : allI (l.map PyData.int) = some l := by
  induction l with
  | nil => rfl
  | cons a l ih => simp [allI, ih]
theorem allI_of : ∀ {l : List PyData} {bs : List Int}, allI l = some bs → l = bs.map PyData.int
  | [], _, h => by cases h; rfl
  | .int k :: r, bs, h => by
    cases e : allI r with
    | none => rw [allI, e] at h; cases h
    | some q => rw [allI, e] at h; cases h; rw [List.map_cons, ← allI_of e]
  | .none :: _, _, h | .bool _ :: _, _, h | .str _ :: _, _, h | .list _ :: _, _, h | .tuple _ :: _, _, h | .dict _ :: _, _, h => by cases h
theorem allS_of : ∀ {l : List PyData} {bs : List Str}, allS l = some bs → l = bs.map PyData.str
  | [], _, h => by cases h; rfl
  | .str k :: r, bs, h => by
    cases e : allS r with
    | none => rw [allS, e] at h; cases h
    | some q => rw [allS, e] at h; cases h; rw [List.map_cons, ← allS_of e]
  | .none :: _, _, h | .bool _ :: _, _, h | .int _ :: _, _, h | .list _ :: _, _, h | .tuple _ :: _, _, h | .dict _ :: _, _, h => by cases h
@[simp] def gSum : List D → (D → Prop) → Prop
  | [.py (.list xs)], Q => ∃ ns, allI xs = some ns ∧ Q (.py (.int ns.sum))
  | _, _ => False
@[simp] def gAll : List D → (D → Prop) → Prop
  | [.py (.list xs)], Q => ∃ ns, allB xs = some ns ∧ Q (.py (.bool (ns.all fun k => k)))
  | _, _ => False
@[simp] def gAny : List D → (D → Prop) → Prop
  | [.py (.list xs)], Q => ∃ ns, allB xs = some ns ∧ Q (.py (.bool (ns.any fun k => k)))
  | _, _ => False
/-- the greatest, the least -/
def maxL : List Int → Int
  | [] => 0
  | [a] => a
  | a :: r => max a (maxL r)
def minL : List Int → Int
  | [] => 0
  | [a] => a
  | a :: r => min a (minL r)
@[simp] def gMax : List D → (D → Prop) → Prop
  | [.py (.list xs)], Q => ∃ ns, allI xs = some ns ∧ ns ≠ [] ∧ Q (.py (.int (maxL ns)))
  | [.py (.int i), .py (.int j)], Q => Q (.py (.int (max i j)))
  | _, _ => False
@[simp] def gMin : List D → (D → Prop) → Prop
  | [.py (.list xs)], Q => ∃ ns, allI xs = some ns ∧ ns ≠ [] ∧ Q (.py (.int (minL ns)))
  | [.py (.int i), .py (.int j)], Q => Q (.py (.int (min i j)))
  | _, _ => False
/-! ### isinstance of built-in kinds -/
/-- is data of that built-in class? -/
@[simp] def dInt : PyData → Bool
  | .int _ => true | .bool _ => true | _ => false
@[simp] def dBool : PyData → Bool
  | .bool _ => true | _ => false
@[simp] def dStr : PyData → Bool
  | .str _ => true | _ => false
@[simp] def dTuple : PyData → Bool
  | .tuple _ => true | _ => false
@[simp] def dList : PyData → Bool
  | .list _ => true | _ => false
def isK (T : String) (d : PyData) : Option Bool := if T = "int" then some (dInt d) else if T = "bool" then some (dBool d) else if T = "str" then some (dStr d) else if T = "tuple" then some (dTuple d) else if T = "list" then some (dList d) else none
@[simp] theorem isK_int (d : PyData) : isK "int" d = some (dInt d) := rfl
@[simp] theorem isK_bool (d : PyData) : isK "bool" d = some (dBool d) := rfl
@[simp] theorem isK_str (d : PyData) : isK "str" d = some (dStr d) := rfl
@[simp] theorem isK_tuple (d : PyData) : isK "tuple" d = some (dTuple d) := rfl
@[simp] theorem isK_list (d : PyData) : isK "list" d = some (dList d) := rfl
def tyName : PyData → String
  | .none => "NoneType" | .bool _ => "bool" | .int _ => "int" | .str _ => "str" | .list _ => "list" | .tuple _ => "tuple" | .dict _ => "dict"
theorem isi_int (d : PyData) : kitB (tyName d) "int" = some (dInt d) := by cases d <;> (simp only [tyName, dInt]; decide +kernel)
theorem isi_bool (d : PyData) : kitB (tyName d) "bool" = some (dBool d) := by cases d <;> (simp only [tyName, dBool]; decide +kernel)
theorem isi_str (d : PyData) : kitB (tyName d) "str" = some (dStr d) := by cases d <;> (simp only [tyName, dStr]; decide +kernel)
theorem isi_tuple (d : PyData) : kitB (tyName d) "tuple" = some (dTuple d) := by cases d <;> (simp only [tyName, dTuple]; decide +kernel)
theorem isi_list (d : PyData) : kitB (tyName d) "list" = some (dList d) := by cases d <;> (simp only [tyName, dList]; decide +kernel)
theorem isi_of {T : String} {d : PyData} {c : Bool} (h : isK T d = some c) : kitB (tyName d) T = some c := by
  unfold isK at h
  split at h
  · subst T; rw [isi_int]; exact h
  split at h
  · subst T; rw [isi_bool]; exact h
  split at h
  · subst T; rw [isi_str]; exact h
  split at h
  · subst T; rw [isi_tuple]; exact h
  split at h
  · subst T; rw [isi_list]; exact h
  · cases h
theorem tyx_of {K : PySem.W.Frag} {Z : Addr → Prop} {H : Hp} {v : V} {d : PyData} (r : Rq Z H v d) : TyX K H v (.type (tyName d)) := by
  cases r with
  | non => exact .base .non
  | bl k => exact .base (.bl k)
  | int i => exact .base (.int i)
  | str x => exact .base (.str x)
  | lst e n q => exact .base (.lst e)
  | tup e h n q => exact .fTuple e
  | dct e n q => exact .base (.dK e)
@[simp] def gIsi : List D → (D → Prop) → Prop
  | [.py d, .raw (.ty T)], Q => ∃ k, isK T d = some k ∧ Q (.py (.bool k))
  | _, _ => False
theorem rd_isi {K : PySem.W.Frag} : CalD b (RE b) (rIsi K) gIsi := by
  intro Z H vs ds Q Qd gd rx h k
  match ds, h, rx with
  | [.py d, .raw (.ty T)], ⟨c, e, h⟩, rx =>
    obtain ⟨x, y, rfl, r1, r2⟩ := rx.two
    have ey : y = .ty T := by
      rcases r2 with r | ⟨a, e, _, _, q⟩
      · exact r
      · exact q.elim
    subst ey
    exact ⟨x, .ty T, _, .type T, c, rfl, .ty T, tyx_of r1.q, kit_ty (isi_of e), k _ H (.py (.bool c)) Ex.refl gd.g (.bl c) h⟩
/-- the built-in class as a value -/
theorem ve_ty {T : String} {x : Str} (hg : Gl X x) (hm : X.mg x = none) (hv : bootBuiltins x = some (.type T)) (hn : x ≠ "__name__" := by decide) (hd : (x == ("__debug__" : Str)) = false := by decide) : VE X b W (.Name x pos) (vC (.raw (.ty T))) :=
  ve_raw (pe_bltn hg hm hv rfl hn hd)
end
end VL
set_option Elab.async false
set_option linter.all false
set_option maxRecDepth 100000
set_option maxHeartbeats 4000000
namespace VL
open PySem PySem.Spec PyProof.Rows L2
/-- VOk in a running def: H0 the heap at its entry (or a loop's), M what may have been written since -/
structure FOk (b : Bg) (H0 : Hp) (M Zo Z : Addr → Prop) (σ : L2.St) (H : Hp) (ρ : VEnv) : Prop where
  v : VOk b Zo Z σ H ρ
  ext : ∀ a o, H0 a = some o → ¬ b.B a → ¬ M a → H a = some o
  fr : ∀ (i : Nat) (d : D) (a : Addr), ρ[i]? = some (.own d) → σ[i]? = some (some (.ref a)) → M a ∨ H0 a = none
structure VEnds where
  nx : VEnv → Prop
  rt : D → Prop
  bk : VEnv → Prop
  ct : VEnv → Prop
  ex : VEnv → Er → Prop
abbrev VS := VEnv → VEnds → Prop
/-- what the ends of a reading mean over the heap -/
structure Lk (b : Bg) (W : WX) (H0 : Hp) (M Zo : Addr → Prop) (De : VEnds) (D : Ends) : Prop where
  nx : ∀ Z σ H ρ, FOk b H0 M Zo Z σ H ρ → De.nx ρ → D.nx σ H
  rt : ∀ v H d, (∀ a o, H0 a = some o → ¬ b.B a → ¬ M a → H a = some o) → b.G H → Rp b Zo H v d → De.rt d → D.rt v H
  bk : ∀ Z σ H ρ, FOk b H0 M Zo Z σ H ρ → De.bk ρ → D.bk σ H
  ct : ∀ Z σ H ρ, FOk b H0 M Zo Z σ H ρ → De.ct ρ → D.ct σ H
  ex : ∀ c x Z σ H ρ er, FOk b H0 M Zo Z σ H ρ → ErRp b Z H c x er → De.ex ρ er → W c x σ H
def LS (b : Bg) (W : WX) (t : VS) : TS := fun D σ H => ∃ H0 M Zo Z ρ De, FOk b H0 M Zo Z σ H ρ ∧ t ρ De ∧ Lk b W H0 M Zo De D
def VSt (X : Cx) (b : Bg) (W : WX) (st : Stmt) (t : VS) : Prop := PS X st (LS b W t)
def VSs (X : Cx) (b : Bg) (W : WX) (st : List Stmt) (t : VS) : Prop := PSs X st (LS b W t)
section
variable {b : Bg} {W : WX} {H0 : Hp} {M Zo Z : Addr → Prop} {σ : L2.St} {H H' : Hp} {ρ : VEnv} {De : VEnds} {Dn : Ends}
theorem FOk.ex (f : FOk b H0 M Zo Z σ H ρ) (x : Ex b H H') (g : b.G H') : FOk b H0 M Zo Z σ H' ρ := ⟨f.v.ex x g, fun a o e nb nm => x a o (f.ext a o e nb nm) nb, f.fr⟩
/-- the error link of an expression -/
theorem Lk.er (l : Lk b W H0 M Zo De Dn) (f : FOk b H0 M Zo Z σ H ρ) : ∀ c x H' er, Ex b H H' → b.G H' → ErRp b Z H' c x er → De.ex ρ er → W c x σ H' := fun c x H' er x1 g1 r q => l.ex c x Z σ H' ρ er (f.ex x1 g1) r q
/-- the owned addresses but slot i's -/
def zBut (Zo : Addr → Prop) (σ : L2.St) (ρ : VEnv) (i : Nat) : Addr → Prop := fun a => Zo a ∨ ∃ (j : Nat) (e : D), j ≠ i ∧ ρ[j]? = some (.own e) ∧ σ[j]? = some (some (.ref a))
theorem VOk.but (v : VOk b Zo Z σ H ρ) (i : Nat) : ∀ a, zBut Zo σ ρ i a → Z a := fun a z => by
  rcases z with z | ⟨j, e, _, h1, h2⟩
  · exact v.zo a z
  · obtain ⟨c, h3, h4, _⟩ := v.own j e h1
    rw [h2] at h3; cases h3; exact h4
theorem FOk.set (f : FOk b H0 M Zo Z σ H ρ) {i : Nat} {u : V} {d : D} (hi : i < ρ.length) (r : Rp b Z H u d) : FOk b H0 M Zo (zBut Zo σ ρ i) (σ.set i (some u)) H (ρ.set i (.shr d)) := by
  have v := f.v
  have sub := v.but i
  have hiσ : i < σ.length := by rw [← v.len]; exact hi
  have ow : ∀ {j : Nat} {e : D}, (ρ.set i (.shr d))[j]? = some (.own e) → j ≠ i ∧ ρ[j]? = some (.own e) := fun {j e} h => by
    by_cases hj : j = i
    · subst hj
      rw [List.getElem?_set_self hi] at h; cases h
    · rw [List.getElem?_set_ne (Ne.symm hj)] at h
      exact ⟨hj, h⟩
  refine ⟨⟨v.g, v.zb, fun a z => .inl z, fun a z => v.dom a (sub a z), fun a z => ?_, fun j e h => ?_, fun j k e e2 a h1 h2 h3 h4 => ?_, fun j e h => ?_, by simpa using v.len⟩, f.ext, fun j e a h1 h2 => ?_⟩
  · rcases z with z | ⟨j, e, hj, h1, h2⟩
    · exact .inl z
    · exact .inr ⟨j, e, by rw [List.getElem?_set_ne (Ne.symm hj)]; exact h1, by rw [List.getElem?_set_ne (Ne.symm hj)]; exact h2⟩
  · obtain ⟨hj, h⟩ := ow h
    obtain ⟨a, h1, h2, h3, h4⟩ := v.own j e h
    exact ⟨a, by rw [List.getElem?_set_ne (Ne.symm hj)]; exact h1, .inr ⟨j, e, hj, h, h1⟩, h3, h4.mono (fun c z => .inl (sub c z)) (fun _ _ e _ => e) fun _ e => e⟩
  · obtain ⟨hj, h1⟩ := ow h1
    obtain ⟨hk, h2⟩ := ow h2
    rw [List.getElem?_set_ne (Ne.symm hj)] at h3
    rw [List.getElem?_set_ne (Ne.symm hk)] at h4
    exact v.inj j k e e2 a h1 h2 h3 h4
  · by_cases hj : j = i
    · subst hj
      rw [List.getElem?_set_self hi] at h; cases h
      exact ⟨u, List.getElem?_set_self hiσ, r.mono (fun c z => .inl (sub c z)) fun _ _ e _ => e⟩
    · rw [List.getElem?_set_ne (Ne.symm hj)] at h
      obtain ⟨w, h1, h2⟩ := v.shr j e h
      exact ⟨w, by rw [List.getElem?_set_ne (Ne.symm hj)]; exact h1, h2.mono (fun c z => .inl (sub c z)) fun _ _ e _ => e⟩
  · obtain ⟨hj, h1⟩ := ow h1
    rw [List.getElem?_set_ne (Ne.symm hj)] at h2
    exact f.fr j e a h1 h2
/-- slot i's object is changed -/
theorem FOk.mut (f : FOk b H0 M Zo Z σ H ρ) {i : Nat} {a : Addr} {d d' : D} {o : HO} (hr : ρ[i]? = some (.own d)) (hs : σ[i]? = some (some (.ref a))) (new : Ow b Z (upd H a o) a d') : FOk b H0 M Zo Z σ (upd H a o) (ρ.set i (.own d')) := by
  have v := f.v
  obtain ⟨c, h1, hz, hzo, how⟩ := v.own i d hr
  rw [hs] at h1; cases h1
  have hi : i < ρ.length := (List.getElem?_eq_some_iff.mp hr).1
  have nb : ¬ b.B a := fun z => hzo (v.zb a z)
  have keep : ∀ c o', H c = some o' → ¬ Z c → upd H a o c = some o' := fun c o' e n => by
    rw [upd_ne (fun q => n (by rw [q]; exact hz))]
    exact e
  have ow : ∀ {j : Nat} {e : D}, (ρ.set i (.own d'))[j]? = some (.own e) → (j = i ∧ e = d') ∨ (j ≠ i ∧ ρ[j]? = some (.own e)) := fun {j e} h => by
    by_cases hj : j = i
    · subst hj
      rw [List.getElem?_set_self hi] at h; cases h; exact .inl ⟨rfl, rfl⟩
    · rw [List.getElem?_set_ne (Ne.symm hj)] at h
      exact .inr ⟨hj, h⟩
  have old : ∀ {j : Nat} {e : D}, (ρ.set i (.own d'))[j]? = some (.own e) → ∃ e', ρ[j]? = some (.own e') := fun {j e} h => by
    rcases ow h with ⟨rfl, rfl⟩ | ⟨_, h⟩
    · exact ⟨d, hr⟩
    · exact ⟨e, h⟩
  refine ⟨⟨b.loc H _ (fun c hc => upd_ne fun q => nb (by rw [← q]; exact hc)) (fun c o ho e => by rw [upd_ne (fun q => how.noext o ho (by rw [← q]; exact e))]; exact e) v.g, v.zb, v.zo, fun c z => ?_, fun c z => ?_, fun j e h => ?_, fun j k e e2 c h1 h2 h3 h4 => ?_, fun j e h => ?_, by simpa using v.len⟩, fun c o' e nb' nm => ?_, fun j e c h1 h2 => ?_⟩
  · by_cases q : c = a
    · rw [q, upd_same]; simp
    · rw [upd_ne q]; exact v.dom c z
  · rcases v.zi c z with z | ⟨j, e, h1, h2⟩
    · exact .inl z
    · by_cases hj : j = i
      · subst hj
        exact .inr ⟨j, d', List.getElem?_set_self hi, h2⟩
      · exact .inr ⟨j, e, by rw [List.getElem?_set_ne (Ne.symm hj)]; exact h1, h2⟩
  · rcases ow h with ⟨rfl, rfl⟩ | ⟨hj, h⟩
    · exact ⟨a, hs, hz, hzo, new⟩
    · obtain ⟨c, h1, h2, h3, h4⟩ := v.own j e h
      have hca : c ≠ a := fun q => hj (v.inj j i e d a h hr (by rw [← q]; exact h1) hs)
      exact ⟨c, h1, h2, h3, h4.mono (fun _ z => .inl z) keep fun o' q => by rw [upd_ne hca]; exact q⟩
  · obtain ⟨e', h1⟩ := old h1
    obtain ⟨e2', h2⟩ := old h2
    exact v.inj j k e' e2' c h1 h2 h3 h4
  · by_cases hj : j = i
    · subst hj
      rw [List.getElem?_set_self hi] at h; cases h
    · rw [List.getElem?_set_ne (Ne.symm hj)] at h
      obtain ⟨w, h1, h2⟩ := v.shr j e h
      exact ⟨w, h1, h2.mono (fun _ z => .inl z) keep⟩
  · have h := f.ext c o' e nb' nm
    by_cases q : c = a
    · subst q
      rcases f.fr i d c hr hs with z | z
      · exact absurd z nm
      · rw [z] at e; cases e
    · rw [upd_ne q]; exact h
  · obtain ⟨e', h1⟩ := old h1
    exact f.fr j e' c h1 h2
/-- slot i's object is shared from now on -/
@[simp] def frz (i : Nat) (ρ : VEnv) : VEnv := match ρ[i]? with
  | some (.own d) => ρ.set i (.shr d)
  | _ => ρ
theorem FOk.frz (f : FOk b H0 M Zo Z σ H ρ) (i : Nat) : ∃ Z', FOk b H0 M Zo Z' σ H (VL.frz i ρ) := by
  unfold VL.frz
  cases hr : ρ[i]? with
  | none => exact ⟨Z, f⟩
  | some s =>
    cases s with
    | un => exact ⟨Z, f⟩
    | shr d => exact ⟨Z, f⟩
    | own d =>
      have v := f.v
      obtain ⟨a, hs, hz, hzo, ho⟩ := v.own i d hr
      have hi : i < ρ.length := (List.getElem?_eq_some_iff.mp hr).1
      have sub := v.but i
      have na : ¬ zBut Zo σ ρ i a := fun z => by
        rcases z with z | ⟨j, e, hj, h1, h2⟩
        · exact hzo z
        · exact hj (v.inj j i e d a h1 hr h2 hs)
      have rp : Rp b (zBut Zo σ ρ i) H (.ref a) d := ho.rp sub na
      have eσ : σ.set i (some (.ref a)) = σ := by
        apply List.ext_getElem?
        intro j
        by_cases hj : j = i
        · subst hj
          rw [List.getElem?_set_self (List.getElem?_eq_some_iff.mp hs).1, hs]
        · rw [List.getElem?_set_ne (Ne.symm hj)]
      refine ⟨zBut Zo σ ρ i, ?_⟩
      -- as FOk.set, but the value is no longer owned
      have ow : ∀ {j : Nat} {e : D}, (ρ.set i (.shr d))[j]? = some (.own e) → j ≠ i ∧ ρ[j]? = some (.own e) := fun {j e} h => by
        by_cases hj : j = i
        · subst hj
          rw [List.getElem?_set_self hi] at h; cases h
        · rw [List.getElem?_set_ne (Ne.symm hj)] at h
          exact ⟨hj, h⟩
      refine ⟨⟨v.g, v.zb, fun a z => .inl z, fun a z => v.dom a (sub a z), fun c z => ?_, fun j e h => ?_, fun j k e e2 c h1 h2 h3 h4 => ?_, fun j e h => ?_, by simpa using v.len⟩, f.ext, fun j e c h1 h2 => f.fr j e c (ow h1).2 h2⟩
      · rcases z with z | ⟨j, e, hj, h1, h2⟩
        · exact .inl z
        · exact .inr ⟨j, e, by rw [List.getElem?_set_ne (Ne.symm hj)]; exact h1, h2⟩
      · obtain ⟨hj, h⟩ := ow h
        obtain ⟨c, h1, h2, h3, h4⟩ := v.own j e h
        exact ⟨c, h1, .inr ⟨j, e, hj, h, h1⟩, h3, h4.mono (fun c z => .inl (sub c z)) (fun _ _ e _ => e) fun _ e => e⟩
      · exact v.inj j k e e2 c (ow h1).2 (ow h2).2 h3 h4
      · by_cases hj : j = i
        · subst hj
          rw [List.getElem?_set_self hi] at h; cases h
          exact ⟨.ref a, hs, rp⟩
        · rw [List.getElem?_set_ne (Ne.symm hj)] at h
          obtain ⟨w, h1, h2⟩ := v.shr j e h
          exact ⟨w, h1, h2.mono (fun c z => .inl (sub c z)) fun _ _ e _ => e⟩
/-- a value that may leave -/
theorem FOk.out (f : FOk b H0 M Zo Z σ H ρ) {u : V} {d : D} (r : Rp b Z H u d) : Rp b Zo H u d := r.mono (fun c z => .inl (f.v.zo c z)) fun _ _ e _ => e
end
/-! ### statements -/
section
variable {X : Cx} {b : Bg} {W : WX} {e e1 e2 : Expr} {st : Stmt} {sts : List Stmt} {t t1 t2 : VT} {u : VA} {g h : VS} {pos pos' : Pos} {i : Nat} {x : Str}
@[simp] def sNext : VS := fun ρ De => De.nx ρ
@[simp] def sSeq (g h : VS) : VS := fun ρ De => g ρ { De with nx := fun ρ' => h ρ' De }
theorem vs_nil : VSs X b W [] sNext := pss_mono pss_nil fun D σ H ⟨H0, M, Zo, Z, ρ, De, f, q, l⟩ => l.nx Z σ H ρ f q
theorem vs_cons (h1 : VSt X b W st g) (h2 : VSs X b W sts h) : VSs X b W (st :: sts) (sSeq g h) :=
  pss_mono (pss_cons h1 h2) fun D σ H ⟨H0, M, Zo, Z, ρ, De, f, q, l⟩ => ⟨H0, M, Zo, Z, ρ, _, f, q, ⟨fun Z' σ' H' ρ' f' q' => ⟨H0, M, Zo, Z', ρ', De, f', q', l⟩, l.rt, l.bk, l.ct, l.ex⟩⟩
theorem vs_one (h1 : VSt X b W st g) : VSs X b W [st] g := pss_mono (pss_one h1) fun _ _ _ q => q
/-- from here on slot i's object may be shared -/
@[simp] def sFrz (i : Nat) (g : VS) : VS := fun ρ De => g (frz i ρ) De
theorem vs_frz (i : Nat) (h : VSt X b W st g) : VSt X b W st (sFrz i g) := ps_mono h fun D σ H ⟨H0, M, Zo, Z, ρ, De, f, q, l⟩ => by
  obtain ⟨Z', f'⟩ := f.frz i
  exact ⟨H0, M, Zo, Z', _, De, f', q, l⟩
@[simp] def sBrk : VS := fun ρ De => De.bk ρ
@[simp] def sCnt : VS := fun ρ De => De.ct ρ
/-- name = value -/
@[simp] def sSet (i : Nat) (t : VT) : VS := fun ρ De => i < ρ.length ∧ t ρ (fun d => De.nx (ρ.set i (.shr d))) (De.ex ρ)
@[simp] def sSetN (i : Nat) (t : VT) : VS := fun ρ De => i < ρ.length ∧ t ρ (fun d => De.nx (ρ.set i (.own d))) (De.ex ρ)
theorem vs_set {te : TE} (hp : PS X (.Assign [.Name x pos'] e pos) (tAsg te (gName i))) (hm : ∀ σ H Q, LE b W (RE b) t σ H Q → te σ H Q) : VSt X b W (.Assign [.Name x pos'] e pos) (sSet i t) :=
  ps_mono hp fun D σ H ⟨H0, M, Zo, Z, ρ, De, f, ⟨hi, q⟩, l⟩ => hm σ H _ ⟨Zo, Z, ρ, _, _, f.v, q, fun v H' d x g r q' => l.nx _ _ H' _ ((f.ex x g).set hi r) q', l.er f⟩
theorem vs_asg (hN : X.N.Nodup) (hi : X.N[i]? = some x) (hx : Loc X.env.scope x) (he : VE X b W e t) (hs : swapsWith e (some (.Name x pos')) pos.line X.env = pure false := by rfl)
    (hf : X.fn x = true ∨ X.env.scope.names.lookup x = some .local := by first | exact .inl rfl | exact .inr rfl | assumption) : VSt X b W (.Assign [.Name x pos'] e pos) (sSet i t) :=
  vs_set (ps_set hN hi hx he hs hf) fun _ _ _ q => q
@[simp] def sExpr (t : VT) : VS := fun ρ De => t ρ (fun _ => De.nx ρ) (De.ex ρ)
theorem vs_expr (he : VE X b W e t) (hs : swapsWith e none pos.line X.env = pure false := by rfl) : VSt X b W (.Expr e pos) (sExpr t) :=
  ps_mono (ps_expr he hs) fun D σ H ⟨H0, M, Zo, Z, ρ, De, f, q, l⟩ => ⟨Zo, Z, ρ, _, _, f.v, q, fun v H' d x g r q' => l.nx _ _ H' _ (f.ex x g) q', l.er f⟩
@[simp] def sRet (t : VT) : VS := fun ρ De => t ρ De.rt (De.ex ρ)
theorem vs_ret (he : VE X b W e t) : VSt X b W (.Return (some e) pos) (sRet t) :=
  ps_mono (ps_ret he) fun D σ H ⟨H0, M, Zo, Z, ρ, De, f, q, l⟩ => ⟨Zo, Z, ρ, _, _, f.v, q, fun v H' d x g r q' => l.rt v H' d (f.ex x g).ext g ((f.ex x g).out r) q', l.er f⟩
@[simp] def sRetN : VS := fun _ De => De.rt (.py .none)
@[simp] def sIf (c : VB) (g h : VS) : VS := fun ρ De => c ρ (fun k => if k = true then g ρ De else h ρ De) (De.ex ρ)
theorem vs_if {c : Expr} {tc : VB} {xs ys : List Stmt} (hc : VTe X b W c tc) (h1 : VSs X b W xs g) (h2 : VSs X b W ys h) : VSt X b W (.If c xs ys pos) (sIf tc g h) :=
  ps_mono (ps_if hc h1 h2) fun D σ H ⟨H0, M, Zo, Z, ρ, De, f, q, l⟩ => ⟨Zo, Z, ρ, _, _, f.v, q, fun k H' x g q' => by
    cases k with
    | true => exact ⟨H0, M, Zo, Z, ρ, De, f.ex x g, q', l⟩
    | false => exact ⟨H0, M, Zo, Z, ρ, De, f.ex x g, q', l⟩, l.er f⟩
/-- name op= value -/
@[simp] def sAug (i : Nat) (g : D → D → (D → Prop) → Prop) (t : VT) : VS := fun ρ De => ∃ d, ρ[i]? = some (.shr d) ∧ t ρ (fun y => g d y fun z => De.nx (ρ.set i (.shr z))) (De.ex ρ)
/-! ### loops -/
/-- what an iterator gives: the items, one a turn, while what stood at H outside of Y stands -/
structure Wk (b : Bg) (Y Z : Addr → Prop) (H : Hp) (J : It) (ds : List D) : Prop where
  go : ∀ (k : Nat) (d : D) (H2 : Hp), ds[k]? = some d → (∀ a o, H a = some o → ¬ Y a → H2 a = some o) → b.G H2 → J.go k H2 ∧ ∀ v H3, J.yld k H2 v H3 → Ex b H2 H3 ∧ b.G H3 ∧ ∀ Z2 : Addr → Prop, (∀ a, Z2 a → Z a ∨ H a = none) → (∀ a, Z2 a → H2 a ≠ none) → Rp b Z2 H3 v d
  stop : ∀ (k : Nat) (H2 : Hp), ds.length = k → (∀ a o, H a = some o → ¬ Y a → H2 a = some o) → J.stop k H2
abbrev VIt := VEnv → (List D → Prop) → (Er → Prop) → Prop
def LI (b : Bg) (W : WX) (Y : (Addr → Prop) → Addr → Prop) (t : VIt) : TI := fun σ H R => ∃ Zo Z ρ Qd Ed, VOk b Zo Z σ H ρ ∧ t ρ Qd Ed ∧
  (∀ J H' ds, Ex b H H' → b.G H' → Wk b (Y Z) Z H' J ds → Qd ds → R J H') ∧ ∀ c x H' er, Ex b H H' → b.G H' → ErRp b Z H' c x er → Ed er → W c x σ H'
/-- for a loop: what is owned may change; for a block: nothing but the zone -/
def VI (X : Cx) (b : Bg) (W : WX) (tg iter : Expr) (t : VIt) : Prop := PI X tg iter (LI b W (fun Z => Z) t)
def VIb (X : Cx) (b : Bg) (W : WX) (tg iter : Expr) (t : VIt) : Prop := PI X tg iter (LI b W (fun _ => b.B) t)
/-- a target -/
abbrev VTg := D → VEnv → (VEnv → Prop) → Prop
abbrev VTgs := List D → VEnv → (VEnv → Prop) → Prop
/-- the slots but those at js are as they were -/
structure Same (js : List Nat) (σ σ' : L2.St) (ρ ρ' : VEnv) : Prop where
  len : σ'.length = σ.length
  out : ∀ j, j ∉ js → σ'[j]? = σ[j]?
  env : ∀ j, j ∉ js → ρ'[j]? = ρ[j]?
theorem Same.refl {js : List Nat} {σ : L2.St} {ρ : VEnv} : Same js σ σ ρ ρ := ⟨rfl, fun _ _ => rfl, fun _ _ => rfl⟩
theorem Same.trans {js ks : List Nat} {σ σ1 σ2 : L2.St} {ρ ρ1 ρ2 : VEnv} (h : Same js σ σ1 ρ ρ1) (k : Same ks σ1 σ2 ρ1 ρ2) : Same (js ++ ks) σ σ2 ρ ρ2 :=
  ⟨k.len.trans h.len, fun j hj => (k.out j fun m => hj (List.mem_append_right _ m)).trans (h.out j fun m => hj (List.mem_append_left _ m)), fun j hj => (k.env j fun m => hj (List.mem_append_right _ m)).trans (h.env j fun m => hj (List.mem_append_left _ m))⟩
def LG (b : Bg) (js : List Nat) (t : VTg) : TG := fun v σ H Q => ∃ H0 M Zo Z ρ d Qd, FOk b H0 M Zo Z σ H ρ ∧ Rp b Z H v d ∧ t d ρ Qd ∧ ∀ Z' σ' ρ', (∀ a, Z' a → Z a) → Same js σ σ' ρ ρ' → FOk b H0 M Zo Z' σ' H ρ' → Qd ρ' → Q σ' H
def VG (X : Cx) (b : Bg) (tg : Expr) (js : List Nat) (t : VTg) : Prop := PG X tg (LG b js t)
theorem pg_mono {e : Expr} {t t' : TG} (h : PG X e t) (m : ∀ v σ H Q, t' v σ H Q → t v σ H Q) : PG X e t' := ⟨fun pins s σ H v u Q I r q => h.run pins s σ H v u Q I r (m v σ H Q q)⟩
@[simp] def tgName (i : Nat) : VTg := fun d ρ Q => i < ρ.length ∧ Q (ρ.set i (.shr d))
theorem vg_name (hN : X.N.Nodup) (hi : X.N[i]? = some x) (hx : Loc X.env.scope x) (hf : X.fn x = true ∨ X.env.scope.names.lookup x = some .local := by first | exact .inl rfl | exact .inr rfl | assumption) : VG X b (.Name x pos) [i] (tgName i) :=
  pg_mono (pg_name hN hi hx hf) fun v σ H Q ⟨H0, M, Zo, Z, ρ, d, Qd, f, r, ⟨hl, q⟩, k⟩ => k _ _ _ (f.v.but i) ⟨List.length_set .., fun j hj => List.getElem?_set_ne fun e => hj (by rw [e]; exact List.mem_singleton.mpr rfl), fun j hj => List.getElem?_set_ne fun e => hj (by rw [e]; exact List.mem_singleton.mpr rfl)⟩ (f.set hl r) q
/-- several targets -/
def LGs (b : Bg) (js : List Nat) (t : VTgs) : TGs := fun v σ H Q => ∃ H0 M Zo Z ρ d Qd, FOk b H0 M Zo Z σ H ρ ∧ Rps b Z H v d ∧ t d ρ Qd ∧ ∀ Z' σ' ρ', (∀ a, Z' a → Z a) → Same js σ σ' ρ ρ' → FOk b H0 M Zo Z' σ' H ρ' → Qd ρ' → Q σ' H
def VGs (X : Cx) (b : Bg) (tg : List Expr) (js : List Nat) (t : VTgs) : Prop := PGs X tg (LGs b js t)
theorem pgs_mono {e : List Expr} {t t' : TGs} (h : PGs X e t) (m : ∀ v σ H Q, t' v σ H Q → t v σ H Q) : PGs X e t' := ⟨fun pins s σ H v u Q I r q => h.run pins s σ H v u Q I r (m v σ H Q q)⟩
@[simp] def tgNil : VTgs
  | [], ρ, Q => Q ρ
  | _, _, _ => False
@[simp] def tgCons (t : VTg) (u : VTgs) : VTgs
  | d :: r, ρ, Q => t d ρ fun ρ' => u r ρ' Q
  | _, _, _ => False
theorem vgs_nil : VGs X b [] [] tgNil := pgs_mono pgs_nil fun v σ H Q ⟨H0, M, Zo, Z, ρ, d, Qd, f, r, q, k⟩ => by
  cases r with
  | nil => exact ⟨rfl, k Z σ ρ (fun _ z => z) .refl f q⟩
  | cons _ _ => exact False.elim q
theorem vgs_cons {tg : Expr} {tgs : List Expr} {js ks : List Nat} {t : VTg} {u : VTgs} (h1 : VG X b tg js t) (h2 : VGs X b tgs ks u)
    (hs : (assignEach (tg :: tgs) X.env).map (·.2) = assign tg X.env :: (assignEach tgs X.env).map (·.2) := by rfl) : VGs X b (tg :: tgs) (js ++ ks) (tgCons t u) :=
  pgs_mono (pgs_cons h1 h2 hs) fun v σ H Q ⟨H0, M, Zo, Z, ρ, d, Qd, f, r, q, k⟩ => by
    cases r with
    | nil => exact False.elim q
    | @cons _ d1 _ dr r1 rr => exact ⟨_, _, rfl, H0, M, Zo, Z, ρ, d1, _, f, r1, q, fun Z' σ' ρ' sub sm f' q' => ⟨H0, M, Zo, Z', ρ', dr, Qd, f', rr.mono (fun a z => .inl (sub a z)) (fun _ _ e _ => e), q', fun Z2 σ2 ρ2 sub2 sm2 f2 q2 => k Z2 σ2 ρ2 (fun a z => sub a (sub2 a z)) (sm.trans sm2) f2 q2⟩⟩
@[simp] def tgTup (n : Nat) (u : VTgs) : VTg
  | .py (.tuple ps), ρ, Q => ps.length = n ∧ u (ps.map D.py) ρ Q
  | _, _, _ => False
theorem tgTup_ex {n : Nat} {u : VTgs} : ∀ {d : D} {ρ : VEnv} {Q : VEnv → Prop}, tgTup n u d ρ Q → ∃ ps, d = .py (.tuple ps) ∧ ps.length = n ∧ u (ps.map D.py) ρ Q
  | .py (.tuple ps), _, _, h => ⟨ps, rfl, h⟩
theorem vg_tup {tgs : List Expr} {k n : Nat} {js : List Nat} {u : VTgs} (hc : X.calm = true) (h : VGs X b tgs js u) (hn : (assignEach tgs X.env).length = n := by rfl) (hst : (assignEach tgs X.env).findIdx? (·.1) = none := by rfl) : VG X b (.Tuple tgs k pos) js (tgTup n u) :=
  pg_mono (pg_tup hc h hn hst) fun v σ H Q ⟨H0, M, Zo, Z, ρ, d, Qd, f, r, hh, k⟩ => by
    obtain ⟨ps, e, hl, q⟩ := tgTup_ex hh
    subst e
    obtain ⟨a, o, xs, rfl, ha, ho, na, qa⟩ := Rb.tuple (b := b) (.inl r)
    exact ⟨a, xs, rfl, SqT.th ha, by rw [qa.length]; exact hl, H0, M, Zo, Z, ρ, _, Qd, f, qa.to, q, k⟩
/-- target = value -/
@[simp] def sAsg (t : VT) (g : VTg) : VS := fun ρ De => t ρ (fun d => g d ρ De.nx) (De.ex ρ)
theorem vs_asgT {tg : Expr} {js : List Nat} {g : VTg} (he : VE X b W e t) (hg : VG X b tg js g) (hs : swapsWithSole [tg] e pos.line X.env = pure false := by rfl) (hw : swappedStores [tg] e X.env = pure none := by rfl)
    (h1 : (assignEach [tg] X.env).map (·.2) = [assign tg X.env] := by rfl) : VSt X b W (.Assign [tg] e pos) (sAsg t g) :=
  ps_mono (ps_asg he hg hs hw h1) fun D σ H ⟨H0, M, Zo, Z, ρ, De, f, q, l⟩ => ⟨Zo, Z, ρ, _, _, f.v, q, fun v H' d x g r q' =>
    ⟨H0, M, Zo, Z, ρ, d, _, f.ex x g, r, q', fun Z' σ' ρ' _ _ f' q2 => l.nx Z' σ' H' ρ' f' q2⟩, l.er f⟩
end
end VL
set_option Elab.async false
set_option linter.all false
set_option maxRecDepth 100000
set_option maxHeartbeats 4000000
namespace VL
open PySem PySem.Spec PyProof.Rows L2
/-! ### values some of which are new -/
inductive Rm (b : Bg) (Y : Addr → Prop) (H H' : Hp) : List V → List (Bool × D) → List Addr → Prop
  | nil : Rm b Y H H' [] [] []
  | sh {v : V} {d : D} {vs : List V} {ms : List (Bool × D)} {N : List Addr} : Rp b Y H' v d → Rm b Y H H' vs ms N → Rm b Y H H' (v :: vs) ((false, d) :: ms) N
  | nw {a : Addr} {d : D} {vs : List V} {ms : List (Bool × D)} {N : List Addr} : H a = none → a ∉ N → Ow b Y H' a d → Rm b Y H H' vs ms N → Rm b Y H H' (.ref a :: vs) ((true, d) :: ms) (a :: N)
abbrev VAm := VEnv → (List (Bool × D) → Prop) → (Er → Prop) → Prop
def LAm (b : Bg) (W : WX) (t : VAm) : TA := fun σ H Q => ∃ Zo Z ρ Qd Ed, VOk b Zo Z σ H ρ ∧ t ρ Qd Ed ∧
  (∀ vs H' ms N, Ex b H H' → b.G H' → Rm b (fun c => Z c ∨ c ∈ N) H H' vs ms N → Qd ms → Q vs H') ∧ ∀ c x H' er, Ex b H H' → b.G H' → ErRp b Z H' c x er → Ed er → W c x σ H'
def VMs (X : Cx) (b : Bg) (W : WX) (es : List Expr) (t : VAm) : Prop := PA X es (LAm b W t)
@[simp] def mNil : VAm := fun _ Q _ => Q []
@[simp] def mCons (k : Bool) (t : VT) (u : VAm) : VAm := fun ρ Q E => t ρ (fun d => u ρ (fun ds => Q ((k, d) :: ds)) E) E
section
variable {b : Bg} {Y Y' : Addr → Prop} {H H' H1 : Hp} {vs : List V} {ms : List (Bool × D)} {N : List Addr}
theorem Rm.sub (h : ∀ c, Y' c → Y c) : ∀ {vs : List V} {ms : List (Bool × D)} {N : List Addr}, Rm b Y H H' vs ms N → Rm b Y' H H' vs ms N
  | _, _, _, .nil => .nil
  | _, _, _, .sh r t => .sh (r.mono (fun c z => .inl (h c z)) fun _ _ e _ => e) (Rm.sub h t)
  | _, _, _, .nw hn hm o t => .nw hn hm (o.mono (fun c z => .inl (h c z)) (fun _ _ e _ => e) fun _ e => e) (Rm.sub h t)
theorem Rm.back (h : ∀ c, H1 c = none → H c = none) : ∀ {vs : List V} {ms : List (Bool × D)} {N : List Addr}, Rm b Y H1 H' vs ms N → Rm b Y H H' vs ms N
  | _, _, _, .nil => .nil
  | _, _, _, .sh r t => .sh r (Rm.back h t)
  | _, _, _, .nw hn hm o t => .nw (h _ hn) hm o (Rm.back h t)
theorem Rm.new : ∀ {vs : List V} {ms : List (Bool × D)} {N : List Addr}, Rm b Y H H' vs ms N → ∀ c ∈ N, H c = none ∧ H' c ≠ none
  | _, _, _, .nil, _, h => nomatch h
  | _, _, _, .sh _ t, c, h => Rm.new t c h
  | _, _, _, .nw hn _ o t, c, h => by
    rcases List.mem_cons.mp h with rfl | h
    · obtain ⟨u, e⟩ := o.at
      exact ⟨hn, by rw [e]; simp⟩
    · exact Rm.new t c h
theorem none_back (g : b.G H1) (x : Ex b H H1) (c : Addr) (h : H1 c = none) : H c = none := by
  cases q : H c with
  | none => rfl
  | some u =>
    by_cases hb : b.B c
    · exact absurd h (b.dom _ _ g hb)
    · rw [x c u q hb] at h; cases h
end
section
variable {b : Bg} {Zo Z : Addr → Prop} {σ : L2.St} {H H' : Hp} {ρ : VEnv}
/-- new addresses held apart by an outer one -/
theorem VOk.many (v : VOk b Zo Z σ H ρ) (x : Ex b H H') (g : b.G H') {N : List Addr} (hN : ∀ c ∈ N, H c = none ∧ H' c ≠ none) : VOk b (fun c => Zo c ∨ c ∈ N) (fun c => Z c ∨ c ∈ N) σ H' ρ := by
  have v' := v.ex x g
  have hz : ∀ c, (Z c ∨ c ∈ N) → Z c ∨ H c = none := fun c z => z.imp id fun m => (hN c m).1
  refine ⟨g, fun c z => .inl (v.zb c z), fun c z => z.imp (v.zo c) id, fun c z => z.elim (v'.dom c) fun m => (hN c m).2, fun c z => z.elim (fun z => (v.zi c z).imp .inl id) fun m => .inl (.inr m), fun i d e => ?_, v.inj, fun i d e => ?_, v.len⟩
  · obtain ⟨a, h1, h2, h3, h4⟩ := v.own i d e
    refine ⟨a, h1, .inl h2, fun z => z.elim h3 fun m => v.dom a h2 (hN a m).1, h4.mono hz (v.keep x) fun o q => x a o q fun z => h3 (v.zb a z)⟩
  · obtain ⟨u, h1, h2⟩ := v.shr i d e
    exact ⟨u, h1, h2.mono hz (v.keep x)⟩
end
section
variable {X : Cx} {b : Bg} {W : WX} {e e1 e2 : Expr} {es : List Expr} {t t1 t2 : VT} {u : VAm} {pos : Pos}
theorem vm_nil : VMs X b W [] mNil := pa_mono pa_nil fun σ H Q ⟨Zo, Z, ρ, Qd, Ed, v, q, l, _⟩ => l [] H [] [] Ex.refl v.g .nil q
theorem vm_sh (h : VE X b W e t) (k : VMs X b W es u) (hs : starEach (e :: es) X.env = (false, eval e X.env) :: starEach es X.env := by rfl) : VMs X b W (e :: es) (mCons false t u) :=
  pa_mono (pa_cons h k hs) fun σ H Q ⟨Zo, Z, ρ, Qd, Ed, v, q, l, m⟩ => ⟨Zo, Z, ρ, _, Ed, v, q, fun x H1 d x1 g1 r1 q1 =>
    ⟨Zo, Z, ρ, _, Ed, v.ex x1 g1, q1, fun xs H2 ms N x2 g2 r2 q2 => l (x :: xs) H2 ((false, d) :: ms) N (x1.trans x2) g2
        (.sh (r1.mono (fun c z => z.imp id fun m => (r2.new c m).1) ((v.ex x1 g1).keep x2)) (r2.back (none_back g1 x1))) q2,
      fun c y H2 er x2 g2 r2 q2 => m c y H2 er (x1.trans x2) g2 r2 q2⟩, m⟩
theorem vm_nw (h : VN X b W e t) (k : VMs X b W es u) (hs : starEach (e :: es) X.env = (false, eval e X.env) :: starEach es X.env := by rfl) : VMs X b W (e :: es) (mCons true t u) :=
  pa_mono (pa_cons h k hs) fun σ H Q ⟨Zo, Z, ρ, Qd, Ed, v, q, l, m⟩ => ⟨Zo, Z, ρ, _, Ed, v, q, fun x H1 d x1 g1 ⟨a, ex, hn, o⟩ q1 => by
    subst ex
    obtain ⟨oa, ea⟩ := o.at
    have h1 : H1 a ≠ none := by rw [ea]; simp
    have nb : ¬ b.B a := fun z => v.fresh hn (v.zo a (v.zb a z))
    have v1 := v.many x1 g1 (N := [a]) fun c hc => by rw [List.mem_singleton.mp hc]; exact ⟨hn, h1⟩
    refine ⟨_, _, ρ, _, Ed, v1, q1, fun xs H2 ms N x2 g2 r2 q2 => ?_, fun c y H2 er x2 g2 r2 q2 => m c y H2 er (x1.trans x2) g2 ?_ q2⟩
    · have hN : a ∉ N := fun hm => h1 (r2.new a hm).1
      refine l (.ref a :: xs) H2 ((true, d) :: ms) (a :: N) (x1.trans x2) g2 (.nw hn hN ?_ ((r2.sub fun c z => ?_).back (none_back g1 x1))) q2
      · refine o.mono (fun c z => ?_) (fun c oc ec nc => x2 c oc ec fun z => nc (.inl (v.zo c (v.zb c z)))) fun oc ec => x2 a oc ec nb
        rcases z with z | z
        · exact .inl (.inl z)
        · rcases List.mem_cons.mp z with rfl | z
          · exact .inl (.inr rfl)
          · exact .inr (r2.new c z).1
      · rcases z with z | z
        · exact .inl (.inl z)
        · rcases List.mem_cons.mp z with rfl | z
          · exact .inl (.inr (List.mem_singleton.mpr rfl))
          · exact .inr z
    · obtain ⟨h3, h4⟩ := r2
      refine ⟨h3, h4.imp id ?_⟩
      rintro ⟨c, ys, e1, e2, e3, e4⟩
      exact ⟨c, ys, e1, e2, fun z => e3 (.inl z), e4.mono (fun c z => .inl (.inl z)) fun _ _ e _ => e⟩, m⟩
end
/-! ### a, b, .. = values -/
def setA : List Nat → List V → L2.St → L2.St
  | i :: is, v :: vs, σ => setA is vs (σ.set i (some v))
  | _, _, σ => σ
@[simp] def setE : List Nat → List (Bool × D) → VEnv → VEnv
  | i :: is, (k, d) :: ms, ρ => setE is ms (ρ.set i (if k = true then .own d else .shr d))
  | _, _, ρ => ρ
section
variable {b : Bg} {W : WX} {H0 : Hp} {M Zo Z : Addr → Prop} {σ : L2.St} {H H' : Hp} {ρ : VEnv} {De : VEnds} {Dn : Ends}
theorem FOk.many (f : FOk b H0 M Zo Z σ H ρ) (x : Ex b H H') (g : b.G H') {N : List Addr} (hN : ∀ c ∈ N, H c = none ∧ H' c ≠ none) : FOk b H0 M (fun c => Zo c ∨ c ∈ N) (fun c => Z c ∨ c ∈ N) σ H' ρ :=
  ⟨f.v.many x g hN, fun a o e nb nm => x a o (f.ext a o e nb nm) nb, f.fr⟩
/-- an address held apart becomes slot i's own -/
theorem FOk.adopt {a : Addr} {N : List Addr} {d : D} {i : Nat} (f : FOk b H0 M (fun c => Zo c ∨ c ∈ a :: N) Z σ H ρ) (hzb : ∀ c, b.B c → Zo c) (hN : a ∉ N) (hz : ¬ Zo a) (hf : M a ∨ H0 a = none) (hi : i < ρ.length) (o : Ow b Z H a d) :
    ∃ Z', FOk b H0 M (fun c => Zo c ∨ c ∈ N) Z' (σ.set i (some (.ref a))) H (ρ.set i (.own d)) ∧ ∀ c, Z' c → Z c := by
  have v := f.v
  have hiσ : i < σ.length := by rw [← v.len]; exact hi
  have hza : Z a := v.zo a (.inr List.mem_cons_self)
  have low : ∀ c, (Zo c ∨ c ∈ N) → (Zo c ∨ c ∈ a :: N) := fun c z => z.imp id (List.mem_cons_of_mem _)
  let Z' : Addr → Prop := fun c => (zBut (fun c => Zo c ∨ c ∈ N) σ ρ i c) ∨ c = a
  have sub : ∀ c, Z' c → Z c := fun c z => by
    rcases z with (z | ⟨j, e, _, h1, h2⟩) | rfl
    · exact v.zo c (low c z)
    · obtain ⟨c', h3, h4, _⟩ := v.own j e h1
      rw [h2] at h3; cases h3; exact h4
    · exact hza
  have na : ∀ (j : Nat) (e : D) (c : Addr), ρ[j]? = some (.own e) → σ[j]? = some (some (.ref c)) → c ≠ a := fun j e c h1 h2 q => by
    obtain ⟨c', h3, _, h4, _⟩ := v.own j e h1
    rw [h2] at h3; cases h3; rw [q] at h4
    exact h4 (.inr List.mem_cons_self)
  have ow : ∀ {j : Nat} {e : D}, (ρ.set i (.own d))[j]? = some (.own e) → (j = i ∧ e = d) ∨ (j ≠ i ∧ ρ[j]? = some (.own e)) := fun {j e} h => by
    by_cases hj : j = i
    · subst hj
      rw [List.getElem?_set_self hi] at h; cases h; exact .inl ⟨rfl, rfl⟩
    · rw [List.getElem?_set_ne (Ne.symm hj)] at h
      exact .inr ⟨hj, h⟩
  refine ⟨Z', ⟨⟨v.g, fun c z => .inl (hzb c z), fun c z => .inl (.inl z), fun c z => v.dom c (sub c z), fun c z => ?_, fun j e h => ?_, fun j k e e2 c h1 h2 h3 h4 => ?_, fun j e h => ?_, by simpa using v.len⟩, f.ext, fun j e c h1 h2 => ?_⟩, sub⟩
  · rcases z with (z | ⟨j, e, hj, h1, h2⟩) | rfl
    · exact .inl z
    · exact .inr ⟨j, e, by rw [List.getElem?_set_ne (Ne.symm hj)]; exact h1, by rw [List.getElem?_set_ne (Ne.symm hj)]; exact h2⟩
    · exact .inr ⟨i, d, List.getElem?_set_self hi, List.getElem?_set_self hiσ⟩
  · rcases ow h with ⟨q1, q2⟩ | ⟨hj, p1⟩
    · rw [q1, q2]
      exact ⟨a, List.getElem?_set_self hiσ, .inr rfl, fun z => z.elim hz hN, o.mono (fun c z => .inl (sub c z)) (fun _ _ e _ => e) fun _ e => e⟩
    · obtain ⟨c, h1, h2, h3, h4⟩ := v.own j e p1
      exact ⟨c, by rw [List.getElem?_set_ne (Ne.symm hj)]; exact h1, .inl (.inr ⟨j, e, hj, p1, h1⟩), fun z => h3 (low c z), h4.mono (fun c z => .inl (sub c z)) (fun _ _ e _ => e) fun _ e => e⟩
  · rcases ow h1 with ⟨q1, _⟩ | ⟨hj, p1⟩
    · rcases ow h2 with ⟨q2, _⟩ | ⟨hk, p2⟩
      · rw [q1, q2]
      · rw [q1, List.getElem?_set_self hiσ] at h3; cases h3
        rw [List.getElem?_set_ne (Ne.symm hk)] at h4
        exact absurd rfl (na k e2 _ p2 h4)
    · rw [List.getElem?_set_ne (Ne.symm hj)] at h3
      rcases ow h2 with ⟨q2, _⟩ | ⟨hk, p2⟩
      · rw [q2, List.getElem?_set_self hiσ] at h4; cases h4
        exact absurd rfl (na j e _ p1 h3)
      · rw [List.getElem?_set_ne (Ne.symm hk)] at h4
        exact v.inj j k e e2 c p1 p2 h3 h4
  · by_cases hj : j = i
    · rw [hj, List.getElem?_set_self hi] at h; cases h
    · rw [List.getElem?_set_ne (Ne.symm hj)] at h
      obtain ⟨w, h1, h2⟩ := v.shr j e h
      exact ⟨w, by rw [List.getElem?_set_ne (Ne.symm hj)]; exact h1, h2.mono (fun c z => .inl (sub c z)) fun _ _ e _ => e⟩
  · rcases ow h1 with ⟨q1, _⟩ | ⟨hj, p1⟩
    · rw [q1, List.getElem?_set_self hiσ] at h2; cases h2
      exact hf
    · rw [List.getElem?_set_ne (Ne.symm hj)] at h2
      exact f.fr j e c p1 h2
/-- all of them, one after another -/
theorem FOk.setAll (hb : ∀ c, b.B c → Zo c) : ∀ (is : List Nat) (vs : List V) (ms : List (Bool × D)) (N : List Addr) (Z : Addr → Prop) (σ : L2.St) (ρ : VEnv), FOk b H0 M (fun c => Zo c ∨ c ∈ N) Z σ H' ρ → Rm b Z H H' vs ms N → (∀ c ∈ N, ¬ Zo c ∧ (M c ∨ H0 c = none)) →
    ms.length = is.length → (∀ i ∈ is, i < ρ.length) → ∃ Z', FOk b H0 M Zo Z' (VL.setA is vs σ) H' (setE is ms ρ) := by
  intro is
  induction is with
  | nil =>
    intro vs ms N Z σ ρ f r hN hl hi
    cases r with
    | nil =>
      refine ⟨Z, ?_⟩
      have e : (fun c => Zo c ∨ c ∈ ([] : List Addr)) = Zo := by funext c; simp
      rw [e] at f
      exact f
    | sh _ _ => simp at hl
    | nw _ _ _ _ => simp at hl
  | cons i is ih =>
    intro vs ms N Z σ ρ f r hN hl hi
    cases r with
    | nil => simp at hl
    | sh r t =>
      have f1 := f.set (hi i List.mem_cons_self) r
      exact ih _ _ _ _ _ _ f1 (t.sub (f.v.but i)) hN (by simpa using hl) fun j hj => by rw [List.length_set]; exact hi j (List.mem_cons_of_mem _ hj)
    | nw hn hm o t =>
      obtain ⟨Z1, f1, sub⟩ := f.adopt hb hm (hN _ List.mem_cons_self).1 (hN _ List.mem_cons_self).2 (hi i List.mem_cons_self) o
      exact ih _ _ _ _ _ _ f1 (t.sub sub) (fun c hc => hN c (List.mem_cons_of_mem _ hc)) (by simpa using hl) fun j hj => by rw [List.length_set]; exact hi j (List.mem_cons_of_mem _ hj)
theorem FOk.par (f : FOk b H0 M Zo Z σ H ρ) {is : List Nat} {vs : List V} {ms : List (Bool × D)} {N : List Addr} (x : Ex b H H') (g : b.G H') (r : Rm b (fun c => Z c ∨ c ∈ N) H H' vs ms N) (hl : ms.length = is.length) (hi : ∀ i ∈ is, i < ρ.length) : ∃ Z', FOk b H0 M Zo Z' (VL.setA is vs σ) H' (setE is ms ρ) := by
  refine FOk.setAll f.v.zb is vs ms N _ σ ρ (f.many x g r.new) r (fun c hc => ⟨fun z => f.v.dom c (f.v.zo c z) (r.new c hc).1, ?_⟩) hl hi
  have hn := (r.new c hc).1
  cases q : H0 c with
  | none => exact .inr rfl
  | some u =>
    by_cases hb : b.B c
    · exact absurd hn (b.dom _ _ f.v.g hb)
    · by_cases hm : M c
      · exact .inl hm
      · have := f.ext c u q hb hm
        rw [hn] at this; cases this
end
section
variable {X : Cx} {b : Bg} {W : WX} {e e1 e2 e3 : Expr} {es : List Expr} {t t1 t2 : VT} {u : VAm} {pos : Pos}
@[simp] def sPar (is : List Nat) (u : VAm) : VS := fun ρ De => (∀ i ∈ is, i < ρ.length) ∧ u ρ (fun ms => ms.length = is.length ∧ De.nx (setE is ms ρ)) (De.ex ρ)
theorem Rm.len {Y : Addr → Prop} {H H' : Hp} : ∀ {vs : List V} {ms : List (Bool × D)} {N : List Addr}, Rm b Y H H' vs ms N → vs.length = ms.length
  | _, _, _, .nil => rfl
  | _, _, _, .sh _ t => congrArg (· + 1) (Rm.len t)
  | _, _, _, .nw _ _ _ t => congrArg (· + 1) (Rm.len t)
theorem vs_par2 {i j : Nat} {x y : Str} {px py pt : Pos} {kt k2 pt2} (hc : X.calm = true) (hN : X.N.Nodup) (hi : X.N[i]? = some x) (hj : X.N[j]? = some y) (hij : i ≠ j)
    (hx : X.env.scope.names.lookup x = some .local) (hy : X.env.scope.names.lookup y = some .local) (ha : VMs X b W [e1, e2] u)
    (hw : swappedStores [.Tuple [.Name x px, .Name y py] kt pt] (.Tuple [e1, e2] k2 pt2) X.env = pure (some [x, y]))
    (hs : swapsWithSole [.Tuple [.Name x px, .Name y py] kt pt] (.Tuple [e1, e2] k2 pt2) pos.line X.env = pure false := by rfl) :
    VSt X b W (.Assign [.Tuple [.Name x px, .Name y py] kt pt] (.Tuple [e1, e2] k2 pt2) pos) (sPar [i, j] u) :=
  ps_mono (ps_par hc hN hi hj hij hx hy ha hw hs) fun D σ H ⟨H0, M, Zo, Z, ρ, De, f, ⟨hl, q⟩, l⟩ => ⟨Zo, Z, ρ, _, _, f.v, q, fun vs H' ms N x g r ⟨hm, q'⟩ => by
    obtain ⟨Z', f'⟩ := f.par (is := [i, j]) x g r hm hl
    match vs, r.len.trans hm with
    | [v, w], _ => exact ⟨v, w, rfl, l.nx Z' _ H' _ f' q'⟩, l.er f⟩
theorem vs_par3 {i j k : Nat} {x y z : Str} {px py pz pt : Pos} {kt k2 pt2} (hc : X.calm = true) (hN : X.N.Nodup) (hi : X.N[i]? = some x) (hj : X.N[j]? = some y) (hk : X.N[k]? = some z) (hij : i ≠ j) (hik : i ≠ k) (hjk : j ≠ k)
    (hx : X.env.scope.names.lookup x = some .local) (hy : X.env.scope.names.lookup y = some .local) (hz : X.env.scope.names.lookup z = some .local) (ha : VMs X b W [e1, e2, e3] u)
    (hw : swappedStores [.Tuple [.Name x px, .Name y py, .Name z pz] kt pt] (.Tuple [e1, e2, e3] k2 pt2) X.env = pure (some [x, y, z]))
    (hs : swapsWithSole [.Tuple [.Name x px, .Name y py, .Name z pz] kt pt] (.Tuple [e1, e2, e3] k2 pt2) pos.line X.env = pure false := by rfl) :
    VSt X b W (.Assign [.Tuple [.Name x px, .Name y py, .Name z pz] kt pt] (.Tuple [e1, e2, e3] k2 pt2) pos) (sPar [i, j, k] u) :=
  ps_mono (ps_par3 hc hN hi hj hk hij hik hjk hx hy hz ha hw hs) fun D σ H ⟨H0, M, Zo, Z, ρ, De, f, ⟨hl, q⟩, l⟩ => ⟨Zo, Z, ρ, _, _, f.v, q, fun vs H' ms N x g r ⟨hm, q'⟩ => by
    obtain ⟨Z', f'⟩ := f.par (is := [i, j, k]) x g r hm hl
    match vs, r.len.trans hm with
    | [v, w, y], _ => exact ⟨v, w, y, rfl, l.nx Z' _ H' _ f' q'⟩, l.er f⟩
/-- the targets' reading: names -/
def gNames : List Nat → TGs
  | [] => gNil
  | i :: is => gCons (gName i) (gNames is)
theorem gNames_set : ∀ {is : List Nat} {vs : List V} {σ : L2.St} {H : Hp} {Q : L2.St → Hp → Prop}, vs.length = is.length → Q (VL.setA is vs σ) H → gNames is vs σ H Q
  | [], [], _, _, _, _, q => ⟨rfl, q⟩
  | i :: is, v :: vs, σ, H, Q, h, q => ⟨v, vs, rfl, gNames_set (by simpa using h) q⟩
/-- by way of a tuple -/
theorem vs_parT {is : List Nat} {tgs : List Expr} {kt k2} {pt pt2 : Pos} (hc : X.calm = true) (hg : PGs X tgs (gNames is)) (ha : VMs X b W es u) (hn : (assignEach tgs X.env).length = is.length := by rfl) (hst : (assignEach tgs X.env).findIdx? (·.1) = none := by rfl)
    (hz : is.length ≤ 1000 := by decide) (hs : swapsWithSole [.Tuple tgs kt pt] (.Tuple es k2 pt2) pos.line X.env = pure false := by rfl) (hw : swappedStores [.Tuple tgs kt pt] (.Tuple es k2 pt2) X.env = pure none := by rfl)
    (h1 : (assignEach [.Tuple tgs kt pt] X.env).map (·.2) = [assign (.Tuple tgs kt pt) X.env] := by rfl) :
    VSt X b W (.Assign [.Tuple tgs kt pt] (.Tuple es k2 pt2) pos) (sPar is u) :=
  ps_mono (ps_asg (pe_tupF ha) (pg_tup hc hg hn hst) hs hw h1) fun D σ H ⟨H0, M, Zo, Z, ρ, De, f, ⟨hl, q⟩, l⟩ => ⟨Zo, Z, ρ, _, _, f.v, q, fun vs H' ms N x g r ⟨hm, q'⟩ => by
    obtain ⟨Z', f'⟩ := f.par (is := is) x g r hm hl
    have hv : vs.length = is.length := r.len.trans hm
    refine ⟨Nat.le_of_lt (small1000 (by rw [hv]; exact hz)), fun p o hp ho => ⟨p, vs, rfl, SqT.th upd_same, hv, gNames_set hv ?_⟩⟩
    exact l.nx Z' _ _ _ (f'.ex (Ex.new hp) (Bg.new g hp)) q', l.er f⟩
end
end VL
set_option Elab.async false
set_option linter.all false
set_option maxRecDepth 100000
set_option maxHeartbeats 4000000
namespace VL
open PySem PySem.Spec PyProof.Rows L2
/-! ### sources: a list, a tuple, a text -/
inductive Kd where
  | l (a : Addr) | t (a : Addr) | s (x : Str) (k : Tok)
def Kd.val : Kd → Value
  | .l a => .ref a | .t a => .ref a | .s x k => .str x k
def Kd.obj : Kd → Obj
  | .l a => { cls := .type "list_iterator", data := .fields #[.ref a, .int 0 0] }
  | .t a => { cls := .type "tuple_iterator", data := .fields #[.ref a, .int 0 0] }
  | .s x k => { cls := .type (strIterType x), data := .fields #[.str x k, .int 0 0] }
/-- the walker at it stands at item i -/
def Kd.At : Kd → Addr → Nat → Heap → Prop
  | .l a, it, i, h => h.IsListIter it a i
  | .t a, it, i, h => h.IsTupleIter it a i
  | .s x k, it, i, h => h.IsStrIter it (strIterType x) x k i
def Kd.ad : Kd → List Addr
  | .l a => [a] | .t a => [a] | .s _ _ => []
def signs (x : Str) : List V := x.cps.toList.map fun c => V.str (mkS [c])
def Kd.gives (K : PySem.W.Frag) (H : Hp) : Kd → List V → Prop
  | .l a, xs => SqL K H a xs
  | .t a, xs => SqT K H a xs
  | .s x _, xs => xs = signs x
theorem Kd.begins {X : Cx} {pins : List (Addr × Obj)} {σ : L2.St} {H : Hp} {s : Shared} (I : Inv X pins σ H s) {k : Kd} {xs : List V} (g : k.gives X.K H xs) : ∃ Hs, Begins k.val k.obj Hs ∧ Hs s.heap ∧ ∀ b ∈ k.ad, b < s.heap.objs.size := by
  cases k with
  | l a =>
    obtain ⟨its, _, p, _⟩ := I.list g
    exact ⟨_, begins_list a its.toArray, p.isList, fun b hb => by rw [List.mem_singleton.mp hb]; exact p.lt⟩
  | t a =>
    obtain ⟨its, _, p, _⟩ := I.tuple g
    obtain ⟨o, ho, _⟩ := id p
    exact ⟨_, begins_tuple a its.toArray, p, fun b hb => by rw [List.mem_singleton.mp hb]; exact Heap.lt_size ho⟩
  | s x t => exact ⟨_, begins_text x t, trivial, fun b hb => by cases hb⟩
theorem Kd.start {k : Kd} {it : Addr} {h : Heap} (e : h.get? it = some k.obj) : k.At it 0 h := by
  cases k with
  | l a => exact ⟨_, e, rfl, rfl⟩
  | t a => exact ⟨_, e, rfl, rfl⟩
  | s x t => exact ⟨_, e, rfl, rfl⟩
theorem Kd.At.at {k : Kd} {it : Addr} {i : Nat} {h h' : Heap} (st : k.At it i h) (e : ∀ o, h.get? it = some o → h'.get? it = some o) : k.At it i h' := by
  cases k with
  | l a => exact Heap.IsListIter.at st e
  | t a => exact Heap.IsTupleIter.at st e
  | s x t => obtain ⟨o, ho, r⟩ := st; exact ⟨o, e o ho, r⟩
theorem Kd.At.rec' {k : Kd} {it : Addr} {i : Nat} {h : Heap} (st : k.At it i h) : ∃ o vs, h.get? it = some o ∧ o.data = .fields vs := by
  cases k with
  | l a => obtain ⟨o, ho, _, hd⟩ := st; exact ⟨o, _, ho, hd⟩
  | t a => obtain ⟨o, ho, _, hd⟩ := st; exact ⟨o, _, ho, hd⟩
  | s x t => obtain ⟨o, ho, _, hd⟩ := st; exact ⟨o, _, ho, hd⟩
theorem signs_get {x : Str} {i : Nat} {c : Nat} (h : x.cps[i]? = some c) : (signs x)[i]? = some (V.str (mkS [c])) := by
  unfold signs
  rw [List.getElem?_map, Array.getElem?_toList, h]
  rfl
theorem vals_at : ∀ {xs : List V} {its : List Value} {i : Nat} {u : Value}, Vals xs its → its[i]? = some u → ∃ y, xs[i]? = some y ∧ RelV y u
  | _, _, _, _, .nil, e => by simp at e
  | _, _, 0, _, .cons r _, e => by simp at e; subst e; exact ⟨_, rfl, r⟩
  | _, _, i + 1, _, .cons _ t, e => by
    obtain ⟨y, h1, h2⟩ := vals_at (i := i) t (by simpa using e)
    exact ⟨y, by simpa using h1, h2⟩
/-- what a source draws -/
theorem Kd.draws {X : Cx} {pins : List (Addr × Obj)} {σ : L2.St} {H : Hp} {s : Shared} (I : Inv X pins σ H s) (hc : X.calm = true) {k : Kd} {xs : List V} (g : k.gives X.K H xs) (it : Addr) (hne : it ∉ k.ad) :
    ∃ (P : Nat → Value → Prop) (St : Nat → Heap → Prop), Draws X.prog X.w X.A.in1 it (it :: k.ad) xs.length P St ∧ (∀ i, k.At it i s.heap → St i s.heap) ∧ (∀ i h, St i h → k.At it i h) ∧ ∀ i v, P i v → ∃ y, xs[i]? = some y ∧ RelV y v := by
  have hh : X.A.in1.handled = none := I.ok.hd hc
  cases k with
  | l a =>
    obtain ⟨its, r, p, _⟩ := I.list g
    have hn : a ≠ it := fun e => hne (by rw [e]; exact List.mem_singleton.mpr rfl)
    have D := Draws.list (prog := X.prog) (w := X.w) (A := X.A.in1) hh it a hn its.toArray
    rw [List.size_toArray, ← r.length] at D
    exact ⟨_, _, D, fun i st => ⟨st, p.isList⟩, fun i h st => st.1, fun i v hv => vals_at r (by simpa using hv)⟩
  | t a =>
    obtain ⟨its, r, p, _⟩ := I.tuple g
    have hn : a ≠ it := fun e => hne (by rw [e]; exact List.mem_singleton.mpr rfl)
    have D := Draws.tuple (prog := X.prog) (w := X.w) (A := X.A.in1) hh it a hn its.toArray
    rw [List.size_toArray, ← r.length] at D
    exact ⟨_, _, D, fun i st => ⟨st, p⟩, fun i h st => st.1, fun i v hv => vals_at r (by simpa using hv)⟩
  | s x t =>
    obtain rfl : xs = signs x := g
    have D := Draws.text (prog := X.prog) (w := X.w) (A := X.A.in1) hh it x t
    have e : (signs x).length = x.cps.size := by unfold signs; simp
    rw [← e] at D
    refine ⟨_, _, D, fun i st => st, fun i h st => st, fun i v hv => ?_⟩
    obtain ⟨c, u, h1, rfl⟩ := hv
    exact ⟨_, signs_get h1, u, rfl⟩
theorem Kd.gives_inj {X : Cx} {pins : List (Addr × Obj)} {σ : L2.St} {H : Hp} {s : Shared} (I : Inv X pins σ H s) {k : Kd} {xs ys : List V} (g : k.gives X.K H xs) (g' : k.gives X.K H ys) : xs = ys := by
  cases k with
  | l a => exact I.list_inj g g'
  | t a => exact I.tuple_inj g g'
  | s x t => exact g.trans g'.symm
/-! ### a walk over a source -/
/-- what a walk of items gives -/
def Itk (K : PySem.W.Frag) (k : Kd) : It :=
  ⟨fun i H => ∃ xs x, k.gives K H xs ∧ xs[i]? = some x, fun i H x H' => H' = H ∧ ∀ xs, k.gives K H xs → xs[i]? = some x, fun i H => ∃ xs, k.gives K H xs ∧ xs.length ≤ i⟩
theorem Turn.imp {P : Program} {w : World} {K : PySem.W.Frag} {tg : Expr} {J J' : It} {fp : List Addr} {it : Addr} {tn : Nat → Heap → Prop} (T : Turn P w K tg J fp it tn) (h1 : ∀ i H, J'.go i H → J.go i H) (h2 : ∀ i H x H', J'.go i H → J.yld i H x H' → J'.yld i H x H') (h3 : ∀ i H, J'.stop i H → J.stop i H) : Turn P w K tg J' fp it tn where
  mem := T.mem
  obj := T.obj
  keep := T.keep
  item := fun X hP hw hK hc i pins s σ H E I hf st hg => thn (T.item X hP hw hK hc i pins s σ H E I hf st (h1 i H hg)) fun r s1 ⟨u, hr, q⟩ => ⟨u, hr, thn q fun _ s2 ⟨x, H', I', rx, y, st', f'⟩ => ⟨x, H', I', rx, h2 i H x H' hg y, st', f'⟩⟩
  done := fun X hP hw hK hc i pins s σ H E I hf st hg => T.done X hP hw hK hc i pins s σ H E I hf st (h3 i H hg)
  self := T.self
theorem turn_kd {P : Program} {w : World} {K : PySem.W.Frag} {tg : Expr} (k : Kd) (it : Addr) : Turn P w K tg (Itk K k) [it] it (fun i h => k.At it i h) := by
  cases k with
  | l a => exact Turn.imp (turn_list a it) (fun i H ⟨xs, x, h⟩ => ⟨xs, x, h⟩) (fun i H x H' _ h => h) fun i H h => h
  | t a => exact Turn.imp (turn_tuple a it) (fun i H ⟨xs, x, h⟩ => ⟨xs, x, h⟩) (fun i H x H' _ h => h) fun i H h => h
  | s x t =>
    have e : (signs x).length = x.cps.size := by unfold signs; simp
    refine Turn.imp (turn_str it x t (strIterType x) (by unfold strIterType; split <;> simp)) (fun i H ⟨xs, y, h, hy⟩ => ?_) (fun i H y H' _ h => ?_) fun i H ⟨xs, h, hl⟩ => ?_
    · obtain rfl : xs = signs x := h
      obtain ⟨hlt, _⟩ := List.getElem?_eq_some_iff.mp hy
      rw [e] at hlt
      exact hlt
    · obtain ⟨h1, c, hcx, hy⟩ := h
      refine ⟨h1, fun xs h => ?_⟩
      obtain rfl : xs = signs x := h
      rw [hy]
      exact signs_get hcx
    · obtain rfl : xs = signs x := h
      rw [e] at hl
      exact hl
/-- a source's value -/
inductive Src (K : PySem.W.Frag) (H : Hp) : V → List V → (Kd → Prop) → Prop
  | l {a : Addr} {xs : List V} : SqL K H a xs → Src K H (.ref a) xs fun k => k = .l a
  | t {a : Addr} {xs : List V} : SqT K H a xs → Src K H (.ref a) xs fun k => k = .t a
  | s {x : Str} : Src K H (.str x) (signs x) fun k => ∃ t, k = .s x t
theorem Src.kd {K : PySem.W.Frag} {H : Hp} {v : V} {xs : List V} {C : Kd → Prop} (h : Src K H v xs C) {u : Value} (r : RelV v u) : ∃ k, C k ∧ k.val = u ∧ k.gives K H xs := by
  cases h with
  | l h => cases r; exact ⟨_, rfl, rfl, h⟩
  | t h => cases r; exact ⟨_, rfl, rfl, h⟩
  | s => obtain ⟨t, rfl⟩ := r; exact ⟨_, ⟨t, rfl⟩, rfl, rfl⟩
section
variable {X : Cx} {tg e e2 e3 : Expr} {p pos : Pos}
def iSrc (K : PySem.W.Frag) (te : TE) : TI := fun σ H R => te σ H fun x H1 => ∃ xs C, Src K H1 x xs C ∧ ∀ k, C k → R (Itk K k) H1
theorem pi_src {te : TE} (he : PE X e te) : PI X tg e (iSrc X.K te) := by
  refine ⟨fun pins s σ H R I h => ?_⟩
  refine thn (he.run pins s σ H _ I h) fun v s1 ⟨y, H1, I1, r1, xs, C, sx, q⟩ => ?_
  obtain ⟨k, hk, rfl, g⟩ := sx.kd r1
  obtain ⟨Hs, B, hs, _⟩ := k.begins I1 g
  exact B.iter _ _ _ _ _ _ hs (pi_one (tk := s1.toks) I1 _ (turn_kd k _) (Kd.start (Heap.get?_push_size _ B.free)) (q k hk))
end
/-! ### enumerate -/
def Iek (K : PySem.W.Frag) (k : Kd) : It :=
  ⟨fun i H => ∃ xs x, k.gives K H xs ∧ xs[i]? = some x, fun i H v H' => ∃ T o x, v = .ref T ∧ H T = none ∧ o.dict = none ∧ H' = upd H T (HO.th o [.int (i : Nat), x]) ∧ ∀ xs, k.gives K H xs → xs[i]? = some x, fun i H => ∃ xs, k.gives K H xs ∧ xs.length = i⟩
theorem lt_of_get {h : Heap} {b : Addr} {o : Obj} (e : h.get? b = some o) : b < h.objs.size := Heap.lt_size e
theorem turn_ek {P : Program} {w : World} {K : PySem.W.Frag} {elts : List Expr} {kk : Nat} {tpos : Pos} (k : Kd) {en it : Addr} (hne : en ≠ it) (h1 : en ∉ k.ad) (h2 : it ∉ k.ad) :
    Turn P w K (.Tuple elts kk tpos) (Iek K k) [en, it] en (fun i h => (∃ old, IsEnum h en it ((i : Nat) : Int) old) ∧ k.At it i h) where
  mem := List.mem_cons_self
  obj := fun i h ⟨⟨old, he⟩, hi⟩ b hb => by
    rcases List.mem_cons.mp hb with rfl | hb
    · exact ⟨_, he, nofun⟩
    · rw [List.mem_singleton.mp hb]
      obtain ⟨o, vs, ho, hd⟩ := hi.rec'
      exact ⟨o, ho, fun v q => by rw [hd] at q; cases q⟩
  keep := fun i h h' ⟨⟨old, he⟩, hi⟩ kp => ⟨⟨old, kp en List.mem_cons_self _ he⟩, hi.at fun o q => kp it (by simp) o q⟩
  item := by
    rintro X rfl rfl rfl hc i pins s σ H E I hf ⟨⟨old, he⟩, hi⟩ ⟨xs, x, g, hx⟩
    obtain ⟨Pd, St, D, s1, s2, s3⟩ := k.draws I hc g it h2
    have hlt : i < xs.length := (List.getElem?_eq_some_iff.mp hx).1
    have hel := lt_of_get he
    obtain ⟨oi, vi, hoi, _⟩ := hi.rec'
    have hil := lt_of_get hoi
    refine wpAny_pyNext_enum_itemD D he (s1 i hi) hlt hne (by simp [hne, h1]) fun u h' tk hP ho st' hT hsz hk => ?_
    obtain ⟨y, hy, ru⟩ := s3 i u hP
    obtain rfl : x = y := Option.some.inj (hx.symm.trans hy)
    refine ⟨_, rfl, wpAny_letOwnedTupleGo_enum (s := { s with heap := h', toks := tk + 1 }) ho fun h'' he' sb => ?_⟩
    have hT2 := (sb.2 s.heap.objs.size (Nat.ne_of_gt hel)).trans hT
    have new : ObjOk X.prog X.w (upd H s.heap.objs.size (HO.th (tob [.int i tk, u]) [.int (i : Nat), x])) h'' s.heap.objs.size (HO.th (tob [.int i tk, u]) [.int (i : Nat), x]) :=
      th_ok (by show 2 ≤ sizeLine; decide) (.cons ⟨_, rfl⟩ (.cons ru .nil)) hT2
    have I1 : Inv X pins σ (upd H s.heap.objs.size (HO.th (tob [.int i tk, u]) [.int (i : Nat), x])) { s with heap := h'', toks := tk + 1 } :=
      I.turnedNew (ch := [en, it]) (fun b ob hb q => by
        have n1 : b ≠ en := fun z => hb (by simp [z])
        have n2 : b ≠ it := fun z => hb (by simp [z])
        exact (sb.2 b n1).trans (hk b ob n1 n2 q)) hf (Nat.le_refl _) new
    refine ⟨.ref s.heap.objs.size, _, I1, rfl, ⟨_, _, x, rfl, I.hok.fresh (Nat.le_refl _), rfl, rfl, fun ys hy => by rw [k.gives_inj I hy g]; exact hx⟩, ⟨⟨u, ?_⟩, (s2 _ _ st').at fun o q => (sb.2 it (Ne.symm hne)).trans q⟩, fun b hb => ?_⟩
    · have e1 : ((i + 1 : Nat) : Int) = (i : Int) + 1 := by omega
      rw [e1]; exact he'
    · have hb' : b < s.heap.objs.size := by
        rcases List.mem_cons.mp hb with rfl | hb
        · exact hel
        · rw [List.mem_singleton.mp hb]; exact hil
      rw [upd_ne (Nat.ne_of_lt hb')]
      exact (hf b hb).1
  done := by
    rintro X rfl rfl rfl hc i pins s σ H E I hf ⟨⟨old, he⟩, hi⟩ ⟨xs, g, hl⟩
    obtain ⟨Pd, St, D, s1, s2, s3⟩ := k.draws I hc g it h2
    obtain ⟨f0, f1, f2, f3, f4, f5⟩ := hf it (by simp)
    subst hl
    exact wpAny_pyNext_enum_endD D he (s1 _ hi) fun h' eb => ⟨rfl, I.turned (t' := s.toks) (fun b o hb q => eb b o hb q) f0 f1 f3 f4 f5⟩
  self := fun A i s Q E ⟨⟨_, he⟩, _⟩ h => wpAny_pyIter_enum he h
theorem enum_meets1 {v : Value} {o : Obj} {Hs : Heap → Prop} (B : Begins v o Hs) :
    Meets (Builtin.«enumerate.__new__» ⟨[.type "enumerate", v], []⟩) (fun _ R s => Hs s.heap ∧
      R (.ok (.ret (.ref (s.heap.push o).objs.size))) { s with heap := (s.heap.push o).push { cls := .type "enumerate", data := .fields #[.none, .bool false, .ref s.heap.objs.size, rawInt 0, .none, .none] } }) :=
  .of_wp fun prog w A R s hh => by
    obtain ⟨hp, gn, dr, tk, os⟩ := s
    obtain ⟨hv, h⟩ := hh
    have hsub := sub_enumerate
    have itv : ∀ {A' : Around} {E : Value → Shared → Prop} {Q : Value → Shared → Prop}, Q (.ref hp.objs.size) ⟨hp.push o, gn, dr, tk, os⟩ → wpAny (model prog w) A' (pyIter v) Q E ⟨hp, gn, dr, tk, os⟩ :=
      fun q => B.iter prog w _ _ ⟨hp, gn, dr, tk, os⟩ _ hv q
    wp_walk using itv
    refine wpAny_stack_any fun fr => wpAny_pure ?_
    split
    · rename_i c0 _ _ _ _ _
      cases (c0 == Value.type "enumerate") <;> (wp_walk using itv; exact ⟨_, rfl, h⟩)
    · wp_walk using itv
      exact ⟨_, rfl, h⟩
section
variable {prog : Program} {w : World} {A : Around} {E : Value → Shared → Prop} {s : Shared}
theorem enum_one {v : Value} {o : Obj} {Hs : Heap → Prop} {Q : Value → Shared → Prop} (B : Begins v o Hs) (hv : Hs s.heap)
    (h : ∀ h', IsEnum h' (s.heap.objs.size + 1) s.heap.objs.size 0 .none → h'.get? s.heap.objs.size = some o → (∀ b ob, s.heap.get? b = some ob → h'.get? b = some ob) → Q (.ref (s.heap.objs.size + 1)) { s with heap := h' }) :
    wpAny (model prog w) A (call (.type "enumerate") [v]) Q E s := by
  refine callType_new F.called_enumerate (by decide) (F.typeCall_enumerate_1 _) (F.newCall_enumerate_1 _) (fun obj => F.args_object_init_2 obj _) F.entry_enumerate_new (enum_meets1 B) ⟨hv, ?_⟩
  have z1 : (s.heap.push o).objs.size = s.heap.objs.size + 1 := Heap.size_push ..
  have g1 := Heap.get?_push_size (s.heap.push o) (o := { cls := .type "enumerate", data := .fields #[.none, .bool false, .ref s.heap.objs.size, rawInt 0, .none, .none] }) rfl
  show _ ∧ _
  rw [z1] at g1 ⊢
  exact ⟨⟨_, g1, rfl⟩, h _ g1 (Heap.get?_push_of_some _ (Heap.get?_push_size _ B.free)) fun b ob e => Heap.get?_push_of_some _ (Heap.get?_push_of_some _ e)⟩
end
section
variable {X : Cx} {tg e e2 e3 : Expr} {elts : List Expr} {kk : Nat} {p pos tpos : Pos}
def iEnumS (K : PySem.W.Frag) (ta : TA) : TI := fun σ H R => ta σ H fun vs H1 => ∃ x xs C, vs = [x] ∧ Src K H1 x xs C ∧ ∀ k, C k → R (Iek K k) H1
theorem pi_enumS {ta : TA} (hg : Gl X "enumerate") (hm : X.mg "enumerate" = none) (ha : PA X [e] ta) (hs : starEach [e] X.env = [(false, eval e X.env)] := by rfl) : PI X (.Tuple elts kk tpos) (.Call (.Name "enumerate" p) [e] [] pos) (iEnumS X.K ta) := by
  refine ⟨fun pins s σ H R I h => ?_⟩
  refine Call_ (ld_blt I hg hm boot_enumerate (PyProof.Rows.callWith_type1 (thn (ha.run pos pins s σ H _ I h) fun us s1 ⟨vs, H1, I1, r1, x, xs, C, ev, sx, q⟩ => ?_) hs rfl))
  subst ev
  obtain ⟨u, rfl, ru⟩ := vals1 r1
  obtain ⟨k, hk, rfl, g⟩ := sx.kd ru
  obtain ⟨Hs, B, hst, hlt⟩ := k.begins I1 g
  refine enum_one B hst fun h' he hit kp => wpAny_pyIter_enum he ?_
  have old : ∀ b ∈ k.ad, b ≠ s1.heap.objs.size ∧ b ≠ s1.heap.objs.size + 1 := fun b hb => by
    have z : (b : Nat) < s1.heap.objs.size := hlt b hb
    exact ⟨Nat.ne_of_lt z, Nat.ne_of_lt (Nat.lt_succ_of_lt z)⟩
  refine ⟨s1.heap.objs.size + 1, [s1.heap.objs.size + 1, s1.heap.objs.size], _, _, H1, rfl, I1.kept (t' := s1.toks) kp, turn_ek k (Nat.succ_ne_self _) (fun hm => (old _ hm).2 rfl) (fun hm => (old _ hm).1 rfl), ⟨⟨.none, he⟩, Kd.start hit⟩, fun b hb => ?_, q k hk⟩
  have hle : s1.heap.objs.size ≤ b := by
    rcases List.mem_cons.mp hb with z | z
    · rw [z]; exact Nat.le_succ _
    · rw [List.mem_singleton.mp z]; exact Nat.le_refl _
  exact I1.fpOk hle (I1.hok.fresh hle)
end
end VL
set_option Elab.async false
set_option linter.all false
set_option maxRecDepth 100000
set_option maxHeartbeats 4000000
namespace VL
open PySem PySem.Spec PyProof.Rows L2
/-! ### zip of two, of three sources -/
section
variable {X : Cx} {tg e e2 e3 : Expr} {elts : List Expr} {kk : Nat} {p pos tpos : Pos}
end
end VL
set_option Elab.async false
set_option linter.all false
set_option maxRecDepth 100000
set_option maxHeartbeats 4000000
namespace VL
open PySem PySem.Spec PyProof.Rows L2
/-! ### the items of plain data -/
def signsD (x : Str) : List PyData := x.cps.toList.map fun c => PyData.str (mkS [c])
@[simp] def itemsOf : PyData → Option (List PyData)
  | .list xs => some xs
  | .tuple xs => some xs
  | .str x => some (signsD x)
  | _ => none
def enumP (xs : List PyData) : List PyData := xs.zipIdx.map fun p => .tuple [.int (p.2 : Nat), p.1]
def zip2P (xs ys : List PyData) : List PyData := (xs.zip ys).map fun p => .tuple [p.1, p.2]
def zip3P (xs ys zs : List PyData) : List PyData := (xs.zip (ys.zip zs)).map fun p => .tuple [p.1, p.2.1, p.2.2]
def rangeP (i : Int) (n : Nat) : List PyData := (List.range n).map fun k => .int (i + (k : Nat))
theorem enumP_get {xs : List PyData} {k : Nat} {d : PyData} (h : (enumP xs)[k]? = some d) : ∃ x, xs[k]? = some x ∧ d = .tuple [.int (k : Nat), x] := by
  unfold enumP at h
  rw [List.getElem?_map, List.getElem?_zipIdx] at h
  cases e : xs[k]? with
  | none => rw [e] at h; cases h
  | some x => rw [e] at h; cases h; exact ⟨x, rfl, by simp⟩
theorem rangeP_get {i : Int} {n k : Nat} {d : PyData} (h : (rangeP i n)[k]? = some d) : k < n ∧ d = .int (i + (k : Nat)) := by
  unfold rangeP at h
  rw [List.getElem?_map] at h
  by_cases hk : k < n
  · rw [List.getElem?_range hk] at h; cases h; exact ⟨hk, rfl⟩
  · rw [List.getElem?_eq_none (by simp; omega)] at h; cases h
/-! ### the walks, over data -/
section
variable {b : Bg} {Y Z : Addr → Prop} {H : Hp} {K : PySem.W.Frag}
theorem rqs_signs {x : Str} : Rqs Z H (signs x) (signsD x) := by
  unfold signs signsD
  induction x.cps.toList with
  | nil => exact .nil
  | cons c l ih => exact .cons (.str _) ih
/-- a source: what stands there, and stays -/
structure SrcD (K : PySem.W.Frag) (Y Z : Addr → Prop) (H : Hp) (v : V) (xs : List PyData) (vs : List V) (C : Kd → Prop) : Prop where
  src : Src K H v vs C
  rq : Rqs Z H vs xs
  stay : ∀ k, C k → ∀ H2 : Hp, (∀ a o, H a = some o → ¬ Y a → H2 a = some o) → k.gives K H2 vs
theorem srcD {v : V} {p : PyData} {xs : List PyData} (r : Rb b Z H v (.py p)) (hn : ∀ a, v = .ref a → ¬ Y a) (e : itemsOf p = some xs) : ∃ vs C, SrcD K Y Z H v xs vs C := by
  cases p with
  | list ds =>
    cases e
    obtain ⟨a, us, rfl, ha, q⟩ := r.list
    exact ⟨us, _, .l (SqL.of ha), q, fun k hk H2 h2 => by rw [hk]; exact SqL.of (h2 a _ ha (hn a rfl))⟩
  | tuple ds =>
    cases e
    obtain ⟨a, o, us, rfl, ha, ho, na, q⟩ := r.tuple
    exact ⟨us, _, .t (SqT.th ha), q, fun k hk H2 h2 => by rw [hk]; exact SqT.th (h2 a _ ha (hn a rfl))⟩
  | str x =>
    cases e
    have ev := r.str
    subst ev
    exact ⟨signs x, _, .s, rqs_signs, fun k hk H2 h2 => by obtain ⟨t, rfl⟩ := hk; rfl⟩
  | _ => cases e
/-- what a source has at k -/
theorem SrcD.at {v : V} {xs : List PyData} {vs : List V} {C : Kd → Prop} (s : SrcD K Y Z H v xs vs C) (hY : ∀ a, ¬ Z a → ¬ Y a) {k : Nat} {d : PyData} (h : xs[k]? = some d) {H2 : Hp} (h2 : ∀ a o, H a = some o → ¬ Y a → H2 a = some o) :
    ∃ x, vs[k]? = some x ∧ ∀ Z2 : Addr → Prop, (∀ a, Z2 a → Z a ∨ H a = none) → Rq Z2 H2 x d := by
  obtain ⟨x, hx, r⟩ := s.rq.get h
  exact ⟨x, hx, fun Z2 hz => r.mono hz fun a o e n => h2 a o e (hY a n)⟩
theorem Rq.new2 {Z2 : Addr → Prop} {H2 : Hp} {T : Addr} {o : Obj} {vs : List V} {ds : List PyData} (hT : H2 T = none) (ho : o.dict = none) (hz : ∀ a, Z2 a → H2 a ≠ none) (r : Rqs Z2 H2 vs ds) : Rq Z2 (upd H2 T (HO.th o vs)) (.ref T) (.tuple ds) :=
  .tup upd_same ho (fun z => hz T z hT) (r.up hT)
theorem wk_src {v : V} {xs : List PyData} {vs : List V} {C : Kd → Prop} (s : SrcD K Y Z H v xs vs C) (hY : ∀ a, ¬ Z a → ¬ Y a) {k : Kd} (hk : C k) : Wk b Y Z H (Itk K k) (xs.map D.py) where
  go := fun i d H2 hd h2 g => by
    rw [List.getElem?_map] at hd
    cases e : xs[i]? with
    | none => rw [e] at hd; cases hd
    | some p =>
      rw [e] at hd; cases hd
      obtain ⟨x, hx, r⟩ := s.at hY e h2
      have gv := s.stay k hk H2 h2
      refine ⟨⟨vs, x, gv, hx⟩, fun v H3 y => ?_⟩
      obtain ⟨eH, y⟩ := y
      subst eH
      have : x = v := Option.some.inj (hx.symm.trans (y vs gv))
      subst this
      exact ⟨Ex.refl, g, fun Z2 hz _ => r Z2 hz⟩
  stop := fun i H2 hl h2 => ⟨vs, s.stay k hk H2 h2, by rw [s.rq.length, ← hl, List.length_map]; exact Nat.le_refl _⟩
theorem wk_enum {v : V} {xs : List PyData} {vs : List V} {C : Kd → Prop} (s : SrcD K Y Z H v xs vs C) (hY : ∀ a, ¬ Z a → ¬ Y a) {k : Kd} (hk : C k) : Wk b Y Z H (Iek K k) ((enumP xs).map D.py) where
  go := fun i d H2 hd h2 g => by
    rw [List.getElem?_map] at hd
    cases e : (enumP xs)[i]? with
    | none => rw [e] at hd; cases hd
    | some p =>
      rw [e] at hd; cases hd
      obtain ⟨q, hq, rfl⟩ := enumP_get e
      obtain ⟨x, hx, r⟩ := s.at hY hq h2
      have gv := s.stay k hk H2 h2
      refine ⟨⟨vs, x, gv, hx⟩, fun v H3 y => ?_⟩
      obtain ⟨T, o, x', rfl, hT, ho, eH, y⟩ := y
      subst eH
      have : x = x' := Option.some.inj (hx.symm.trans (y vs gv))
      subst this
      exact ⟨Ex.new hT, Bg.new g hT, fun Z2 hz h3 => Rq.new2 hT ho h3 (.cons (.int _) (.cons (r Z2 hz) .nil))⟩
  stop := fun i H2 hl h2 => ⟨vs, s.stay k hk H2 h2, by rw [s.rq.length, ← hl]; simp [enumP]⟩
theorem wk_range {lo : Int} {n : Nat} : Wk b Y Z H (Itr lo n) ((rangeP lo n).map D.py) where
  go := fun i d H2 hd h2 g => by
    rw [List.getElem?_map] at hd
    cases e : (rangeP lo n)[i]? with
    | none => rw [e] at hd; cases hd
    | some p =>
      rw [e] at hd; cases hd
      obtain ⟨hlt, rfl⟩ := rangeP_get e
      refine ⟨hlt, fun v H3 y => ?_⟩
      obtain ⟨eH, y⟩ := y
      subst eH y
      exact ⟨Ex.refl, g, fun Z2 hz _ => .int _⟩
  stop := fun i H2 hl h2 => by
    have e : n = i := by rw [← hl]; simp [rangeP]
    rw [e]
    exact Nat.le_refl _
end
/-! ### iterators as judgements -/
@[simp] def asO {α : Type} : Option α → (α → Prop) → Prop
  | some a, Q => Q a
  | none, _ => False
theorem asO_ex {α : Type} : ∀ {o : Option α} {Q : α → Prop}, asO o Q → ∃ a, o = some a ∧ Q a
  | some a, _, h => ⟨a, rfl, h⟩
@[simp] def asS : D → (List D → Prop) → Prop
  | .py p, Q => asO (itemsOf p) fun xs => Q (xs.map D.py)
  | _, _ => False
@[simp] def asEn : List D → (List D → Prop) → Prop
  | [.py p], Q => asO (itemsOf p) fun xs => Q ((enumP xs).map D.py)
  | _, _ => False
@[simp] def asZ2 : List D → (List D → Prop) → Prop
  | [.py p, .py q], Q => asO (itemsOf p) fun xs => asO (itemsOf q) fun ys => Q ((zip2P xs ys).map D.py)
  | _, _ => False
@[simp] def asZ3 : List D → (List D → Prop) → Prop
  | [.py p, .py q, .py r], Q => asO (itemsOf p) fun xs => asO (itemsOf q) fun ys => asO (itemsOf r) fun zs => Q ((zip3P xs ys zs).map D.py)
  | _, _ => False
abbrev small62 (i : Int) : Prop := -(2 ^ 62) ≤ i ∧ i < 2 ^ 62
@[simp] theorem small62_nat (n : Nat) : small62 (n : Int) ↔ n < 4611686018427387904 := by unfold small62; omega
@[simp] def asR1 : List D → (List D → Prop) → Prop
  | [.py (.int i)], Q => small62 i ∧ Q ((rangeP 0 i.toNat).map D.py)
  | _, _ => False
@[simp] def asR2 : List D → (List D → Prop) → Prop
  | [.py (.int i), .py (.int j)], Q => (small62 i ∧ small62 j) ∧ Q ((rangeP i (j - i).toNat).map D.py)
  | _, _ => False
theorem asS_ex : ∀ {d : D} {Q : List D → Prop}, asS d Q → ∃ p xs, d = .py p ∧ itemsOf p = some xs ∧ Q (xs.map D.py)
  | .py p, _, h => let ⟨xs, e, q⟩ := asO_ex h; ⟨p, xs, rfl, e, q⟩
theorem asEn_ex : ∀ {d : List D} {Q : List D → Prop}, asEn d Q → ∃ p xs, d = [.py p] ∧ itemsOf p = some xs ∧ Q ((enumP xs).map D.py)
  | [.py p], _, h => let ⟨xs, e, q⟩ := asO_ex h; ⟨p, xs, rfl, e, q⟩
theorem asR1_ex : ∀ {d : List D} {Q : List D → Prop}, asR1 d Q → ∃ i, d = [.py (.int i)] ∧ small62 i ∧ Q ((rangeP 0 i.toNat).map D.py)
  | [.py (.int i)], _, h => ⟨i, rfl, h⟩
@[simp] def iS (t : VT) : VIt := fun ρ Q E => t ρ (fun d => asS d Q) E
@[simp] def iEn (t : VA) : VIt := fun ρ Q E => t ρ (fun d => asEn d Q) E
@[simp] def iZ2 (t : VA) : VIt := fun ρ Q E => t ρ (fun d => asZ2 d Q) E
@[simp] def iZ3 (t : VA) : VIt := fun ρ Q E => t ρ (fun d => asZ3 d Q) E
@[simp] def iR1 (t : VA) : VIt := fun ρ Q E => t ρ (fun d => asR1 d Q) E
@[simp] def iR2 (t : VA) : VIt := fun ρ Q E => t ρ (fun d => asR2 d Q) E
theorem pi_mono {X : Cx} {tg iter : Expr} {t t' : TI} (h : PI X tg iter t) (m : ∀ σ H R, t' σ H R → t σ H R) : PI X tg iter t' := ⟨fun pins s σ H R I q => h.run pins s σ H R I (m σ H R q)⟩
section
variable {X : Cx} {b : Bg} {W : WX} {tg e e1 e2 e3 : Expr} {elts : List Expr} {kk : Nat} {t t1 t2 t3 : VT} {p pos tpos : Pos}
theorem Rp.ref {Z : Addr → Prop} {H : Hp} {v : V} {p : PyData} (r : Rp b Z H v (.py p)) : ∀ a, v = .ref a → ¬ Z a := fun a e => by
  subst e
  cases r <;> assumption
theorem Rb.ref {Z : Addr → Prop} {H : Hp} {v : V} {p : PyData} (g : Gd b Z H) (r : Rb b Z H v (.py p)) : ∀ a, v = .ref a → ¬ b.B a := fun a e => by
  rcases r with r | ⟨c, e1, n, _⟩
  · exact fun z => Rp.ref r a e (g.zb a z)
  · rw [e] at e1; cases e1; exact n
/-- a loop -/
theorem vi_src (h : VE X b W e t) : VI X b W tg e (iS t) := pi_mono (pi_src h) fun σ H R ⟨Zo, Z, ρ, Qd, Ed, v, q, l, m⟩ =>
  ⟨Zo, Z, ρ, _, Ed, v, q, fun x H1 d x1 g1 r1 hh => by
    obtain ⟨p, xs, ed, ei, q1⟩ := asS_ex hh
    subst ed
    obtain ⟨vs, C, s⟩ := srcD (K := X.K) (Y := Z) (.inl r1) (Rp.ref r1) ei
    exact ⟨vs, C, s.src, fun k hk => l _ H1 _ x1 g1 (wk_src s (fun _ n => n) hk) q1⟩, m⟩
theorem vib_src (h : VX X b W e t) : VIb X b W tg e (iS t) := pi_mono (pi_src h) fun σ H R ⟨Zo, Z, ρ, Qd, Ed, v, q, l, m⟩ =>
  ⟨Zo, Z, ρ, _, Ed, v, q, fun x H1 d x1 g1 r1 hh => by
    obtain ⟨p, xs, ed, ei, q1⟩ := asS_ex hh
    subst ed
    have gd := (v.ex x1 g1).gd
    obtain ⟨vs, C, s⟩ := srcD (K := X.K) (Y := b.B) r1 (Rb.ref gd r1) ei
    exact ⟨vs, C, s.src, fun k hk => l _ H1 _ x1 g1 (wk_src s (fun _ n z => n (gd.zb _ z)) hk) q1⟩, m⟩
theorem rbs1 {Z : Addr → Prop} {H : Hp} {v : List V} {d : D} (r : Rps b Z H v [d]) : ∃ x, v = [x] ∧ Rp b Z H x d := by
  cases r with
  | cons r t => cases t; exact ⟨_, rfl, r⟩
theorem rbs2 {Z : Addr → Prop} {H : Hp} {v : List V} {d d2 : D} (r : Rps b Z H v [d, d2]) : ∃ x y, v = [x, y] ∧ Rp b Z H x d ∧ Rp b Z H y d2 := by
  cases r with
  | cons r t => obtain ⟨y, rfl, r2⟩ := rbs1 t; exact ⟨_, y, rfl, r, r2⟩
variable {ta : VA}
theorem vi_enum (hg : Gl X "enumerate") (hm : X.mg "enumerate" = none) (h : VAs X b W [e] ta) (hs : starEach [e] X.env = [(false, eval e X.env)] := by rfl) : VI X b W (.Tuple elts kk tpos) (.Call (.Name "enumerate" p) [e] [] pos) (iEn ta) :=
  pi_mono (pi_enumS hg hm h hs) fun σ H R ⟨Zo, Z, ρ, Qd, Ed, v, q, l, m⟩ =>
    ⟨Zo, Z, ρ, _, Ed, v, q, fun x H1 d x1 g1 r1 hh => by
      obtain ⟨p, xs, ed, ei, q1⟩ := asEn_ex hh
      subst ed
      obtain ⟨w, rfl, r2⟩ := rbs1 r1
      obtain ⟨vs, C, s⟩ := srcD (K := X.K) (Y := Z) (.inl r2) (Rp.ref r2) ei
      exact ⟨w, vs, C, rfl, s.src, fun k hk => l _ H1 _ x1 g1 (wk_enum s (fun _ n => n) hk) q1⟩, m⟩
theorem vib_enum (hg : Gl X "enumerate") (hm : X.mg "enumerate" = none) (h : VXs X b W [e] ta) (hs : starEach [e] X.env = [(false, eval e X.env)] := by rfl) : VIb X b W (.Tuple elts kk tpos) (.Call (.Name "enumerate" p) [e] [] pos) (iEn ta) :=
  pi_mono (pi_enumS hg hm h hs) fun σ H R ⟨Zo, Z, ρ, Qd, Ed, v, q, l, m⟩ =>
    ⟨Zo, Z, ρ, _, Ed, v, q, fun x H1 d x1 g1 r1 hh => by
      obtain ⟨p, xs, ed, ei, q1⟩ := asEn_ex hh
      subst ed
      have gd := (v.ex x1 g1).gd
      obtain ⟨w, rfl, r2⟩ := Rbs.one r1
      obtain ⟨vs, C, s⟩ := srcD (K := X.K) (Y := b.B) r2 (Rb.ref gd r2) ei
      exact ⟨w, vs, C, rfl, s.src, fun k hk => l _ H1 _ x1 g1 (wk_enum s (fun _ n z => n (gd.zb _ z)) hk) q1⟩, m⟩
theorem pi_rng1 {Yf : (Addr → Prop) → Addr → Prop} (hg : Gl X "range") (hm : X.mg "range" = none) (h : VXs X b W [e] ta) (hs : starEach [e] X.env = [(false, eval e X.env)] := by rfl) : PI X tg (.Call (.Name "range" p) [e] [] pos) (LI b W Yf (iR1 ta)) :=
  pi_mono (pi_range1 hg hm h hs) fun σ H R ⟨Zo, Z, ρ, Qd, Ed, v, q, l, m⟩ =>
    ⟨Zo, Z, ρ, _, Ed, v, q, fun x H1 d x1 g1 r1 hh => by
      obtain ⟨i, ed, ⟨i1, i2⟩, q1⟩ := asR1_ex hh
      subst ed
      obtain ⟨w, rfl, r2⟩ := Rbs.one r1
      exact ⟨i, by rw [r2.int], i1, i2, l _ H1 _ x1 g1 wk_range q1⟩, m⟩
theorem vi_range1 (hg : Gl X "range") (hm : X.mg "range" = none) (h : VXs X b W [e] ta) (hs : starEach [e] X.env = [(false, eval e X.env)] := by rfl) : VI X b W tg (.Call (.Name "range" p) [e] [] pos) (iR1 ta) := pi_rng1 hg hm h hs
theorem vib_range1 (hg : Gl X "range") (hm : X.mg "range" = none) (h : VXs X b W [e] ta) (hs : starEach [e] X.env = [(false, eval e X.env)] := by rfl) : VIb X b W tg (.Call (.Name "range" p) [e] [] pos) (iR1 ta) := pi_rng1 hg hm h hs
end
end VL
set_option Elab.async false
set_option linter.all false
set_option maxRecDepth 100000
set_option maxHeartbeats 4000000
namespace VL
open PySem PySem.Spec PyProof.Rows L2
/-! ### from a loop's start on -/
section
variable {b : Bg} {W : WX} {H0 : Hp} {M Zo Z Z' : Addr → Prop} {σ σ' : L2.St} {H H' : Hp} {ρ ρ' : VEnv} {De : VEnds} {Dn : Ends}
/-- what a loop may write: its def's own objects -/
abbrev Mo (Zo Z : Addr → Prop) : Addr → Prop := fun a => Z a ∧ ¬ Zo a
theorem VOk.here (v : VOk b Zo Z σ H ρ) : FOk b H (Mo Zo Z) Zo Z σ H ρ :=
  ⟨v, fun _ _ e _ _ => e, fun i d a h1 h2 => by
    obtain ⟨c, h3, h4, h5, _⟩ := v.own i d h1
    rw [h2] at h3; cases h3
    exact .inl ⟨h4, h5⟩⟩
theorem FOk.mine (f : FOk b H0 M Zo Z σ H ρ) {a : Addr} (h : Mo Zo Z a) : M a ∨ H0 a = none := by
  rcases f.v.zi a h.1 with z | ⟨i, d, h1, h2⟩
  · exact absurd z h.2
  · exact f.fr i d a h1 h2
theorem FOk.extBack (f : FOk b H0 M Zo Z σ H ρ) (x : ∀ a o, H a = some o → ¬ b.B a → ¬ Mo Zo Z a → H' a = some o) : ∀ a o, H0 a = some o → ¬ b.B a → ¬ M a → H' a = some o := fun a o e nb nm =>
  x a o (f.ext a o e nb nm) nb fun mo => by
    rcases f.mine mo with z | z
    · exact nm z
    · rw [e] at z; cases z
theorem FOk.back (f : FOk b H0 M Zo Z σ H ρ) (f' : FOk b H (Mo Zo Z) Zo Z' σ' H' ρ') : FOk b H0 M Zo Z' σ' H' ρ' :=
  ⟨f'.v, f.extBack f'.ext, fun i d a h1 h2 => by
    rcases f'.fr i d a h1 h2 with z | z
    · exact f.mine z
    · cases q : H0 a with
      | none => exact .inr rfl
      | some o =>
        by_cases hb : b.B a
        · exact absurd z (b.dom _ _ f.v.g hb)
        · by_cases hm : M a
          · exact .inl hm
          · rw [f.ext a o q hb hm] at z; cases z⟩
theorem Lk.here (l : Lk b W H0 M Zo De Dn) (f : FOk b H0 M Zo Z σ H ρ) : Lk b W H (Mo Zo Z) Zo De Dn where
  nx := fun Z' σ' H' ρ' f' q => l.nx Z' σ' H' ρ' (f.back f') q
  rt := fun v H' d x g r q => l.rt v H' d (f.extBack x) g r q
  bk := fun Z' σ' H' ρ' f' q => l.bk Z' σ' H' ρ' (f.back f') q
  ct := fun Z' σ' H' ρ' f' q => l.ct Z' σ' H' ρ' (f.back f') q
  ex := fun c x Z' σ' H' ρ' er f' r q => l.ex c x Z' σ' H' ρ' er (f.back f') r q
/-- what is owned later was owned at the start, or is new -/
theorem FOk.young (f : FOk b H (Mo Zo Z) Zo Z' σ' H' ρ') (v : VOk b Zo Z σ H ρ) : ∀ a, Z' a → Z a ∨ H a = none := fun a z => by
  rcases f.v.zi a z with z | ⟨i, d, h1, h2⟩
  · exact .inl (v.zo a z)
  · exact (f.fr i d a h1 h2).imp (·.1) id
end
/-! ### for -/
@[simp] def forGo (g : VTg) (tb : VS) : List D → VEnv → VEnds → Prop
  | [], ρ, De => De.nx ρ
  | d :: ds, ρ, De => g d ρ fun ρ1 => tb ρ1 { De with nx := fun ρ2 => forGo g tb ds ρ2 De, ct := fun ρ2 => forGo g tb ds ρ2 De, bk := De.nx }
@[simp] def sFor (ti : VIt) (g : VTg) (tb : VS) : VS := fun ρ De => ti ρ (fun ds => forGo g tb ds ρ De) (De.ex ρ)
section
variable {X : Cx} {b : Bg} {W : WX} {tg iter : Expr} {body : List Stmt} {ti : VIt} {js : List Nat} {g : VTg} {tb : VS} {pos : Pos}
theorem vs_for (hp : PassesOwn (model X.prog X.w) X.A X.env X.xe) (hc : X.calm = true) (hi : VI X b W tg iter ti) (hg : VG X b tg js g) (hb : VSs X b W body tb)
    (hs : ∀ x, foldedSetIterable iter X.env x = pure x := by intro _; rfl) : VSt X b W (.For tg iter body [] pos) (sFor ti g tb) :=
  ps_mono (ps_for hp hc hi hg hb hs) fun Dn σ H ⟨H0, M, Zo, Z, ρ, De, f, q, l⟩ => ⟨Zo, Z, ρ, _, _, f.v, q, fun J H1 ds x1 g1 wk q1 => by
    have f1 := f.ex x1 g1
    have l1 := l.here f1
    have hZ : ∀ a, ¬ Z a → ¬ b.B a ∧ ¬ Mo Zo Z a := fun a n => ⟨fun z => n (f.v.zo _ (f.v.zb a z)), fun z => n z.1⟩
    refine ⟨fun i m σ' H' => m = ds.length - i ∧ i ≤ ds.length ∧ ∃ Z' ρ', FOk b H1 (Mo Zo Z) Zo Z' σ' H' ρ' ∧ forGo g tb (ds.drop i) ρ' De, ⟨ds.length, by simp, Nat.zero_le _, Z, ρ, f1.v.here, q1⟩, ?_⟩
    rintro i m σ' H' ⟨rfl, hi, Z', ρ', f', q'⟩
    have st : ∀ a o, H1 a = some o → ¬ Z a → H' a = some o := fun a o e n => f'.ext a o e (hZ a n).1 (hZ a n).2
    by_cases hlt : i < ds.length
    · rw [List.drop_eq_getElem_cons hlt] at q'
      obtain ⟨go, yl⟩ := wk.go i ds[i] H' (List.getElem?_eq_getElem hlt) st f'.v.g
      refine .inr ⟨go, fun σ2 H2 => ∃ Z2 ρ2, FOk b H1 (Mo Zo Z) Zo Z2 σ2 H2 ρ2 ∧ forGo g tb (ds.drop (i + 1)) ρ2 De, fun σ2 H2 h2 => ⟨ds.length - (i + 1), by omega, rfl, hlt, h2⟩, fun v H3 y => ?_⟩
      obtain ⟨x3, g3, r3⟩ := yl v H3 y
      refine ⟨H1, Mo Zo Z, Zo, Z', ρ', _, _, f'.ex x3 g3, r3 Z' (f'.young f1.v) f'.v.dom, q', fun Z4 σ4 ρ4 _ _ f4 q4 => ?_⟩
      exact ⟨H1, Mo Zo Z, Zo, Z4, ρ4, _, f4, q4, ⟨fun Z5 σ5 H5 ρ5 f5 q5 => ⟨Z5, ρ5, f5, q5⟩, l1.rt, fun Z5 σ5 H5 ρ5 f5 q5 => l1.nx Z5 σ5 H5 ρ5 f5 q5, fun Z5 σ5 H5 ρ5 f5 q5 => ⟨Z5, ρ5, f5, q5⟩, l1.ex⟩⟩
    · have e : ds.length = i := by omega
      rw [List.drop_eq_nil_of_le (by omega)] at q'
      exact .inl ⟨wk.stop i H' e st, l1.nx Z' σ' H' ρ' f' q'⟩, l.er f⟩
/-! ### while -/
def sWhile (c : VB) (tb : VS) : VS := fun ρ De => ∃ Iv : Nat → VEnv → Prop, (∃ m, Iv m ρ) ∧ ∀ m ρ, Iv m ρ →
  c ρ (fun k => if k = true then tb ρ { De with nx := fun ρ' => ∃ m', m' < m ∧ Iv m' ρ', ct := fun ρ' => ∃ m', m' < m ∧ Iv m' ρ', bk := De.nx } else De.nx ρ) (De.ex ρ)
theorem vs_while {c : Expr} {tc : VB} (hp : PassesOwn (model X.prog X.w) X.A X.env X.xe) (hc : VTe X b W c tc) (hb : VSs X b W body tb) : VSt X b W (.While c body [] pos) (sWhile tc tb) :=
  ps_mono (ps_while hp hc hb) fun Dn σ H ⟨H0, M, Zo, Z, ρ, De, f, ⟨Iv, ⟨m0, i0⟩, turn⟩, l⟩ => by
    refine ⟨fun m σ' H' => ∃ Z' ρ', FOk b H0 M Zo Z' σ' H' ρ' ∧ Iv m ρ', ⟨m0, Z, ρ, f, i0⟩, ?_⟩
    rintro m σ' H' ⟨Z', ρ', f', q'⟩
    refine ⟨Zo, Z', ρ', _, _, f'.v, turn m ρ' q', fun k H2 x g q2 => ?_, l.er f'⟩
    cases k with
    | true =>
      refine ⟨fun σ3 H3 => ∃ m', m' < m ∧ ∃ Z3 ρ3, FOk b H0 M Zo Z3 σ3 H3 ρ3 ∧ Iv m' ρ3, fun σ3 H3 ⟨m', hm, h3⟩ => ⟨m', hm, h3⟩, ?_⟩
      exact ⟨H0, M, Zo, Z', ρ', _, f'.ex x g, q2, ⟨fun Z5 σ5 H5 ρ5 f5 ⟨m', hm, q5⟩ => ⟨m', hm, Z5, ρ5, f5, q5⟩, l.rt, fun Z5 σ5 H5 ρ5 f5 q5 => l.nx Z5 σ5 H5 ρ5 f5 q5, fun Z5 σ5 H5 ρ5 f5 ⟨m', hm, q5⟩ => ⟨m', hm, Z5, ρ5, f5, q5⟩, l.ex⟩⟩
    | false => exact l.nx Z' σ' H2 ρ' (f'.ex x g) q2
end
/-! ### list comprehensions -/
abbrev noW : WX := fun _ _ _ _ => False
abbrev noE : Er → Prop := fun _ => False
@[simp] def wipeE (ρ : VEnv) : List Nat → VEnv
  | [] => ρ
  | v :: vs => (wipeE ρ vs).set v .un
@[simp] def wYes : VB := fun _ Q _ => Q true
@[simp] def lcGo (g : VTg) (tt : VB) (te : VT) (Q : D → Prop) : List D → List PyData → VEnv → Prop
  | [], acc, _ => Q (.py (.list acc))
  | d :: ds, acc, ρ => g d ρ fun ρ1 => tt ρ1 (fun k => if k = true then te ρ1 (fun y => ∃ p, y = .py p ∧ acc.length < sizeLine ∧ lcGo g tt te Q ds (acc ++ [p]) ρ) noE else lcGo g tt te Q ds acc ρ) noE
/-- no slot of these is owned -/
@[simp] def noOwn (ρ : VEnv) (vs : List Nat) : Prop := ∀ i ∈ vs, ∀ d, ρ[i]? ≠ some (.own d)
@[simp] def vLc (vs : List Nat) (ti : VIt) (g : VTg) (tt : VB) (te : VT) : VT := fun ρ Q E => noOwn ρ vs ∧ ti ρ (fun ds => lcGo g tt te Q ds [] (wipeE ρ vs)) E
theorem wipeE_len (ρ : VEnv) : ∀ vs : List Nat, (wipeE ρ vs).length = ρ.length
  | [] => rfl
  | v :: vs => by unfold wipeE; rw [List.length_set, wipeE_len ρ vs]
theorem wipeE_in {ρ : VEnv} {i : Nat} {s : Slot} : ∀ {vs : List Nat}, (wipeE ρ vs)[i]? = some s → (s = .un ∧ i ∈ vs) ∨ (ρ[i]? = some s ∧ i ∉ vs)
  | [], h => .inr ⟨h, by simp⟩
  | v :: vs, h => by
    unfold wipeE at h
    by_cases hi : v = i
    · subst hi
      by_cases hv : v < (wipeE ρ vs).length
      · rw [List.getElem?_set_self hv] at h; cases h; exact .inl ⟨rfl, List.mem_cons_self⟩
      · rw [List.getElem?_eq_none (by rw [List.length_set]; omega)] at h; cases h
    · rw [List.getElem?_set_ne hi] at h
      rcases wipeE_in h with ⟨h1, h2⟩ | ⟨h1, h2⟩
      · exact .inl ⟨h1, List.mem_cons_of_mem _ h2⟩
      · exact .inr ⟨h1, fun m => by
          rcases List.mem_cons.mp m with e | m
          · exact hi e.symm
          · exact h2 m⟩
theorem wipeE_out {ρ : VEnv} {i : Nat} {s : Slot} (h : ρ[i]? = some s) : ∀ {vs : List Nat}, i ∉ vs → (wipeE ρ vs)[i]? = some s
  | [], _ => h
  | v :: vs, hn => by
    unfold wipeE
    rw [List.getElem?_set_ne (fun e => hn (by rw [e]; exact List.mem_cons_self))]
    exact wipeE_out h fun m => hn (List.mem_cons_of_mem _ m)
theorem wipe_same {σ σ' : L2.St} {ρ ρ' : VEnv} {js : List Nat} (s : Same js σ σ' ρ ρ') : ∀ {vs : List Nat}, (∀ j ∈ js, j ∈ vs) → wipe σ' vs = wipe σ vs := fun {vs} h => by
  have wo : ∀ (τ : L2.St) (j : Nat) (vs : List Nat), j ∉ vs → (wipe τ vs)[j]? = τ[j]? := fun τ j vs => by
    induction vs with
    | nil => intro _; rfl
    | cons v vs ih =>
      intro hn
      show ((wipe τ vs).set v none)[j]? = _
      rw [List.getElem?_set_ne (fun e => hn (by rw [e]; exact List.mem_cons_self))]
      exact ih fun m => hn (List.mem_cons_of_mem _ m)
  have wi : ∀ (τ : L2.St) (j : Nat) (vs : List Nat), j ∈ vs → (wipe τ vs)[j]? = if j < τ.length then some none else none := fun τ j vs => by
    induction vs with
    | nil => intro h; cases h
    | cons v vs ih =>
      intro hm
      show ((wipe τ vs).set v none)[j]? = _
      by_cases e : v = j
      · subst e
        by_cases hl : v < τ.length
        · rw [List.getElem?_set_self (by rw [wipe_length]; exact hl), if_pos hl]
        · rw [List.getElem?_eq_none (by rw [List.length_set, wipe_length]; omega), if_neg hl]
      · rw [List.getElem?_set_ne e]
        exact ih ((List.mem_cons.mp hm).resolve_left fun q => e q.symm)
  apply List.ext_getElem?
  intro j
  by_cases hj : j ∈ vs
  · rw [wi σ' j vs hj, wi σ j vs hj, s.len]
  · rw [wo σ' j vs hj, wo σ j vs hj]
    exact s.out j fun m => hj (h j m)
theorem VOk.wiped {b : Bg} {Zo Z : Addr → Prop} {σ : L2.St} {H : Hp} {ρ : VEnv} (v : VOk b Zo Z σ H ρ) {vs : List Nat} (hn : noOwn ρ vs) : VOk b Zo Z (wipe σ vs) H (wipeE ρ vs) where
  g := v.g
  zb := v.zb
  zo := v.zo
  dom := v.dom
  zi := fun a z => by
    rcases v.zi a z with z | ⟨i, d, h1, h2⟩
    · exact .inl z
    · have hi : i ∉ vs := fun m => hn i m d h1
      exact .inr ⟨i, d, wipeE_out h1 hi, by rw [wipe_out hi]; exact h2⟩
  own := fun i d h => by
    rcases wipeE_in h with ⟨h1, _⟩ | ⟨h1, hi⟩
    · cases h1
    · obtain ⟨a, h2, h3⟩ := v.own i d h1
      exact ⟨a, by rw [wipe_out hi]; exact h2, h3⟩
  inj := fun i j d e a h1 h2 h3 h4 => by
    rcases wipeE_in h1 with ⟨q, _⟩ | ⟨h1, hi⟩
    · cases q
    · rcases wipeE_in h2 with ⟨q, _⟩ | ⟨h2, hj⟩
      · cases q
      · rw [wipe_out hi] at h3
        rw [wipe_out hj] at h4
        exact v.inj i j d e a h1 h2 h3 h4
  shr := fun i d h => by
    rcases wipeE_in h with ⟨h1, _⟩ | ⟨h1, hi⟩
    · cases h1
    · obtain ⟨u, h2, h3⟩ := v.shr i d h1
      exact ⟨u, by rw [wipe_out hi]; exact h2, h3⟩
  len := by rw [wipeE_len, wipe_length]; exact v.len
section
variable {b : Bg} {Z : Addr → Prop} {H : Hp} {a : Addr}
/-- one more address to be avoided: nothing that is known reaches a new one -/
theorem Rp.apart (ha : H a = none) {o : HO} {v : V} {d : D} (r : Rp b Z H v d) : Rp b (fun c => Z c ∨ c = a) (upd H a o) v d :=
  r.mono (fun c z => z.imp id fun e => by rw [e]; exact ha) fun c u e _ => by rw [upd_ne (ne_of_none e ha)]; exact e
theorem Ow.apart (ha : H a = none) {o : HO} {c : Addr} {d : D} (r : Ow b Z H c d) : Ow b (fun c => Z c ∨ c = a) (upd H a o) c d :=
  r.mono (fun c z => z.imp id fun e => by rw [e]; exact ha) (fun c u e _ => by rw [upd_ne (ne_of_none e ha)]; exact e) fun u e => by rw [upd_ne (ne_of_none e ha)]; exact e
theorem VOk.apart {Zo : Addr → Prop} {σ : L2.St} {ρ : VEnv} (v : VOk b Zo Z σ H ρ) (ha : H a = none) {o : HO} : VOk b (fun c => Zo c ∨ c = a) (fun c => Z c ∨ c = a) σ (upd H a o) ρ where
  g := Bg.new v.g ha
  zb := fun c z => .inl (v.zb c z)
  zo := fun c z => z.imp (v.zo c) id
  dom := fun c z => by
    by_cases e : c = a
    · rw [e, upd_same]; simp
    · rw [upd_ne e]; exact v.dom c (z.resolve_right e)
  zi := fun c z => z.elim (fun z => (v.zi c z).imp .inl id) fun e => .inl (.inr e)
  own := fun i d e => by
    obtain ⟨c, h1, h2, h3, h4⟩ := v.own i d e
    exact ⟨c, h1, .inl h2, fun z => z.elim h3 fun q => v.dom c h2 (by rw [q]; exact ha), h4.apart ha⟩
  inj := v.inj
  shr := fun i d e => by
    obtain ⟨u, h1, h2⟩ := v.shr i d e
    exact ⟨u, h1, h2.apart ha⟩
  len := v.len
/-- an object that is an outer one's is written: nothing here reaches it -/
theorem VOk.outer {Zo : Addr → Prop} {σ : L2.St} {ρ : VEnv} (v : VOk b Zo Z σ H ρ) (ha : Zo a) (nb : ¬ b.B a) (hx : ∀ o, still o → H a ≠ some o) {o : HO} : VOk b Zo Z σ (upd H a o) ρ := by
  have keep : ∀ c u, H c = some u → ¬ Z c → upd H a o c = some u := fun c u e n => by rw [upd_ne (fun q => n (by rw [q]; exact v.zo a ha))]; exact e
  refine ⟨b.loc H _ (fun c hc => upd_ne fun q => nb (by rw [← q]; exact hc)) (fun c o ho e => by rw [upd_ne (fun q => hx o ho (by rw [← q]; exact e))]; exact e) v.g, v.zb, v.zo, fun c z => ?_, v.zi, fun i d e => ?_, v.inj, fun i d e => ?_, v.len⟩
  · by_cases q : c = a
    · rw [q, upd_same]; simp
    · rw [upd_ne q]; exact v.dom c z
  · obtain ⟨c, h1, h2, h3, h4⟩ := v.own i d e
    exact ⟨c, h1, h2, h3, h4.mono (fun _ z => .inl z) keep fun u e => by rw [upd_ne (fun q => h3 (by rw [q]; exact ha))]; exact e⟩
  · obtain ⟨u, h1, h2⟩ := v.shr i d e
    exact ⟨u, h1, h2.mono (fun _ z => .inl z) keep⟩
end
section
variable {b : Bg} {W : WX} {ti : VIt} {js : List Nat} {g : VTg} {tt : VB} {te : VT} {vs : List Nat}
theorem lc_sound (hjs : ∀ j ∈ js, j ∈ vs) : ∀ σ H Q, LE b W (RN b) (vLc vs ti g tt te) σ H Q → tLc (LI b W (fun _ => b.B) ti) (LG b js g) (LB b noW tt) (LE b noW (RE b) te) vs σ H Q :=
  fun σ H Q ⟨Zo, Z, ρ, Qd, Ed, v, ⟨hno, q⟩, l, m⟩ => ⟨Zo, Z, ρ, _, _, v, q, fun J H1 ds x1 g1 wk q1 => by
    intro A hA
    have v1 := v.ex x1 g1
    have nzA : ¬ Z A := v1.fresh hA
    have nbA : ¬ b.B A := v1.nb nzA
    have hA0 : H A = none := none_back g1 x1 A hA
    have v2 := (v1.apart hA (o := .lst [])).wiped hno
    -- the invariant
    let Iv : Nat → Hp → Prop := fun i H' => ∃ xs acc, H' A = some (.lst xs) ∧ Rqs (fun c => Z c ∨ c = A) H' xs acc ∧ VOk b (fun c => Zo c ∨ c = A) (fun c => Z c ∨ c = A) (wipe σ vs) H' (wipeE ρ vs) ∧ (∀ a o, H1 a = some o → ¬ b.B a → H' a = some o) ∧ lcGo g tt te Qd (ds.drop i) acc (wipeE ρ vs)
    refine ⟨fun i m H' => m = ds.length - i ∧ i ≤ ds.length ∧ Iv i H', ⟨ds.length, by simp, Nat.zero_le _, [], [], upd_same, .nil, v2, fun a o e _ => by rw [upd_ne (ne_of_none e hA)]; exact e, q1⟩, ?_⟩
    rintro i m H' ⟨rfl, hi, xs, acc, hx, rx, v', st, q'⟩
    by_cases hlt : i < ds.length
    · rw [List.drop_eq_getElem_cons hlt] at q'
      obtain ⟨go, yl⟩ := wk.go i ds[i] H' (List.getElem?_eq_getElem hlt) st v'.g
      refine .inr ⟨go, Iv (i + 1), fun H2 h2 => ⟨ds.length - (i + 1), by omega, rfl, hlt, h2⟩, fun w H3 y => ?_⟩
      obtain ⟨x3, g3, r3⟩ := yl w H3 y
      have v3 := v'.ex x3 g3
      refine ⟨H3, fun _ => True, _, _, _, ds[i], _, ⟨v3, fun _ _ e _ _ => e, fun _ _ _ _ _ => .inl trivial⟩, r3 _ (fun a z => z.imp id fun e => by rw [e]; exact hA) v'.dom, q', fun Z4 σ4 ρ4 sub sm f4 q4 => ?_⟩
      have ww : wipe (wipe σ vs) vs = wipe σ vs := wipe_same (js := vs) (σ := σ) (ρ := ρ) (ρ' := ρ) ⟨by rw [wipe_length], fun j hj => wipe_out hj, fun _ _ => rfl⟩ fun j h => h
      refine ⟨(wipe_same sm hjs).trans ww, ?_⟩
      have st3 : ∀ a o, H1 a = some o → ¬ b.B a → H3 a = some o := fun a o e n => x3 a o (st a o e n) n
      have hx3 : H3 A = some (.lst xs) := x3 A _ hx nbA
      refine ⟨_, _, _, _, _, f4.v, q4, fun k H5 x5 g5 q5 => ?_, fun c z H5 er _ _ _ h => h.elim⟩
      have st5 : ∀ a o, H1 a = some o → ¬ b.B a → H5 a = some o := fun a o e n => x5 a o (st3 a o e n) n
      have hx5 : H5 A = some (.lst xs) := x5 A _ hx3 nbA
      have v5 := v3.ex x5 g5
      have rx5 : Rqs (fun c => Z c ∨ c = A) H5 xs acc := v3.rqs x5 (v'.rqs x3 rx)
      cases k with
      | false => exact ⟨xs, acc, hx5, rx5, v5, st5, q5⟩
      | true =>
        refine ⟨_, _, _, _, _, f4.v.ex x5 g5, q5, fun u H6 d6 x6 g6 r6 ⟨p, ep, hz, q6⟩ => ?_, fun c z H6 er _ _ _ h => h.elim⟩
        subst ep
        have hx6 : H6 A = some (.lst xs) := x6 A _ hx5 nbA
        have rx6 := v5.rqs x6 rx5
        have v6 := v5.ex x6 g6
        have zo4 : ∀ c, (Zo c ∨ c = A) → Z4 c := f4.v.zo
        have r7 : Rq (fun c => Z c ∨ c = A) H6 u p := by
          refine Rq.mono (fun c z => ?_) (fun _ _ e _ => e) r6
          -- what the block's names own is what the def owns
          rcases v'.zi c z with z' | ⟨j, dj, h1, h2⟩
          · exact .inl (zo4 c z')
          · rcases wipeE_in h1 with ⟨h1, _⟩ | ⟨h1, hj⟩
            · cases h1
            · have hj' : j ∉ js := fun m => hj (hjs j m)
              have e4 := sm.env j hj'
              rw [wipeE_out h1 hj] at e4
              obtain ⟨c', h3, h4, _⟩ := f4.v.own j dj e4
              rw [sm.out j hj', h2] at h3
              cases h3
              exact .inl h4
        refine ⟨xs, hx6, by rw [rx6.length]; exact hz, xs ++ [u], acc ++ [p], upd_same, ?_, v6.outer (.inr rfl) nbA (fun o ho z => by rw [hx6] at z; cases z; exact ho), fun a o e n => ?_, q6⟩
        · have mv : ∀ c o, H6 c = some o → ¬ (Z c ∨ c = A) → upd H6 A (.lst (xs ++ [u])) c = some o := fun c o e n => by rw [upd_ne (fun q => n (.inr q))]; exact e
          exact (rx6.mono (fun _ z => .inl z) mv).append (.cons (Rq.mono (fun _ z => .inl z) mv r7) .nil)
        · rw [upd_ne (ne_of_none e hA)]
          exact x6 a o (st5 a o e n) n
    · have e : ds.length = i := by omega
      rw [List.drop_eq_nil_of_le (by omega)] at q'
      refine .inl ⟨wk.stop i H' e st, ?_⟩
      have xx : Ex b H H' := fun a o e n => st a o (x1 a o e n) n
      exact l _ H' (.py (.list acc)) xx v'.g ⟨A, rfl, hA0, xs, hx, rx⟩ q', m⟩
end
section
variable {X : Cx} {b : Bg} {W : WX} {tg iter elt c : Expr} {ifs : List Expr} {scope : Scope} {own : List (Str × Nat)} {pos spos py : Pos} {ti : VIt} {js : List Nat} {g : VTg} {tt : VB} {te : VT} {i : Nat} {y : Str}
/-- a block's tests -/
def VTs (X : Cx) (b : Bg) (ifs : List Expr) (t : VB) : Prop := PTs X ifs (LB b noW t)
theorem pts_mono {t t' : TT} (h : PTs X ifs t) (m : ∀ σ H Q, t' σ H Q → t σ H Q) : PTs X ifs t' := ⟨fun pins s σ H Q I q => h.run pins s σ H Q I (m σ H Q q)⟩
theorem vts_nil : VTs X b [] wYes := pts_mono pts_nil fun σ H Q ⟨Zo, Z, ρ, Qd, Ed, v, q, l, _⟩ => l true H Ex.refl v.g q
theorem vts_one (h : VTe X b noW c tt) : VTs X b [c] tt := pts_one h
theorem vn_lc (hc : X.calm = true) (hN : X.N.Nodup) (hi : VIb X b W tg iter ti) (ok : BlkOk X.N X.env.scope scope own) (hjs : ∀ j ∈ js, j ∈ own.map (·.2))
    (hg : ∀ (s : Shared) (H : Hp) (C : Addr) (cl : List (Str × Addr)) (fp : List Addr), VG (X.blk s H scope (compEnvC scope cl C X.env) fp) b tg js g) (ht : ∀ (s : Shared) (H : Hp) (C : Addr) (cl : List (Str × Addr)) (fp : List Addr), VTs (X.blk s H scope (compEnvC scope cl C X.env) fp) b ifs tt)
    (he : ∀ (s : Shared) (H : Hp) (C : Addr) (cl : List (Str × Addr)) (fp : List Addr), VE (X.blk s H scope (compEnvC scope cl C X.env) fp) b noW elt te) (hs : ∀ x, foldedSetIterable iter X.env x = pure x := by intro _; rfl) :
    VN X b W (.ListComp elt [⟨tg, iter, ifs, 0⟩] scope pos) (vLc (own.map (·.2)) ti g tt te) :=
  pe_mono (pe_lc hc hN hi ok hg ht he hs) (lc_sound hjs)
end
end VL
set_option Elab.async false
set_option linter.all false
set_option maxRecDepth 100000
set_option maxHeartbeats 4000000
namespace VL
open PySem PySem.Spec PyProof.Rows L2
/-! ### what a def promises, by values -/
abbrev SV := List D → (D → Prop) → (Er → Prop) → Prop
def spV (b : Bg) (S : SV) : Sp := fun vs H Q E => ∃ Z ds Qd Ed, Gd b Z H ∧ Rps b Z H vs ds ∧ S ds Qd Ed ∧ (∀ v H' d, Ex b H H' → b.G H' → Rp b Z H' v d → Qd d → Q v H') ∧ ∀ c x H' er, Ex b H H' → b.G H' → ErRp b Z H' c x er → Ed er → E c x H'
/-- the ends of a def's body -/
@[simp] def fin (Q : D → Prop) (E : Er → Prop) : VEnds := { nx := fun _ => Q (.py .none), rt := Q, bk := fun _ => False, ct := fun _ => False, ex := fun _ => E }
/-- the names' values at the entry -/
@[simp] def envOf (n : Nat) (ds : List D) : VEnv := ds.map Slot.shr ++ List.replicate (n - ds.length) .un
theorem Rps.at {b : Bg} {Z : Addr → Prop} {H : Hp} : ∀ {vs : List V} {ds : List D} {i : Nat} {d : D}, Rps b Z H vs ds → ds[i]? = some d → ∃ v, vs[i]? = some v ∧ Rp b Z H v d
  | _, _, _, _, .nil, e => by simp at e
  | _, _, 0, _, .cons r _, e => by simp at e; subst e; exact ⟨_, rfl, r⟩
  | _, _, i + 1, _, .cons _ t, e => by
    obtain ⟨y, h1, h2⟩ := Rps.at (i := i) t (by simpa using e)
    exact ⟨y, by simpa using h1, h2⟩
theorem envOf_at {n i : Nat} {ds : List D} {s : Slot} (h : (envOf n ds)[i]? = some s) : s = .un ∨ ∃ d, s = .shr d ∧ ds[i]? = some d := by
  unfold envOf at h
  by_cases hi : i < ds.length
  · rw [List.getElem?_append_left (by simpa using hi), List.getElem?_map] at h
    cases e : ds[i]? with
    | none => rw [e] at h; cases h
    | some d => rw [e] at h; cases h; exact .inr ⟨d, rfl, rfl⟩
  · rw [List.getElem?_append_right (by simpa using hi), List.getElem?_replicate] at h
    split at h
    · cases h; exact .inl rfl
    · cases h
theorem VOk.entry {b : Bg} {Z : Addr → Prop} {H : Hp} {N : List Str} {vs : List V} {ds : List D} (g : Gd b Z H) (r : Rps b Z H vs ds) (hl : vs.length ≤ N.length) : VOk b Z Z (L2.start N vs) H (envOf N.length ds) where
  g := g.g
  zb := g.zb
  zo := fun _ z => z
  dom := g.dom
  zi := fun _ z => .inl z
  own := fun i d e => by
    rcases envOf_at e with h | ⟨d', h, _⟩ <;> cases h
  inj := fun i j d e a h1 _ _ _ => by
    rcases envOf_at h1 with h | ⟨d', h, _⟩ <;> cases h
  shr := fun i d e => by
    rcases envOf_at e with h | ⟨d', h, hd⟩
    · cases h
    · cases h
      obtain ⟨v, hv, rv⟩ := r.at hd
      refine ⟨v, ?_, rv⟩
      unfold L2.start
      have hi : i < vs.length := (List.getElem?_eq_some_iff.mp hv).1
      rw [List.getElem?_append_left (by simpa using hi), List.getElem?_map, hv]
      rfl
  len := by
    unfold envOf L2.start
    rw [List.length_append, List.length_map, List.length_replicate, List.length_append, List.length_map, List.length_replicate, ← r.length]
abbrev WF (E : XK) : WX := fun c d _ H => E c d H
section
variable {P : Program} {w : World} {K : PySem.W.Frag} {mg : Str → Option Value} {base : Heap} {b : Bg} {k : Nat} {x qual : Str} {st : Stmt} {f : Addr} {fd : FuncData} {N ps : List Str} {S : SV}
theorem fin_link {t : VS} {H : Hp} {vs : List V} {Q : VK} {E : XK} (hlaw : ∀ ds Q E, S ds Q E → t (envOf N.length ds) (fin Q E)) (hl : vs.length ≤ N.length) (h : spV b S vs H Q E) :
    LS b (WF E) t { nx := fun _ H' => Q .non H', rt := Q } (L2.start N vs) H := by
  obtain ⟨Z, ds, Qd, Ed, g, r, s, l, m⟩ := h
  have x : ∀ {H'}, (∀ a o, H a = some o → ¬ b.B a → ¬ False → H' a = some o) → Ex b H H' := fun h a o e n => h a o e n not_false
  refine ⟨H, fun _ => False, Z, Z, envOf N.length ds, fin Qd Ed, ⟨VOk.entry g r hl, fun _ _ e _ _ => e, fun i d a e _ => ?_⟩, hlaw ds Qd Ed s, ⟨fun Z' σ' H' ρ' f' q => l .non H' (.py .none) (x f'.ext) f'.v.g Rq.non q, fun v H' d x1 g1 r1 q => l v H' d (x x1) g1 r1 q, fun _ _ _ _ _ q => q.elim, fun _ _ _ _ _ q => q.elim, fun c y Z' σ' H' ρ' er f' r' q => m c y H' er (x f'.ext) f'.v.g ?_ q⟩⟩
  · rcases envOf_at e with h | ⟨d', h, _⟩ <;> cases h
  · obtain ⟨h1, h2⟩ := r'
    refine ⟨h1, h2.imp id ?_⟩
    rintro ⟨a, xs, e1, e2, e3, e4⟩
    exact ⟨a, xs, e1, e2, fun z => e3 (f'.v.zo a z), e4.mono (fun c z => .inl (f'.v.zo c z)) fun _ _ e _ => e⟩
/-- a def of the text, by its body -/
theorem fnV (F : Fun K x qual st f fd) (Sc : FnScope N ps (defScope st)) {t : VS} (hlen : ∀ ds Q E, S ds Q E → ds.length = ps.length) (hps : ps.length ≤ N.length)
    (hbody : ∀ (cdv : Value) (A : Around) (outer : List Env) (s : Shared) (H : Hp) (E : XK), Room k (A.deeper (envOfC qual (defScope st) s.heap.objs.size f cdv)) →
      Takes (cxOf (L2.CX P w) P w K mg base N qual (defScope st) f cdv A outer s H E) (WF E) → VSs (cxOf (L2.CX P w) P w K mg base N qual (defScope st) f cdv A outer s H E) b (WF E) (defBody st) t)
    (hlaw : ∀ ds Q E, S ds Q E → t (envOf N.length ds) (fin Q E)) : FnOk P w K mg base (L2.CX P w) (k + 1) f fd ps (spV b S) := by
  have len : ∀ vs H Q E, spV b S vs H Q E → vs.length = ps.length := fun vs H Q E ⟨Z, ds, Qd, Ed, g, r, s, _⟩ => r.length.trans (hlen ds Qd Ed s)
  refine F.okX Sc len fun cdv A outer s H vs Q E hr h => ⟨_, hbody cdv A outer s H E hr (takes_of rfl rfl rfl rfl), fin_link hlaw (Nat.le_trans (Nat.le_of_eq (len _ _ _ _ h)) hps) h⟩
end
/-! ### calls -/
@[simp] def vCall (S : SV) (u : VA) : VT := fun ρ Q E => u ρ (fun ds => S ds Q E) E
section
variable {X : Cx} {b : Bg} {W : WX} {k : Nat} {f : Addr} {fd : FuncData} {ps : List Str} {S : SV} {x : Str} {e : Expr} {es : List Expr} {u : VA} {p pos : Pos}
theorem call_core {sp : Sp} {t : TA} (hu : t = LA b W u) (hs : sp = spV b S) : ∀ σ H Q, LE b W (RE b) (vCall S u) σ H Q → tCallS sp (WE W) t σ H Q := by
  subst hu hs
  exact fun σ H Q ⟨Zo, Z, ρ, Qd, Ed, v, q, l, m⟩ => ⟨Zo, Z, ρ, _, Ed, v, q, fun vs H1 ds x1 g1 r1 q1 => by
    have v1 := v.ex x1 g1
    exact ⟨Z, ds, Qd, Ed, v1.gd, r1, q1, fun y H2 d x2 g2 r2 q2 => l y H2 d (x1.trans x2) g2 r2 q2, fun c z H2 er x2 g2 r2 q2 => m c z H2 er (x1.trans x2) g2 r2 q2⟩, m⟩
theorem ve_call (F : FnOk X.prog X.w X.K X.mg X.base (L2.CX X.prog X.w) k f fd ps (spV b S)) (hr : Room k X.A) (tk : Takes X W) (hg : Gl X x) (hm : X.mg x = some (.ref f)) (hk : PySem.W.keepIn X.K (.ref f) = true) (hb : Binds X.K fd ps [])
    (ha : VAs X b W (e :: es) u) (hdb : (x == ("__debug__" : Str)) = false := by decide) (he : starEach (e :: es) X.env = (false, eval e X.env) :: starEach es X.env := by rfl) (hpl : (backTo pos (starEach es X.env)).any (·.1) = false := by rfl) :
    VE X b W (.Call (.Name x p) (e :: es) [] pos) (vCall S u) := pe_mono (pe_callS F hr hg hm hk hb (passAt tk) ha hdb he hpl) (call_core rfl rfl)
/-- a constant of the module -/
theorem ve_glob {v : V} {d : PyData} {uu : Value} (hg : Gl X x) (hm : X.mg x = some uu) (r : RelV v uu) (rd : ∀ (Z : Addr → Prop) (H : Hp), Rq Z H v d) (hd : (x == ("__debug__" : Str)) = false := by decide) : VE X b W (.Name x pos) (vC (.py d)) :=
  ve_const (pe_glob hg hm r hd) rd
end
end VL
set_option Elab.async false
set_option linter.all false
set_option maxRecDepth 100000
set_option maxHeartbeats 4000000
namespace VL
open PySem PySem.Spec PyProof.Rows L2
/-! ### repr of plain data (dicts among it: none of the tracked dicts is the modules' own) -/
section
variable {X : Cx} {pins : List (Addr × Obj)} {σ : L2.St} {H : Hp} {s : Shared} {Z : Addr → Prop}
section
variable {P : Program} {w : World} {h : Heap} {a : Addr} {o : Obj} {n : Nat}
end
end
section
variable {X : Cx} {b : Bg} {W : WX} {e : Expr} {u : VA} {p pos : Pos}
/-- data that repr can show here -/
structure ReprOk (d : PyData) : Prop where
  sh : d.showable = true
  len : d.shown.length ≤ sizeLine
  dep : d.depth ≤ 40
@[simp] def gRepr : List D → (D → Prop) → Prop
  | [.py d], Q => ReprOk d ∧ Q (.py (.str d.shown))
  | _, _ => False
end
end VL
set_option Elab.async false
set_option linter.all false
set_option maxRecDepth 100000
set_option maxHeartbeats 4000000
namespace VL
open PySem PySem.Spec PyProof.Rows L2
/-! ### the law itself: called where nothing is being shown -/
structure FnG (P : Program) (w : World) (K : PySem.W.Frag) (mg : Str → Option Value) (base : Heap) (k : Nat) (f : Addr) (fd : FuncData) (ps : List Str) (sp : Sp) : Prop where
  run : ∀ (A : Around) (outer : List Env) (s : Shared) (H : Hp) (args : Args) (us : List Value) (vs : List V) (Q : VK) (E : XK), Room k A → A.guards = some [] → Env0 P w K mg base A outer s H → BindsTo s fd args (ps.zip us) → Vals vs us → sp vs H Q E →
    codeAny (model P w) A (.call (.ref f) args) (CR (L2.CX P w) outer P w H s Q E) s
section
variable {P : Program} {w : World} {K : PySem.W.Frag} {mg : Str → Option Value} {base : Heap} {k : Nat} {x qual : Str} {st : Stmt} {f : Addr} {fd : FuncData} {N ps : List Str} {sp : Sp}
theorem fnG (F : Fun K x qual st f fd) (S : FnScope N ps (defScope st)) (len : ∀ vs H Q E, sp vs H Q E → vs.length = ps.length)
    (hbody : ∀ (cdv : Value) (A : Around) (outer : List Env) (s : Shared) (H : Hp) (vs : List V) (Q : VK) (E : XK), Room k (A.deeper (envOfC qual (defScope st) s.heap.objs.size f cdv)) → (A.deeper (envOfC qual (defScope st) s.heap.objs.size f cdv)).guards = some [] → sp vs H Q E →
      ∃ t, PSs (cxOf (L2.CX P w) P w K mg base N qual (defScope st) f cdv A outer s H E) (defBody st) t ∧ t { nx := fun _ H' => Q .non H', rt := Q } (L2.start N vs) H) : FnG P w K mg base (k + 1) f fd ps sp := by
  obtain ⟨oc, od, kV, doc, pm, an, cdv, ct, osl, rfl, lk, hcd⟩ := F.ex
  refine ⟨fun A outer s H args us vs Q E hr hgd e0 hb rv hsp => ?_⟩
  have nl : s.heap.NoLimit := e0.mod.nolimit.keeps fun b o e => (e0.bs b o e).1
  have kin : K.In s.heap := e0.mod.kin.keeps fun b o e => (e0.bs b o e).1
  have kinds : ∀ y ∈ ps.zip us, (defScope st).names.lookup y.1 = some .local ∨ ((defScope st).names.lookup y.1 = some .cell ∧ ((cellsFrom (s.heap.objs.size + 1) (defScope st).names []).lookup y.1).isSome = true) := fun ⟨n, v⟩ hy =>
    (S.par n (List.of_mem_zip hy).1).imp id fun q => ⟨q, PySem.W.cellsFrom_some _ _ _ (.inl q)⟩
  refine codeAny_call_function hr.depth (kin _ _ lk) rfl S.co S.gen rfl (PySem.W.codeRec_of kin hcd) (hb _ _ _ _ (wpAny_newFunctionEnv_cells S.kind kinds fun env he s1 ic => ?_))
  subst he
  refine ⟨nl.keeps ic.toInCall.keep, codeAny_func ?_⟩
  obtain ⟨t, ht, hq⟩ := hbody cdv A outer s H vs Q E (hr.deeper _) hgd hsp
  refine wpAny_mono (ht.run [] s1 (L2.start N vs) H _ (inv_start S hr.hd e0 (len _ _ _ _ hsp) rv ic) hq) (fun fl s' hs => ?_) fun e s' hs => hs
  cases fl with
  | ret u =>
    obtain ⟨v, σ', H', J, rv', q⟩ := hs
    exact ⟨v, H', J.os, J.bare, J.base, J.hok, rv', q⟩
  | next =>
    obtain ⟨σ', H', J, q⟩ := hs
    exact ⟨.non, H', J.os, J.bare, J.base, J.hok, rfl, q⟩
  | brk => exact hs.elim fun _ h => h.elim fun _ h => h.2.elim
  | cont => exact hs.elim fun _ h => h.elim fun _ h => h.2.elim
end
/-- at the heap behind the top -/
theorem lawG {P : Program} {w : World} {K : PySem.W.Frag} {mg mb : Str → Option Value} {k : Nat} {fa a : Addr} {fd : FuncData} {x : Str} {sp : Sp} {s0 : Shared} {vs : List Value} {ns : List Int}
    (KX : K.In s0.heap) (hns : s0.heap.Ns mainGlobals mg) (hb : s0.heap.Ns builtinsNs mb) (hbb : ∀ x : Str, x ≠ "__name__" → mb x = bootBuiltins x) (hlim : s0.heap.NoLimit) (hgens : s0.gens = #[])
    (ha : s0.heap.get? a = some { cls := .type "list", data := .seq vs.toArray }) (hi : IntsAre vs ns) (hl : ns.length ≤ sizeLine) (hr : Room k callerA)
    (F : ∀ base : Heap, K.In base → base.Ns mainGlobals mg → FnG P w K mg base k fa fd [x] sp) (hbind : ∀ (s : Shared) (u : Value), BindsTo s fd ⟨[u], []⟩ [(x, u)])
    (hsp : ∀ H : Hp, Only H → SqL K H a (ns.map V.int) → sp [.ref a] H (fun v _ => v = .bl true) fun _ _ _ => False) :
    codeAny (model P w) callerA (.call (.ref fa) ⟨[.ref a], []⟩) (fun r s' => r = .ok (.ret (.bool true)) ∧ OldK s0.heap s'.heap ∧ s'.os = s0.os ∧ AllBare s'.gens) s0 := by
  have rv := vals_ints hi
  -- whatever is tracked is the script
  have go : ∀ H : Hp, Only H → SqL K H a (ns.map V.int) → HOk P w H s0.heap → (∀ b, H b ≠ none → b = a) → (H a ≠ none → K.lookup a = none) →
      codeAny (model P w) callerA (.call (.ref fa) ⟨[.ref a], []⟩) (fun r s' => r = .ok (.ret (.bool true)) ∧ OldK s0.heap s'.heap ∧ s'.os = s0.os ∧ AllBare s'.gens) s0 := by
    intro H hO hS hok hA hK
    have only_a : ∀ {b : Addr} {u : HO}, H b = some u → b = a := fun {b u} q => hA b (by rw [q]; simp)
    have low : ∀ {b : Addr} {o : Obj}, s0.heap.get? b = some o → H b = none → (hidT s0.heap H).get? b = some o := fun e n => hidT_get e n
    have nsk : ∀ {b : Addr} {m : Str → Option Value}, s0.heap.Ns b m → (hidT s0.heap H).Ns b m := fun {b m} ⟨o, es, ep, e, d, r⟩ => ⟨o, es, ep, low e (by
      cases q : H b with
      | none => rfl
      | some u =>
        rw [only_a q, ha] at e
        cases e
        have d' : Data.seq vs.toArray _ = Data.dict es ep := d
        cases d'), d, r⟩
    have kb : K.In (hidT s0.heap H) := fun b o e => low (KX b o e) (by
      cases q : H b with
      | none => rfl
      | some u =>
        have eb := only_a q
        subst eb
        rw [hK (by rw [q]; simp)] at e
        cases e)
    obtain ⟨mc, c1, c2⟩ := hlim
    have env : Env0 P w K mg (hidT s0.heap H) callerA [] s0 H := ⟨rfl, ⟨kb, nsk hns, ⟨mb, nsk hb, hbb⟩, ⟨mc, nsk c1, c2⟩⟩, fun b o e => of_hidT e, Nat.le_of_eq (hidT_size _ _), trivial, (fun b m => nomatch (show b ∈ ([] : List Addr) from m)), hok, .of_eq hgens⟩
    refine codeAny_mono ((F _ kb (nsk hns)).run callerA [] s0 H ⟨[.ref a], []⟩ [.ref a] [.ref a] _ _ hr rfl env (hbind s0 (.ref a)) (.cons rfl .nil) (hsp H hO hS)) fun r s' h => ?_
    match r, h with
    | .error e, h => obtain ⟨_, _, _, _, _, _, _, _, _, _, _, _, z⟩ := h; exact z.elim
    | .ok .next, h => exact (show False from h).elim
    | .ok .brk, h => exact (show False from h).elim
    | .ok .cont, h => exact (show False from h).elim
    | .ok (.ret u), h =>
      obtain ⟨v, H', os, bare, un, hok', r', q⟩ := h
      have ev : v = .bl true := q
      subst ev
      obtain rfl : u = Value.bool true := r'
      refine ⟨rfl, OldK.of_keep fun b o e => ?_, os, bare⟩
      cases q : H b with
      | none => exact un.keep b o e q (fun z => nomatch (show b ∈ ([] : List Addr) from z)) (by simp)
      | some u =>
        rcases hO b with z | ⟨ob, xs, z⟩
        · rw [q] at z; cases z
        · obtain ⟨e1, _⟩ := hok b _ z
          obtain ⟨e2, _⟩ := hok' b _ (un.frzs b ob _ z)
          rw [e] at e1; cases e1
          exact e2
  cases hk : K.lookup a with
  | some o =>
    have e := KX a o hk
    rw [ha] at e
    cases e
    refine go (fun _ => none) (fun _ => .inl rfl) (.inr ⟨_, vs.toArray, _, hk, rfl, rfl, rfl, by rw [List.size_toArray, hi.length]; exact hl, by simpa using rv⟩) (fun b u z => nomatch (show (none : Option HO) = some u from z)) (fun b z => absurd rfl z) fun z => absurd rfl z
  | none =>
    have at1 : ∀ b, b ≠ a → (if b = a then some (HO.frz { cls := .type "list", data := .seq vs.toArray } (.lst (ns.map V.int))) else none) = none := fun b hb => if_neg hb
    refine go (fun b => if b = a then some (.frz { cls := .type "list", data := .seq vs.toArray } (.lst (ns.map V.int))) else none) (fun b => ?_) (.inl (.inr ⟨_, if_pos rfl⟩)) (fun b u z => ?_) (fun b z => Classical.byContradiction fun n => z (at1 b n)) fun _ => hk
    · by_cases hb : b = a
      · exact .inr ⟨_, _, if_pos hb⟩
      · exact .inl (at1 b hb)
    · by_cases hb : b = a
      · have z' := (if_pos hb).symm.trans z
        cases z'
        subst hb
        exact ⟨ha, by rw [List.length_map]; exact hl, vs, _, rv, ha⟩
      · have z' := (at1 b hb).symm.trans z
        cases z'
/-- the end -/
theorem walkG {l : PySem.W.OpenLaw} {n k : Nat} {q : Program} {loose : List Str} {XP : (Str → Option Value) → Heap → Prop} {YP : World → Heap → Prop} {d : DefRec} {K : Params → PySem.W.Frag} {sp : World → Sp} {x : Str}
    (hn : l.most = some n) (hn2 : n ≤ sizeLine) (hdf : d.params.defaults = []) (hr : Room k callerA) (hY : ∀ (w : World) (h : Heap), YP w h → (K w.params).In h)
    (F : ∀ (w : World) (mg : Str → Option Value) (fa : Addr) (h : Heap), (K w.params).In h → h.Ns mainGlobals mg → mg d.name = some (.ref fa) →
      ∃ fd : FuncData, (∀ (s : Shared) (u : Value), BindsTo s fd ⟨[u], []⟩ [(x, u)]) ∧ ∀ base : Heap, (K w.params).In base → base.Ns mainGlobals mg → FnG l.prog w (K w.params) mg base k fa fd [x] (sp w))
    (hsp : ∀ (w : World) (H : Hp) (a : Addr) (ns : List Int), ns.length ≤ n → Only H → SqL (K w.params) H a (ns.map V.int) → sp w [.ref a] H (fun v _ => v = .bl true) fun _ _ _ => False) :
    PySem.W.WalkO q loose XP YP l.row.toRowW d [] (fun f vs => PySem.call f vs) := by
  refine Att.attach_call hn hdf fun w s s0 mg mb fa o pm cd doc a vs ns G Y ho hd hcd hmg hobj hints hlen hg => ?_
  obtain ⟨fd, hb, hF⟩ := F w mg fa _ (hY w _ Y) G.T.g hmg
  exact lawG (hY w _ Y) G.T.g G.T.b G.T.builtins G.T.nolimit hg hobj hints (Nat.le_trans hlen hn2) hr hF hb fun H hO hS => hsp w H a ns hlen hO hS
end VL
set_option Elab.async false
set_option linter.all false
set_option maxRecDepth 100000
set_option maxHeartbeats 4000000
namespace VL
open PySem PySem.Spec PyProof.Rows L2
/-! ### // by a divisor below 2 ** 200 -/
def CDivB (i j : Int) : Prop := j ≠ 0 ∧ j.natAbs < 1606938044258990275541962092341162602522202993782792835301376
theorem op_fdivB {X : Cx} : OpR X (binaryOp .FloorDiv) (rI CDivB fun i j => .int (i.fdiv j)) := opI fun i j _ _ _ _ _ hc q => floordiv_int hc.1 q (.inl (PyProof.noPylong_of_log2 (by
  have h0 : j.natAbs ≠ 0 := by have := hc.1; omega
  have h := hc.2
  have h200 : j.natAbs.log2 < 200 := (Nat.log2_lt h0).mpr h
  omega)))
/-! ### a bag of drawn numbers: a dict with two lists, its own -/
abbrev kG : Key := .inr "great"
abbrev kC : Key := .inr "cells"
abbrev kN : Key := .inr "drawn"
def bagAt (r l1 l2 : Addr) (gs ds : List Int) (n : Int) (H : Hp) : Prop :=
  H r = some (.dK [(kG, .ref l1), (kC, .ref l2), (kN, .int n)]) ∧ H l1 = some (.lst (gs.map V.int)) ∧ H l2 = some (.lst (ds.map V.int)) ∧ gs.length ≤ 63 ∧ ds ≠ [] ∧ l1 ≠ l2
theorem bagAt.rl1 {r l1 l2 : Addr} {gs ds : List Int} {n : Int} {H : Hp} (h : bagAt r l1 l2 gs ds n H) : r ≠ l1 := fun e => by rw [e] at h; have h1 := h.1; rw [h.2.1] at h1; cases h1
theorem bagAt.rl2 {r l1 l2 : Addr} {gs ds : List Int} {n : Int} {H : Hp} (h : bagAt r l1 l2 gs ds n H) : r ≠ l2 := fun e => by rw [e] at h; have h1 := h.1; rw [h.2.2.1] at h1; cases h1
/-- the surroundings: the classes, the bag -/
def bagB (cls : Str → Addr) (r l1 l2 : Addr) : Bg where
  cls := cls
  B := fun a => a = r ∨ a = l1 ∨ a = l2
  G := fun H => ∃ gs ds n, bagAt r l1 l2 gs ds n H
  loc := fun H H' h _ ⟨gs, ds, n, h1, h2, h3, h4⟩ => ⟨gs, ds, n, by rw [h r (.inl rfl)]; exact h1, by rw [h l1 (.inr (.inl rfl))]; exact h2, by rw [h l2 (.inr (.inr rfl))]; exact h3, h4⟩
  dom := fun H a ⟨gs, ds, n, h1, h2, h3, _⟩ h => by
    rcases h with rfl | rfl | rfl
    · rw [h1]; simp
    · rw [h2]; simp
    · rw [h3]; simp
/-- at a call: nothing but the bag is changed -/
def KeepB (r l1 l2 : Addr) (H H' : Hp) : Prop := ∀ a o, H a = some o → a ≠ r → a ≠ l1 → a ≠ l2 → H' a = some o
theorem KeepB.ex {cls : Str → Addr} {r l1 l2 : Addr} {H H' : Hp} (k : KeepB r l1 l2 H H') : Ex (bagB cls r l1 l2) H H' := fun a o e n => k a o e (fun h => n (.inl h)) (fun h => n (.inr (.inl h))) fun h => n (.inr (.inr h))
theorem KeepB.refl {r l1 l2 : Addr} {H : Hp} : KeepB r l1 l2 H H := fun _ _ e _ _ _ => e
theorem KeepB.upd {r l1 l2 p : Addr} {H H1 : Hp} {o : HO} (h : KeepB r l1 l2 H H1) (hp : p = r ∨ p = l1 ∨ p = l2 ∨ H1 p = none) : KeepB r l1 l2 H (upd H1 p o) := fun a u e n1 n2 n3 => by
  have e1 := h a u e n1 n2 n3
  rw [upd_ne (fun q => by
    subst q
    rcases hp with q | q | q | q
    · exact n1 q
    · exact n2 q
    · exact n3 q
    · rw [q] at e1; cases e1)]
  exact e1
/-- what the def that draws one number promises: below many, in the heap -/
def spTake : Sp := fun vs H Q _ => ∃ r l1 l2 gs ds n, ∃ m : Int, vs = [.ref r, .int m] ∧ bagAt r l1 l2 gs ds n H ∧ 0 < m ∧ m < 1606938044258990275541962092341162602522202993782792835301376 ∧ ∀ H' gs' n' x, KeepB r l1 l2 H H' → bagAt r l1 l2 gs' ds n' H' → 0 ≤ x → x < m → Q (.int x) H'
/-- .. over values -/
@[simp] def svTake (r : Addr) : SV
  | [.raw v, .py (.int m)], Q, _ => v = .ref r ∧ 0 < m ∧ m < 1606938044258990275541962092341162602522202993782792835301376 ∧ ∀ x : Int, 0 ≤ x → x < m → Q (.py (.int x))
  | _, _, _ => False
theorem svTake_ex {r : Addr} : ∀ {ds : List D} {Q : D → Prop} {E : Er → Prop}, svTake r ds Q E → ∃ m : Int, ds = [.raw (.ref r), .py (.int m)] ∧ 0 < m ∧ m < 1606938044258990275541962092341162602522202993782792835301376 ∧ ∀ x : Int, 0 ≤ x → x < m → Q (.py (.int x))
  | [.raw v, .py (.int m)], _, _, ⟨e, h⟩ => ⟨m, by rw [e], h⟩
theorem take_v {P : Program} {w : World} {K : PySem.W.Frag} {mg : Str → Option Value} {base : Heap} {k : Nat} {f : Addr} {fd : FuncData} {ps : List Str} {CX : CXT} {cls : Str → Addr} {r l1 l2 : Addr} (h : FnOk P w K mg base CX k f fd ps spTake) : FnOk P w K mg base CX k f fd ps (spV (bagB cls r l1 l2) (svTake r)) :=
  h.imp fun vs H Q E ⟨Z, ds, Qd, Ed, g, rp, hh, l, _⟩ => by
    obtain ⟨m, ed, h1, h2, q⟩ := svTake_ex hh
    subst ed
    obtain ⟨x, y, rfl, rx, ry⟩ := rbs2 rp
    have ex : x = .ref r := rx
    have ey : y = .int m := Rb.int (b := bagB cls r l1 l2) (.inl ry)
    subst ex ey
    obtain ⟨gs, ds, n, hb⟩ := g.g
    exact ⟨r, l1, l2, gs, ds, n, m, rfl, hb, h1, h2, fun H' gs' n' x kp b' x0 x1 => l (.int x) H' (.py (.int x)) kp.ex ⟨gs', ds, n', b'⟩ (.int x) (q x x0 x1)⟩
def AllIn (xs : List PyData) (R : PyData → Prop) : Prop := ∀ y ∈ xs, R y
/-- an item of a list or tuple, by a drawn number -/
@[simp] def svPick (r : Addr) : SV
  | [.raw v, .py (.list xs)], Q, _ => v = .ref r ∧ xs ≠ [] ∧ xs.length < 1606938044258990275541962092341162602522202993782792835301376 ∧ AllIn xs fun y => Q (.py y)
  | [.raw v, .py (.tuple xs)], Q, _ => v = .ref r ∧ xs ≠ [] ∧ xs.length < 1606938044258990275541962092341162602522202993782792835301376 ∧ AllIn xs fun y => Q (.py y)
  | [.raw v, .py (.str z)], Q, _ => v = .ref r ∧ z.length ≤ sizeLine ∧ signsD z ≠ [] ∧ AllIn (signsD z) fun y => Q (.py y)
  | _, _, _ => False
theorem signsD_len (z : Str) : (signsD z).length = z.length := by unfold signsD; rw [List.length_map, Array.length_toList]; rfl
theorem svPick_ex {r : Addr} : ∀ {ds : List D} {Q : D → Prop} {E : Er → Prop}, svPick r ds Q E → ∃ p xs, ds = [.raw (.ref r), .py p] ∧ (p = .list xs ∨ p = .tuple xs ∨ ∃ z, p = .str z ∧ z.length ≤ sizeLine ∧ xs = signsD z) ∧ xs ≠ [] ∧ xs.length < 1606938044258990275541962092341162602522202993782792835301376 ∧ ∀ y, y ∈ xs → Q (.py y)
  | [.raw v, .py (.list xs)], _, _, ⟨e, h⟩ => ⟨_, xs, by rw [e], .inl rfl, h⟩
  | [.raw v, .py (.tuple xs)], _, _, ⟨e, h⟩ => ⟨_, xs, by rw [e], .inr (.inl rfl), h⟩
  | [.raw v, .py (.str z)], _, _, ⟨e, h1, h2, h3⟩ => ⟨_, _, by rw [e], .inr (.inr ⟨z, rfl, h1, rfl⟩), h2, by rw [signsD_len]; rw [sizeLine_eq] at h1; omega, h3⟩
/-- what the first def promises: a new bag -/
def spOpened (K : PySem.W.Frag) : Sp := fun vs H Q _ => ∃ (a : Addr) (ns : List Int), vs = [.ref a] ∧ SqL K H a (ns.map V.int) ∧ ns.length ≤ 63 ∧ ∀ r l1 l2 gs ds n H', (∀ c o, H c = some o → H' c = some o) → H r = none → H l1 = none → H l2 = none → bagAt r l1 l2 gs ds n H' → Q (.ref r) H'
end VL
namespace VL
open PySem
theorem plain_ints (l : List Int) : PyData.plainAll (l.map PyData.int) = true := by
  induction l with
  | nil => rfl
  | cons a l ih => simp [PyData.plainAll, PyData.plain, ih]
end VL
namespace VL
open PySem PySem.Spec PyProof.Rows L2
/-- no surroundings -/
def bg0 : Bg := ⟨fun _ => 0, fun _ => False, fun _ => True, fun _ _ _ _ _ => trivial, fun _ _ _ h => h.elim⟩
theorem VOk.plain {σ : L2.St} {H : Hp} {ρ : VEnv} (hl : ρ.length = σ.length) (h : ∀ (i : Nat) (s : Slot), ρ[i]? = some s → s = .un ∨ ∃ d v, s = .shr d ∧ σ[i]? = some (some v) ∧ Rp bg0 nz H v d) : VOk bg0 nz nz σ H ρ where
  g := trivial
  zb := fun _ z => z
  zo := fun _ z => z
  dom := fun _ z => z.elim
  zi := fun _ z => z.elim
  own := fun i d e => by rcases h i _ e with q | ⟨d', v, q, _⟩ <;> cases q
  inj := fun i j d e a h1 _ _ _ => by rcases h i _ h1 with q | ⟨d', v, q, _⟩ <;> cases q
  shr := fun i d e => by
    rcases h i _ e with q | ⟨d', v, q, h1, h2⟩
    · cases q
    · cases q; exact ⟨v, h1, h2⟩
  len := hl
theorem cut_ints (ns : List Int) (lo hi : Option Int) : ∃ ms : List Int, cutV (ns.map V.int) lo hi = ms.map V.int ∧ ms.length ≤ ns.length := by
  refine ⟨cutL ns lo hi, ?_, ?_⟩
  · unfold cutV cutL
    rw [List.length_map, List.map_take, List.map_drop]
  · unfold cutL
    rw [List.length_take, List.length_drop]
    omega
abbrev absI (i : Int) : Int := if i < 0 then -i else i
def bigs (k : Int) (cs : List Int) : List Int := cs.filter fun c => decide (k ≤ c)
theorem bigs_go {k : Int} {tt : VB} {te : VT} {ρ : VEnv} {Q : D → Prop} (h : 2 < ρ.length) (htt : ∀ (ρ : VEnv) (c : Int) (Q : Bool → Prop) (E : Er → Prop), ρ[2]? = some (.shr (.py (.int c))) → Q (decide (k ≤ c)) → tt ρ Q E)
    (hte : ∀ (ρ : VEnv) (d : D) (Q : D → Prop) (E : Er → Prop), ρ[2]? = some (.shr d) → Q d → te ρ Q E) : ∀ (cs acc : List Int), acc.length + cs.length ≤ 1000 → Q (.py (.list ((acc ++ bigs k cs).map PyData.int))) → lcGo (tgName 2) tt te Q ((cs.map PyData.int).map D.py) (acc.map PyData.int) ρ
  | [], acc, _, q => by rw [bigs, List.filter_nil, List.append_nil] at q; exact q
  | c :: cs, acc, hl, q => by
    refine ⟨h, htt _ c _ _ (List.getElem?_set_self h) (ite2 (fun hc => hte _ (.py (.int c)) _ _ (List.getElem?_set_self h) ⟨.int c, rfl, ?_, ?_⟩) fun hc => ?_)⟩
    · rw [List.length_map]
      rw [List.length_cons] at hl
      exact Nat.lt_of_le_of_lt (show acc.length ≤ 1000 by omega) (by decide)
    · have e : acc.map PyData.int ++ [PyData.int c] = (acc ++ [c]).map PyData.int := by simp
      rw [e]
      refine bigs_go h htt hte cs (acc ++ [c]) (by simp at hl ⊢; omega) ?_
      rw [bigs, List.filter_cons, if_pos hc] at q
      rw [List.append_assoc]
      exact q
    · refine bigs_go h htt hte cs acc (by simp at hl; omega) ?_
      rw [bigs, List.filter_cons, if_neg hc] at q
      exact q
end VL
set_option Elab.async false
set_option linter.all false
set_option maxRecDepth 100000
set_option maxHeartbeats 4000000
namespace VL
open PySem PySem.Spec PyProof.Rows L2
open Sem (wp)
/-! ### x[::-1] -/
section
variable {prog : Program} {w : World} {A : Around} {E : Value → Shared → Prop} {s : Shared}
end
section
variable {X : Cx} {e st : Expr} {te : TE} {tl : TO} {p2 pos : Pos}
end
section
variable {X : Cx} {b : Bg} {W : WX} {e e1 e2 st : Expr} {t t1 t2 : VT} {tl : VO} {p2 pos : Pos}
@[simp] def gBk : D → (D → Prop) → Prop
  | .py (.list xs), Q => Q (.py (.list xs.reverse))
  | .py (.tuple xs), Q => Q (.py (.tuple xs.reverse))
  | _, _ => False
@[simp] def vBk (t : VT) (tl : VO) : VT := fun ρ Q E => t ρ (fun x => tl ρ (fun k => k = some (-1) ∧ gBk x Q) E) E
/-! ### products, minus -/
@[simp] def gMul : D → D → (D → Prop) → Prop
  | .py (.int i), .py (.int j), Q => CMul i j ∧ Q (.py (.int (i * j)))
  | .py (.list xs), .py (.int k), Q => (-(2 ^ 63) ≤ k ∧ k < 2 ^ 63 ∧ xs.length * k.toNat ≤ sizeLine) ∧ Q (.py (.list (List.replicate k.toNat xs).flatten))
  | .py (.tuple xs), .py (.int k), Q => (xs ≠ [] ∧ 2 ≤ k ∧ k ≤ 1000 ∧ xs.length ≤ 1000) ∧ Q (.py (.tuple (List.replicate k.toNat xs).flatten))
  | _, _, _ => False
@[simp] def gRepL : D → D → (D → Prop) → Prop
  | .py (.list xs), .py (.int k), Q => (-(2 ^ 63) ≤ k ∧ k < 2 ^ 63 ∧ xs.length * k.toNat ≤ sizeLine) ∧ Q (.py (.list (List.replicate k.toNat xs).flatten))
  | _, _, _ => False
theorem rn_rep : OpD b (RN b) rRep gRepL := by
  intro Z H x y dx dy Q Qd gd rx ry h k
  match dx, dy, h, rx, ry with
  | .py (.list xs), .py (.int n), ⟨⟨h1, h2, h3⟩, h⟩, rx, ry =>
    obtain ⟨a, us, rfl, ha, qa⟩ := rx.list
    refine ⟨a, n, us, rfl, ry.int, ha, h1, h2, by rw [qa.length]; exact h3, fun p hp => k _ _ (.py (.list _)) (Ex.new hp) (gd.new hp) ⟨p, rfl, hp, _, upd_same, (qa.rep n.toNat).up' hp⟩ h⟩
theorem rd_mul : OpD b (RE b) (fun x y H Q => rI CMul (fun i j => .int (i * j)) x y H Q ∨ (fun x y H Q => rRep x y H Q ∨ rRepF X.K x y H Q) x y H Q) gMul := by
  intro Z H x y dx dy Q Qd gd rx ry h k
  match dx, dy, h, rx, ry with
  | .py (.int i), .py (.int j), ⟨hc, h⟩, rx, ry =>
    rw [rx.int, ry.int]
    exact .inl ⟨i, j, rfl, rfl, hc, k _ H (.py (.int (i * j))) Ex.refl gd.g (.int _) h⟩
  | .py (.list xs), .py (.int n), h, rx, ry => exact .inr (.inl (OpD.toE rn_rep Z H x y (.py (.list xs)) (.py (.int n)) Q Qd gd rx ry h k))
  | .py (.tuple xs), .py (.int n), ⟨⟨h1, h2, h3, h4⟩, h⟩, rx, ry =>
    obtain ⟨a, oa, us, rfl, ha, da, na, qa⟩ := rx.tuple
    refine .inr (.inr ⟨a, n, us, rfl, ry.int, SqT.th ha, fun e => ?_, h2, h3, by rw [qa.length]; exact h4, fun p o hp ho => k _ _ (.py (.tuple _)) (Ex.new hp) (gd.new hp) (.tup upd_same ho (gd.fresh hp) ((qa.rep n.toNat).up hp)) h⟩)
    subst e
    cases qa
    exact h1 rfl
@[simp] def gNeg : D → (D → Prop) → Prop
  | .py (.int i), Q => Q (.py (.int (-i)))
  | _, _ => False
theorem ve_neg (h : VX X b W e t) : VE X b W (.UnaryOp .USub e pos) (vUn gNeg t) :=
  pe_mono (pe_un un_neg h) fun σ H Q ⟨Zo, Z, ρ, Qd, Ed, v, q, l, m⟩ => ⟨Zo, Z, ρ, _, Ed, v, q, fun x H1 d x1 g1 r1 q1 => by
    match d, q1, r1 with
    | .py (.int i), q1, r1 => exact ⟨i, r1.int, l _ H1 (.py (.int (-i))) x1 g1 (Rq.int _) q1⟩, m⟩
/-! ### dict displays -/
@[simp] def vD0 : VT := fun _ Q _ => Q (.py (.dict []))
theorem vn_dict0 : VN X b W (.Dict [] [] pos) vD0 := pe_mono pe_dnewK fun σ H Q ⟨Zo, Z, ρ, Qd, Ed, v, q, l, m⟩ p hp => l _ _ (.py (.dict [])) (Ex.new hp) (Bg.new v.g hp) ⟨p, rfl, hp, [], upd_same, .nil⟩ q
@[simp] def vD1 (k : Key) (t : VT) : VT := fun ρ Q E => t ρ (fun d => ∃ p, d = .py p ∧ Q (.py (.dict [(kD k, p)]))) E
end
end VL
set_option Elab.async false
set_option linter.all false
set_option maxRecDepth 100000
set_option maxHeartbeats 4000000
namespace VL
open PySem PySem.Spec PyProof.Rows L2
theorem bb_int : bootBuiltins "int" = some (.type "int") := by decide +kernel
theorem bb_str : bootBuiltins "str" = some (.type "str") := by decide +kernel
theorem bb_tuple : bootBuiltins "tuple" = some (.type "tuple") := by decide +kernel
theorem bb_list : bootBuiltins "list" = some (.type "list") := by decide +kernel
theorem bb_isi : bootBuiltins "isinstance" = some (.builtin "isinstance") := by decide +kernel
section
variable {X : Cx} {b : Bg} {W : WX} {e : Expr} {es : List Expr} {u : VA} {p pos : Pos} {t : VT}
theorem ve_intC (hg : Gl X "int") (hm : X.mg "int" = none) (ha : VXs X b W (e :: es) u) (he : starEach (e :: es) X.env = (false, eval e X.env) :: starEach es X.env := by rfl) (hpl : (backTo pos (starEach es X.env)).any (·.1) = false := by rfl) :
    VE X b W (.Call (.Name "int" p) (e :: es) [] pos) (vCal gInt u) := ve_callTy (CallR.or call_int1 call_int_str) rd_int hg hm bb_int ha (by decide) (by decide) he hpl
theorem ve_tupleC (hg : Gl X "tuple") (hm : X.mg "tuple" = none) (ha : VXs X b W (e :: es) u) (he : starEach (e :: es) X.env = (false, eval e X.env) :: starEach es X.env := by rfl) (hpl : (backTo pos (starEach es X.env)).any (·.1) = false := by rfl) :
    VE X b W (.Call (.Name "tuple" p) (e :: es) [] pos) (vCal gTuple u) := ve_callTy call_tupF rd_tuple hg hm bb_tuple ha (by decide) (by decide) he hpl
theorem vn_listC (hg : Gl X "list") (hm : X.mg "list" = none) (ha : VXs X b W (e :: es) u) (he : starEach (e :: es) X.env = (false, eval e X.env) :: starEach es X.env := by rfl) (hpl : (backTo pos (starEach es X.env)).any (·.1) = false := by rfl) :
    VN X b W (.Call (.Name "list" p) (e :: es) [] pos) (vCal gList u) := vn_callTy call_list_of rd_list hg hm bb_list ha (by decide) (by decide) he hpl
theorem ve_isi (hg : Gl X "isinstance") (hm : X.mg "isinstance" = none) (ha : VXs X b W (e :: es) u) (he : starEach (e :: es) X.env = (false, eval e X.env) :: starEach es X.env := by rfl) (hpl : (backTo pos (starEach es X.env)).any (·.1) = false := by rfl) :
    VE X b W (.Call (.Name "isinstance" p) (e :: es) [] pos) (vCal gIsi u) := ve_callB call_isi rd_isi hg hm bb_isi ha (by decide) (by decide) he hpl
theorem ve_tyStr (hg : Gl X "str") (hm : X.mg "str" = none) : VE X b W (.Name "str" pos) (vC (.raw (.ty "str"))) := ve_ty hg hm bb_str
end
/-! ### a def that is called: all that its call wants -/
structure Cal (P : Program) (w : World) (K : PySem.W.Frag) (mg : Str → Option Value) (base : Heap) (b : Bg) (k : Nat) (x : Str) (ps : List Str) (S : SV) where
  f : Addr
  fd : FuncData
  F : FnOk P w K mg base (L2.CX P w) k f fd ps (spV b S)
  g : mg x = some (.ref f)
  kp : PySem.W.keepIn K (.ref f) = true
  bd : Binds K fd ps []
section
variable {X : Cx} {b : Bg} {W : WX} {k j : Nat} {x : Str} {ps : List Str} {S : SV} {e : Expr} {es : List Expr} {u : VA} {p pos : Pos}
theorem ve_cal (c : Cal X.prog X.w X.K X.mg X.base b k x ps S) (hr : Room j X.A) (tk : Takes X W) (hg : Gl X x) (ha : VAs X b W (e :: es) u) (hk : k ≤ j := by decide) (hdb : (x == ("__debug__" : Str)) = false := by decide)
    (he : starEach (e :: es) X.env = (false, eval e X.env) :: starEach es X.env := by rfl) (hpl : (backTo pos (starEach es X.env)).any (·.1) = false := by rfl) : VE X b W (.Call (.Name x p) (e :: es) [] pos) (vCall S u) :=
  ve_call c.F (hr.mono hk) tk hg c.g c.kp c.bd ha hdb he hpl
end
section
variable {X : Cx} {b : Bg} {W : WX} {tg iter elt c : Expr} {ifs : List Expr} {scope : Scope} {own : List (Str × Nat)} {pos spos py : Pos} {ti : VIt} {js : List Nat} {g : VTg} {tt : VB} {te : VT} {i : Nat} {y : Str} {t : VT}
theorem LE.new : ∀ σ H Q, LE b W (RE b) t σ H Q → LE b W (RN b) t σ H Q := fun σ H Q ⟨Zo, Z, ρ, Qd, Ed, v, q, l, m⟩ => ⟨Zo, Z, ρ, Qd, Ed, v, q, fun u H' d x g ⟨a, e, n, o⟩ => by
  subst e
  exact l _ H' d x g (o.rp (fun _ z => .inl z) (v.fresh n)), m⟩
/-- name = [..] on one line, shared from then on -/
theorem vs_setLcE (hc : X.calm = true) (hN : X.N.Nodup) (hy : X.N[i]? = some y) (hyl : X.env.scope.names.lookup y = some .local) (hsw : swapsWith (.ListComp elt [⟨tg, iter, ifs, 0⟩] scope pos) (some (.Name y py)) spos.line X.env = pure true)
    (hi : VIb X b W tg iter ti) (ok : BlkOk X.N X.env.scope scope own) (hjs : ∀ j ∈ js, j ∈ own.map (·.2))
    (hg : ∀ (s : Shared) (H : Hp) (C : Addr) (cl : List (Str × Addr)) (fp : List Addr), VG (X.blk s H scope (compEnvC scope cl C X.env) fp) b tg js g) (ht : ∀ (s : Shared) (H : Hp) (C : Addr) (cl : List (Str × Addr)) (fp : List Addr), VTs (X.blk s H scope (compEnvC scope cl C X.env) fp) b ifs tt)
    (he : ∀ (s : Shared) (H : Hp) (C : Addr) (cl : List (Str × Addr)) (fp : List Addr), VE (X.blk s H scope (compEnvC scope cl C X.env) fp) b noW elt te) (hs : ∀ x, foldedSetIterable iter X.env x = pure x := by intro _; rfl) :
    VSt X b W (.Assign [.Name y py] (.ListComp elt [⟨tg, iter, ifs, 0⟩] scope pos) spos) (sSet i (vLc (own.map (·.2)) ti g tt te)) :=
  vs_set (ps_setLc hc hN hy hyl hsw hi ok hg ht he hs) fun σ H Q q => lc_sound hjs σ H Q (LE.new σ H Q q)
end
end VL
set_option Elab.async false
set_option linter.all false
set_option maxRecDepth 100000
set_option maxHeartbeats 4000000
namespace VL
open PySem PySem.Spec PyProof.Rows L2
@[simp] theorem szl : sizeLine = 16777216 := sizeLine_eq
@[simp] def asB : D → (Bool → Prop) → Prop
  | .py (.bool k), Q => Q k
  | _, _ => False
@[simp] def asI : D → (Int → Prop) → Prop
  | .py (.int k), Q => Q k
  | _, _ => False
@[simp] def asP : D → (PyData → Prop) → Prop
  | .py k, Q => Q k
  | _, _ => False
@[simp 2000] theorem ex_bool (d : D) (Q : Bool → Prop) : (∃ k, d = .py (.bool k) ∧ Q k) ↔ asB d Q := by
  refine ⟨fun ⟨k, e, q⟩ => by rw [e]; exact q, fun h => ?_⟩
  match d, h with
  | .py (.bool k), h => exact ⟨k, rfl, h⟩
@[simp 2000] theorem ex_int (d : D) (Q : Int → Prop) : (∃ k, d = .py (.int k) ∧ Q k) ↔ asI d Q := by
  refine ⟨fun ⟨k, e, q⟩ => by rw [e]; exact q, fun h => ?_⟩
  match d, h with
  | .py (.int k), h => exact ⟨k, rfl, h⟩
@[simp 2000] theorem ex_py (d : D) (Q : PyData → Prop) : (∃ k, d = .py k ∧ Q k) ↔ asP d Q := by
  refine ⟨fun ⟨k, e, q⟩ => by rw [e]; exact q, fun h => ?_⟩
  match d, h with
  | .py k, h => exact ⟨k, rfl, h⟩
@[simp 2000] theorem ex_pys (ds : List D) (Q : List PyData → Prop) : (∃ ps, pys ds = some ps ∧ Q ps) ↔ asO (pys ds) Q := by
  refine ⟨fun ⟨k, e, q⟩ => by rw [e]; exact q, asO_ex⟩
/-! ### comprehensions, loops: how their readings are met -/
/-- one turn of a comprehension -/
def lcStep (g : VTg) (tt : VB) (te : VT) (d : D) (ρ : VEnv) (k : Option PyData → Prop) : Prop :=
  g d ρ fun ρ1 => tt ρ1 (fun b => if b = true then te ρ1 (fun y => ∃ p, y = .py p ∧ k (some p)) noE else k none) noE
section
variable {g : VTg} {tt : VB} {te : VT} {ρ : VEnv} {Q : D → Prop}
theorem lcGo_cons {d : D} {ds : List D} {acc : List PyData} (h : lcStep g tt te d ρ fun o => match o with
    | some p => acc.length < sizeLine ∧ lcGo g tt te Q ds (acc ++ [p]) ρ
    | none => lcGo g tt te Q ds acc ρ) : lcGo g tt te Q (d :: ds) acc ρ := h
/-- every turn gives just f -/
theorem lc_fun (f : PyData → Option PyData) : ∀ {xs acc : List PyData}, (∀ x ∈ xs, ∀ k, k (f x) → lcStep g tt te (.py x) ρ k) → acc.length + xs.length < 16777216 → Q (.py (.list (acc ++ xs.filterMap f))) → lcGo g tt te Q (xs.map D.py) acc ρ
  | [], acc, _, _, q => by simpa using q
  | x :: xs, acc, h, hl, q => by
    refine lcGo_cons (h x List.mem_cons_self _ ?_)
    have hr : ∀ y ∈ xs, ∀ k, k (f y) → lcStep g tt te (.py y) ρ k := fun y hy => h y (List.mem_cons_of_mem _ hy)
    rw [List.length_cons] at hl
    rw [List.filterMap_cons] at q
    cases e : f x with
    | none => rw [e] at q; exact lc_fun f hr (by omega) q
    | some p =>
      rw [e] at q
      refine ⟨by rw [szl]; omega, lc_fun f hr (by rw [List.length_append, List.length_singleton]; omega) ?_⟩
      rw [List.append_assoc]
      exact q
/-- every turn keeps an item, with R -/
theorem lc_rel (R : PyData → PyData → Prop) : ∀ {xs acc : List PyData}, (∀ x ∈ xs, ∀ k, (∀ p, R x p → k (some p)) → lcStep g tt te (.py x) ρ k) → acc.length + xs.length < 16777216 →
    (∀ ps : List PyData, ps.length = xs.length → (∀ (i : Nat) (x p : PyData), xs[i]? = some x → ps[i]? = some p → R x p) → Q (.py (.list (acc ++ ps)))) → lcGo g tt te Q (xs.map D.py) acc ρ
  | [], acc, _, _, q => by
    have := q [] rfl (fun i x p e => by simp at e)
    simpa using this
  | x :: xs, acc, h, hl, q => by
    refine lcGo_cons (h x List.mem_cons_self _ fun p hp => ?_)
    rw [List.length_cons] at hl
    refine ⟨by rw [szl]; omega, lc_rel R (fun y hy => h y (List.mem_cons_of_mem _ hy)) (by rw [List.length_append, List.length_singleton]; omega) fun ps e r => ?_⟩
    rw [List.append_assoc]
    refine q (p :: ps) (by simp [e]) fun i y z e1 e2 => ?_
    cases i with
    | zero =>
      simp at e1 e2
      subst e1 e2
      exact hp
    | succ i => exact r i y z (by simpa using e1) (by simpa using e2)
/-- .. whatever its turn -/
theorem lc_mem (R : PyData → Prop) {xs acc : List PyData} (h : ∀ x ∈ xs, ∀ k, (∀ p, R p → k (some p)) → lcStep g tt te (.py x) ρ k) (hl : acc.length + xs.length < 16777216)
    (q : ∀ ps : List PyData, ps.length = xs.length → (∀ p ∈ ps, R p) → Q (.py (.list (acc ++ ps)))) : lcGo g tt te Q (xs.map D.py) acc ρ :=
  lc_rel (fun _ p => R p) h hl fun ps e r => q ps e fun p hp => by
    obtain ⟨i, hi⟩ := List.getElem?_of_mem hp
    have hlt : i < xs.length := by rw [← e]; exact (List.getElem?_eq_some_iff.mp hi).1
    exact r i xs[i] p (List.getElem?_eq_getElem hlt) hi
end
section
variable {g : VTg} {tb : VS} {De : VEnds}
/-- a loop by its turns: Iv ahead of turn i -/
theorem for_inv (Iv : Nat → VEnv → Prop) {xs : List PyData} (h : ∀ i x ρ, xs[i]? = some x → Iv i ρ → ∀ nx ct : VEnv → Prop, (∀ ρ', Iv (i + 1) ρ' → nx ρ' ∧ ct ρ') → g (.py x) ρ fun ρ1 => tb ρ1 ⟨nx, De.rt, De.nx, ct, De.ex⟩) (hd : ∀ ρ, Iv xs.length ρ → De.nx ρ) :
    ∀ {ρ : VEnv}, Iv 0 ρ → forGo g tb (xs.map D.py) ρ De := by
  have go : ∀ (n : Nat) (ρ : VEnv), Iv n ρ → n ≤ xs.length → forGo g tb ((xs.drop n).map D.py) ρ De := by
    intro n
    induction hk : xs.length - n generalizing n with
    | zero =>
      intro ρ iv hn
      have e : n = xs.length := by omega
      subst e
      rw [List.drop_length]
      exact hd ρ iv
    | succ m ih =>
      intro ρ iv hn
      have hlt : n < xs.length := by omega
      rw [List.drop_eq_getElem_cons hlt, List.map_cons]
      exact h n xs[n] ρ (List.getElem?_eq_getElem hlt) iv _ _ fun ρ' iv' => ⟨ih (n + 1) (by omega) ρ' iv' hlt, ih (n + 1) (by omega) ρ' iv' hlt⟩
  intro ρ iv
  have := go 0 ρ iv (Nat.zero_le _)
  rwa [List.drop_zero] at this
end
/-! ### plain data -/
@[simp] theorem eqv_lnil (xs : List PyData) : (PyData.list xs).eqv (.list []) = xs.isEmpty := by cases xs <;> rfl
@[simp] theorem eqv_tnil (xs : List PyData) : (PyData.tuple xs).eqv (.tuple []) = xs.isEmpty := by cases xs <;> rfl
@[simp] theorem eqv_lt (xs ys : List PyData) : (PyData.list xs).eqv (.tuple ys) = false := rfl
@[simp] theorem eqv_tl (xs ys : List PyData) : (PyData.tuple xs).eqv (.list ys) = false := rfl
@[simp] theorem eqv_ii (i j : Int) : (PyData.int i).eqv (.int j) = (i == j) := rfl
@[simp] theorem eqv_ss (i j : Str) : (PyData.str i).eqv (.str j) = (i == j) := rfl
@[simp] theorem plain_none : PyData.none.plain = true := rfl
@[simp] theorem plain_bool (k : Bool) : (PyData.bool k).plain = true := rfl
@[simp] theorem plain_int (i : Int) : (PyData.int i).plain = true := rfl
@[simp] theorem plain_str (i : Str) : (PyData.str i).plain = true := rfl
@[simp] theorem plain_list (xs : List PyData) : (PyData.list xs).plain = PyData.plainAll xs := by simp only [PyData.plain]
@[simp] theorem plain_tuple (xs : List PyData) : (PyData.tuple xs).plain = PyData.plainAll xs := by simp only [PyData.plain]
@[simp] theorem plainAll_nil : PyData.plainAll [] = true := rfl
@[simp] theorem plainAll_cons (x : PyData) (xs : List PyData) : PyData.plainAll (x :: xs) = (x.plain && PyData.plainAll xs) := by simp only [PyData.plainAll]
@[simp] theorem plainAll_ints (xs : List Int) : PyData.plainAll (xs.map PyData.int) = true := plain_ints xs
@[simp] theorem depth_nil : (PyData.list []).depth = 1 := rfl
@[simp] theorem depth_tnil : (PyData.tuple []).depth = 1 := rfl
@[simp] theorem depth_int (i : Int) : (PyData.int i).depth = 0 := rfl
@[simp] theorem depth_str (i : Str) : (PyData.str i).depth = 0 := rfl
@[simp] theorem depth_none : PyData.none.depth = 0 := rfl
@[simp] theorem depth_bool (k : Bool) : (PyData.bool k).depth = 0 := rfl
@[simp] theorem depth_list (xs : List PyData) : (PyData.list xs).depth = PyData.depthAll xs + 1 := by simp only [PyData.depth]
@[simp] theorem depth_tuple (xs : List PyData) : (PyData.tuple xs).depth = PyData.depthAll xs + 1 := by simp only [PyData.depth]
@[simp] theorem depthAll_nil : PyData.depthAll [] = 0 := rfl
@[simp] theorem depthAll_cons (x : PyData) (xs : List PyData) : PyData.depthAll (x :: xs) = max x.depth (PyData.depthAll xs) := by simp only [PyData.depthAll]
end VL
namespace VL
open PySem PySem.Spec PyProof.Rows L2
@[simp] theorem cpow_iff (i j : Int) : CPow i j ↔ (0 ≤ j ∧ j ≤ 1000000 ∧ i.natAbs < 2 ^ 64) := Iff.rfl
@[simp] theorem cdivn_iff (i j : Int) : CDivN i j ↔ (j ≠ 0 ∧ j.natAbs < 1073741824) := Iff.rfl
@[simp] theorem cmul_iff (i j : Int) : CMul i j ↔ ((-(2 ^ 64) < i ∧ i < 2 ^ 64) ∨ (-(2 ^ 64) < j ∧ j < 2 ^ 64)) := Iff.rfl
end VL
namespace VL
open PySem PySem.Spec PyProof.Rows L2
theorem atI_ok {α : Type} {xs : List α} {i : Int} (h0 : 0 ≤ i) (h1 : i < xs.length) : ∃ d, atI xs i = some d ∧ d ∈ xs := by
  obtain ⟨j, rfl⟩ := Int.eq_ofNat_of_zero_le h0
  have hj : j < xs.length := by omega
  exact ⟨xs[j], atI_nat (List.getElem?_eq_getElem hj), List.getElem_mem hj⟩
theorem mem_rangeP {lo : Int} {n : Nat} {d : PyData} (h : d ∈ rangeP lo n) : ∃ k : Nat, k < n ∧ d = .int (lo + k) := by
  unfold rangeP at h
  obtain ⟨k, hk, rfl⟩ := List.mem_map.mp h
  exact ⟨k, List.mem_range.mp hk, rfl⟩
@[simp] theorem rangeP_len (lo : Int) (n : Nat) : (rangeP lo n).length = n := by simp [rangeP]
/-- ints, all with P -/
theorem ints_of {P : Int → Prop} : ∀ {ps : List PyData}, (∀ p ∈ ps, ∃ g, p = PyData.int g ∧ P g) → ∃ gs : List Int, ps = gs.map PyData.int ∧ ∀ g ∈ gs, P g
  | [], _ => ⟨[], rfl, fun _ h => nomatch h⟩
  | p :: ps, h => by
    obtain ⟨g, rfl, hg⟩ := h p List.mem_cons_self
    obtain ⟨gs, rfl, hs⟩ := ints_of fun q hq => h q (List.mem_cons_of_mem _ hq)
    exact ⟨g :: gs, rfl, fun x hx => (List.mem_cons.mp hx).elim (fun e => by rw [e]; exact hg) (hs x)⟩
end VL
set_option Elab.async false
set_option linter.all false
set_option maxRecDepth 100000
set_option maxHeartbeats 4000000
namespace VL
open PySem PySem.Spec PyProof.Rows L2
/-! ### the law: the first statement makes the bag, the rest is read over values -/
theorem pss_ex {X : Cx} {sts : List Stmt} {α : Type} {t : α → TS} (h : ∀ x, PSs X sts (t x)) : PSs X sts (fun D σ H => ∃ x, t x D σ H) := ⟨fun pins s σ H D I ⟨x, q⟩ => (h x).run pins s σ H D I q⟩
def spLaw (K : PySem.W.Frag) : Sp := fun vs H Q _ => ∃ (a : Addr) (ns : List Int), vs = [.ref a] ∧ SqL K H a (ns.map V.int) ∧ ns.length ≤ 63 ∧ ∀ H', Q (.bl true) H'
/-- the names' values behind the first statement: the bag in slot i -/
def envBag (n i : Nat) (r : Addr) : VEnv := (List.replicate n Slot.un).set i (.shr (.raw (.ref r)))
abbrev isTrue' : D → Prop := fun d => d = .py (.bool true)
theorem envBag_at {n i j : Nat} {r : Addr} {s : Slot} (h : (envBag n i r)[j]? = some s) : s = .un ∨ (j = i ∧ s = .shr (.raw (.ref r))) := by
  unfold envBag at h
  by_cases e : i = j
  · subst e
    by_cases hn : i < n
    · rw [List.getElem?_set_self (by simpa using hn)] at h; cases h; exact .inr ⟨rfl, rfl⟩
    · rw [List.getElem?_eq_none (by simp; omega)] at h; cases h
  · rw [List.getElem?_set_ne e, List.getElem?_replicate] at h
    split at h
    · cases h; exact .inl rfl
    · cases h
theorem law_rest {cls : Str → Addr} {r l1 l2 : Addr} {gs ds : List Int} {n : Int} {H : Hp} {N : List Str} {i : Nat} {a : Addr} {t : VS} {Q : VK} {E : XK} (hb : bagAt r l1 l2 gs ds n H) (h0 : 0 < N.length) (hi : i < N.length)
    (law : t (envBag N.length i r) (fin isTrue' noE)) (q : ∀ H', Q (.bl true) H') : LS (bagB cls r l1 l2) (WF E) t { nx := fun _ H' => Q .non H', rt := Q } ((L2.start N [.ref a]).set i (some (.ref r))) H := by
  have hG : (bagB cls r l1 l2).G H := ⟨gs, ds, n, hb⟩
  have hl : (L2.start N [V.ref a]).length = N.length := by
    unfold L2.start
    rw [List.length_append, List.length_map, List.length_replicate, List.length_singleton]
    omega
  refine ⟨H, fun _ => False, (bagB cls r l1 l2).B, (bagB cls r l1 l2).B, _, _, ⟨⟨hG, fun _ z => z, fun _ z => z, fun a z => (bagB cls r l1 l2).dom H a hG z, fun _ z => .inl z, fun j d e => ?_, fun j k d e c h1 _ _ _ => ?_, fun j d e => ?_, ?_⟩, fun _ _ e _ _ => e, fun j d c h1 _ => ?_⟩, law, ⟨fun _ _ _ _ _ h => (by cases h), fun v H' d _ _ rp h => ?_, fun _ _ _ _ _ h => h.elim, fun _ _ _ _ _ h => h.elim, fun _ _ _ _ _ _ _ _ _ h => h.elim⟩⟩
  · rcases envBag_at e with h | ⟨_, h⟩ <;> cases h
  · rcases envBag_at h1 with h | ⟨_, h⟩ <;> cases h
  · rcases envBag_at e with h | ⟨ej, h⟩
    · cases h
    · cases h
      subst ej
      exact ⟨.ref r, List.getElem?_set_self (by rw [hl]; exact hi), rfl⟩
  · unfold envBag
    rw [List.length_set, List.length_replicate, List.length_set, hl]
  · rcases envBag_at h1 with h | ⟨_, h⟩ <;> cases h
  · have h' : d = .py (.bool true) := h
    subst h'
    have rp' : Rq (bagB cls r l1 l2).B H' v (.bool true) := rp
    cases rp'
    exact q H'
section
variable {P : Program} {w : World} {K : PySem.W.Frag} {mg : Str → Option Value} {base : Heap} {k k0 : Nat} {st : Stmt} {f fo : Addr} {fd fdo : FuncData} {N : List Str}
theorem lawV {cls : Str → Addr} {i : Nat} {t : Addr → VS} {p1 p2 p3 p4 p5 : Pos} {rest : List Stmt} {nm : Str} (F : Fun K nm nm st f fd) (Sc : FnScope N ["_law_script"] (defScope st))
    (hst : defBody st = .Assign [.Name "_law_bag" p1] (.Call (.Name "_law_opened" p2) [.Name "_law_script" p3] [] p4) p5 :: rest)
    (FO : FnOk P w K mg base (L2.CX P w) k0 fo fdo ["_law_script"] (spOpened K)) (gO : mg "_law_opened" = some (.ref fo)) (kO : PySem.W.keepIn K (.ref fo) = true) (bO : Binds K fdo ["_law_script"] []) (hk : k0 ≤ k)
    (hi : N[i]? = some ("_law_bag" : Str)) (h0 : N[0]? = some ("_law_script" : Str)) (hloc : Loc (defScope st) ("_law_bag" : Str)) (hloc0 : (defScope st).names.lookup ("_law_script" : Str) = some .local) (hgl : (defScope st).names.lookup ("_law_opened" : Str) = some .globalImplicit)
    (hbody : ∀ (r l1 l2 : Addr) (cdv : Value) (A : Around) (outer : List Env) (s : Shared) (H : Hp) (E : XK), Room k (A.deeper (envOfC nm (defScope st) s.heap.objs.size f cdv)) → (A.deeper (envOfC nm (defScope st) s.heap.objs.size f cdv)).guards = some [] →
      Takes (cxOf (L2.CX P w) P w K mg base N nm (defScope st) f cdv A outer s H E) (WF E) → VSs (cxOf (L2.CX P w) P w K mg base N nm (defScope st) f cdv A outer s H E) (bagB cls r l1 l2) (WF E) rest (t r))
    (law : ∀ r, t r (envBag N.length i r) (fin isTrue' noE)) : FnG P w K mg base (k + 1) f fd ["_law_script"] (spLaw K) := by
  refine fnG F Sc (fun vs H Q E ⟨a, ns, e, _⟩ => by rw [e]; rfl) fun cdv A outer s H vs Q E hr hg ⟨a, ns, ev, hS, hl, q⟩ => ?_
  subst ev
  rw [hst]
  have tk : Takes (cxOf (L2.CX P w) P w K mg base N nm (defScope st) f cdv A outer s H E) (WF E) := takes_of rfl rfl rfl rfl
  have hN0 : 0 < N.length := (List.getElem?_eq_some_iff.mp h0).1
  have hNi : i < N.length := (List.getElem?_eq_some_iff.mp hi).1
  refine ⟨_, pss_cons (ps_set (X := cxOf (L2.CX P w) P w K mg base N nm (defScope st) f cdv A outer s H E) (i := i) Sc.nd hi hloc (pe_callS FO (hr.mono hk) ?_ gO kO bO (fun σ => passAt tk σ) (pa_cons (pe_var h0 (.inl hloc0)) pa_nil)) (by rfl) (.inl rfl))
    (pss_ex fun r => pss_ex fun l1 => pss_ex fun l2 => hbody r l1 l2 cdv A outer s H E hr hg tk), ?_⟩
  · exact hgl
  · refine ⟨.ref a, ?_, a, ns, rfl, hS, hl, fun r l1 l2 gs ds n H' _ _ _ _ bag => ⟨r, l1, l2, law_rest bag hN0 hNi (law r) q⟩⟩
    unfold L2.start
    rfl
end
end VL
set_option Elab.async false
set_option linter.all false
set_option maxRecDepth 100000
set_option maxHeartbeats 4000000
namespace VL
open PySem PySem.Spec PyProof.Rows L2 HT
/-! ### slices as take and drop -/
theorem cutL_len {α : Type} (xs : List α) (lo hi : Option Int) : (cutL xs lo hi).length ≤ xs.length := by
  unfold cutL
  rw [List.length_take, List.length_drop]
  omega
theorem cutL_take {α : Type} (xs : List α) {x : Int} (h : 0 ≤ x) : cutL xs none (some x) = xs.take x.toNat := by
  simp only [cutL, HT.sIx]
  rw [if_neg (by omega), List.drop_zero, Nat.sub_zero]
  by_cases c : x.toNat ≤ xs.length
  · rw [Nat.min_eq_left c]
  · rw [Nat.min_eq_right (by omega), List.take_length, List.take_of_length_le (by omega)]
theorem cutL_drop {α : Type} (xs : List α) {x : Int} (h : 0 ≤ x) : cutL xs (some x) none = xs.drop x.toNat := by
  simp only [cutL, HT.sIx]
  rw [if_neg (by omega)]
  by_cases c : x.toNat ≤ xs.length
  · rw [Nat.min_eq_left c, List.take_of_length_le (by rw [List.length_drop]; omega)]
  · rw [Nat.min_eq_right (by omega), List.drop_length, List.take_nil, List.drop_of_length_le (by omega)]
end VL
set_option Elab.async false
set_option linter.all false
set_option maxRecDepth 100000
set_option maxHeartbeats 4000000
namespace VL
open PySem PySem.Spec PyProof.Rows L2 HT
/-! ### the facts of a def, for the join -/
structure DefK (K : PySem.W.Frag) (x : Str) (st : Stmt) : Prop where
  ex : ∃ (f : Addr) (oc kV doc pm cdv ct : Value) (od an : Option Addr) (osl : Array (Option Value)), PySem.W.nsIn K mainGlobals x = some (some (.ref f)) ∧ K.lookup f = some ⟨oc, od, .func (PySem.W.fnOf x x (defArgs st) (defBody st) (defScope st) .none kV doc pm an cdv ct), osl⟩ ∧ PySem.W.codeIn K cdv x = true ∧ PySem.W.keepIn K (.ref f) = true
theorem defK {K : PySem.W.Frag} {x : Str} {st : Stmt} {f : Addr} {oc kV doc pm cdv ct : Value} {od an : Option Addr} {osl : Array (Option Value)} (a : PySem.W.nsIn K mainGlobals x = some (some (.ref f)))
    (l : K.lookup f = some ⟨oc, od, .func (PySem.W.fnOf x x (defArgs st) (defBody st) (defScope st) .none kV doc pm an cdv ct), osl⟩) (c : PySem.W.codeIn K cdv x = true) (k : PySem.W.keepIn K (.ref f) = true) : DefK K x st := ⟨f, oc, kV, doc, pm, cdv, ct, od, an, osl, a, l, c, k⟩
theorem DefK.use {K : PySem.W.Frag} {x : Str} {st : Stmt} {h : Heap} {mg : Str → Option Value} (d : DefK K x st) (X : K.In h) (G : h.Ns mainGlobals mg) : ∃ (f : Addr) (fd : FuncData), Fun K x x st f fd ∧ mg x = some (.ref f) ∧ PySem.W.keepIn K (.ref f) = true ∧ fd.defaults = .none := by
  obtain ⟨f, oc, kV, doc, pm, cdv, ct, od, an, osl, a, l, c, k⟩ := d.ex
  exact ⟨f, _, fun_mk l c k, PySem.W.mg_of X G a, k, rfl⟩
end VL
set_option Elab.async false
set_option linter.all false
set_option maxRecDepth 100000
set_option maxHeartbeats 4000000
namespace VL
open PySem PySem.Spec PyProof.Rows L2 HT
/-! ### an owned list is changed by a method -/
def MutD (b : Bg) (r : V → List V → Hp → VK → Prop) (g : List PyData → List D → (D → List PyData → Prop) → Prop) : Prop :=
  ∀ (Z : Addr → Prop) (H : Hp) (a : Addr) (xs : List V) (vs : List V) (p : List PyData) (ds : List D) (Q : VK) (Qd : D → List PyData → Prop), H a = some (.lst xs) → Rqs Z H xs p → Rps b Z H vs ds → g p ds Qd →
    (∀ v ys q dv, Rqs Z H ys q → Rp b Z H v dv → Qd dv q → Q v (upd H a (.lst ys))) → r (.ref a) vs H Q
@[simp] def sMut (i : Nat) (g : List PyData → List D → (D → List PyData → Prop) → Prop) (ta : VA) : VS := fun ρ De => ∃ p, ρ[i]? = some (.own (.py (.list p))) ∧ ta ρ (fun ds => g p ds fun _ q => De.nx (ρ.set i (.own (.py (.list q))))) (De.ex ρ)
section
variable {X : Cx} {b : Bg} {W : WX} {o e : Expr} {es : List Expr} {ta : VA} {i : Nat} {name : Str} {id : String} {apos cpos pos : Pos} {r : V → List V → Hp → VK → Prop} {g : List PyData → List D → (D → List PyData → Prop) → Prop}
theorem vs_mut (slot : PySem.Slot "list" name id) (hty : typeOf (.builtin id) = pure (.type "method_descriptor")) (hm : MtR X id r) (hd : MutD b r g) (ho : PE X o (tVar i)) (ha : VAs X b W (e :: es) ta)
    (hbase : attributeBase o name X.env (eval o X.env) = eval o X.env := by rfl)
    (hfew : ((backTo cpos (starEach (e :: es) X.env)).all (fun x => !x.1) && (backToKw cpos (keywordEach [] X.env)).all (fun x => x.1.isSome)
      && decide ((e :: es).length + ([] : List Keyword).length + (if ([] : List Keyword).isEmpty then 0 else 1) < 30)) = true := by rfl)
    (hline : (apos.endLine == cpos.line) = true := by rfl) (hs : starEach (e :: es) X.env = (false, eval e X.env) :: starEach es X.env := by rfl) (hplain : (backTo cpos (starEach es X.env)).any (·.1) = false := by rfl)
    (hsw : swapsWith (.Call (.Attribute o name apos) (e :: es) [] cpos) none pos.line X.env = pure false := by rfl) :
    VSt X b W (.Expr (.Call (.Attribute o name apos) (e :: es) [] cpos) pos) (sMut i g ta) :=
  ps_mono (ps_expr (pe_bm PySem.F.plainAttrs_list slot hty hm ho ha hbase hfew hline hs hplain) hsw) fun Dn σ H ⟨H0, M, Zo, Z, ρ, De, f, ⟨p, e1, q⟩, l⟩ => by
    obtain ⟨a, h1, h2, h3, xs, h4, h5⟩ := f.v.own i _ e1
    refine ⟨.ref a, h1, .inl ⟨rfl, xs, SqL.of h4⟩, Zo, Z, ρ, _, _, f.v, q, fun vs H' ds x g1 r1 q' => ?_, l.er f⟩
    have f' := f.ex x g1
    obtain ⟨a', h1', h2', h3', xs', h4', h5'⟩ := f'.v.own i _ e1
    rw [h1] at h1'; cases h1'
    refine hd Z H' a xs' vs p ds _ _ h4' h5' r1 q' fun v ys pq dv ry rv q2 => ?_
    exact l.nx _ _ _ _ (f'.mut (d' := .py (.list pq)) e1 h1 ⟨ys, upd_same, ry.mono (fun c z => .inl z) fun c u e n => by
      rw [upd_ne (fun w => n (by rw [w]; exact h2))]
      exact e⟩) q2
/-- append -/
@[simp] def gApp : List PyData → List D → (D → List PyData → Prop) → Prop
  | p, [.py x], Q => p.length < sizeLine ∧ Q (.py .none) (p ++ [x])
  | _, _, _ => False
theorem rd_app : MutD b rAppend gApp := by
  intro Z H a xs vs p ds Q Qd h rx rv g k
  match ds, g, rv with
  | [.py x], ⟨hl, q⟩, .cons (v := v) rv .nil => exact ⟨a, xs, v, rfl, rfl, h, by rw [rx.length]; exact hl, k _ _ _ (.py .none) (rx.append (.cons rv .nil)) (Rq.non : Rq Z H .non .none) q⟩
theorem vs_app (ho : PE X o (tVar i)) (ha : VAs X b W [e] ta) (hbase : attributeBase o "append" X.env (eval o X.env) = eval o X.env := by rfl)
    (hfew : ((backTo cpos (starEach [e] X.env)).all (fun x => !x.1) && (backToKw cpos (keywordEach [] X.env)).all (fun x => x.1.isSome)
      && decide ([e].length + ([] : List Keyword).length + (if ([] : List Keyword).isEmpty then 0 else 1) < 30)) = true := by rfl)
    (hline : (apos.endLine == cpos.line) = true := by rfl) (hs : starEach [e] X.env = (false, eval e X.env) :: starEach [] X.env := by rfl) (hplain : (backTo cpos (starEach [] X.env)).any (·.1) = false := by rfl)
    (hsw : swapsWith (.Call (.Attribute o "append" apos) [e] [] cpos) none pos.line X.env = pure false := by rfl) :
    VSt X b W (.Expr (.Call (.Attribute o "append" apos) [e] [] cpos) pos) (sMut i gApp ta) :=
  vs_mut PySem.F.slot_list_append PySem.F.type_list_append mt_append rd_app ho ha hbase hfew hline hs hplain hsw
end
end VL
set_option Elab.async false
set_option linter.all false
set_option maxRecDepth 100000
set_option maxHeartbeats 4000000
namespace VL
open PySem PySem.Spec PyProof.Rows L2 HT
/-! ### dicts with keys int or text: read, get, put -/
def keyOf : PyData → Option Key
  | .int i => some (.inl i)
  | .str x => some (.inr x)
  | _ => none
@[simp] theorem keyOf_kD (k : Key) : keyOf (kD k) = some k := by cases k <;> rfl
def getD (ds : List (PyData × PyData)) (k : Key) : Option PyData := (ds.find? fun p => decide (keyOf p.1 = some k)).map (·.2)
def putD (ds : List (PyData × PyData)) (k : Key) (x : PyData) : List (PyData × PyData) :=
  if (ds.any fun p => decide (keyOf p.1 = some k)) = true then ds.map (fun p => if keyOf p.1 = some k then (p.1, x) else p) else ds ++ [(kD k, x)]
section
variable {Z : Addr → Prop} {H : Hp}
theorem Rqk.any {k : Key} : ∀ {kvs : List (Key × V)} {ds : List (PyData × PyData)}, Rqk Z H kvs ds → (kvs.any fun kv => decide (kv.1 = k)) = (ds.any fun p => decide (keyOf p.1 = some k))
  | _, _, .nil => rfl
  | _, _, .cons (k := k') r t => by
    rw [List.any_cons, List.any_cons, Rqk.any t]
    simp [-kD]
theorem Rqk.get {k : Key} : ∀ {kvs : List (Key × V)} {ds : List (PyData × PyData)}, Rqk Z H kvs ds → (valV kvs k = none ∧ getD ds k = none) ∨ ∃ v d, valV kvs k = some v ∧ getD ds k = some d ∧ Rq Z H v d
  | _, _, .nil => .inl ⟨rfl, rfl⟩
  | _, _, .cons (k := k') (v := v) (d := d) r t => by
    by_cases e : k' = k
    · exact .inr ⟨v, d, valV_pos e, by simp [-kD, getD, List.find?_cons, e], r⟩
    · have h1 : ∀ r, valV ((k', v) :: r) k = valV r k := fun r => valV_neg e
      have h2 : ∀ ds, getD ((kD k', d) :: ds) k = getD ds k := fun ds => by simp [-kD, getD, List.find?_cons, e]
      rcases Rqk.get (k := k) t with ⟨a, c⟩ | ⟨v', d', a, c, q⟩
      · exact .inl ⟨by rw [h1]; exact a, by rw [h2]; exact c⟩
      · exact .inr ⟨v', d', by rw [h1]; exact a, by rw [h2]; exact c, q⟩
theorem Rqk.map {k : Key} {v : V} {x : PyData} (rx : Rq Z H v x) : ∀ {kvs : List (Key × V)} {ds : List (PyData × PyData)}, Rqk Z H kvs ds → Rqk Z H (kvs.map fun kv => if kv.1 = k then (kv.1, v) else kv) (ds.map fun p => if keyOf p.1 = some k then (p.1, x) else p)
  | _, _, .nil => .nil
  | _, _, .cons (k := k') r t => by
    rw [List.map_cons, List.map_cons]
    by_cases e : k' = k
    · simp only [keyOf_kD, e, if_true]
      exact .cons rx (Rqk.map rx t)
    · simp only [keyOf_kD, Option.some.injEq, e, if_false]
      exact .cons r (Rqk.map rx t)
theorem Rqk.snoc {k : Key} {v : V} {x : PyData} (rx : Rq Z H v x) : ∀ {kvs : List (Key × V)} {ds : List (PyData × PyData)}, Rqk Z H kvs ds → Rqk Z H (kvs ++ [(k, v)]) (ds ++ [(kD k, x)])
  | _, _, .nil => .cons rx .nil
  | _, _, .cons r t => .cons r (Rqk.snoc rx t)
theorem Rqk.put {k : Key} {v : V} {x : PyData} {kvs : List (Key × V)} {ds : List (PyData × PyData)} (rx : Rq Z H v x) (t : Rqk Z H kvs ds) : Rqk Z H (putK kvs k v) (putD ds k x) := by
  unfold putK putD
  rw [t.any]
  split
  · exact t.map rx
  · exact t.snoc rx
end
end VL
set_option Elab.async false
set_option linter.all false
set_option maxRecDepth 100000
set_option maxHeartbeats 4000000
namespace VL
open PySem PySem.Spec PyProof.Rows L2 HT
section
variable {b : Bg} {Zo Z : Addr → Prop} {σ : L2.St} {H H' : Hp} {ρ : VEnv}
theorem VOk.rqk (v : VOk b Zo Z σ H ρ) (x : Ex b H H') {u : List (Key × V)} {d : List (PyData × PyData)} (r : Rqk Z H u d) : Rqk Z H' u d := r.mono (fun a z => .inl z) (v.keep x)
/-- a borrowed dict -/
theorem VOk.rdict (v : VOk b Zo Z σ H ρ) {u : V} {ds : List (PyData × PyData)} (r : Rb b Z H u (.py (.dict ds))) : ∃ a kvs, u = .ref a ∧ H a = some (.dK kvs) ∧ ¬ b.B a ∧ Rqk Z H kvs ds := by
  rcases r with r | ⟨a, e, nb, _, kvs, h, rk⟩
  · have r : Rq Z H u (.dict ds) := r
    cases r with
    | dct h n rk => exact ⟨_, _, rfl, h, v.nb n, rk⟩
  · exact ⟨a, kvs, e, h, nb, rk⟩
theorem Rq.key {u : V} {p : PyData} {k : Key} (r : Rq Z H u p) (e : keyOf p = some k) : u = kV k := by
  cases p <;> simp only [keyOf] at e <;> cases e
  · cases r; rfl
  · cases r; rfl
end
@[simp] def vDGet2 (td ty tx : VT) : VT := fun ρ Q E => td ρ (fun d => ∃ ds, d = .py (.dict ds) ∧ ty ρ (fun y => ∃ k kk, y = .py k ∧ keyOf k = some kk ∧ tx ρ (fun z => ∃ p, z = .py p ∧ Q (.py ((getD ds kk).getD p))) E) E) E
@[simp] def vDGet1 (td ty : VT) : VT := fun ρ Q E => td ρ (fun d => ∃ ds, d = .py (.dict ds) ∧ ty ρ (fun y => ∃ k kk, y = .py k ∧ keyOf k = some kk ∧ Q (.py ((getD ds kk).getD .none))) E) E
@[simp] def vDIx (td ty : VT) : VT := fun ρ Q E => td ρ (fun d => ∃ ds, d = .py (.dict ds) ∧ ty ρ (fun y => ∃ k kk x, y = .py k ∧ keyOf k = some kk ∧ getD ds kk = some x ∧ Q (.py x)) E) E
section
variable {X : Cx} {b : Bg} {W : WX} {o e f : Expr} {td ty tx : VT} {apos cpos pos pos' : Pos} {i : Nat}
theorem ve_dget2 (hu : X.A.units + 1 < cLine) (ho : VX X b W o td) (he : VE X b W e ty) (hf : VE X b W f tx) (m : M2 X o "get" apos e f cpos) : VE X b W (.Call (.Attribute o "get" apos) [e, f] [] cpos) (vDGet2 td ty tx) :=
  pe_mono (pe_dget2 hu ho he hf m) fun σ H Q ⟨Zo, Z, ρ, Qd, Ed, v, q, l, me⟩ => ⟨Zo, Z, ρ, _, Ed, v, q, fun x H1 d x1 g1 r1 ⟨ds, ed, q1⟩ => by
    subst ed
    have v1 := v.ex x1 g1
    obtain ⟨a, kvs, rfl, h, nb, rk⟩ := v1.rdict r1
    refine ⟨a, rfl, .inl ⟨kvs, .inl h⟩, Zo, Z, ρ, _, Ed, v1, q1, fun y H2 dy x2 g2 r2 ⟨k, kk, ey, ek, q2⟩ => ?_, fun c y H2 er x2 g2 r2 q2 => me c y H2 er (x1.trans x2) g2 r2 q2⟩
    subst ey
    have v2 := v1.ex x2 g2
    refine ⟨Zo, Z, ρ, _, Ed, v2, q2, fun z H3 dz x3 g3 r3 ⟨p, ez, q3⟩ => ?_, fun c y H3 er x3 g3 r3 q3 => me c y H3 er ((x1.trans x2).trans x3) g3 r3 q3⟩
    subst ez
    have x23 := x2.trans x3
    have h3 := x23 a _ h nb
    have rk3 := v1.rqk x23 rk
    have ek' : y = kV kk := Rq.key (Z := Z) r2 ek
    refine ⟨valV kvs kk, by rw [ek']; exact DGet.k h3, l _ H3 _ (x1.trans x23) g3 ?_ q3⟩
    rcases rk3.get (k := kk) with ⟨e1, e2⟩ | ⟨u, d', e1, e2, ru⟩
    · rw [e1, e2]; exact r3
    · rw [e1, e2]; exact ru, me⟩
/-- d[k] = x for an owned dict -/
@[simp] def sDPutO (i : Nat) (ty tv : VT) : VS := fun ρ De => ∃ ds, ρ[i]? = some (.own (.py (.dict ds))) ∧ tv ρ (fun x => ∃ p, x = .py p ∧ ty ρ (fun y => ∃ k kk, y = .py k ∧ keyOf k = some kk ∧ ds.length < sizeLine ∧ De.nx (ρ.set i (.own (.py (.dict (putD ds kk p)))))) (De.ex ρ)) (De.ex ρ)
theorem vs_dputO {tv : VT} {value : Expr} (hu : X.A.units + 1 < cLine) (ho : PE X o (tVar i)) (he : VE X b W e ty) (hv : VE X b W value tv) (hs : swapsWith value (some (.Subscript o e pos')) pos.line X.env = pure false := by rfl) :
    VSt X b W (.Assign [.Subscript o e pos'] value pos) (sDPutO i ty tv) :=
  ps_mono (ps_dput hu ho he hv hs) fun Dn σ H ⟨H0, M, Zo, Z, ρ, De, f, ⟨ds, e1, q⟩, l⟩ => by
    refine ⟨Zo, Z, ρ, _, _, f.v, q, fun v H1 dv x1 g1 r1 ⟨p, ep, q1⟩ => ?_, l.er f⟩
    subst ep
    have f1 := f.ex x1 g1
    obtain ⟨a, h1, h2, h3, kvs, h4, h5⟩ := f1.v.own i _ e1
    have nb : ¬ b.B a := fun z => h3 (f1.v.zb a z)
    refine ⟨.ref a, h1, Zo, Z, ρ, _, _, f1.v, q1, fun y H2 dy x2 g2 r2 ⟨k, kk, ey, ek, hl, q2⟩ => ?_, l.er f1⟩
    subst ey
    have f2 := f1.ex x2 g2
    have ek' : y = kV kk := Rq.key (Z := Z) r2 ek
    have h4' := x2 a _ h4 nb
    have h5' := f1.v.rqk x2 h5
    refine ⟨a, _, rfl, by rw [ek']; exact DPut.k h4' (by rw [h5.length]; exact hl), l.nx _ _ _ _ (f2.mut (d' := .py (.dict (putD ds kk p))) e1 h1 ⟨_, upd_same, ?_⟩) q2⟩
    exact (h5'.put (f1.v.rq x2 r1)).mono (fun c z => .inl z) fun c u e n => by
      rw [upd_ne (fun w => n (by rw [w]; exact h2))]
      exact e
end
end VL
set_option Elab.async false
set_option linter.all false
set_option maxRecDepth 100000
set_option maxHeartbeats 4000000
namespace VL
open PySem PySem.Spec PyProof.Rows L2 HT
/-- a constant of the module that is a text -/
theorem ve_gstr {X : Cx} {b : Bg} {W : WX} {pos : Pos} {x : Str} {i : Str} (hg : Gl X x) (hm : ∃ t, X.mg x = some (.str i t)) (hd : (x == ("__debug__" : Str)) = false := by decide) : VE X b W (.Name x pos) (vC (.py (.str i))) := by
  obtain ⟨t, h⟩ := hm
  exact ve_glob (v := .str i) hg h ⟨t, rfl⟩ (fun _ _ => .str i) hd
end VL
set_option Elab.async false
set_option linter.all false
set_option maxRecDepth 100000
set_option maxHeartbeats 4000000
namespace VL
open PySem PySem.Spec PyProof.Rows L2 HT
/-! ### typed data -/
def pN (n : Nat) : PyData := .int (n : Int)
def oN : Option Nat → PyData
  | none => .none
  | some n => .int (n : Int)
@[simp] def tI (gs : List Int) : PyData := .tuple (gs.map PyData.int)
@[simp] def tN (ns : List Nat) : PyData := .tuple (ns.map pN)
theorem map_inj {α β : Type} {f : α → β} (h : ∀ a b, f a = f b → a = b) : ∀ {xs ys : List α}, xs.map f = ys.map f ↔ xs = ys
  | [], [] => ⟨fun _ => rfl, fun _ => rfl⟩
  | [], _ :: _ => by simp
  | _ :: _, [] => by simp
  | x :: xs, y :: ys => by
    rw [List.map_cons, List.map_cons, List.cons.injEq, List.cons.injEq, map_inj h]
    exact ⟨fun ⟨a, b⟩ => ⟨h _ _ a, b⟩, fun ⟨a, b⟩ => ⟨by rw [a], b⟩⟩
theorem pN_inj (a b : Nat) (e : pN a = pN b) : a = b := by unfold pN at e; injection e with e; omega
@[simp] theorem pN_eq {a b : Nat} : pN a = pN b ↔ a = b := ⟨pN_inj a b, fun e => by rw [e]⟩
@[simp] theorem mapI_inj {xs ys : List Int} : xs.map PyData.int = ys.map PyData.int ↔ xs = ys := map_inj fun a b e => by injection e
@[simp] theorem mapN_inj {xs ys : List Nat} : xs.map pN = ys.map pN ↔ xs = ys := map_inj pN_inj
@[simp] theorem oN_inj {a b : Option Nat} : oN a = oN b ↔ a = b := by
  cases a <;> cases b <;> simp [oN]
  omega
theorem atI_map {α β : Type} {f : α → β} {xs : List α} {k : Nat} {x : α} (h : xs[k]? = some x) : atI (xs.map f) (k : Int) = some (f x) := atI_nat (by rw [List.getElem?_map, h]; rfl)
theorem enumP_len (xs : List PyData) : (enumP xs).length = xs.length := by simp [enumP]
theorem enumP_getD {α : Type} {f : α → PyData} {xs : List α} {k : Nat} {d : PyData} (h : (enumP (xs.map f))[k]? = some d) : ∃ x, xs[k]? = some x ∧ d = .tuple [.int (k : Nat), f x] := by
  obtain ⟨x, h1, h2⟩ := enumP_get h
  rw [List.getElem?_map] at h1
  cases e : xs[k]? with
  | none => rw [e] at h1; cases h1
  | some y => rw [e] at h1; cases h1; exact ⟨y, rfl, h2⟩
theorem take_succ_get {α : Type} {xs : List α} {k : Nat} {x : α} (h : xs[k]? = some x) : xs.take (k + 1) = xs.take k ++ [x] := by
  rw [List.take_add_one, h]; rfl
end VL
namespace VL
open PySem PySem.Spec PyProof.Rows L2 HT
theorem putD_len (ds : List (PyData × PyData)) (k : Key) (x : PyData) : (putD ds k x).length ≤ ds.length + 1 := by
  unfold putD
  split
  · simp
  · simp
theorem getD_putD (ds : List (PyData × PyData)) (k j : Key) (x : PyData) : getD (putD ds k x) j = if j = k then some x else getD ds j := by
  unfold putD
  split
  · rename_i h
    have e : ∀ l : List (PyData × PyData), getD (l.map fun p => if keyOf p.1 = some k then (p.1, x) else p) j = if j = k then (if (l.any fun p => decide (keyOf p.1 = some k)) = true then some x else none) else getD l j := by
      intro l
      induction l with
      | nil => simp [getD]
      | cons p l ih =>
        unfold getD at ih ⊢
        rw [List.map_cons, List.any_cons, List.find?_cons]
        by_cases c : keyOf p.1 = some k
        · by_cases d : j = k
          · subst d; simp [c]
          · have d' : ¬ (some k = some j) := fun z => d (by cases z; rfl)
            have d'' : ¬ (k = j) := fun z => d z.symm
            simp [c, d, d', d''] at ih ⊢
            simpa [c, d, d', d''] using ih
        · by_cases d : keyOf p.1 = some j
          · have d' : ¬ j = k := fun z => c (by rw [d, z])
            simp [c, d, d']
          · have c' : decide (keyOf p.1 = some k) = false := decide_eq_false c
            have d' : decide (keyOf p.1 = some j) = false := decide_eq_false d
            rw [if_neg c, d', List.find?_cons, c', Bool.false_or]
            simp only [d']
            exact ih
    rw [e, h]; simp
  · rename_i h
    unfold getD
    rw [List.find?_append]
    by_cases d : j = k
    · subst d
      have hn : ds.find? (fun p => decide (keyOf p.1 = some j)) = none := by
        rw [List.find?_eq_none]
        intro p hp hc
        exact h (List.any_eq_true.mpr ⟨p, hp, hc⟩)
      simp [hn, -kD]
    · have d' : ¬ (k = j) := fun z => d z.symm
      simp [d, d', -kD]
@[simp] theorem getD_nil (k : Key) : getD [] k = none := rfl
end VL
set_option Elab.async false
set_option linter.all false
set_option maxRecDepth 100000
set_option maxHeartbeats 4000000
namespace VL
open PySem PySem.Spec PyProof.Rows L2
/-! ### data that is shown in few signs -/
structure Sw (w d : Nat) (p : PyData) : Prop where
  sh : p.showable = true
  ls : p.leavesShort 60 = true
  wt : p.weight ≤ w
  dp : p.depth ≤ d
instance (w d : Nat) (p : PyData) : Decidable (Sw w d p) := decidable_of_iff (p.showable = true ∧ p.leavesShort 60 = true ∧ p.weight ≤ w ∧ p.depth ≤ d) ⟨fun ⟨a, b, c, e⟩ => ⟨a, b, c, e⟩, fun ⟨a, b, c, e⟩ => ⟨a, b, c, e⟩⟩
end VL
set_option Elab.async false
set_option linter.all false
set_option maxRecDepth 100000
set_option maxHeartbeats 4000000
namespace VL
open PySem PySem.Spec PyProof.Rows L2 HT
/-! ### comprehensions and loops over encoded lists -/
section
variable {g : VTg} {tt : VB} {te : VT} {ρ : VEnv} {Q : D → Prop} {α : Type}
theorem lc_enc (enc : α → PyData) (f : α → Option PyData) : ∀ {L : List α} {acc : List PyData}, (∀ (i : Nat) (x : α), L[i]? = some x → ∀ k, k (f x) → lcStep g tt te (.py (enc x)) ρ k) → acc.length + L.length < 16777216 → Q (.py (.list (acc ++ L.filterMap f))) → lcGo g tt te Q ((L.map enc).map D.py) acc ρ
  | [], acc, _, _, q => by simpa using q
  | x :: xs, acc, h, hl, q => by
    refine lcGo_cons (h 0 x rfl _ ?_)
    have hr : ∀ (i : Nat) (y : α), xs[i]? = some y → ∀ k, k (f y) → lcStep g tt te (.py (enc y)) ρ k := fun i y hy => h (i + 1) y (by simpa using hy)
    rw [List.length_cons] at hl
    rw [List.filterMap_cons] at q
    cases e : f x with
    | none => rw [e] at q; exact lc_enc enc f hr (by omega) q
    | some p =>
      rw [e] at q
      refine ⟨by rw [szl]; omega, lc_enc enc f hr (by rw [List.length_append, List.length_singleton]; omega) ?_⟩
      rw [List.append_assoc]
      exact q
theorem filterMap_if (p : α → Bool) (e : α → PyData) : ∀ L : List α, L.filterMap (fun x => if p x = true then some (e x) else none) = (L.filter p).map e
  | [] => rfl
  | x :: xs => by
    rw [List.filterMap_cons, filterMap_if p e xs, List.filter_cons]
    cases p x <;> simp
theorem lc_encF (enc : α → PyData) (p : α → Bool) (e : α → PyData) {L : List α} (h : ∀ (i : Nat) (x : α), L[i]? = some x → ∀ k, (p x = true → k (some (e x))) → (p x = false → k none) → lcStep g tt te (.py (enc x)) ρ k)
    (hl : L.length < 16777216) (q : Q (.py (.list ((L.filter p).map e)))) : lcGo g tt te Q ((L.map enc).map D.py) [] ρ := by
  refine lc_enc enc (fun x => if p x = true then some (e x) else none) (fun i x hx k hk => h i x hx k (fun c => by simpa [c] using hk) (fun c => by simpa [c] using hk)) (by simpa using hl) ?_
  rw [filterMap_if, List.nil_append]
  exact q
theorem lc_encM (enc : α → PyData) (e : α → PyData) {L : List α} (h : ∀ (i : Nat) (x : α), L[i]? = some x → ∀ k, k (some (e x)) → lcStep g tt te (.py (enc x)) ρ k)
    (hl : L.length < 16777216) (q : Q (.py (.list (L.map e)))) : lcGo g tt te Q ((L.map enc).map D.py) [] ρ := by
  refine lc_enc enc (fun x => some (e x)) h (by simpa using hl) ?_
  rw [List.nil_append, List.filterMap_eq_map']
  exact q
end
section
variable {g : VTg} {tb : VS} {De : VEnds} {α : Type}
theorem for_enc (enc : α → PyData) (Iv : Nat → VEnv → Prop) {L : List α} {ρ : VEnv} (h0 : Iv 0 ρ) (h : ∀ i x ρ, L[i]? = some x → Iv i ρ → ∀ nx ct : VEnv → Prop, (∀ ρ', Iv (i + 1) ρ' → nx ρ' ∧ ct ρ') → g (.py (enc x)) ρ fun ρ1 => tb ρ1 ⟨nx, De.rt, De.nx, ct, De.ex⟩) (hd : ∀ ρ, Iv L.length ρ → De.nx ρ) :
    forGo g tb ((L.map enc).map D.py) ρ De := by
  refine for_inv Iv (fun i x ρ hx iv nx ct hn => ?_) (fun ρ iv => hd ρ (by simpa using iv)) h0
  rw [List.getElem?_map] at hx
  cases e : L[i]? with
  | none => rw [e] at hx; cases hx
  | some y => rw [e] at hx; cases hx; exact h i y ρ e iv nx ct hn
end
def encR (lo : Int) (k : Nat) : PyData := .int (lo + (k : Nat))
theorem rangeP_eq (lo : Int) (n : Nat) : rangeP lo n = (List.range n).map (encR lo) := rfl
@[simp] theorem encR0 (k : Nat) : encR 0 k = .int (k : Int) := by unfold encR; rw [Int.zero_add]
def encE {α : Type} (enc : α → PyData) (p : α × Nat) : PyData := .tuple [.int (p.2 : Nat), enc p.1]
@[simp] theorem encE_eq {α : Type} (enc : α → PyData) (x : α) (n : Nat) : encE enc (x, n) = .tuple [.int (n : Nat), enc x] := rfl
theorem enumP_enc {α : Type} (enc : α → PyData) (L : List α) : enumP (L.map enc) = L.zipIdx.map (encE enc) := by
  unfold enumP encE
  rw [List.zipIdx_map, List.map_map]
  rfl
theorem zipIdx_at {α : Type} {L : List α} {i : Nat} {p : α × Nat} (h : L.zipIdx[i]? = some p) : ∃ x, L[i]? = some x ∧ p = (x, i) := by
  rw [List.getElem?_zipIdx] at h
  cases e : L[i]? with
  | none => rw [e] at h; cases h
  | some x => rw [e] at h; cases h; exact ⟨x, rfl, by simp⟩
theorem range_get {n i x : Nat} (h : (List.range n)[i]? = some x) : x = i ∧ i < n := by
  have hi : i < n := by have := (List.getElem?_eq_some_iff.mp h).1; simpa using this
  rw [List.getElem?_range hi] at h
  cases h
  exact ⟨rfl, hi⟩
end VL
set_option Elab.async false
set_option linter.all false
set_option maxRecDepth 100000
set_option maxHeartbeats 4000000
namespace VL
open PySem PySem.Spec PyProof.Rows L2 HT
/-! ### methods of values -/
def TyIs (X : Cx) (T : String) (x : V) (H : Hp) : Prop := ∀ (pins : List (Addr × Obj)) (σ : L2.St) (s : Shared) (v : Value), Inv X pins σ H s → RelV x v → s.TypeIs v T ∧ ∀ a, v = .ref a → ∃ ob, s.heap.get? a = some ob ∧ ob.dict = none
def AltOk (X : Cx) (name : Str) (x : V) (H : Hp) (r : V → List V → Hp → VK → Prop) : Prop := ∃ T id, PlainAttrs T ∧ PySem.Slot T name id ∧ typeOf (.builtin id) = pure (.type "method_descriptor") ∧ MtR X id r ∧ TyIs X T x H
def tBMx (X : Cx) (name : Str) (to : TE) (t : TA) : TE := fun σ H Q => to σ H fun x H1 => ∃ r, AltOk X name x H1 r ∧ t σ H1 fun xs H2 => r x xs H2 Q
theorem pe_bmx {X : Cx} {o e : Expr} {es : List Expr} {to : TE} {t : TA} {name : Str} {apos cpos : Pos} (ho : PE X o to) (ha : PA X (e :: es) t)
    (hbase : attributeBase o name X.env (eval o X.env) = eval o X.env := by rfl)
    (hfew : ((backTo cpos (starEach (e :: es) X.env)).all (fun x => !x.1) && (backToKw cpos (keywordEach [] X.env)).all (fun x => x.1.isSome)
      && decide ((e :: es).length + ([] : List Keyword).length + (if ([] : List Keyword).isEmpty then 0 else 1) < 30)) = true := by rfl)
    (hline : (apos.endLine == cpos.line) = true := by rfl) (hs : starEach (e :: es) X.env = (false, eval e X.env) :: starEach es X.env := by rfl) (hplain : (backTo cpos (starEach es X.env)).any (·.1) = false := by rfl) :
    PE X (.Call (.Attribute o name apos) (e :: es) [] cpos) (tBMx X name to t) := by
  refine ⟨fun pins s σ H Q I h => ?_⟩
  refine wpAny_Call_method_late hbase hfew hline rfl (thn (ho.run pins s σ H _ I h) fun v s1 ⟨x, H1, I1, r1, r, ⟨T, id, pa, slot, hty, hm, ty⟩, q1⟩ => ?_)
  obtain ⟨h1, h2⟩ := ty pins σ s1 v I1 r1
  refine ⟨T, id, pa, slot, hty, h1, h2, ?_⟩
  have hA := ha.run cpos pins s1 σ H1 _ I1 q1
  rw [hs] at hA ⊢
  refine Calls.callWith_builtin (by show (false || (backTo cpos (starEach es X.env)).any (·.1)) = false; rw [hplain] <;> rfl) (Calls.evalArgs_plain ?_)
  exact thn hA fun us s2 ⟨vs, H2, I2, r2, q2⟩ => hm pins s2 σ H2 x vs v us Q I2 r1 r2 q2
section
variable {X : Cx} {H : Hp}
theorem ty_str (z : Str) : TyIs X "str" (.str z) H := fun pins σ s v I r => by
  obtain ⟨t, rfl⟩ := r
  exact ⟨typeIs_str s z t, fun _ e => nomatch e⟩
theorem ty_lst {a : Addr} {xs : List V} (e : H a = some (.lst xs)) : TyIs X "list" (.ref a) H := fun pins σ s v I r => by
  cases r
  obtain ⟨its, _, pl, _⟩ := I.list (SqL.of e)
  refine ⟨pl.isList.typeIs, fun a e => ?_⟩
  cases e
  obtain ⟨o, n, e, c, hd, _⟩ := pl
  exact ⟨o, e, hd⟩
theorem ty_tup {a : Addr} {o : Obj} {xs : List V} (e : H a = some (HO.th o xs)) (hd : o.dict = none) : TyIs X "tuple" (.ref a) H := fun pins σ s v I r => by
  cases r
  obtain ⟨h1, _, its, _, ho⟩ := I.hok a _ e
  obtain ⟨o', e', hc, _⟩ := ho
  refine ⟨⟨o', e', hc⟩, fun b eb => ?_⟩
  cases eb
  exact ⟨o, h1, hd⟩
end
/-- a method over values: k says for which receivers it is there -/
def MetX (X : Cx) (b : Bg) (R : (Addr → Prop) → Hp → Hp → V → D → Prop) (name : Str) (k : D → Prop) (g : D → List D → (D → Prop) → Prop) : Prop :=
  ∀ (Z : Addr → Prop) (H : Hp) (x : V) (d : D), Gd b Z H → Rb b Z H x d → k d → ∃ r, AltOk X name x H r ∧ ∀ (H' : Hp) (xs : List V) (ds : List D) (Q : VK) (Qd : D → Prop), Ex b H H' → Gd b Z H' → Rb b Z H' x d → Rbs b Z H' xs ds → g d ds Qd →
    (∀ v H2 e, Ex b H' H2 → b.G H2 → R Z H' H2 v e → Qd e → Q v H2) → r x xs H' Q
@[simp] def vMth (k : D → Prop) (g : D → List D → (D → Prop) → Prop) (to : VT) (ta : VA) : VT := fun ρ Q E => to ρ (fun d => k d ∧ ta ρ (fun ds => g d ds Q) E) E
section
variable {X : Cx} {b : Bg} {W : WX} {o e : Expr} {es : List Expr} {to : VT} {ta : VA} {name : Str} {apos cpos : Pos} {k : D → Prop} {g : D → List D → (D → Prop) → Prop}
theorem coreM {R : (Addr → Prop) → Hp → Hp → V → D → Prop} (hR : ∀ Z H H1 H2 v d, b.G H1 → Ex b H H1 → R Z H1 H2 v d → R Z H H2 v d) (hd : MetX X b R name k g) :
    ∀ σ H Q, LE b W R (vMth k g to ta) σ H Q → tBMx X name (LE b W (fun Z _ H v d => Rb b Z H v d) to) (LAX b W ta) σ H Q :=
  fun σ H Q ⟨Zo, Z, ρ, Qd, Ed, v, q, l, m⟩ => ⟨Zo, Z, ρ, _, Ed, v, q, fun x H1 d x1 g1 r1 ⟨kd, q1⟩ => by
    have v1 := v.ex x1 g1
    obtain ⟨r, al, rr⟩ := hd Z H1 x d v1.gd r1 kd
    exact ⟨r, al, Zo, Z, ρ, _, Ed, v1, q1, fun xs H2 ds x2 g2 r2 q2 => rr H2 xs ds Q Qd x2 (v1.ex x2 g2).gd (r1.ex (v1.keep x2) x2) r2 q2 fun u H3 d3 x3 g3 r3 q3 => l u H3 d3 ((x1.trans x2).trans x3) g3 (hR _ _ _ _ _ _ g2 (x1.trans x2) r3) q3,
      fun c z H2 er x2 g2 r2 q2 => m c z H2 er (x1.trans x2) g2 r2 q2⟩, m⟩
theorem ve_mth (hd : MetX X b (RE b) name k g) (ho : VX X b W o to) (ha : VXs X b W (e :: es) ta)
    (hbase : attributeBase o name X.env (eval o X.env) = eval o X.env := by rfl)
    (hfew : ((backTo cpos (starEach (e :: es) X.env)).all (fun x => !x.1) && (backToKw cpos (keywordEach [] X.env)).all (fun x => x.1.isSome)
      && decide ((e :: es).length + ([] : List Keyword).length + (if ([] : List Keyword).isEmpty then 0 else 1) < 30)) = true := by rfl)
    (hline : (apos.endLine == cpos.line) = true := by rfl) (hs : starEach (e :: es) X.env = (false, eval e X.env) :: starEach es X.env := by rfl) (hplain : (backTo cpos (starEach es X.env)).any (·.1) = false := by rfl) :
    VE X b W (.Call (.Attribute o name apos) (e :: es) [] cpos) (vMth k g to ta) := pe_mono (pe_bmx ho ha hbase hfew hline hs hplain) (coreM hRE hd)
end
/-! ### texts -/
@[simp] def isS : D → Prop
  | .py (.str _) => True
  | _ => False
theorem isS_ex : ∀ {d : D}, isS d → ∃ z, d = .py (.str z)
  | .py (.str z), _ => ⟨z, rfl⟩
/-- how often c stands in l: of one sign -/
@[simp] def gTCount : D → List D → (D → Prop) → Prop
  | .py (.str a), [.py (.str b)], Q => Q (.py (.int (Txt.count a b)))
  | _, _, _ => False
theorem mx_count {X : Cx} {b : Bg} : MetX X b (RE b) "count" isS gTCount := fun Z H x d gd rx kd => by
  obtain ⟨z, rfl⟩ := isS_ex kd
  obtain rfl := rx.str
  refine ⟨_, ⟨"str", _, PySem.F.plainAttrs_str, PySem.F.slot_str_count, PySem.F.type_str_count, mt_count, ty_str z⟩, fun H' xs ds Q Qd _ gd' _ rs h k => ?_⟩
  match ds, h, rs with
  | [.py (.str c)], h, .cons r .nil =>
    obtain rfl := r.str
    exact ⟨z, c, rfl, rfl, k _ H' (.py (.int _)) Ex.refl gd'.g (.int _) h⟩
@[simp] def gTJoin : D → List D → (D → Prop) → Prop
  | .py (.str a), [.py (.list xs)], Q => ∃ ys, allS xs = some ys ∧ (ys.map (·.length)).sum + ys.length * a.length ≤ 16777216 ∧ Q (.py (.str (Txt.join a ys)))
  | _, _, _ => False
theorem mx_join {X : Cx} {b : Bg} : MetX X b (RE b) "join" isS gTJoin := fun Z H x d gd rx kd => by
  obtain ⟨z, rfl⟩ := isS_ex kd
  obtain rfl := rx.str
  refine ⟨_, ⟨"str", _, PySem.F.plainAttrs_str, PySem.F.slot_str_join, PySem.F.type_str_join, mt_join, ty_str z⟩, fun H' xs ds Q Qd _ gd' _ rs h k => ?_⟩
  match ds, h, rs with
  | [.py (.list ps)], ⟨ys, e, hl, h⟩, .cons r .nil =>
    obtain ⟨a, us, rfl, ha, qa⟩ := r.list
    rw [allS_of e] at qa
    have eu := qa.strs
    subst eu
    exact ⟨z, a, ys, rfl, rfl, .inl (SqL.of ha), hl, k _ H' (.py (.str _)) Ex.refl gd'.g (.str _) h⟩
@[simp] def gTUpper : D → List D → (D → Prop) → Prop
  | .py (.str a), [], Q => a.length ≤ 5592405 ∧ Q (.py (.str (Txt.upper a)))
  | _, _, _ => False
@[simp] def gTSplit : D → List D → (D → Prop) → Prop
  | .py (.str a), [.py (.str b)], Q => (b.length == 0) = false ∧ a.length + 2 ≤ 16777216 ∧ Q (.py (.list ((Txt.split a b).map PyData.str)))
  | _, _, _ => False
end VL
set_option Elab.async false
set_option linter.all false
set_option maxRecDepth 100000
set_option maxHeartbeats 4000000
namespace VL
open PySem PySem.Spec PyProof.Rows L2 HT
/-! ### index by plain data -/
/-- the first place of an equal one -/
def ixOf : List PyData → PyData → Option Nat
  | [], _ => none
  | z :: zs, d => if z.eqv d = true then some 0 else (ixOf zs d).map (· + 1)
theorem ixOf_some : ∀ {ds : List PyData} {d : PyData} {j : Nat}, ixOf ds d = some j → ∃ z, ds[j]? = some z ∧ z.eqv d = true ∧ ∀ (m : Nat) (z' : PyData), m < j → ds[m]? = some z' → z'.eqv d = false
  | [], _, _, h => by cases h
  | z :: zs, d, j, h => by
    unfold ixOf at h
    split at h
    · rename_i c
      cases h
      exact ⟨z, rfl, c, fun m z' hm => by omega⟩
    · rename_i c
      cases e : ixOf zs d with
      | none => rw [e] at h; cases h
      | some i =>
        rw [e] at h
        cases h
        obtain ⟨y, h1, h2, h3⟩ := ixOf_some e
        refine ⟨y, by simpa using h1, h2, fun m z' hm hz => ?_⟩
        have hm' : m < i + 1 := hm
        cases m with
        | zero => simp at hz; subst hz; simpa using c
        | succ m => exact h3 m z' (by omega) (by simpa using hz)
section
variable {X : Cx}
def rIxP (tup : Bool) : V → List V → Hp → VK → Prop := fun x xs H Q => ∃ (a : Addr) (y : V) (d : PyData) (ds : List PyData) (j : Nat), x = .ref a ∧ xs = [y] ∧ Rq nz H (.ref a) (if tup = true then .tuple ds else .list ds) ∧ Rq nz H y d ∧ PyData.plainAll ds = true ∧ d.plain = true ∧
  (d.depth ≤ 60 ∨ PyData.depthAll ds ≤ 60) ∧ ixOf ds d = some j ∧ Q (.int (j : Nat)) H
theorem ix_at {s : Shared} {its : List Value} {ds : List PyData} {as : List Addr} {d : PyData} {j : Nat} (h4 : ReadsAll s.heap its ds as) (hp : PyData.plainAll ds = true) (hj : ixOf ds d = some j) :
    ∃ hjl : j < its.toArray.size, PyData.eqv (SeqAt.readOf s.heap its.toArray[j]) d = true ∧ ∀ m (hm : m < its.toArray.size), m < j → PyData.eqv (SeqAt.readOf s.heap its.toArray[m]) d = false := by
  obtain ⟨z, hz, h1, h2⟩ := ixOf_some hj
  have hn : its.length = ds.length := SeqAt.ReadsAll.length ds its as h4
  have hmap : its.map (SeqAt.readOf s.heap) = ds := SeqAt.readsAll_map_plain ds its as hp h4
  have at_ : ∀ (m : Nat) (hm : m < its.toArray.size) (z' : PyData), ds[m]? = some z' → SeqAt.readOf s.heap its.toArray[m] = z' := by
    intro m hm z' hz'
    have hml : m < its.length := by simpa using hm
    rw [← hmap, List.getElem?_map, List.getElem?_eq_getElem hml] at hz'
    have e1 : SeqAt.readOf s.heap its[m] = z' := Option.some.inj (show some (SeqAt.readOf s.heap its[m]) = some z' from hz')
    simpa using e1
  have hjd : j < ds.length := (List.getElem?_eq_some_iff.mp hz).1
  have hjl : j < its.toArray.size := by simp; omega
  refine ⟨hjl, by rw [at_ j hjl z hz]; exact h1, fun m hm hmj => ?_⟩
  have hz' : ds[m]? = some ds[m] := List.getElem?_eq_getElem (by omega)
  rw [at_ m hm _ hz']
  exact h2 m _ hmj hz'
theorem mt_ixL (hu : X.A.units + 65 < cLine) : MtR X "list.index" (rIxP false) := by
  intro pins s σ H x xs v us Q I rx rxs ⟨a, y, d, ds, j, ex, exs, hl, hy, pl, pd, hd, hj, q⟩
  subst ex exs
  cases rx
  obtain ⟨uy, rfl, ry⟩ := vals1 rxs
  obtain ⟨bs, r1, _⟩ := hy.reads I _ ry
  have hroom : X.A.units + 1 + min (PyData.depthAll ds) d.depth < cLine := by omega
  have hl : Rq nz H (.ref a) (.list ds) := hl
  cases hl with
  | lst e n ha =>
    obtain ⟨its, rv, ⟨⟨cls, dd, data, sls⟩, n, ho, hc, hdn, hdt⟩, hlen⟩ := I.list (SqL.of e)
    simp only at hc hdt
    subst hc hdt
    obtain ⟨as, h4, _⟩ := ha.reads I its rv
    obtain ⟨hjl, h1, h2⟩ := ix_at h4 pl hj
    have hsl := sizeLine_eq
    have hvl := rv.length
    have hjz : j < its.length := by simpa using hjl
    refine call_meets PySem.F.slot_list_index ⟨_, ho, rfl⟩ PySem.F.entry_list_index (PySem.F.args_list_index_2 _ _)
      (SeqAt.list_indexAt a its.toArray n dd sls uy (fun u => PyData.eqv (SeqAt.readOf s.heap u) d) j hjl (by omega) h1 h2) ⟨ho, SeqAt.items_plain (vs := its.toArray) (show ReadsAll s.heap its.toArray.toList ds as from h4) r1 pl pd hroom, ?_⟩
    exact ⟨.int (j : Nat), H, I.tok _, ⟨_, rfl⟩, q⟩
theorem mt_ixT (hu : X.A.units + 65 < cLine) : MtR X "tuple.index" (rIxP true) := by
  intro pins s σ H x xs v us Q I rx rxs ⟨a, y, d, ds, j, ex, exs, hl, hy, pl, pd, hd, hj, q⟩
  subst ex exs
  cases rx
  obtain ⟨uy, rfl, ry⟩ := vals1 rxs
  obtain ⟨bs, r1, _⟩ := hy.reads I _ ry
  have hroom : X.A.units + 1 + min (PyData.depthAll ds) d.depth < cLine := by omega
  have hl : Rq nz H (.ref a) (.tuple ds) := hl
  cases hl with
  | tup e _ n ha =>
    obtain ⟨its, rv, ⟨⟨cls, dd, data, sls⟩, ho, hc, n, hdt⟩, hlen⟩ := I.tuple (SqT.th e)
    simp only at hc hdt
    subst hc hdt
    obtain ⟨as, h4, _⟩ := ha.reads I its rv
    obtain ⟨hjl, h1, h2⟩ := ix_at h4 pl hj
    refine call_meets PySem.F.slot_tuple_index ⟨_, ho, rfl⟩ PySem.F.entry_tuple_index (PySem.F.args_tuple_index_2 _ _)
      (TI.tuple_indexAt a its.toArray n dd sls uy (fun u => PyData.eqv (SeqAt.readOf s.heap u) d) j hjl h1 h2) ⟨ho, SeqAt.items_plain (vs := its.toArray) (show ReadsAll s.heap its.toArray.toList ds as from h4) r1 pl pd hroom, ?_⟩
    exact ⟨.int (j : Nat), H, I.tok _, ⟨_, rfl⟩, q⟩
end
@[simp] def isSq : D → Prop
  | .py (.list _) => True
  | .py (.tuple _) => True
  | _ => False
@[simp] def gIndex : D → List D → (D → Prop) → Prop
  | .py (.list xs), [.py d], Q => PyData.plainAll xs = true ∧ d.plain = true ∧ (d.depth ≤ 60 ∨ PyData.depthAll xs ≤ 60) ∧ ∃ j, ixOf xs d = some j ∧ Q (.py (.int (j : Nat)))
  | .py (.tuple xs), [.py d], Q => PyData.plainAll xs = true ∧ d.plain = true ∧ (d.depth ≤ 60 ∨ PyData.depthAll xs ≤ 60) ∧ ∃ j, ixOf xs d = some j ∧ Q (.py (.int (j : Nat)))
  | _, _, _ => False
theorem mx_index {X : Cx} {b : Bg} (hu : X.A.units + 65 < cLine) : MetX X b (RE b) "index" isSq gIndex := fun Z H x d gd rx kd => by
  match d, kd, rx with
  | .py (.list ps), _, rx =>
    obtain ⟨a, us, rfl, ha, _⟩ := rx.list
    refine ⟨_, ⟨"list", _, PySem.F.plainAttrs_list, PySem.F.slot_list_index, PySem.F.type_list_index, mt_ixL hu, ty_lst ha⟩, fun H' xs ds Q Qd _ gd' rx' rs h k => ?_⟩
    match ds, h, rs with
    | [.py c], ⟨h1, h2, h3, j, h4, h⟩, .cons r .nil =>
      exact ⟨a, _, c, ps, j, rfl, rfl, rx'.q, r.q, h1, h2, h3, h4, k _ H' (.py (.int _)) Ex.refl gd'.g (.int _) h⟩
  | .py (.tuple ps), _, rx =>
    obtain ⟨a, o, us, rfl, ha, hd, _, _⟩ := rx.tuple
    refine ⟨_, ⟨"tuple", _, PySem.F.plainAttrs_tuple, PySem.F.slot_tuple_index, PySem.F.type_tuple_index, mt_ixT hu, ty_tup ha hd⟩, fun H' xs ds Q Qd _ gd' rx' rs h k => ?_⟩
    match ds, h, rs with
    | [.py c], ⟨h1, h2, h3, j, h4, h⟩, .cons r .nil =>
      exact ⟨a, _, c, ps, j, rfl, rfl, rx'.q, r.q, h1, h2, h3, h4, k _ H' (.py (.int _)) Ex.refl gd'.g (.int _) h⟩
/-- how often: of a text, of a list of ints -/
@[simp] def isCt : D → Prop
  | .py (.str _) => True
  | .py (.list _) => True
  | _ => False
@[simp] def gCount : D → List D → (D → Prop) → Prop
  | .py (.str a), [.py (.str b)], Q => Q (.py (.int (Txt.count a b)))
  | .py (.list xs), [.py (.int k)], Q => ∃ ns, allI xs = some ns ∧ Q (.py (.int (ns.count k : Nat)))
  | _, _, _ => False
theorem mx_cnt {X : Cx} {b : Bg} : MetX X b (RE b) "count" isCt gCount := fun Z H x d gd rx kd => by
  match d, kd, rx with
  | .py (.str z), _, rx =>
    obtain ⟨r, al, h⟩ := mx_count Z H x (.py (.str z)) gd rx trivial
    exact ⟨r, al, fun H' xs ds Q Qd x1 gd' rx' rs g k => h H' xs ds Q Qd x1 gd' rx' rs (by
      match ds, g with
      | [.py (.str c)], g => exact g) k⟩
  | .py (.list ps), _, rx =>
    obtain ⟨a, us, rfl, ha, _⟩ := rx.list
    refine ⟨_, ⟨"list", _, PySem.F.plainAttrs_list, PySem.F.slot_list_count, PySem.F.type_list_count, mt_lcount, ty_lst ha⟩, fun H' xs ds Q Qd _ gd' rx' rs h k => ?_⟩
    match ds, h, rs with
    | [.py (.int c)], ⟨ns, e, h⟩, .cons r .nil =>
      obtain rfl := r.int
      obtain ⟨a', us', ea, ha', qa'⟩ := rx'.list
      cases ea
      rw [allI_of e] at qa'
      have eu := qa'.ints
      subst eu
      exact ⟨a, ns, c, rfl, rfl, SqL.of ha', k _ H' (.py (.int _)) Ex.refl gd'.g (.int _) h⟩
end VL
set_option Elab.async false
set_option linter.all false
set_option maxRecDepth 100000
set_option maxHeartbeats 4000000
namespace VL
open PySem PySem.Spec PyProof.Rows L2 HT
/-! ### text * int, text[::-1] -/
def repS (z : Str) (k : Int) : Str := mkS (List.replicate k.toNat (sl z)).flatten
theorem mkS_sl (z : Str) : mkS (sl z) = z := by cases z; simp [mkS, sl]
@[simp] theorem sl_mkS (l : List Nat) : sl (mkS l) = l := by simp [mkS, sl]
@[simp] theorem len_mkS (l : List Nat) : (mkS l).length = l.length := by simp [mkS, Str.length]
theorem slen (z : Str) : (sl z).length = z.length := by simp [sl, Str.length]
def rRepS : R2 := fun x y H Q => ∃ z k, x = .str z ∧ y = .int k ∧ -(2 ^ 63) ≤ k ∧ k < 2 ^ 63 ∧ z.length * k.toNat ≤ 16777216 ∧ Q (.str (repS z k)) H
theorem foldl_app (n : Nat) (a b : Array Nat) : (List.replicate n a).foldl (· ++ ·) b = (b.toList ++ (List.replicate n a.toList).flatten).toArray := by
  induction n generalizing b with
  | zero => simp
  | succ n ih => rw [List.replicate_succ, List.foldl_cons, ih, List.replicate_succ, List.flatten_cons]; simp
theorem op_repS {X : Cx} : OpR X (binaryOp .Mult) rRepS := by
  intro pins s σ H x y v u Q I rx ry ⟨z, k, ex, ey, h1, h2, h3, q⟩
  subst ex ey
  obtain ⟨t, rfl⟩ := rx
  obtain ⟨t2, rfl⟩ := ry
  refine P.mul_str (by rw [decide_eq_false (by omega), decide_eq_false (by omega)]; rfl) (fun c c2 => ?_) (fun c c2 => ?_) ?_
  · intro hgt
    have kp : 0 < k := by omega
    have hz : (z.length : Int) * k ≤ 16777216 := by
      have e : ((z.length * k.toNat : Nat) : Int) ≤ 16777216 := by omega
      have e2 : ((k.toNat : Nat) : Int) = k := by omega
      rw [Int.natCast_mul, e2] at e
      exact e
    have h5 : ((2 ^ 63 - 1 : Int) / k + 1) * k > 2 ^ 63 - 1 := by
      have := Int.lt_ediv_add_one_mul_self (2 ^ 63 - 1) kp
      exact this
    have h6 : ((2 ^ 63 - 1 : Int) / k + 1) * k ≤ (z.length : Int) * k := Int.mul_le_mul_of_nonneg_right (by omega) (by omega)
    omega
  · unfold Builtin.Str.tooLong
    rw [sizeLine_eq]
    exact decide_eq_false (by omega)
  · by_cases c : k < 1
    · rw [if_pos c]
      refine ⟨by show 0 ≤ sizeLine; omega, .str Str.empty, H, I.tok _, ⟨_, rfl⟩, ?_⟩
      have e : repS z k = Str.empty := by
        unfold repS
        have : k.toNat = 0 := by omega
        rw [this]
        rfl
      rw [← e]; exact q
    · rw [if_neg c]
      split
      · rename_i c2
        have e : repS z k = z := by
          unfold repS
          rcases Bool.or_eq_true_iff.mp c2 with c3 | c3
          · have : k = 1 := eq_of_beq c3
            subst this
            show mkS (List.replicate 1 (sl z)).flatten = z
            simp [mkS_sl]
          · have hz : (sl z).length = 0 := by rw [slen]; exact eq_of_beq c3
            have hz' : sl z = [] := List.length_eq_zero_iff.mp hz
            rw [hz']
            have : (List.replicate k.toNat ([] : List Nat)).flatten = [] := by simp
            rw [this, ← hz', mkS_sl]
        refine ⟨.str z, H, I, ⟨_, rfl⟩, ?_⟩
        rw [← e]; exact q
      · refine ⟨?_, .str (repS z k), H, ?_⟩
        · show Array.size _ ≤ sizeLine
          rw [foldl_app, List.size_toArray]
          simp
          rw [Nat.mul_comm]
          have : z.cps.size = z.length := rfl
          rw [this]
          exact h3
        · have e : (⟨(List.replicate k.toNat z.cps).foldl (· ++ ·) #[]⟩ : Str) = repS z k := by
            rw [foldl_app]; rfl
          rw [e]
          exact ⟨I.tok _, ⟨_, rfl⟩, q⟩
section
variable {X : Cx} {b : Bg} {W : WX} {e e1 e2 st : Expr} {t t1 t2 : VT} {tl : VO} {p2 pos : Pos}
@[simp] def gBkA : D → (D → Prop) → Prop
  | .py (.list xs), Q => Q (.py (.list xs.reverse))
  | .py (.tuple xs), Q => Q (.py (.tuple xs.reverse))
  | .py (.str z), Q => z.length ≤ 16777216 ∧ Q (.py (.str (mkS (sl z).reverse)))
  | _, _ => False
@[simp] def vBkA (t : VT) (tl : VO) : VT := fun ρ Q E => t ρ (fun x => tl ρ (fun k => k = some (-1) ∧ gBkA x Q) E) E
/-- products, of a text too -/
@[simp] def gMulA : D → D → (D → Prop) → Prop
  | .py (.int i), .py (.int j), Q => CMul i j ∧ Q (.py (.int (i * j)))
  | .py (.list xs), .py (.int k), Q => (-(2 ^ 63) ≤ k ∧ k < 2 ^ 63 ∧ xs.length * k.toNat ≤ sizeLine) ∧ Q (.py (.list (List.replicate k.toNat xs).flatten))
  | .py (.tuple xs), .py (.int k), Q => (xs ≠ [] ∧ 2 ≤ k ∧ k ≤ 1000 ∧ xs.length ≤ 1000) ∧ Q (.py (.tuple (List.replicate k.toNat xs).flatten))
  | .py (.str z), .py (.int k), Q => (-(2 ^ 63) ≤ k ∧ k < 2 ^ 63 ∧ z.length * k.toNat ≤ 16777216) ∧ Q (.py (.str (repS z k)))
  | _, _, _ => False
theorem rd_mulA : OpD b (RE b) (fun x y H Q => (fun x y H Q => rI CMul (fun i j => .int (i * j)) x y H Q ∨ (fun x y H Q => rRep x y H Q ∨ rRepF X.K x y H Q) x y H Q) x y H Q ∨ rRepS x y H Q) gMulA := by
  intro Z H x y dx dy Q Qd gd rx ry h k
  match dx, dy, h, rx, ry with
  | .py (.int i), .py (.int j), h, rx, ry => exact .inl (rd_mul Z H x y (.py (.int i)) (.py (.int j)) Q Qd gd rx ry h k)
  | .py (.list xs), .py (.int n), h, rx, ry => exact .inl (rd_mul Z H x y (.py (.list xs)) (.py (.int n)) Q Qd gd rx ry h k)
  | .py (.tuple xs), .py (.int n), h, rx, ry => exact .inl (rd_mul Z H x y (.py (.tuple xs)) (.py (.int n)) Q Qd gd rx ry h k)
  | .py (.str z), .py (.int n), ⟨⟨h1, h2, h3⟩, h⟩, rx, ry =>
    obtain rfl := rx.str
    obtain rfl := ry.int
    exact .inr ⟨z, n, rfl, rfl, h1, h2, h3, k _ H (.py (.str _)) Ex.refl gd.g (.str _) h⟩
theorem ve_mulA (h1 : VX X b W e1 t1) (h2 : VX X b W e2 t2) : VE X b W (.BinOp e1 .Mult e2 pos) (vBin gMulA t1 t2) := ve_op (OpR.or (OpR.or op_mul (OpR.or op_rep op_repF)) op_repS) rd_mulA h1 h2
end
/-! ### name op= value -/
@[simp] def gAugAdd : D → D → (D → Prop) → Prop
  | .py (.int i), .py (.int j), Q => Q (.py (.int (i + j)))
  | .py (.str x), .py (.str y), Q => x.length + y.length ≤ 16777216 ∧ Q (.py (.str (x ++ y)))
  | _, _, _ => False
@[simp] def gAugSub : D → D → (D → Prop) → Prop
  | .py (.int i), .py (.int j), Q => Q (.py (.int (i - j)))
  | _, _, _ => False
@[simp] def sAugA (i : Nat) (g : D → D → (D → Prop) → Prop) (t : VT) : VS := fun ρ De => ∃ d0, ρ[i]? = some (.shr d0) ∧ t ρ (fun d => g d0 d fun z => De.nx (ρ.set i (.shr z))) (De.ex ρ)
section
variable {X : Cx} {b : Bg} {W : WX} {e : Expr} {t : VT} {pos pos' : Pos} {i : Nat} {x : Str}
theorem ip_addA : PIp X .Add (fun x y H Q => ipI (fun i j => i + j) x y H Q ∨ rAddS x y H Q) := fun pins s σ H x y v u Q I r1 r2 h => h.elim (ip_add pins s σ H x y v u Q I r1 r2) (in_addS pins s σ H x y v u Q I r1 r2)
theorem vs_augG {op : Operator} {ti : TIp} {g : D → D → (D → Prop) → Prop} (hp : PIp X op ti) (hg : ∀ (Z : Addr → Prop) (H : Hp) (u v : V) (d0 d : D) (Q : VK) (Qd : D → Prop), Rp b Z H u d0 → Rp b Z H v d → g d0 d Qd → (∀ w z, Rp b Z H w z → Qd z → Q w H) → ti u v H Q)
    (hN : X.N.Nodup) (hi : X.N[i]? = some x) (hx : Loc X.env.scope x) (he : VE X b W e t) (hf : X.fn x = true ∨ X.env.scope.names.lookup x = some .local := by first | exact .inl rfl | exact .inr rfl | assumption) :
    VSt X b W (.AugAssign (.Name x pos') op e pos) (sAugA i g t) :=
  ps_mono (ps_aug hN hi hx he hp hf) fun Dn σ H ⟨H0, M, Zo, Z, ρ, De, f, ⟨d0, e0, q⟩, l⟩ => by
    obtain ⟨u, hu, ru⟩ := f.v.shr i d0 e0
    refine ⟨u, hu, Zo, Z, ρ, _, _, f.v, q, fun v H1 d x1 g1 r1 q1 => ?_, l.er f⟩
    have f1 := f.ex x1 g1
    exact hg Z H1 u v d0 d _ _ (f.v.rp x1 ru) r1 q1 fun w z rz qz => l.nx _ _ H1 _ (f1.set (List.getElem?_eq_some_iff.mp e0).1 rz) qz
theorem vs_augAdd (hN : X.N.Nodup) (hi : X.N[i]? = some x) (hx : Loc X.env.scope x) (he : VE X b W e t) (hf : X.fn x = true ∨ X.env.scope.names.lookup x = some .local := by first | exact .inl rfl | exact .inr rfl | assumption) :
    VSt X b W (.AugAssign (.Name x pos') .Add e pos) (sAugA i gAugAdd t) :=
  vs_augG ip_addA (fun Z H u v d0 d Q Qd r1 r2 g k => by
    match d0, d, g, r1, r2 with
    | .py (.int i), .py (.int j), g, r1, r2 =>
      obtain rfl := Rb.int (b := b) (Z := Z) (H := H) (.inl r1)
      obtain rfl := Rb.int (b := b) (Z := Z) (H := H) (.inl r2)
      exact .inl ⟨i, j, rfl, rfl, k _ (.py (.int _)) (Rq.int _) g⟩
    | .py (.str i), .py (.str j), ⟨hl, g⟩, r1, r2 =>
      obtain rfl := Rb.str (b := b) (Z := Z) (H := H) (.inl r1)
      obtain rfl := Rb.str (b := b) (Z := Z) (H := H) (.inl r2)
      exact .inr ⟨i, j, rfl, rfl, by rw [sizeLine_eq]; exact hl, k _ (.py (.str _)) (Rq.str _) g⟩) hN hi hx he hf
/-- xs[i] = v, an owned list -/
def setAt (xs : List PyData) (k : Int) (p : PyData) : Option (List PyData) := (ixN xs.length k).map fun j => xs.set j p
@[simp] def sStoL (i : Nat) (ty tv : VT) : VS := fun ρ De => ∃ xs, ρ[i]? = some (.own (.py (.list xs))) ∧ tv ρ (fun v => ∃ p, v = .py p ∧ ty ρ (fun y => ∃ k, y = .py (.int k) ∧ ∃ ys, setAt xs k p = some ys ∧ De.nx (ρ.set i (.own (.py (.list ys))))) (De.ex ρ)) (De.ex ρ)
end
end VL
set_option Elab.async false
set_option linter.all false
set_option maxRecDepth 100000
set_option maxHeartbeats 4000000
namespace VL
open PySem PySem.Spec PyProof.Rows L2 HT TL
theorem hu65 {A : Around} {k : Nat} (r : Room k A) : A.units + 65 < cLine := by have := r.un; omega
/-! ### texts as lists of signs -/
@[simp] theorem mkS_inj {a b : List Nat} : mkS a = mkS b ↔ a = b := ⟨fun e => by have := congrArg sl e; simpa using this, fun e => by rw [e]⟩
@[simp] theorem mkS_app (a b : List Nat) : mkS a ++ mkS b = mkS (a ++ b) := ext_tl (by rw [tl_append])
@[simp] theorem beq_mkS (a b : List Nat) : (mkS a == mkS b) = (a == b) := by
  by_cases h : a = b
  · subst h; simp
  · have h2 : mkS a ≠ mkS b := fun e => h (mkS_inj.mp e)
    rw [beq_eq_false_iff_ne.mpr h2, beq_eq_false_iff_ne.mpr h]
@[simp] theorem repS_mkS (l : List Nat) (k : Int) : repS (mkS l) k = mkS (List.replicate k.toNat l).flatten := rfl
@[simp] theorem cps_mkS (l : List Nat) : (mkS l).cps = l.toArray := rfl
def encC (c : Nat) : PyData := .str (mkS [c])
@[simp] theorem encC_eq (c : Nat) : encC c = .str (mkS [c]) := rfl
theorem signsD_mkS (l : List Nat) : signsD (mkS l) = l.map encC := rfl
@[simp] theorem str_ab (a b : Str) : (PyData.str a = PyData.str b) ↔ a = b := ⟨fun e => by injection e, fun e => by rw [e]⟩
open Builtin.Str in
theorem occ_step (z : Str) (c k lim : Nat) (st : Array Nat × Nat) (h1 : st.2 ≤ k) (h2 : st.1.size < lim) : StrLaws.occBody z ⟨#[c]⟩ z.length lim k st = if (sl z)[k]? = some c then pure (ForInStep.yield (st.1.push k, k + 1)) else pure (ForInStep.yield (st.1, st.2)) := by
  unfold StrLaws.occBody
  have e := StrLaws.subAt_one z c k
  by_cases h : (sl z)[k]? = some c
  · have h' := e.mpr h
    rw [if_pos ⟨⟨⟨h2, h1⟩, h'.1⟩, h'.2⟩, if_pos h]
    rfl
  · rw [if_neg (fun q => h (e.mp ⟨q.1.2, q.2⟩)), if_neg h]
theorem occ_sign (z : Str) (c : Nat) : ∀ (n k free : Nat) (acc : Array Nat), free ≤ k → acc.size ≤ k → k + n = z.length + 1 →
    (forIn (List.range' k n) (acc, free) (StrLaws.occBody z ⟨#[c]⟩ z.length (z.length + 1))).run.fst.toList.length = acc.size + ((sl z).drop k).count c
  | 0, k, free, acc, h1, h2, h3 => by
    have : (sl z).drop k = [] := List.drop_eq_nil_of_le (by rw [slen]; omega)
    rw [this]; simp
  | n + 1, k, free, acc, h1, h2, h3 => by
    rw [List.range'_succ, List.forIn_cons, occ_step z c k _ (acc, free) h1 (by show acc.size < _; omega)]
    by_cases hk : k < z.length
    · have hk' : k < (sl z).length := by rw [slen]; exact hk
      rw [List.drop_eq_getElem_cons hk', List.getElem?_eq_getElem hk']
      by_cases hc : (sl z)[k] = c
      · rw [if_pos (by rw [hc]), hc, List.count_cons_self]
        have := occ_sign z c n (k + 1) (k + 1) (acc.push k) (by omega) (by simp; omega) (by omega)
        rw [Array.size_push] at this
        simp only [pure_bind]
        omega
      · rw [if_neg (by simpa using hc), List.count_cons_of_ne (by simpa using hc)]
        exact occ_sign z c n (k + 1) free acc (by omega) (by omega) (by omega)
    · have e : (sl z).drop k = [] := List.drop_eq_nil_of_le (by rw [slen]; omega)
      rw [if_neg (by rw [List.getElem?_eq_none (by rw [slen]; omega)]; simp), e]
      have := occ_sign z c n (k + 1) free acc (by omega) (by omega) (by omega)
      have e2 : (sl z).drop (k + 1) = [] := List.drop_eq_nil_of_le (by rw [slen]; omega)
      rw [e2] at this
      exact this
theorem count_sign (z : Str) (c : Nat) : Txt.count z (mkS [c]) = ((sl z).count c : Nat) := by
  unfold Txt.count
  rw [StrLaws.occ_eq]
  have := occ_sign z c (z.length + 1 - 0) 0 0 #[] (by omega) (by simp) (by omega)
  simp at this ⊢
  exact_mod_cast this
@[simp] theorem count_mkS (l : List Nat) (c : Nat) : Txt.count (mkS l) (mkS [c]) = (l.count c : Nat) := by rw [count_sign, sl_mkS]
theorem join0 (ls : List (List Nat)) : Txt.join (mkS []) (ls.map mkS) = mkS ls.flatten := by
  rw [join_eq]
  refine ext_tl ?_
  rw [tl_join]
  have : (ls.map mkS).map tl = ls := by rw [List.map_map]; exact List.map_id ls
  rw [this]
  show joinL [] ls = ls.flatten
  have h : ∀ ls : List (List Nat), joinL [] ls = ls.flatten := by
    intro ls
    induction ls with
    | nil => rfl
    | cons p r ih =>
      cases r with
      | nil => simp [joinL]
      | cons q r => rw [joinL, ih]; simp
  exact h ls
@[simp] theorem atI_zero {α : Type} (x : α) (xs : List α) : atI (x :: xs) 0 = some x := by
  have e : ixN (x :: xs).length 0 = some 0 := by
    unfold ixN
    rw [if_pos (by omega), if_pos (by simp)]; rfl
  unfold atI
  rw [e]; rfl
theorem allI_mk (ls : List Int) : allI (ls.map PyData.int) = some ls := by
  induction ls with
  | nil => rfl
  | cons l ls ih => simp [allI, ih]
theorem allI_pN (ls : List Nat) : allI (ls.map pN) = some (ls.map fun (n : Nat) => (n : Int)) := by
  have : ls.map pN = (ls.map fun (n : Nat) => (n : Int)).map PyData.int := by rw [List.map_map]; rfl
  rw [this, allI_mk]
theorem allS_signs (l : List Nat) : allS (l.map encC) = some (l.map fun c => mkS [c]) := by
  induction l with
  | nil => rfl
  | cons c l ih => simp [allS, ih]
theorem sum_signs (l : List Nat) : ((l.map fun c => mkS [c]).map (·.length)).sum = l.length := by
  induction l with
  | nil => rfl
  | cons c l ih => simp at ih ⊢; omega
theorem flat_signs (l : List Nat) : (l.map fun c => [c]).flatten = l := by
  induction l with
  | nil => rfl
  | cons c l ih => rw [List.map_cons, List.flatten_cons, ih]; rfl
theorem join_signs (l : List Nat) : Txt.join (mkS []) (l.map fun c => mkS [c]) = mkS l := by
  have : (l.map fun c => mkS [c]) = (l.map fun c => [c]).map mkS := by rw [List.map_map]; rfl
  rw [this, join0, flat_signs]
section
variable {g : VTg} {tt : VB} {te : VT} {tb : VS} {De : VEnds} {ρ : VEnv} {Q : D → Prop} {α β : Type}
theorem lc_encF' (enc : α → PyData) (p : α → Bool) (e : α → PyData) {L : List α} (h : ∀ (i : Nat) (x : α), L[i]? = some x → ∀ k, (p x = true → k (some (e x))) → (p x = false → k none) → lcStep g tt te (.py (enc x)) ρ k)
    (hl : L.length < 16777216) (q : Q (.py (.list ((L.filter p).map e)))) : lcGo g tt te Q (L.map (D.py ∘ enc)) [] ρ := by
  rw [← List.map_map]; exact lc_encF enc p e h hl q
theorem for_enc' (enc : α → PyData) (Iv : Nat → VEnv → Prop) {L : List α} (h0 : Iv 0 ρ) (h : ∀ i x ρ, L[i]? = some x → Iv i ρ → ∀ nx ct : VEnv → Prop, (∀ ρ', Iv (i + 1) ρ' → nx ρ' ∧ ct ρ') → g (.py (enc x)) ρ fun ρ1 => tb ρ1 ⟨nx, De.rt, De.nx, ct, De.ex⟩) (hd : ∀ ρ, Iv L.length ρ → De.nx ρ) :
    forGo g tb (L.map (D.py ∘ enc)) ρ De := by
  rw [← List.map_map]; exact for_enc enc Iv h0 h hd
end
end VL
set_option Elab.async false
set_option linter.all false
set_option maxRecDepth 100000
set_option maxHeartbeats 4000000
/-! ### isinstance of a caught error that has a dict -/
namespace PySem.W
open PySem PySem.Spec PySem.Calls PyProof.Rows
section
variable {prog : Program} {w : World} {A : Around} {E : Value → Shared → Prop} {s : Shared} {K : Frag} {x D : Addr} {ox : Obj} {od : Option Obj}
end
end PySem.W
namespace VL
open PySem PySem.Spec PyProof.Rows L2 HT
/-! ### own errors -/
/-- n is x, or x stands above all errors of the package -/
def errSub (n x : Str) : Bool := n == x || x == "LineError" || x == "ValueError"
/-- what the written part says of an error's class -/
structure ErrC (K : PySem.W.Frag) (C : Addr) : Prop where
  hg : PySem.W.findIn K (.ref C) "__getattribute__" = some (some (.builtin "BaseException.__getattribute__"))
  hk : PySem.W.findIn K (.ref C) "__getattr__" = some none
  hs : PySem.W.subIn K (.ref C) (.type "BaseException") = some true
  hd : PySem.W.hasDictIn K C = true
  ha : PySem.W.findIn K (.ref C) "__class__" = some (some (.builtin "object.__class__"))
  hn : PySem.W.specialIn K (.builtin "object.__class__") "__get__" = some (some (.builtin "getset_descriptor.__get__"))
  ht : PySem.W.takesIn K (.builtin "object.__class__") = some true
  hm : PySem.W.mroIn K C (.type "object") = some true
section
variable {b : Bg} {W : WX} {H0 : Hp} {M Zo Z : Addr → Prop} {σ : L2.St} {H H' : Hp} {ρ : VEnv} {De : VEnds} {Dn : Ends}
end
/-! ### try: .. except x as n: .. -/
/-- the ends of an except suite: the name is forgotten behind it -/
@[simp] def afterS (i : Nat) (De : VEnds) : VEnds := { nx := fun ρ2 => i < ρ2.length ∧ De.nx (ρ2.set i .un), rt := De.rt, bk := fun ρ2 => i < ρ2.length ∧ De.bk (ρ2.set i .un), ct := fun ρ2 => i < ρ2.length ∧ De.ct (ρ2.set i .un), ex := fun _ _ => False }
/-- i: the slot of n; names: the errors that may be met here -/
@[simp] def sTry (i : Nat) (names : List Str) (x : Str) (tb : VS) (ts : Addr → Option Addr → Er → VS) : VS := fun ρ De => i < ρ.length ∧
  tb ρ { De with ex := fun ρ' er => i < ρ'.length ∧ er.n ∈ names ∧ if errSub er.n x = true then ∀ a d, ts a d er (ρ'.set i (.shr (.err a d er.n er.fs))) (afterS i De) else De.ex ρ' er }
section
variable {X : Cx} {b : Bg} {Wout : WX} {names : List Str} {x n : Str} {i : Nat} {body suite : List Stmt} {b₀ : Stmt} {np pos pos' : Pos} {tb : VS} {ts : Addr → Option Addr → Er → VS}
end
end VL
set_option Elab.async false
set_option linter.all false
set_option maxRecDepth 100000
set_option maxHeartbeats 4000000
namespace VL
open PySem PySem.Spec PyProof.Rows L2 HT
/-! ### raise -/
@[simp] def sRaise0 (n : Str) : VS := fun ρ De => De.ex ρ ⟨n, []⟩
@[simp] def sRaise1 (n f : Str) (t : VT) : VS := fun ρ De => t ρ (fun d => ∃ p, d = .py p ∧ De.ex ρ ⟨n, [(f, p)]⟩) (De.ex ρ)
/-- what an error's own __init__ promises -/
def spInit (K : PySem.W.Frag) (f : Str) : Sp := fun vs H Q _ => ∃ (a C : Addr) (v : V), vs = [.ref a, v] ∧ OexC K C ∧ PySem.W.findIn K (.ref C) f = some none ∧ H a = some (exo a C none) ∧ ∀ dx, H dx = none → dx ≠ a → Q .non (upd (upd H dx (exd dx [(f, v)])) a (exo a C (some dx)))
theorem ok_init {P : Program} {w : World} {K : PySem.W.Frag} {mg : Str → Option Value} {base : Heap} {x qual f prm : Str} {st : Stmt} {fa : Addr} {fd : FuncData} {p1 p2 p3 p4 : Pos} (F : Fun K x qual st fa fd) (Sc : FnScope ["self", prm] ["self", prm] (defScope st))
    (hst : defBody st = [.Assign [.Attribute (.Name "self" p1) f p2] (.Name prm p3) p4]) (h0 : (defScope st).names.lookup ("self" : Str) = some .local) (h1 : (defScope st).names.lookup prm = some .local) (hd : (prm == ("__debug__" : Str)) = false) (hcd : (prm == ("__classdict__" : Str)) = false) :
    FnOk P w K mg base (L2.CX P w) 1 fa fd ["self", prm] (spInit K f) := by
  refine F.okX Sc (fun vs H Q E ⟨a, C, v, e, _⟩ => by rw [e]; rfl) fun cdv A outer s H vs Q E hr h => ?_
  rw [hst]
  refine ⟨_, pss_one (ps_ost (pe_var (i := 0) rfl (.inl h0)) (pe_var (i := 1) rfl (.inl h1) hd hcd)), ?_⟩
  obtain ⟨a, C, v, rfl, T, hno, e, q⟩ := h
  exact ⟨v, rfl, .ref a, rfl, a, C, rfl, T, hno, .inl ⟨e, fun dx hd hne => q dx hd hne⟩⟩
/-- an error with the field f can be made -/
structure Mk1 (P : Program) (w : World) (K : PySem.W.Frag) (mg : Str → Option Value) (base : Heap) (b : Bg) (n f : Str) where
  g : mg n = some (.ref (b.cls n))
  T : OexC K (b.cls n)
  hno : PySem.W.findIn K (.ref (b.cls n)) f = some none
  fI : Addr
  fd : FuncData
  prm : Str
  iC : PySem.W.findIn K (.ref (b.cls n)) "__init__" = some (some (.ref fI))
  tI : PySem.W.typeIn K (.ref fI) = some (.type "function")
  F : FnOk P w K mg base (L2.CX P w) 1 fI fd ["self", prm] (spInit K f)
  bd : Binds K fd ["self", prm] []
section
variable {X : Cx} {b : Bg} {W : WX} {n f : Str} {e : Expr} {t : VT} {p pos pos2 : Pos} {j : Nat}
theorem vs_raise1 (M : Mk1 X.prog X.w X.K X.mg X.base b n f) (hr : Room j X.A) (hc : X.calm = true) (tk : Takes X W) (hg : Gl X n) (he : VE X b W e t) (hj : 2 ≤ j := by decide) (hdb : (n == ("__debug__" : Str)) = false := by decide)
    (hs : starEach [e] X.env = (false, eval e X.env) :: starEach [] X.env := by rfl) (hpl : (backTo pos (starEach [] X.env)).any (·.1) = false := by rfl) :
    VSt X b W (.Raise (some (.Call (.Name n p) [e] [] pos)) none pos2) (sRaise1 n f t) :=
  ps_mono (ps_raise hc tk (pmk_oex (k := 1) (ds := []) (dvs := []) M.T M.iC M.tI M.F (hr.mono hj) M.bd .nil passL hg M.g (va_cons he va_nil hs) hdb hs hpl)) fun D σ H ⟨H0, Mo, Zo, Z, ρ, De, fo, q, l⟩ => by
    refine ⟨Zo, Z, ρ, fun ds => match ds with | [d] => ∃ p, d = .py p ∧ De.ex ρ ⟨n, [(f, p)]⟩ | _ => False, De.ex ρ, fo.v, q, fun vs H1 ds x1 g1 r1 q1 => ?_, l.er fo⟩
    match ds, q1, r1 with
    | [_], ⟨p, rfl, q1⟩, .cons (v := v) rv .nil =>
      refine ⟨by show 1 ≤ 1000; omega, fun a ha => ⟨a, b.cls n, v, rfl, M.T, M.hno, upd_same, fun dx hd hne => ⟨rfl, dx, [(f, v)], upd_same, ?_, ?_, ?_⟩⟩⟩
      · rw [upd_ne hne]; exact upd_same
      · rw [upd_ne hne] at hd; exact hd
      · have hd1 : H1 dx = none := by rw [upd_ne hne] at hd; exact hd
        generalize hHf : upd (del (upd (upd (upd H1 a (exo a (b.cls n) none)) dx (exd dx [(f, v)])) a (exo a (b.cls n) (some dx))) a) dx (.xd [(f, v)]) = Hf
        have at_ : ∀ c, c ≠ a → c ≠ dx → Hf c = H1 c := fun c c1 c2 => by rw [← hHf, upd_ne c2, del_ne c1, upd_ne c1, upd_ne c2, upd_ne c1]
        have hfd : Hf dx = some (.xd [(f, v)]) := by rw [← hHf]; exact upd_same
        have x2 : Ex b H1 Hf := fun c o hc _ => by
          rw [at_ c (fun z => by rw [z, ha] at hc; cases hc) (fun z => by rw [z, hd1] at hc; cases hc)]
          exact hc
        have g2 : b.G Hf := b.loc H1 Hf (fun c hc => at_ c (fun z => b.dom H1 c g1 hc (by rw [z]; exact ha)) (fun z => b.dom H1 c g1 hc (by rw [z]; exact hd1))) (fun c o _ e => by rw [at_ c (fun z => by rw [z, ha] at e; cases e) (fun z => by rw [z, hd1] at e; cases e)]; exact e) g1
        have f1 := fo.ex x1 g1
        have f2 := f1.ex x2 g2
        refine l.ex _ _ _ _ _ _ ⟨n, [(f, _)]⟩ f2 ⟨rfl, .inr ⟨dx, _, rfl, hfd, f1.v.fresh hd1, .cons (f1.v.rq x2 rv) .nil⟩⟩ q1
end
end VL
set_option Elab.async false
set_option linter.all false
set_option maxRecDepth 100000
set_option maxHeartbeats 4000000
namespace VL
open PySem PySem.Spec PyProof.Rows L2 HT
/-! ### in an except suite: what is asked of the error -/
/-- the error's field f -/
@[simp] def vErrF (a : Addr) (d : Option Addr) (er : Er) (i : Nat) (nf : List Str) (f : Str) : VT := fun ρ Q _ => ρ[i]? = some (.shr (.err a d er.n er.fs)) ∧ er.n ∈ nf ∧ ∃ p, er.fs.lookup f = some p ∧ Q (.py p)
/-- isinstance(error, x) -/
@[simp] def vErrI (a : Addr) (d : Option Addr) (er : Er) (i : Nat) (names : List Str) (x : Str) : VT := fun ρ Q _ => ρ[i]? = some (.shr (.err a d er.n er.fs)) ∧ er.n ∈ names ∧ Q (.py (.bool (errSub er.n x)))
/-- isinstance(error, (x, ..)) -/
@[simp] def vErrIT (a : Addr) (d : Option Addr) (er : Er) (i : Nat) (names xs : List Str) : VT := fun ρ Q _ => ρ[i]? = some (.shr (.err a d er.n er.fs)) ∧ er.n ∈ names ∧ Q (.py (.bool (xs.any fun x => errSub er.n x)))
section
variable {X : Cx} {b : Bg} {W : WX} {a : Addr} {oe : Obj} {er : Er} {d : Option Addr} {pn : List (Addr × Obj)} {i : Nat} {names nf xs : List Str} {x f nm : Str} {pos p p1 p2 : Pos} {e e2 : Expr} {es : List Expr}
end
section
variable {X : Cx} {b : Bg} {W : WX} {a : Addr} {oe : Obj} {er : Er} {d : Option Addr} {pn : List (Addr × Obj)} {i : Nat} {names nf xs : List Str} {x f nm : Str} {pos p p1 p2 : Pos} {e e2 : Expr} {es : List Expr} {k1 : Nat}
end
end VL
set_option Elab.async false
set_option linter.all false
set_option maxRecDepth 100000
set_option maxHeartbeats 4000000
namespace VL
open PySem PySem.Spec PyProof.Rows L2 HT
/-! ### the facts of the errors' classes, for the join -/
/-- what every error's class that is raised must say -/
structure RaiB (K : PySem.W.Frag) (C : Addr) (n : Str) : Prop where
  ns : PySem.W.nsIn K mainGlobals n = some (some (.ref C))
  kC : PySem.W.keepIn K (.ref C) = true
  tyC : PySem.W.typeIn K (.ref C) = some (.type "type")
  sf : PySem.W.selfFirst K C = true
  ve : PySem.W.subIn K (.ref C) (.type "ValueError") = some true
  ec : ErrC K C
theorem raiB {K : PySem.W.Frag} {C : Addr} {n : Str} (a1 : PySem.W.nsIn K mainGlobals n = some (some (.ref C))) (a2 : PySem.W.keepIn K (.ref C) = true) (a3 : PySem.W.typeIn K (.ref C) = some (.type "type")) (a4 : PySem.W.selfFirst K C = true)
    (a5 : PySem.W.subIn K (.ref C) (.type "ValueError") = some true)
    (b1 : PySem.W.findIn K (.ref C) "__getattribute__" = some (some (.builtin "BaseException.__getattribute__"))) (b2 : PySem.W.findIn K (.ref C) "__getattr__" = some none) (b3 : PySem.W.subIn K (.ref C) (.type "BaseException") = some true) (b4 : PySem.W.hasDictIn K C = true)
    (b5 : PySem.W.findIn K (.ref C) "__class__" = some (some (.builtin "object.__class__"))) (b6 : PySem.W.specialIn K (.builtin "object.__class__") "__get__" = some (some (.builtin "getset_descriptor.__get__"))) (b7 : PySem.W.takesIn K (.builtin "object.__class__") = some true) (b8 : PySem.W.mroIn K C (.type "object") = some true) : RaiB K C n := ⟨a1, a2, a3, a4, a5, ⟨b1, b2, b3, b4, b5, b6, b7, b8⟩⟩
structure RaiI (K : PySem.W.Frag) (C : Addr) (n qual f : Str) (st : Stmt) : Prop where
  b : RaiB K C n
  T : OexC K C
  no : PySem.W.findIn K (.ref C) f = some none
  ini : ∃ (fI : Addr) (fd : FuncData), Fun K "__init__" qual st fI fd ∧ PySem.W.findIn K (.ref C) "__init__" = some (some (.ref fI)) ∧ PySem.W.typeIn K (.ref fI) = some (.type "function")
structure Rai1 (K : PySem.W.Frag) (n qual f : Str) (st : Stmt) : Prop where
  ex : ∃ C : Addr, RaiI K C n qual f st
theorem rai1 {K : PySem.W.Frag} {C fI : Addr} {n qual f : Str} {st : Stmt} {oc kV doc pm cdv ct : Value} {od an : Option Addr} {osl : Array (Option Value)} {nm q : Str} {N : Addr} {bs bm : List Value} {sn : List Str} {sub : List Value} {ab : Bool} {col : Option Bool} {dd : Option Addr} {k0 k1 k2 k3 k5 : Option Value} (r : RaiB K C n)
    (c1 : K.lookup C = some (excClassObj nm q C N bs bm true sn sub ab col dd k0 k1 k2 k3 k5 "ValueError.__new__")) (c2 : PySem.HandSPX.refsVE bm = true) (c3 : PySem.W.findIn K (.ref C) "__setattr__" = some (some (.builtin "object.__setattr__"))) (c4 : PySem.W.findIn K (.ref C) f = some none)
    (d1 : PySem.W.findIn K (.ref C) "__init__" = some (some (.ref fI))) (d2 : PySem.W.typeIn K (.ref fI) = some (.type "function")) (d3 : K.lookup fI = some ⟨oc, od, .func (PySem.W.fnOf "__init__" qual (defArgs st) (defBody st) (defScope st) .none kV doc pm an cdv ct), osl⟩) (d4 : PySem.W.codeIn K cdv qual = true) (d5 : PySem.W.keepIn K (.ref fI) = true) : Rai1 K n qual f st :=
  ⟨C, r, ⟨⟨nm, q, N, bs, bm, sn, sub, ab, col, dd, k0, k1, k2, k3, k5, c1, c2⟩, c3, r.ec.hs, r.tyC, r.kC⟩, c4, fI, _, fun_mk d3 d4 d5, d1, d2⟩
section
variable {K : PySem.W.Frag} {h : Heap} {mg : Str → Option Value} {b : Bg} {n x qual f prm : Str} {C : Addr} {st : Stmt} {names : List Str}
theorem RaiI.mk1 {P : Program} {w : World} {base : Heap} (r : RaiI K (b.cls n) n qual f st) (X : K.In h) (G : h.Ns mainGlobals mg) (wk : ∀ (fa : Addr) (fd : FuncData), Fun K "__init__" qual st fa fd → FnOk P w K mg base (L2.CX P w) 1 fa fd ["self", prm] (spInit K f))
    (bd : ∀ (kV doc pm : Value) (an : Option Addr) (cdv ct : Value) (us : List Value), us.length = (["self", prm] : List Str).length → bindArgs (PySem.W.fnOf "__init__" qual (defArgs st) (defBody st) (defScope st) .none kV doc pm an cdv ct) ⟨us, []⟩ = pure ((["self", prm] : List Str).zip us)) : Nonempty (Mk1 P w K mg base b n f) := by
  obtain ⟨fI, fd, F, iC, tI⟩ := r.ini
  exact ⟨⟨PySem.W.mg_of X G r.b.ns, r.T, r.no, fI, fd, prm, iC, tI, wk fI fd F, F.binds bd⟩⟩
end
/-- the classes' addresses by their names -/
def clsOf : List (Str × Addr) → Addr → Str → Addr
  | [], fa, _ => fa
  | (m, C) :: r, fa, n => if m = n then C else clsOf r fa n
theorem clsOf_hd {m : Str} {C fa : Addr} {r : List (Str × Addr)} : clsOf ((m, C) :: r) fa m = C := if_pos rfl
/-- a def within a class -/
def clsDef (s : Stmt) (i : Nat) : Stmt := match s with
  | .ClassDef _ _ _ b _ _ _ _ _ _ _ => b.getD i (.Pass ⟨0, 0, 0, 0⟩)
  | s => s
end VL
set_option Elab.async false
set_option linter.all false
set_option maxRecDepth 100000
set_option maxHeartbeats 2000000
/-! VL38: defs with one star parameter, called plainly. -/
namespace VL
open PySem PySem.Spec PyProof.Rows L2
@[simp] def svStar (S : SV) : SV := fun ds Q E => ∃ ps, pys ds = some ps ∧ ps.length ≤ sizeLine ∧ S [.py (.tuple ps)] Q E
structure CalR (P : Program) (w : World) (K : PySem.W.Frag) (mg : Str → Option Value) (base : Heap) (b : Bg) (k : Nat) (x : Str) (S : SV) where
  f : Addr
  F : FnR P w K mg base (L2.CX P w) k f (spV b S)
  g : mg x = some (.ref f)
  kp : PySem.W.keepIn K (.ref f) = true
section
variable {CX : CXT} {P : Program} {w : World} {K : PySem.W.Frag} {mg : Str → Option Value} {base : Heap} {k : Nat} {f : Addr} {name qual : Str} {params : Arguments} {body : List Stmt} {scope : Scope} {dV kV doc pm cdv ct oc : Value} {an od : Option Addr}
  {osl : Array (Option Value)} {N ps : List Str} {sp : Sp}
end
section
variable {P : Program} {w : World} {K : PySem.W.Frag} {mg : Str → Option Value} {base : Heap} {b : Bg} {k : Nat} {x qual pv : Str} {st : Stmt} {f : Addr} {fd : FuncData} {N : List Str} {S : SV}
end
section
variable {X : Cx} {b : Bg} {W : WX} {k j : Nat} {x : Str} {S : SV} {e : Expr} {es : List Expr} {u : VA} {p pos : Pos}
end
end VL
set_option Elab.async false
set_option linter.all false
set_option maxRecDepth 100000
set_option maxHeartbeats 2000000
/-! VL39: list.count of bools -/
namespace VL
open PySem PySem.Spec PyProof.Rows L2
theorem bools_vals : ∀ {us : List Value} {ns : List Bool}, Vals (ns.map V.bl) us → us = ns.map Value.bool
  | [], [], .nil => rfl
  | _, n :: ns, .cons r t => by
    cases r
    rw [List.map_cons, bools_vals t]
@[simp] def isLi : D → Prop
  | .py (.list _) => True
  | _ => False
@[simp] def gCountB : D → List D → (D → Prop) → Prop
  | .py (.list xs), [.py (.bool k)], Q => ∃ ns, allB xs = some ns ∧ Q (.py (.int (ns.count k : Nat)))
  | _, _, _ => False
end VL
set_option Elab.async false
set_option linter.all false
set_option maxRecDepth 100000
set_option maxHeartbeats 4000000
/-! VL40: the law's head for any background; the gear: a list of three numbers that a def draws from -/
namespace VL
open PySem PySem.Spec PyProof.Rows L2
section
variable {P : Program} {w : World} {K : PySem.W.Frag} {mg : Str → Option Value} {base : Heap} {k k0 : Nat} {st : Stmt} {f fo : Addr} {fd fdo : FuncData} {N : List Str}
end
/-! ### the gear -/
end VL
set_option Elab.async false
set_option linter.all false
set_option maxRecDepth 100000
set_option maxHeartbeats 2000000
/-! VL41: isinstance with a pair of classes; a promise that nothing may ask -/
namespace VL
open PySem PySem.Spec PyProof.Rows L2
@[simp] def vIsi2 (T1 T2 : String) (t : VT) : VT := fun ρ Q E => t ρ (fun d => ∃ p, d = .py p ∧ ∃ k1 k2, isK T1 p = some k1 ∧ isK T2 p = some k2 ∧ Q (.py (.bool (k1 || k2)))) E
section
variable {X : Cx} {b : Bg} {W : WX} {T1 T2 : String} {x1 x2 : Str} {e : Expr} {t : VT} {p p1 p2 p3 pos : Pos} {kk : Nat}
end
end VL
set_option Elab.async false
set_option linter.all false
set_option maxRecDepth 100000
set_option maxHeartbeats 4000000
/-! VL42: sorted of lists and tuples of ints -/
namespace VL
open PySem PySem.Spec PyProof.Rows L2
/-- sorted(t), a tuple of ints -/
def rSortedTup (K : PySem.W.Frag) : List V → Hp → VK → Prop := fun vs H Q => ∃ (a : Addr) (ns : List Int), vs = [V.ref a] ∧ SqT K H a (ns.map V.int) ∧
  ∀ (ns' : List Int) (p : Addr), ns'.Perm ns → ns'.Pairwise (· ≤ ·) → H p = none → Q (.ref p) (upd H p (.lst (ns'.map V.int)))
section
variable {X : Cx}
theorem cr_sortedTup : CallR X (.builtin "sorted") (rSortedTup X.K) := by
  intro pins s σ H vs us Q I r h
  obtain ⟨a, ns, rfl, hs, q⟩ := h
  obtain ⟨its, rv, ⟨o, ho, hc, n, hd⟩, hz⟩ := I.tuple hs
  rw [Vals.ref1 r]
  have hi := rv.ints
  have hzi : its.length ≤ sizeLine := by rw [← rv.length]; exact hz
  refine Calls.call_function_entry kind_sorted plain_sorted entry_sorted (args_sorted1 _) ?_
  unfold Builtin.«sorted»
  refine wpAny_bind (m := checkCount "sorted" 1 1 _) (wpAny_pure ?_)
  refine wpAny_bind (wpAny_collect_seq a (.inr rfl) ho hc hd (fun h' hk => ?_) (by rw [List.size_toArray]; exact hzi))
  have ei : its.toArray.toList = its := by simp
  rw [ei]
  have I2 : Inv X pins σ H { s with heap := h' } := I.kept (t' := s.toks) hk
  refine wpAny_bind (wpAny_newList ?_ hzi)
  have hoL : (h'.push (seqObj "list" its.toArray 0)).get? h'.objs.size = some (seqObj "list" its.toArray 0) := Heap.get?_push_size _ rfl
  refine wpAny_bind (wpAny_holding (wpAny_call_entry slot_list_sort ⟨_, hoL, rfl⟩ entry_list_sort (SrtO.list_sort_ord SrtO.swo_int hoL hzi (fun h2 => SrtO.ints_sortable hi h2) fun out hs hb => ⟨_, rfl, ?_⟩) (args_list_sort _)))
  obtain ⟨k1, k2, k3⟩ := SrtO.ints_out hi hs hb
  obtain ⟨ep, he'⟩ := PyProof.Rows.sortedHeap_at (vs := its) (out := out.toArray) hoL
  have hlen : ((out.map SrtO.iv).map V.int).length ≤ sizeLine := by
    rw [List.length_map, k2.length_eq]
    rw [List.length_map] at hz
    exact hz
  refine wpAny_pure ⟨_, rfl, ?_⟩
  exact ⟨.ref _, upd H h'.objs.size (.lst ((out.map SrtO.iv).map V.int)), I2.laid (t' := s.toks) (fun b u hu => by
    have hne : b ≠ h'.objs.size := Nat.ne_of_lt (Heap.lt_size hu)
    rw [PyProof.Rows.sortedHeap_old hne (Heap.lt_size (Heap.get?_push_of_some _ hu))]
    exact Heap.get?_push_of_some _ hu) (Nat.le_refl _) ⟨hlen, out, ep, vals_of_ints k1, he'⟩, rfl, q _ _ k2 k3 (I2.hok.fresh (Nat.le_refl _))⟩
end
/-! ### over values -/
theorem perm_sorted_eq : ∀ {xs ys : List Int}, xs.Perm ys → xs.Pairwise (· ≤ ·) → ys.Pairwise (· ≤ ·) → xs = ys
  | [], ys, h, _, _ => h.nil_eq
  | x :: xs, [], h, _, _ => (List.Perm.nil_eq h.symm).symm
  | x :: xs, y :: ys, h, h1, h2 => by
    rw [List.pairwise_cons] at h1 h2
    have e : x = y := by
      have m1 : x ∈ y :: ys := h.mem_iff.mp List.mem_cons_self
      have m2 : y ∈ x :: xs := h.mem_iff.mpr List.mem_cons_self
      rcases List.mem_cons.mp m1 with e | e
      · exact e
      · rcases List.mem_cons.mp m2 with e' | e'
        · exact e'.symm
        · have := h1.1 y e'
          have := h2.1 x e
          omega
    subst e
    rw [perm_sorted_eq (List.perm_cons _ |>.mp h) h1.2 h2.2]
def sortI (ns : List Int) : List Int := ns.mergeSort (fun a b => decide (a ≤ b))
theorem sortI_perm (ns : List Int) : (sortI ns).Perm ns := List.mergeSort_perm _ _
theorem sortI_sorted (ns : List Int) : (sortI ns).Pairwise (· ≤ ·) := by
  have := List.pairwise_mergeSort (le := fun a b : Int => decide (a ≤ b)) (fun a b c h1 h2 => by simp at *; omega) (fun a b => by simp; omega) ns
  exact this.imp fun h => by simpa using h
theorem sortI_eq {ns ms : List Int} (h : ms.Perm ns) (h1 : ms.Pairwise (· ≤ ·)) : ms = sortI ns := perm_sorted_eq (h.trans (sortI_perm ns).symm) h1 (sortI_sorted ns)
@[simp] def gSorted : List D → (D → Prop) → Prop
  | [.py (.list xs)], Q => ∃ ns, allI xs = some ns ∧ Q (.py (.list ((sortI ns).map PyData.int)))
  | [.py (.tuple xs)], Q => ∃ ns, allI xs = some ns ∧ Q (.py (.list ((sortI ns).map PyData.int)))
  | _, _ => False
theorem rd_sorted {K : PySem.W.Frag} {b : Bg} : CalD b (RN b) (fun xs H Q => rSortedI K xs H Q ∨ rSortedTup K xs H Q) gSorted := by
  intro Z H vs ds Q Qd gd rx h k
  match ds, h, rx with
  | [.py (.list xs)], ⟨ns, e, h⟩, rx =>
    obtain ⟨x, rfl, r⟩ := rx.one
    obtain ⟨a, us, rfl, ha, qa⟩ := r.list
    rw [allI_of e] at qa
    have eu := qa.ints
    subst eu
    refine .inl ⟨a, ns, rfl, SqL.of ha, fun ns' p hp hs hn => ?_⟩
    have es := sortI_eq hp hs
    subst es
    exact k _ _ (.py (.list _)) (Ex.new hn) (gd.new hn) ⟨p, rfl, hn, _, upd_same, .of_ints _⟩ h
  | [.py (.tuple xs)], ⟨ns, e, h⟩, rx =>
    obtain ⟨x, rfl, r⟩ := rx.one
    obtain ⟨a, oa, us, rfl, ha, da, na, qa⟩ := r.tuple
    rw [allI_of e] at qa
    have eu := qa.ints
    subst eu
    refine .inr ⟨a, ns, rfl, SqT.th ha, fun ns' p hp hs hn => ?_⟩
    have es := sortI_eq hp hs
    subst es
    exact k _ _ (.py (.list _)) (Ex.new hn) (gd.new hn) ⟨p, rfl, hn, _, upd_same, .of_ints _⟩ h
theorem bb_sorted : bootBuiltins "sorted" = some (.builtin "sorted") := by decide +kernel
section
variable {X : Cx} {b : Bg} {W : WX} {e : Expr} {es : List Expr} {u : VA} {p pos : Pos}
theorem vn_sortedC (hg : Gl X "sorted") (hm : X.mg "sorted" = none) (ha : VXs X b W (e :: es) u) (he : starEach (e :: es) X.env = (false, eval e X.env) :: starEach es X.env := by rfl) (hpl : (backTo pos (starEach es X.env)).any (·.1) = false := by rfl) :
    VN X b W (.Call (.Name "sorted" p) (e :: es) [] pos) (vCal gSorted u) := vn_callB (CallR.or cr_sortedI cr_sortedTup) rd_sorted hg hm bb_sorted ha (by decide) (by decide) he hpl
end
end VL
set_option Elab.async false
set_option linter.all false
set_option maxRecDepth 100000
set_option maxHeartbeats 4000000
/-! VL43: len(set(t)), t a tuple of ints -/
namespace VL
open PySem PySem.Spec PyProof.Rows L2
section
variable {X : Cx}
end
@[simp] def vLenSet (t : VT) : VT := fun ρ Q E => t ρ (fun d => ∃ xs ns, d = .py (.tuple xs) ∧ allI xs = some ns ∧ ns.length < 1000 ∧ ∀ ks : List Int, ks.Nodup → (∀ j, j ∈ ks ↔ j ∈ ns) → Q (.py (.int (ks.length : Nat)))) E
end VL
set_option Elab.async false
set_option linter.all false
set_option maxRecDepth 100000
set_option maxHeartbeats 4000000
/-! VL44: the jug: a list of a list and two numbers -/
namespace VL
open PySem PySem.Spec PyProof.Rows L2
end VL
set_option Elab.async false
set_option linter.all false
set_option maxRecDepth 100000
set_option maxHeartbeats 4000000
/-! VL45: found.append(left.pop(k)), both lists owned -/
namespace VL
open PySem PySem.Spec PyProof.Rows L2
@[simp] def sPopApp (i j : Nat) (te : VT) : VS := fun ρ De => ∃ xs ys, ρ[i]? = some (.own (.py (.list xs))) ∧ ρ[j]? = some (.own (.py (.list ys))) ∧ i ≠ j ∧ xs.length < sizeLine ∧ ys.length ≤ sizeLine ∧
  te ρ (fun d => ∃ k : Nat, d = .py (.int (k : Nat)) ∧ ∃ p, ys[k]? = some p ∧ De.nx ((ρ.set j (.own (.py (.list (ys.eraseIdx k))))).set i (.own (.py (.list (xs ++ [p])))))) (De.ex ρ)
section
variable {X : Cx} {b : Bg} {W : WX} {o o2 e : Expr} {i j : Nat} {te : VT} {apos cpos pos apos2 cpos2 : Pos}
end
end VL
set_option Elab.async false
set_option linter.all false
set_option maxRecDepth 100000
set_option maxHeartbeats 4000000
/-! VL46: list(range(n)), tuple(range(n)) -/
namespace VL
open PySem PySem.Spec PyProof.Rows L2
section
variable {X : Cx} {a e : Expr} {ta : TE} {te : L2.St → Hp → (Int → Int → Hp → Prop) → Prop}
end
theorem rgV_ints (n : Int) : rgV 0 n = ((List.range n.toNat).map fun i : Nat => (0 + (i : Int))).map V.int := by unfold rgV; rw [List.map_map, Int.sub_zero]; rfl
theorem rangeP_ints (n : Nat) : rangeP 0 n = ((List.range n).map fun i : Nat => (0 + (i : Int))).map PyData.int := by rw [rangeP_eq, List.map_map]; rfl
@[simp] def vLstRg (t : VT) : VT := fun ρ Q E => t ρ (fun d => ∃ n : Int, d = .py (.int n) ∧ 0 ≤ n ∧ n ≤ 1000000 ∧ Q (.py (.list (rangeP 0 n.toNat)))) E
@[simp] def vTupRg (t : VT) : VT := fun ρ Q E => t ρ (fun d => ∃ n : Int, d = .py (.int n) ∧ 0 ≤ n ∧ n ≤ 1000000 ∧ Q (.py (.tuple (rangeP 0 n.toNat)))) E
section
variable {X : Cx} {b : Bg} {W : WX} {a : Expr} {t : VT} {p p2 q pos : Pos}
theorem vn_listRg (hc : X.calm = true) (hg : Gl X "list") (hm : X.mg "list" = none) (hg2 : Gl X "range") (hm2 : X.mg "range" = none) (ha : VX X b W a t) (na : starEach [a] X.env = (false, eval a X.env) :: starEach [] X.env := by rfl)
    (nb : starEach [.Call (.Name "range" p2) [a] [] q] X.env = (false, eval (.Call (.Name "range" p2) [a] [] q) X.env) :: starEach [] X.env := by rfl) : VN X b W (.Call (.Name "list" p) [.Call (.Name "range" p2) [a] [] q] [] pos) (vLstRg t) :=
  pe_mono (pe_listRg hc hg hm (prg_1 hg2 hm2 ha na) nb) fun σ H Q ⟨Zo, Z, ρ, Qd, Ed, v, qq, l, m⟩ => ⟨Zo, Z, ρ, _, Ed, v, qq, fun x H1 d x1 g1 r1 ⟨n, ed, n0, n1, q1⟩ => by
    subst ed
    obtain rfl := Rb.int (b := b) (Z := Z) (H := H1) r1
    refine ⟨n, rfl, RgOk.of_le (by omega) (by omega) (by omega) (by omega), fun c hc => ?_⟩
    rw [rgV_ints]
    rw [rangeP_ints] at q1
    exact l _ _ (.py (.list _)) (x1.trans (Ex.new hc)) (Bg.new g1 hc) ⟨c, rfl, ((by
      cases e : H c with
      | none => rfl
      | some o =>
        by_cases hb : b.B c
        · exact absurd hc (b.dom _ _ g1 hb)
        · rw [x1 c o e hb] at hc; cases hc) : H c = none), _, upd_same, .of_ints _⟩ q1, m⟩
end
end VL
set_option Elab.async false
set_option linter.all false
set_option maxRecDepth 100000
set_option maxHeartbeats 4000000
/-! VL47: x = left.pop(k), left owned -/
namespace VL
open PySem PySem.Spec PyProof.Rows L2
@[simp] def sPopSet (i j : Nat) (te : VT) : VS := fun ρ De => ∃ ys, ρ[j]? = some (.own (.py (.list ys))) ∧ i ≠ j ∧ i < ρ.length ∧ ys.length ≤ sizeLine ∧
  te ρ (fun d => ∃ k : Nat, d = .py (.int (k : Nat)) ∧ ∃ p, ys[k]? = some p ∧ De.nx ((ρ.set j (.own (.py (.list (ys.eraseIdx k))))).set i (.shr (.py p)))) (De.ex ρ)
section
variable {X : Cx} {b : Bg} {W : WX} {o2 e : Expr} {i j : Nat} {x : Str} {te : VT} {pos pos' apos2 cpos2 : Pos}
end
end VL
set_option Elab.async false
set_option linter.all false
set_option maxRecDepth 100000
set_option maxHeartbeats 4000000
/-! VL48: xs.insert(i, x), xs owned, i not below 0 -/
namespace VL
open PySem PySem.Spec PyProof.Rows L2
@[simp] def gIns : List PyData → List D → (D → List PyData → Prop) → Prop
  | p, [.py (.int i), .py x], Q => p.length < sizeLine ∧ 0 ≤ i ∧ i < 1000000000 ∧ Q (.py .none) (p.take i.toNat ++ [x] ++ p.drop i.toNat)
  | _, _, _ => False
section
variable {X : Cx} {b : Bg} {W : WX} {o e e2 : Expr} {ta : VA} {i : Nat} {apos cpos pos : Pos}
end
end VL
set_option Elab.async false
set_option linter.all false
set_option maxRecDepth 100000
set_option maxHeartbeats 4000000
/-! VL49: xs.extend(ys), xs owned, ys a list -/
namespace VL
open PySem PySem.Spec PyProof.Rows L2
@[simp] def gExt : List PyData → List D → (D → List PyData → Prop) → Prop
  | p, [.py (.list z)], Q => p.length + z.length ≤ sizeLine ∧ Q (.py .none) (p ++ z)
  | _, _, _ => False
section
variable {X : Cx} {b : Bg} {W : WX} {o e : Expr} {ta : VA} {i : Nat} {apos cpos pos : Pos}
end
end VL
set_option Elab.async false
set_option linter.all false
set_option maxRecDepth 100000
set_option maxHeartbeats 4000000
/-! VL50: *e among the items of a display or the arguments of a call -/
namespace VL
open PySem PySem.Spec PyProof.Rows L2 StX
@[simp] def vStar (t : VT) (u : VA) : VA := fun ρ Q E => t ρ (fun d => ∃ xs, (d = .py (.tuple xs) ∨ d = .py (.list xs)) ∧ u ρ (fun ds => Q (xs.map D.py ++ ds)) E) E
section
variable {X : Cx} {b : Bg} {W : WX} {e : Expr} {es : List Expr} {t : VT} {u : VA} {p : Pos}
end
end VL
set_option Elab.async false
set_option linter.all false
set_option maxRecDepth 100000
set_option maxHeartbeats 4000000
/-! VL51: sorted of a list of tuples of ints, in the order of tuples -/
namespace VL
open PySem PySem.Spec PyProof.Rows L2
def lexL : List Int → List Int → Bool
  | _, [] => false
  | [], _ :: _ => true
  | x :: xs, y :: ys => if x = y then lexL xs ys else decide (x < y)
section
variable {prog : Program} {w : World} {A : Around} {s : Shared} {E : Value → Shared → Prop}
end
section
variable {X : Cx}
end
/-! ### over values -/
def sortT (L : List (List Int)) : List (List Int) := L.mergeSort fun a b => !lexL b a
@[simp] def gSortedT : List D → (D → Prop) → Prop
  | [.py (.list xs)], Q => ∃ L : List (List Int), xs = L.map tI ∧ (∀ l ∈ L, l ≠ []) ∧ Q (.py (.list ((sortT L).map tI)))
  | _, _ => False
section
variable {X : Cx} {b : Bg} {W : WX} {e : Expr} {es : List Expr} {u : VA} {p pos : Pos}
end
end VL
set_option Elab.async false
set_option linter.all false
set_option maxRecDepth 100000
set_option maxHeartbeats 4000000
/-! VL52: defs that show values (repr within a def): called where nothing is being shown -/
namespace VL
open PySem PySem.Spec PyProof.Rows L2
structure FnL (P : Program) (w : World) (K : PySem.W.Frag) (mg : Str → Option Value) (base : Heap) (k : Nat) (f : Addr) (fd : FuncData) (ps : List Str) (sp : Sp) : Prop where
  len : ∀ vs H Q E, sp vs H Q E → vs.length = ps.length
  g : FnG P w K mg base k f fd ps sp
section
variable {P : Program} {w : World} {K : PySem.W.Frag} {mg : Str → Option Value} {base : Heap} {b : Bg} {k : Nat} {f : Addr} {fd : FuncData} {N ps : List Str} {S : SV} {st : Stmt} {x qual : Str}
end
structure CalG (P : Program) (w : World) (K : PySem.W.Frag) (mg : Str → Option Value) (base : Heap) (b : Bg) (k : Nat) (x : Str) (ps : List Str) (S : SV) where
  f : Addr
  fd : FuncData
  F : FnL P w K mg base k f fd ps (spV b S)
  g : mg x = some (.ref f)
  kp : PySem.W.keepIn K (.ref f) = true
  bd : Binds K fd ps []
section
variable {X : Cx} {b : Bg} {W : WX} {k j : Nat} {f : Addr} {fd : FuncData} {ps : List Str} {S : SV} {x : Str} {e : Expr} {es : List Expr} {u : VA} {p pos : Pos} {sp : Sp} {E : L2.St → XK} {t : TA}
end
end VL
set_option Elab.async false
set_option linter.all false
set_option maxRecDepth 100000
set_option maxHeartbeats 4000000
/-! VL53: is True, is not True of bools -/
namespace VL
open PySem PySem.Spec PyProof.Rows L2
@[simp] def gIsB (neg : Bool) : D → D → (D → Prop) → Prop
  | .py (.bool a), .py (.bool b), Q => Q (.py (.bool (neg ^^ decide (a = b))))
  | _, _, _ => False
section
variable {X : Cx} {b : Bg} {W : WX} {e1 e2 : Expr} {t1 t2 : VT} {pos : Pos}
end
end VL
set_option Elab.async false
set_option linter.all false
set_option maxRecDepth 100000
set_option maxHeartbeats 4000000
/-! VL54: list(text) -/
namespace VL
open PySem PySem.Spec PyProof.Rows L2
section
variable {X : Cx}
end
@[simp] def gListA : List D → (D → Prop) → Prop
  | [.py (.list xs)], Q => Q (.py (.list xs))
  | [.py (.tuple xs)], Q => Q (.py (.list xs))
  | [.py (.str z)], Q => z.length ≤ sizeLine ∧ Q (.py (.list (signsD z)))
  | _, _ => False
section
variable {X : Cx} {b : Bg} {W : WX} {e : Expr} {es : List Expr} {u : VA} {p pos : Pos}
end
end VL
set_option Elab.async false
set_option linter.all false
set_option maxRecDepth 100000
set_option maxHeartbeats 4000000
/-! VL55: () * k -/
namespace VL
open PySem PySem.Spec PyProof.Rows L2
open AutoSeq1 (wpAny_loadPart')
section
variable {X : Cx}
end
section
variable {X : Cx} {b : Bg} {W : WX} {e1 e2 : Expr} {t1 t2 : VT} {pos : Pos}
/-- .. of a tuple that may be empty -/
@[simp] def gMulT : D → D → (D → Prop) → Prop
  | .py (.tuple xs), .py (.int k), Q => (0 ≤ k ∧ 2 ≤ k ∧ k ≤ 1000 ∧ xs.length ≤ 1000) ∧ Q (.py (.tuple (List.replicate k.toNat xs).flatten))
  | _, _, _ => False
end
end VL
set_option Elab.async false
set_option linter.all false
set_option maxRecDepth 100000
set_option maxHeartbeats 4000000
/-! VL56: a sign in a text -/
namespace VL
open PySem PySem.Spec PyProof.Rows L2 HT
open Builtin.Str in
theorem occ_full (z : Str) (c k lim : Nat) (st : Array Nat × Nat) (h2 : ¬ st.1.size < lim) : StrLaws.occBody z ⟨#[c]⟩ z.length lim k st = pure (ForInStep.yield (st.1, st.2)) := by
  unfold StrLaws.occBody
  rw [if_neg (fun q => h2 q.1.1.1)]
theorem occ_one (z : Str) (c : Nat) : ∀ (n k free : Nat) (acc : Array Nat), free ≤ k → k + n = z.length + 1 →
    (0 < (forIn (List.range' k n) (acc, free) (StrLaws.occBody z ⟨#[c]⟩ z.length 1)).run.fst.size ↔ (0 < acc.size ∨ c ∈ (sl z).drop k))
  | 0, k, free, acc, h1, h3 => by
    have : (sl z).drop k = [] := List.drop_eq_nil_of_le (by rw [slen]; omega)
    rw [this]; simp
  | n + 1, k, free, acc, h1, h3 => by
    rw [List.range'_succ, List.forIn_cons]
    by_cases ha : acc.size < 1
    · rw [occ_step z c k _ (acc, free) h1 (by show acc.size < _; omega)]
      by_cases hk : k < z.length
      · have hk' : k < (sl z).length := by rw [slen]; exact hk
        rw [List.drop_eq_getElem_cons hk', List.getElem?_eq_getElem hk']
        by_cases hc : (sl z)[k] = c
        · rw [if_pos (by rw [hc])]
          have := occ_one z c n (k + 1) (k + 1) (acc.push k) (by omega) (by omega)
          simp only [pure_bind]
          rw [this, Array.size_push]
          simp [hc]
        · rw [if_neg (by simpa using hc)]
          have := occ_one z c n (k + 1) free acc (by omega) (by omega)
          simp only [pure_bind]
          rw [this]
          have hc' : ¬ c = (sl z)[k] := fun e => hc e.symm
          have hm : (c ∈ (sl z)[k] :: (sl z).drop (k + 1)) ↔ c ∈ (sl z).drop (k + 1) := by
            rw [List.mem_cons]; exact ⟨fun h => h.resolve_left hc', .inr⟩
          rw [hm]
      · have e : (sl z).drop k = [] := List.drop_eq_nil_of_le (by rw [slen]; omega)
        rw [if_neg (by rw [List.getElem?_eq_none (by rw [slen]; omega)]; simp), e]
        have := occ_one z c n (k + 1) free acc (by omega) (by omega)
        have e2 : (sl z).drop (k + 1) = [] := List.drop_eq_nil_of_le (by rw [slen]; omega)
        rw [e2] at this
        simp only [pure_bind]
        exact this
    · rw [occ_full z c k 1 (acc, free) ha]
      have := occ_one z c n (k + 1) free acc (by omega) (by omega)
      simp only [pure_bind]
      rw [this]
      have : 0 < acc.size := by omega
      simp [this]
theorem contains_sign (z : Str) (c : Nat) : Txt.contains z (mkS [c]) = decide (c ∈ sl z) := by
  unfold Txt.contains
  have h := occ_one z c (z.length + 1 - 0) 0 0 #[] (by omega) (by omega)
  rw [StrLaws.occ_eq]
  have h' : 0 < (forIn (List.range' 0 (z.length + 1 - 0)) (#[], 0) (StrLaws.occBody z (mkS [c]) z.length 1)).run.fst.size ↔ c ∈ sl z := by
    refine h.trans ?_
    simp
  rw [Bool.eq_iff_iff, decide_eq_true_eq, ← h']
  generalize (forIn (List.range' 0 (z.length + 1 - 0)) (#[], 0) (StrLaws.occBody z (mkS [c]) z.length 1)).run.fst = A
  obtain ⟨A⟩ := A
  cases A <;> simp
@[simp] theorem contains_mkS (l : List Nat) (c : Nat) : Txt.contains (mkS l) (mkS [c]) = decide (c ∈ l) := by rw [contains_sign, sl_mkS]
end VL
set_option Elab.async false
set_option linter.all false
set_option maxRecDepth 100000
set_option maxHeartbeats 4000000
/-! VL57: x or y, where x is a text -/
namespace VL
open PySem PySem.Spec PyProof.Rows L2 HT
variable {X : Cx} {b : Bg} {W : WX} {e1 e2 : Expr} {es : List Expr} {pos : Pos} {t1 t2 : VT}
@[simp] def vOrS (ta tb : VT) : VT := fun ρ Q E => ta ρ (fun x => ∃ z : Str, x = .py (.str z) ∧ z.length ≤ 16777214 ∧ if z.length = 0 then tb ρ Q E else Q (.py (.str z))) E
end VL
set_option Elab.async false
set_option linter.all false
set_option maxRecDepth 100000
set_option maxHeartbeats 4000000
/-! VL58: a background with tables of code objects (for defs that make lambdas) -/
namespace VL
open PySem PySem.Spec PyProof.Rows L2
section
variable {b : Bg} {T : List (Addr × Str)} {Z : Addr → Prop} {H H' : Hp}
end
end VL
set_option Elab.async false
set_option linter.all false
set_option maxRecDepth 100000
set_option maxHeartbeats 4000000
/-! VL59: a lambda without parameters is made; it is called where it was handed to -/
namespace VL
open PySem PySem.Spec PyProof.Rows L2
open LamX (CodeO Tabs TabS TabB LamS lamEnv lamCx)
section
variable {X : Cx} {pins : List (Addr × Obj)} {σ : L2.St} {H : Hp} {s : Shared}
end
section
variable {X : Cx} {pins : List (Addr × Obj)} {σ : L2.St} {H : Hp} {s : Shared}
end
end VL
set_option Elab.async false
set_option linter.all false
set_option maxRecDepth 100000
set_option maxHeartbeats 4000000
/-! VL60: told(lambda: ..): the def tries what it got and tells the result or the error -/
namespace VL
open PySem PySem.Spec PyProof.Rows L2
open LamX (CodeO Tabs TabS TabB LamS lamEnv lamCx)
/-- what is told of an error -/
def toldE (names : List Str) (th : Addr → Option Addr → Er → VS) (tr : VS) (er : Er) (Q : D → Prop) : Prop := er.n ∈ names ∧ errSub er.n "LineError" = true ∧
  ∀ f a d, th a d er [.shr (.raw f), .own (.py (.list [])), .shr (.err a d er.n er.fs)] (afterS 2 { nx := fun ρ => tr ρ (fin Q noE), rt := Q, bk := fun _ => False, ct := fun _ => False, ex := fun _ _ => False })
@[simp] def vTold (names : List Str) (th : Addr → Option Addr → Er → VS) (tr : VS) (te : VT) : VT := fun ρ Q E => te ρ (fun d => ∃ p, d = .py p ∧ Q (.py (.tuple [.str "result", p]))) (fun er => toldE names th tr er Q)
section
variable {X : Cx} {b : Bg} {T : List (Addr × Str)}
end
end VL
set_option Elab.async false
set_option linter.all false
set_option maxRecDepth 100000
set_option maxHeartbeats 4000000
/-! VL61: the law's end with tables of code objects -/
namespace VL
open PySem PySem.Spec PyProof.Rows L2
end VL
set_option Elab.async false
set_option linter.all false
set_option maxRecDepth 100000
set_option maxHeartbeats 4000000
/-! VL62: defs that make lambdas; the def that is given them, as a promise -/
namespace VL
open PySem PySem.Spec PyProof.Rows L2
open LamX (LamS lamEnv lamCx)
section
variable {P : Program} {w : World} {K : PySem.W.Frag} {mg : Str → Option Value} {base : Heap} {b : Bg} {T : List (Addr × Str)}
end
/-! ### the code object of a def -/
section
variable {P : Program} {w : World} {K : PySem.W.Frag} {mg : Str → Option Value} {base : Heap} {b : Bg} {k : Nat} {x qual : Str} {st : Stmt} {f c : Addr} {fd : FuncData} {N ps : List Str} {S : SV} {sp : Sp}
end
end VL
set_option Elab.async false
set_option linter.all false
set_option maxRecDepth 100000
set_option maxHeartbeats 4000000
/-! VL63: the law's head where the law makes lambdas; the jug as a background with tables -/
namespace VL
open PySem PySem.Spec PyProof.Rows L2
section
variable {P : Program} {w : World} {K : PySem.W.Frag} {mg : Str → Option Value} {base : Heap} {k k0 : Nat} {st : Stmt} {f fo c : Addr} {fd fdo : FuncData} {N : List Str}
end
/-! ### what is never reached -/
@[simp] def vNo : VT := fun _ _ _ => False
@[simp] def sNo : VS := fun _ _ => False
end VL
set_option Elab.async false
set_option linter.all false
set_option maxRecDepth 100000
set_option maxHeartbeats 4000000
/-! VL64: sorted(set(t)), t a tuple of ints -/
namespace VL
open PySem PySem.Spec PyProof.Rows L2
section
variable {X : Cx}
def tSortSet (K : PySem.W.Frag) (ta : TE) : TE := fun σ H Q => ta σ H fun x H1 => ∃ (l : Addr) (ns : List Int), x = V.ref l ∧ SqT K H1 l (ns.map V.int) ∧ ns.length < 63 ∧ ∀ (ks : List Int) (p : Addr), ks.Pairwise (· < ·) → (∀ j, j ∈ ks ↔ j ∈ ns) → H1 p = none → Q (.ref p) (upd H1 p (.lst (ks.map V.int)))
theorem pe_sortSet {a : Expr} {ta : TE} {p p2 q pos : Pos} (hc : X.calm = true) (hg : Gl X "sorted") (hm : X.mg "sorted" = none) (hg2 : Gl X "set") (hm2 : X.mg "set" = none) (ha : PE X a ta)
    (na : starEach [a] X.env = (false, eval a X.env) :: starEach [] X.env := by rfl) : PE X (.Call (.Name "sorted" p) [.Call (.Name "set" p2) [a] [] q] [] pos) (tSortSet X.K ta) := by
  refine ⟨fun pins s σ H Q I h => ?_⟩
  refine Call_ (ld_blt I hg hm bb_sorted ?_)
  refine PyProof.Rows.callWith_builtin1 (PyProof.Rows.args_cons ?_ rfl) rfl rfl
  refine Call_ (ld_blt I hg2 hm2 PyProof.Rows.boot_set ?_)
  refine PyProof.Rows.callWith_type1 (PyProof.Rows.args_cons (thn (ha.run pins s σ H _ I h) fun v s1 ⟨x, H1, I1, r1, q1⟩ => PyProof.Rows.args_nil ?_) na) na rfl
  obtain ⟨l, ns, rfl, hq, h1, q1⟩ := q1
  cases r1
  obtain ⟨its, r, pl, hz⟩ := I1.tuple hq
  refine call_set_tupI (P := X.prog) ns (I1.ok.hd hc) pl (by simpa using r.ints) (by unfold scanBound; omega) fun h' tk c hS hcn hk => ?_
  refine PyProof.Rows.args_nil ?_
  have I2 : Inv X pins σ H1 { s1 with heap := h', toks := tk } := I1.kept hk
  have R : SetR X.w ({ s1 with heap := h', toks := tk } : Shared).heap s1.heap.objs.size (fun j => decide (j ∈ ns)) c := hS
  generalize ({ s1 with heap := h', toks := tk } : Shared) = s3 at I2 R ⊢
  refine sorted_set R (I2.ok.hd hc) (by omega) fun s2 p out c2 ks k g o hp hgd hi hs hme hl => ?_
  have fresh : H1 p = none := I2.hok.fresh hp
  have size : (ks.map V.int).length ≤ sizeLine := by rw [List.length_map, szl]; omega
  have J : Inv X pins σ (upd H1 p (.lst (ks.map V.int))) { s3 with heap := s2.heap, gens := s2.gens, drawn := s2.drawn, toks := s2.toks } :=
    I2.call (ch := []) (Un.laid k hp fresh) (I2.hok.laid k hp ⟨size, out.toList, c2, vals_of_ints hi, hgd⟩) (by rw [g]; exact I2.bare) (fun _ z => nomatch z)
  have e : s2 = { s3 with heap := s2.heap, gens := s2.gens, drawn := s2.drawn, toks := s2.toks } := by
    cases s2
    cases s3
    cases o
    rfl
  rw [e]
  exact ⟨.ref p, _, J, rfl, q1 ks p hs (fun j => by rw [hme j]; simp) fresh⟩
end
@[simp] def vSortSet (t : VT) : VT := fun ρ Q E => t ρ (fun d => ∃ xs ns, d = .py (.tuple xs) ∧ allI xs = some ns ∧ ns.length < 63 ∧ ∀ ks : List Int, ks.Pairwise (· < ·) → (∀ j, j ∈ ks ↔ j ∈ ns) → Q (.py (.list (ks.map PyData.int)))) E
theorem ve_sortSet {X : Cx} {b : Bg} {W : WX} {a : Expr} {t : VT} {p p2 q pos : Pos} (hc : X.calm = true) (hg : Gl X "sorted") (hm : X.mg "sorted" = none) (hg2 : Gl X "set") (hm2 : X.mg "set" = none) (ha : VX X b W a t)
    (na : starEach [a] X.env = (false, eval a X.env) :: starEach [] X.env := by rfl) : VE X b W (.Call (.Name "sorted" p) [.Call (.Name "set" p2) [a] [] q] [] pos) (vSortSet t) :=
  pe_mono (pe_sortSet hc hg hm hg2 hm2 ha na) fun σ H Q ⟨Zo, Z, ρ, Qd, Ed, v, q, l, m⟩ => ⟨Zo, Z, ρ, _, Ed, v, q, fun x H1 d x1 g1 r1 ⟨xs, ns, ed, e, hl, q1⟩ => by
    subst ed
    obtain ⟨a, oa, us, rfl, ha, da, na, qa⟩ := r1.tuple
    rw [allI_of e] at qa
    have eu := qa.ints
    subst eu
    exact ⟨a, ns, rfl, SqT.th ha, hl, fun ks p h1 h2 hp => l _ _ (.py (.list (ks.map PyData.int))) (x1.trans (Ex.new hp)) (Bg.new g1 hp) (Rq.lst upd_same ((v.ex x1 g1).fresh hp) (Rqs.of_ints ks)) (q1 ks h1 h2)⟩, m⟩
end VL
set_option Elab.async false
set_option linter.all false
set_option maxRecDepth 100000
set_option maxHeartbeats 4000000
/-! VL65: t * k, k at least 1, of a tuple that is not empty -/
namespace VL
open PySem PySem.Spec PyProof.Rows L2
open AutoSeq1 (wpAny_loadPart')
section
variable {X : Cx}
end
section
variable {X : Cx} {b : Bg} {W : WX} {e1 e2 : Expr} {t1 t2 : VT} {pos : Pos}
@[simp] def gMulP : D → D → (D → Prop) → Prop
  | .py (.tuple xs), .py (.int k), Q => (xs ≠ [] ∧ 1 ≤ k ∧ k ≤ 1000 ∧ xs.length ≤ 1000) ∧ Q (.py (.tuple (List.replicate k.toNat xs).flatten))
  | _, _, _ => False
end
end VL
set_option Elab.async false
set_option linter.all false
set_option maxRecDepth 100000
set_option maxHeartbeats 4000000
/-! VL66: a caught error handed to a def that asks it -/
namespace VL
open PySem PySem.Spec PyProof.Rows L2
open L2H (PinOk RoomH cxH inv_startH)
abbrev SE := Er → (D → Prop) → Prop
def svE (a : Addr) (d : Option Addr) (er : Er) (S : SE) : SV := fun ds Q _ => ds = [.err a d er.n er.fs] ∧ S er Q
/-- what such a def promises: within a suite, of the error that is handled -/
structure FnE (P : Program) (w : World) (K : PySem.W.Frag) (mg : Str → Option Value) (base : Heap) (b : Bg) (k : Nat) (f : Addr) (fd : FuncData) (ps : List Str) (S : SE) : Prop where
  len : ps.length = 1
  run : ∀ (A : Around) (outer : List Env) (s : Shared) (H : Hp) (args : Args) (Q : VK) (p : Addr × Obj) (d : Option Addr) (er : Er), RoomH k A → A.handled = some (.ref p.1) → (∃ vs : Array Value, p.2.data = .fields vs) → Zc (.ref (b.cls er.n)) d p.2 → PinOk outer H s p →
    Env0 P w K mg base A outer s H → BindsTo s fd args (ps.zip [.ref p.1]) → spV b (svE p.1 d er S) [.ref p.1] H Q (fun _ _ _ => False) → codeAny (model P w) A (.call (.ref f) args) (CR (L2.CX P w) outer P w H s Q (fun _ _ _ => False)) s
section
variable {P : Program} {w : World} {K : PySem.W.Frag} {mg : Str → Option Value} {base : Heap} {b : Bg} {k : Nat} {x qual : Str} {st : Stmt} {f : Addr} {fd : FuncData} {N ps : List Str} {S : SE}
end
/-- a def that asks an error: all that its call wants -/
structure CalE (P : Program) (w : World) (K : PySem.W.Frag) (mg : Str → Option Value) (base : Heap) (b : Bg) (k : Nat) (x : Str) (ps : List Str) (S : SE) where
  f : Addr
  fd : FuncData
  F : FnE P w K mg base b k f fd ps S
  g : mg x = some (.ref f)
  kp : PySem.W.keepIn K (.ref f) = true
  bd : Binds K fd ps []
@[simp] def vCallE (a : Addr) (d : Option Addr) (er : Er) (i : Nat) (S : SE) : VT := fun ρ Q _ => ρ[i]? = some (.shr (.err a d er.n er.fs)) ∧ S er Q
section
variable {X : Cx} {b : Bg} {W : WX} {a : Addr} {oe : Obj} {er : Er} {d : Option Addr} {pn : List (Addr × Obj)} {i k : Nat} {x : Str} {ps : List Str} {S : SE} {e : Expr} {p pos : Pos}
end
end VL
set_option Elab.async false
set_option linter.all false
set_option maxRecDepth 100000
set_option maxHeartbeats 4000000
/-! VL67: the crank: a list of two numbers and a list -/
namespace VL
open PySem PySem.Spec PyProof.Rows L2
end VL
set_option Elab.async false
set_option linter.all false
set_option maxRecDepth 100000
set_option maxHeartbeats 4000000
/-! VL68: parameters ahead of a star; keyword-only parameters. -/
namespace VL
open PySem PySem.Spec PyProof.Rows L2
/-! ### def f(a, .., *v) -/
@[simp] def svStarN (n : Nat) (S : SV) : SV := fun ds Q E => n ≤ ds.length ∧ ∃ ps, pys (ds.drop n) = some ps ∧ ps.length ≤ sizeLine ∧ S (ds.take n ++ [.py (.tuple ps)]) Q E
section
variable {CX : CXT} {P : Program} {w : World} {K : PySem.W.Frag} {mg : Str → Option Value} {base : Heap} {k : Nat} {f : Addr} {name qual : Str} {params : Arguments} {body : List Stmt} {scope : Scope} {dV kV doc pm cdv ct oc : Value} {an od : Option Addr}
  {osl : Array (Option Value)} {N ps : List Str} {sp : Sp}
end
section
variable {P : Program} {w : World} {K : PySem.W.Frag} {mg : Str → Option Value} {base : Heap} {b : Bg} {k : Nat} {x qual pv : Str} {st : Stmt} {f : Addr} {fd : FuncData} {N ps : List Str} {S : SV}
end
/-! ### def f(a, .., *, k=c) -/
structure CalW (P : Program) (w : World) (K : PySem.W.Frag) (mg : Str → Option Value) (base : Heap) (b : Bg) (k : Nat) (x : Str) (ps : List Str) (kn : Str) (dv : PyData) (S : SV) where
  f : Addr
  fd : FuncData
  F : FnOk P w K mg base (L2.CX P w) k f fd (ps ++ [kn]) (spV b S)
  g : mg x = some (.ref f)
  kp : PySem.W.keepIn K (.ref f) = true
  b0 : ∃ v ds, Vals [v] ds ∧ Binds K fd (ps ++ [kn]) ds ∧ ∀ Z H, Rq Z H v dv
  b1 : KBn K fd (ps ++ [kn]) ps.length [kn] (fun us ws => us ++ ws) (fun vs zs => vs ++ zs)
@[simp] def svW (dv : PyData) (S : SV) : SV := fun ds Q E => S (ds ++ [.py dv]) Q E
@[simp] def vCallW (S : SV) (u : VA) (t : VT) : VT := fun ρ Q E => u ρ (fun ds => t ρ (fun d => S (ds ++ [d]) Q E) E) E
section
variable {X : Cx} {b : Bg} {W : WX} {k j : Nat} {x kn : Str} {ps : List Str} {dv : PyData} {S : SV} {e e2 : Expr} {es : List Expr} {u : VA} {t : VT} {p pos kpos : Pos}
end
end VL
set_option Elab.async false
set_option linter.all false
set_option maxRecDepth 100000
set_option maxHeartbeats 4000000
/-! VL69: text.index(text) -/
namespace VL
open PySem PySem.Spec PyProof.Rows L2
@[simp] def gTIndex : D → List D → (D → Prop) → Prop
  | .py (.str a), [.py (.str b)], Q => ∃ i rest, Builtin.Str.occurrences a b 0 a.length 1 = i :: rest ∧ Q (.py (.int (i : Nat)))
  | _, _, _ => False
/-! ### x is True where x may be None -/
@[simp] def gIsBn : D → D → (D → Prop) → Prop
  | .py (.bool a), .py (.bool b), Q => Q (.py (.bool (decide (a = b))))
  | .py .none, .py (.bool _), Q => Q (.py (.bool false))
  | _, _, _ => False
section
variable {X : Cx} {b : Bg} {W : WX} {e1 e2 : Expr} {t1 t2 : VT} {pos : Pos}
end
end VL
set_option Elab.async false
set_option linter.all false
set_option maxRecDepth 100000
set_option maxHeartbeats 4000000
/-! VL70: max, min of a tuple of ints -/
namespace VL
open PySem PySem.Spec PyProof.Rows L2
section
variable {X : Cx}
end
@[simp] def gMaxT : List D → (D → Prop) → Prop
  | [.py (.tuple xs)], Q => ∃ ns, allI xs = some ns ∧ ns ≠ [] ∧ Q (.py (.int (maxL ns)))
  | _, _ => False
@[simp] def gMinT : List D → (D → Prop) → Prop
  | [.py (.tuple xs)], Q => ∃ ns, allI xs = some ns ∧ ns ≠ [] ∧ Q (.py (.int (minL ns)))
  | _, _ => False
section
variable {X : Cx} {b : Bg} {W : WX} {e : Expr} {es : List Expr} {u : VA} {p pos : Pos} {t : VT}
end
end VL
set_option Elab.async false
set_option linter.all false
set_option maxRecDepth 100000
set_option maxHeartbeats 4000000
/-! VL71: a list comprehension whose items may raise -/
namespace VL
open PySem PySem.Spec PyProof.Rows L2
theorem noteFrame_congr {e : Value} {x y : Env} (h : x.frame = y.frame) : noteFrame e x = noteFrame e y := by
  unfold noteFrame PySem.frameOf
  rw [h]
theorem hide1 {B : Heap} {C b : Addr} {o : Obj} (e : B.get? b = some o) (n : b ≠ C) : (PySem.W.hideAll B [C]).get? b = some o := PySem.W.hideAll_get _ e (by simpa using n)
theorem of_hide1 {B : Heap} {C b : Addr} {o : Obj} (e : (PySem.W.hideAll B [C]).get? b = some o) : B.get? b = some o ∧ b ≠ C := ⟨PySem.W.of_hideAll _ e, fun q => by
  rw [q, PySem.W.hideAll_none _ (by simp)] at e
  cases e⟩
/-- an exception of a call within the block leaves the block -/
theorem xe_block {X : Cx} {W : WX} (hs : X.stack = X.env :: X.outer) (hf : X.env.frame = some X.env.locals) (tk : Takes X W) {pins : List (Addr × Obj)} {σ : L2.St} {H : Hp} {s : Shared} {C : Addr} (I : Inv X pins σ H s) (hC : FpOk X pins H C) (hCd : ∃ m, s.heap.Ns C m)
    {E0 : XK} (hW : ∀ cls d H', E0 cls d H' → W cls d σ H') {u : Value} {s' : Shared} (c : L2.CX X.prog X.w X.stack H s E0 u s') {ce : Env} (e1 : ce.frame = X.env.frame) :
    notedBy (model X.prog X.w) X.A ce (fun x s'' => ∃ m, s''.heap.Ns C m ∧ ∀ h', Heap.SameBut C s''.heap h' → wpAny (model X.prog X.w) X.A (PySem.passOn "comprehension.variables-let-go" x ce : Sem Value) (fun _ _ => False) X.xe { s'' with heap := h' }) u s' := by
  obtain ⟨a, B, H', cls, d, rfl, fl, hok, ub, na, os, ag, hE⟩ := c
  have hfr : X.A.frames = some (X.env :: X.outer) := by rw [I.ok.frames, hs]
  have hCs : C ∉ frs X.stack := by
    rw [hs]
    show C ∉ (X.env :: X.outer).filterMap (·.frame)
    rw [List.filterMap_cons, hf]
    intro hm
    rcases List.mem_cons.mp hm with z | z
    · exact hC.2.1 z
    · exact hC.2.2.1 z
  have fl2 := fl
  rw [hs] at fl2
  show wpAny _ _ (noteFrame (.ref a) ce) _ _ s'
  rw [noteFrame_congr e1]
  refine HandSPX.looks_onZ Zc.steady hfr hf fl2 fun h1 held up1 => ?_
  obtain ⟨m, oC, es, ep, hoC, hdC, rC⟩ := hCd
  have hBC : B.get? C = some oC := ub.keep C oC hoC hC.1 hCs
  have hHC : H' C = none := ub.free C oC hoC hC.1
  refine ⟨m, ⟨oC, es, ep, held.1 C oC hBC, hdC, rC⟩, fun h2 sb => ?_⟩
  -- the ground without the block's own names
  have held2 : HandSPX.HeldZ (PySem.W.hideAll B [C]) (X.env :: X.outer) a (Zc cls d) X.env.locals h2 := by
    obtain ⟨k1, k2, k3, oe, vs, T, oT, ts, he, hz, hd, hv1, hnT, hTe, hT, hdT, h3⟩ := held
    have nf : ∀ b o vs, h1.get? b = some o → o.data = .fields vs → b ≠ C := fun b o vs e q z => by
      rw [z, k1 C oC hBC] at e
      cases e
      rw [hdC] at q
      cases q
    have hn : ∀ b, B.get? b = none → (PySem.W.hideAll B [C]).get? b = none := fun b q => by
      cases z : (PySem.W.hideAll B [C]).get? b with
      | none => rfl
      | some o => rw [(of_hide1 z).1] at q; cases q
    refine ⟨fun b o e => ?_, hn a k2, ?_, oe, vs, T, oT, ts, (sb.2 a (nf a oe vs he hd)).trans he, hz, hd, hv1, hn T hnT, hTe, (sb.2 T (nf T oT ts hT hdT)).trans hT, hdT, h3⟩
    · obtain ⟨e, n⟩ := of_hide1 e
      exact (sb.2 b n).trans (k1 b o e)
    · have go : ∀ l : List Env, (∀ L ∈ l.filterMap (·.frame), L ≠ C) → h1.FunFrames B l → h2.FunFrames (PySem.W.hideAll B [C]) l := by
        intro l
        induction l with
        | nil => intro _ _; trivial
        | cons en l ih =>
          intro hne ⟨f1, ⟨L, o, f2, f3, f4, f5⟩, f6⟩
          have hL : L ≠ C := hne L (by rw [List.filterMap_cons, f2]; exact List.mem_cons_self)
          exact ⟨f1, ⟨L, o, f2, hn L f3, (sb.2 L hL).trans f4, f5⟩, ih (fun L hm => hne L (by rw [List.filterMap_cons, f2]; exact List.mem_cons_of_mem _ hm)) f6⟩
      refine go _ (fun L hm z => hCs ?_) k3
      rw [hs, ← z]
      exact hm
  have hx := held2
  obtain ⟨_, _, _, oe, vs, T, oT, ts, he, hz, hd, hv1, hnT, hTe, hT, hdT, h3⟩ := hx
  unfold PySem.passOn
  refine wpAny_bind (wpAny_field he hd hv1 ?_)
  rw [if_neg (by simp)]
  rw [e1, hf]
  refine wpAny_bind (HandSPX.setFlight_onZ held2 fun h4 held4 up4 => ?_)
  refine wpAny_throw (tk _ _ ?_)
  obtain ⟨G, g1, g2⟩ := restrict h4 fun b => ((PySem.W.hideAll B [C]).get? b).isSome || decide (b ∈ frs X.stack)
  have st : (PySem.W.hideAll B [C]).StaysIn h4 := held4.1
  have gB : ∀ b o, (PySem.W.hideAll B [C]).get? b = some o → G.get? b = some o := fun b o e => by
    rw [g1 b (by simp [e])]
    exact st b o e
  have gF : ∀ b, b ∈ frs X.stack → G.get? b = h4.get? b := fun b hb => g1 b (by simp [hb])
  have og : ∀ b o, G.get? b = some o → h4.get? b = some o ∧ (((PySem.W.hideAll B [C]).get? b).isSome = true ∨ b ∈ frs X.stack) := fun b o e => by
    cases q : (((PySem.W.hideAll B [C]).get? b).isSome || decide (b ∈ frs X.stack)) with
    | false => rw [g2 b q] at e; cases e
    | true =>
      rw [g1 b q] at e
      exact ⟨e, by simpa [Bool.or_eq_true] using q⟩
  have fr4 : ∀ b o, s.heap.get? b = some o → b ∈ frs X.stack → ∃ sl, h4.get? b = some { o with slots := sl } := fun b o e hb => by
    obtain ⟨_, o0, e0, hnf⟩ := I.stack.mem hb
    rw [e] at e0; cases e0
    obtain ⟨sl, q⟩ := ub.slot b o e hb
    obtain ⟨sl2, q2⟩ := up1 b _ q hnf
    have q3 := (sb.2 b fun z => hCs (by rw [← z]; exact hb)).trans q2
    obtain ⟨sl3, q4⟩ := up4 b _ q3 hnf
    exact ⟨sl3, q4⟩
  refine ⟨a, PySem.W.hideAll B [C], { s with heap := G, gens := s'.gens, drawn := s'.drawn, toks := s'.toks }, pins, σ, H', cls, d, rfl, ?_, fun b o e hb => ?_, Heap.UpToSlots.of_keeps fun b o e => (og b o e).1, .inr (.inr (by rw [hs]; exact held4)), na, os, ag, hW _ _ _ hE⟩
  · refine I.call (ch := [C]) ⟨fun b o e n hb hc => gB b o (hide1 (ub.keep b o e n hb) (by simpa using hc)), fun b o e n hb _ => ?_, fun b o e n _ => ub.free b o e n, fun b o e hc => ?_, ub.tups, ub.frzs, ub.tbls⟩ ?_ ag (fun b z => ?_)
    · obtain ⟨sl, q⟩ := fr4 b o e hb
      exact ⟨sl, by rw [gF b hb]; exact q⟩
    · by_cases hb : b ∈ frs X.stack
      · obtain ⟨sl, q⟩ := fr4 b o e hb
        exact ⟨_, by rw [gF b hb]; exact q⟩
      · obtain ⟨o', q⟩ := ub.there b o e hb
        exact ⟨o', gB b o' (hide1 q (by simpa using hc))⟩
    · intro b o q
      refine (hok b o q).stay (fun c v hc r => gB c v (hide1 r fun z => ?_)) (fun _ r => r) fun _ _ r => r
      rcases hc with hc | hc
      · rw [← hc, z, hHC] at q; cases q
      · rw [z, hHC] at hc; cases hc
    · rw [List.mem_singleton.mp z]
      exact ⟨hC.2.2.2.1, hC.2.1, hC.2.2.2.2.1, hC.2.2.2.2.2⟩
  · obtain ⟨e', h⟩ := og b o e
    rcases h with h | h
    · obtain ⟨o', q⟩ := Option.isSome_iff_exists.mp h
      have z := st b o' q
      rw [e'] at z; cases z
      exact q
    · exact absurd h hb
end VL
namespace VL
open PySem PySem.Spec PyProof.Rows L2
section
variable {M : Model} {A : Around} {E : Value → Shared → Prop} {s : Shared} {env : Env}
/-- behind the block: as it ended; an error knows the block's own environment -/
def postE (M : Model) (A : Around) (E : Value → Shared → Prop) (use : Option (Value → Sem Unit)) (Q : Value → Shared → Prop) (acc : Value) (ce : Env) (r : Result) (s' : Shared) : Prop :=
  match r with
  | .ok f => compPost M A E use Q acc ce.locals (.ok f) s'
  | .error x => ∃ m, s'.heap.Ns ce.locals m ∧ ∀ h', Heap.SameBut ce.locals s'.heap h' → wpAny M A (PySem.passOn "comprehension.variables-let-go" x ce : Sem Value) (fun _ _ => False) E { s' with heap := h' }
theorem comp_freeE {e : Expr} {scope : Scope} {pos : Pos} {newAcc first : Sem Value} {g : Comprehension} {gs : List Comprehension} {cl : List (Str × Addr)} {use : Option (Value → Sem Unit)} {Q : Value → Shared → Prop}
    (hcl : clausesOf e = g :: gs) (hs : ∀ x, foldedSetIterable g.iter env x = pure x) (hclos : closureFor scope env = pure cl)
    (hkind : scope.kind = .function) (hnames : ∀ x ∈ scope.names, x.2 = .local → scope.names.lookup x.1 = some .local)
    (h : wpAny M A first (fun x s₁ => wpAny M A (pyIter x) (fun it s₂ => wpAny M A newAcc (fun acc s₃ =>
      wpAny M A (newFunctionEnv scope env.globals cl [] env.qual none .none (some env)) (fun cenv s₄ =>
        codeAny M A (.compStart e 0 it acc { cenv with scope := relabel scope env }) (postE M A E use Q acc { cenv with scope := relabel scope env }) s₄) E s₃) E s₂) E s₁) E s) :
    wpAny M A (comprehension e scope env pos newAcc false first use) Q E s := by
  unfold comprehension
  rw [hclos, hcl]
  refine wpAny_bind (wpAny_mono h (fun x s₁ h₁ => wpAny_bind (wpAny_standAt (wpAny_bind (wpAny_of_eq (hs x) (wpAny_bind (wpAny_holding (wpAny_mono h₁ (fun it s₂ h₂ =>
    wpAny_standIf (wpAny_bind (wpAny_mono h₂ (fun acc s₃ h₃ => wpAny_bind (wpAny_pure (wpAny_bind (wpAny_mono h₃ (fun cenv s₄ h₄ => ?_) fun _ _ h' => h')))) fun _ _ h' => h')))
      fun _ _ h' => h'))))))) fun _ _ h' => h')
  dsimp only
  have hv : ∀ x ∈ (scope.names.filter fun x => (x.2 == .local || x.2 == .cell) && x.1 != (".0" : Str)).reverse, x.2 = .local →
      Env.kindOf { cenv with scope := relabel scope env } x.1 = some .local := fun x hx hl => lookup_relabel_local (hnames x (List.mem_filter.mp (List.mem_reverse.mp hx)).1 hl)
  have hv' : ∀ x ∈ (scope.names.filter fun x => (x.2 == .local || x.2 == .cell) && x.1 != (".0" : Str)).reverse.drop 1 ++ (scope.names.filter fun x => (x.2 == .local || x.2 == .cell) && x.1 != (".0" : Str)).reverse.take 1,
      x.2 = .local → Env.kindOf { cenv with scope := relabel scope env } x.1 = some .local := fun x hx hl => by
    rcases List.mem_append.mp hx with h1 | h1
    · exact hv x (List.mem_of_mem_drop h1) hl
    · exact hv x (List.mem_of_mem_take h1) hl
  refine wpAny_holding (wpAny_bind (wpAny_attempt (wpAny_holding (wpAny_run (codeAny_mono h₄ fun r s' hr => ?_)))))
  cases r with
  | ok f =>
    have hr : compPost M A E use Q acc cenv.locals (.ok f) s' := hr
    cases use with
    | none =>
      obtain ⟨m, hn, hr⟩ := hr
      exact wpAny_bind (wpAny_holding (wpAny_comp_letGo (cenv := { cenv with scope := relabel scope env }) hkind _ s' m hv hn fun h' m' _ hs' => wpAny_pure (hr h' hs')))
    | some u =>
      refine wpAny_bind (wpAny_rule (wpAny_bind (wpAny_holding (wpAny_mono hr (fun _ s'' hr' => ?_) fun _ _ h' => h'))))
      obtain ⟨m, hn, hr'⟩ := hr'
      exact wpAny_bind (wpAny_comp_letGo (cenv := { cenv with scope := relabel scope env }) hkind _ s'' m hv' hn fun h' m' _ hs' => wpAny_pure (hr' h' hs'))
  | error x =>
    obtain ⟨m, hn, hr⟩ := hr
    exact wpAny_bind (wpAny_holding (wpAny_comp_letGo (cenv := { cenv with scope := relabel scope env }) hkind _ s' m hv hn fun h' m' _ hs' => wpAny_mono (hr h' hs') (fun _ _ f => f.elim) fun _ _ y => y))
end
end VL
namespace VL
open PySem PySem.Spec PyProof.Rows L2
section
variable {X : Cx}
end
end VL
namespace VL
open PySem PySem.Spec PyProof.Rows L2
section
variable {X : Cx}
end
/-! ### over values -/
@[simp] def lcGoE (g : VTg) (tt : VB) (te : VT) (Q : D → Prop) (E : Er → Prop) : List D → List PyData → VEnv → Prop
  | [], acc, _ => Q (.py (.list acc))
  | d :: ds, acc, ρ => g d ρ fun ρ1 => tt ρ1 (fun k => if k = true then te ρ1 (fun y => ∃ p, y = .py p ∧ acc.length < sizeLine ∧ lcGoE g tt te Q E ds (acc ++ [p]) ρ) E else lcGoE g tt te Q E ds acc ρ) noE
@[simp] def vLcE (vs : List Nat) (ti : VIt) (g : VTg) (tt : VB) (te : VT) : VT := fun ρ Q E => noOwn ρ vs ∧ ti ρ (fun ds => lcGoE g tt te Q E ds [] (wipeE ρ vs)) E
section
variable {b : Bg} {W : WX} {ti : VIt} {js : List Nat} {g : VTg} {tt : VB} {te : VT} {vs : List Nat}
end
section
variable {X : Cx} {b : Bg} {W : WX} {tg iter elt c : Expr} {ifs : List Expr} {scope : Scope} {own : List (Str × Nat)} {pos spos py p : Pos} {ti : VIt} {js : List Nat} {g : VTg} {tt : VB} {te : VT} {i : Nat} {y : Str}
end
end VL
set_option Elab.async false
set_option linter.all false
set_option maxRecDepth 100000
set_option maxHeartbeats 4000000
/-! VL72: own objects: fields, __init__, methods -/
namespace VL
open PySem PySem.Spec PyProof.Rows L2
/-! ### fields -/
@[simp] def gFld (n f : Str) : D → (D → Prop) → Prop
  | .obj _ m fs, Q => m = n ∧ ∃ p, fs.lookup f = some p ∧ Q (.py p)
  | _, _ => False
/-- the field f is p from now on -/
@[simp] def putFD (f : Str) (p : PyData) : List (Str × PyData) → List (Str × PyData)
  | [] => [(f, p)]
  | (g, x) :: r => if g = f then (g, p) :: r else (g, x) :: putFD f p r
section
variable {X : Cx} {b : Bg} {W : WX} {e o : Expr} {n f : Str} {t : VT} {pos pos' : Pos} {i : Nat}
@[simp] def sFldS (i : Nat) (n f : Str) (t : VT) : VS := fun ρ De => t ρ (fun d => ∃ p a fs, d = .py p ∧ ρ[i]? = some (.own (.obj a n fs)) ∧ fs.length < 1000 ∧ De.nx (ρ.set i (.own (.obj a n (putFD f p fs))))) (De.ex ρ)
end
/-! ### what an __init__ promises -/
abbrev SI := List D → (List (Str × PyData) → Prop) → (Er → Prop) → Prop
def spI (b : Bg) (n : Str) (S : SI) : Sp := fun vs H Q E => ∃ (x dx : Addr) (vs' : List V) (Z : Addr → Prop) (ds : List D) (Qd : List (Str × PyData) → Prop) (Ed : Er → Prop), vs = .ref x :: vs' ∧ H x = some (.ins (b.cls n) dx []) ∧ Gd b Z H ∧ ¬ Z x ∧ Rps b (fun c => Z c ∨ c = x) H vs' ds ∧ S ds Qd Ed ∧
  (∀ H' fs, (∀ a o, H a = some o → ¬ b.B a → a ≠ x → H' a = some o) → b.G H' → Ow b (fun c => Z c ∨ c = x) H' x (.obj x n fs) → Qd fs → Q .non H') ∧
  ∀ c d H' er, (∀ a o, H a = some o → ¬ b.B a → a ≠ x → H' a = some o) → b.G H' → ErRp b Z H' c d er → Ed er → E c d H'
@[simp] def envI (x : Addr) (n : Str) (N : Nat) (ds : List D) : VEnv := .own (.obj x n []) :: envOf (N - 1) ds
@[simp] def finI (x : Addr) (n : Str) (Q : List (Str × PyData) → Prop) (E : Er → Prop) : VEnds := { nx := fun ρ => ∃ fs, ρ[0]? = some (.own (.obj x n fs)) ∧ Q fs, rt := fun _ => False, bk := fun _ => False, ct := fun _ => False, ex := fun _ => E }
section
variable {P : Program} {w : World} {K : PySem.W.Frag} {mg : Str → Option Value} {base : Heap} {b : Bg} {k : Nat} {x qual n : Str} {st : Stmt} {f : Addr} {fd : FuncData} {N ps : List Str} {S : SI}
end
/-! ### n(..) -/
section
variable {X : Cx} {CX : CXT} {k : Nat} {f C : Addr} {fd : FuncData} {ps : List Str} {sp : Sp} {dvs : List V} {ds : List Value} {E : L2.St → XK} {x m : Str} {p pos apos : Pos} {e o : Expr} {es : List Expr} {ta : TE} {t : TA}
end
structure CalI (P : Program) (w : World) (K : PySem.W.Frag) (mg : Str → Option Value) (base : Heap) (b : Bg) (k : Nat) (n : Str) (ps : List Str) (S : SI) where
  f : Addr
  fd : FuncData
  F : FnOk P w K mg base (L2.CX P w) k f fd ps (spI b n S)
  M : Mk K (b.cls n) f
  g : mg n = some (.ref (b.cls n))
  bd : Binds K fd ps []
structure CalM (P : Program) (w : World) (K : PySem.W.Frag) (mg : Str → Option Value) (base : Heap) (b : Bg) (k : Nat) (n m : Str) (ps : List Str) (S : SV) where
  f : Addr
  fd : FuncData
  F : FnOk P w K mg base (L2.CX P w) k f fd ps (spV b S)
  c : Cls K (b.cls n)
  m : Meth K (b.cls n) m f
  bd : Binds K fd ps []
@[simp] def vMake (n : Str) (S : SI) (u : VA) : VT := fun ρ Q E => u ρ (fun ds => S ds (fun fs => ∀ a, Q (.obj a n fs)) E) E
@[simp] def vMeth (n m : Str) (S : SV) (t : VT) (u : VA) : VT := fun ρ Q E => t ρ (fun d => ∃ a fs, d = .obj a n fs ∧ fs.lookup m = none ∧ u ρ (fun ds => S (d :: ds) Q E) E) E
section
variable {X : Cx} {b : Bg} {W : WX} {k j : Nat} {n m : Str} {ps : List Str} {S : SV} {SJ : SI} {e o : Expr} {es : List Expr} {u : VA} {t : VT} {p pos apos : Pos}
end
/-! ### the class's facts, for the join -/
end VL
set_option Elab.async false
set_option linter.all false
set_option maxRecDepth 100000
set_option maxHeartbeats 4000000
/-! VL73: a, b, .. = a list -/
namespace VL
open PySem PySem.Spec PyProof.Rows L2
section
variable {X : Cx} {b : Bg} {pos : Pos}
@[simp] def tgUnl (n : Nat) (u : VTgs) : VTg
  | .py (.list ps), ρ, Q => ps.length = n ∧ u (ps.map D.py) ρ Q
  | _, _, _ => False
end
end VL
set_option Elab.async false
set_option linter.all false
set_option maxRecDepth 100000
set_option maxHeartbeats 4000000
/-! VL74: a dict beside a text -/
namespace PySem
open PySem.Spec PyProof.Rows PySem.SeqAt
open Sem (wp)
end PySem
namespace VL
open PySem PySem.Spec PyProof.Rows L2
section
variable {X : Cx} {b : Bg} {W : WX} {e1 e2 : Expr} {t1 t2 : VT} {pos : Pos}
/-- .. a text on the right; a dict is no text -/
@[simp] def gEqT : D → D → (D → Prop) → Prop
  | .py (.dict _), .py (.str _), Q => Q (.py (.bool false))
  | x, y, Q => gEq x y Q
@[simp] def gNeT : D → D → (D → Prop) → Prop
  | .py (.dict _), .py (.str _), Q => Q (.py (.bool true))
  | x, y, Q => gNe x y Q
end
end VL
set_option Elab.async false
set_option linter.all false
set_option maxRecDepth 100000
set_option maxHeartbeats 4000000
/-! VL75: the cells: a list of a list (that stands still) and two numbers -/
namespace VL
open PySem PySem.Spec PyProof.Rows L2
section
variable {X : Cx} {e : Expr} {t : TE}
end
end VL
set_option Elab.async false
set_option linter.all false
set_option maxRecDepth 100000
set_option maxHeartbeats 4000000
/-! VL76: sorted of a list of texts, any number of them -/
namespace VL
open PySem PySem.Spec PyProof.Rows L2
/-- the order of texts -/
def ltT (a b : Str) : Bool := ltCps a.cps.toList b.cps.toList
def sortSt (L : List Str) : List Str := L.mergeSort fun a b => !ltT b a
section
variable {X : Cx}
end
@[simp] def gSortedS : List D → (D → Prop) → Prop
  | [.py (.list xs)], Q => ∃ L : List Str, xs = L.map PyData.str ∧ Q (.py (.list ((sortSt L).map PyData.str)))
  | _, _ => False
section
variable {X : Cx} {b : Bg} {W : WX} {e : Expr} {es : List Expr} {u : VA} {p pos : Pos}
end
end VL
set_option Elab.async false
set_option linter.all false
set_option maxRecDepth 100000
set_option maxHeartbeats 4000000
/-! VL77: len(set(l)), l a list of ints -/
namespace VL
open PySem PySem.Spec PyProof.Rows L2
section
variable {X : Cx}
end
@[simp] def vLenSetL (t : VT) : VT := fun ρ Q E => t ρ (fun d => ∃ xs ns, d = .py (.list xs) ∧ allI xs = some ns ∧ ns.length < 4095 ∧ ∀ ks : List Int, ks.Nodup → (∀ j, j ∈ ks ↔ j ∈ ns) → Q (.py (.int (ks.length : Nat)))) E
end VL
set_option Elab.async false
set_option linter.all false
set_option maxRecDepth 100000
set_option maxHeartbeats 4000000
/-! VL78: list(zip(a, b)), tuple(zip(a, b)) of two lists or of two tuples -/
namespace VL
open PySem PySem.Spec PyProof.Rows L2
section
variable {prog : Program} {w : World} {A : Around} {E : Value → Shared → Prop} {s : Shared}
end
/-! ### the walk to its end -/
section
variable {prog : Program} {w : World} {A : Around} {E : Value → Shared → Prop} {s : Shared}
end
section
variable {prog : Program} {w : World} {A : Around} {s : Shared} {R : Result → Shared → Prop}
end
section
variable {prog : Program} {w : World} {A : Around} {E : Value → Shared → Prop} {s : Shared} {R : Result → Shared → Prop}
end
end VL
set_option Elab.async false
set_option linter.all false
set_option maxRecDepth 100000
set_option maxHeartbeats 4000000
/-! VL79: list(zip(a, b)) over values -/
namespace VL
open PySem PySem.Spec PyProof.Rows L2
section
variable {X : Cx}
end
/-! ### over values -/
@[simp] def gLstZ : List D → (D → Prop) → Prop
  | [.py (.list xs), .py (.list ys)], Q => xs.length = ys.length ∧ Q (.py (.list (zip2P xs ys)))
  | [.py (.tuple xs), .py (.tuple ys)], Q => xs.length = ys.length ∧ Q (.py (.list (zip2P xs ys)))
  | _, _ => False
end VL
set_option Elab.async false
set_option linter.all false
set_option maxRecDepth 100000
set_option maxHeartbeats 4000000
/-! VL80: a comprehension over a dict that stands still meanwhile -/
namespace VL
open PySem PySem.Spec PyProof.Rows L2
end VL
set_option Elab.async false
set_option linter.all false
set_option maxRecDepth 100000
set_option maxHeartbeats 4000000
/-! VL81: [.. for k, v in d.items()], [.. for k in d], d a shared dict of plain values -/
namespace VL
open PySem PySem.Spec PyProof.Rows L2
@[simp] def leafB : PyData → Bool
  | .list _ => false
  | .tuple _ => false
  | .dict _ => false
  | _ => true
/-- a dict that is locked -/
def dF (ds : List (PyData × PyData)) : Abs where
  R := fun Z H a => ∃ o kvs, H a = some (.frz o (.dK kvs)) ∧ Rqk Z H kvs ds ∧ ∀ p ∈ ds, leafB p.2 = true
  at_ := fun ⟨o, kvs, h, _⟩ => ⟨_, h⟩
  noext := fun ⟨o, kvs, h, _⟩ u hu e => by rw [h] at e; cases e; exact hu
  mono := fun hz hs ha ⟨o, kvs, h, r, l⟩ => ⟨o, kvs, ha _ h, r.mono hz hs, l⟩
def itemsP (ds : List (PyData × PyData)) : List PyData := ds.map fun p => .tuple [p.1, p.2]
@[simp] def iIt (j : Nat) : VIt := fun ρ Q _ => ∃ ds, ρ[j]? = some (.shr (.abs (dF ds))) ∧ Q ((itemsP ds).map D.py)
@[simp] def iKy (j : Nat) : VIt := fun ρ Q _ => ∃ ds, ρ[j]? = some (.shr (.abs (dF ds))) ∧ Q ((ds.map fun p => p.1).map D.py)
section
variable {b : Bg} {Y Z : Addr → Prop} {H : Hp} {d : Addr} {o : Obj} {kvs : List (Key × V)} {ds : List (PyData × PyData)}
end
section
variable {X : Cx} {b : Bg} {W : WX} {e f : Expr} {j : Nat} {ty : VT} {ap cp tp pos : Pos} {tgs : List Expr} {n0 : Nat} {tg : Expr}
/-- d[k] of the locked dict -/
@[simp] def vDIxF (j : Nat) (ty : VT) : VT := fun ρ Q E => ∃ ds, ρ[j]? = some (.shr (.abs (dF ds))) ∧ ty ρ (fun y => ∃ k kk x, y = .py k ∧ keyOf k = some kk ∧ getD ds kk = some x ∧ Q (.py x)) E
end
end VL
set_option Elab.async false
set_option linter.all false
set_option maxRecDepth 100000
set_option maxHeartbeats 4000000
/-! VL82: a dict is locked while an expression that makes something new is evaluated -/
namespace VL
open PySem PySem.Spec PyProof.Rows L2
@[simp] def flatS : Slot → Slot
  | .shr (.py p) => if leafB p = true then .shr (.py p) else .un
  | .shr (.raw v) => .shr (.raw v)
  | _ => .un
@[simp] def flatE (ds : List (PyData × PyData)) : Nat → VEnv → VEnv
  | _, [] => []
  | 0, _ :: r => .shr (.abs (dF ds)) :: r.map flatS
  | j + 1, s :: r => flatS s :: flatE ds j r
section
variable {Z : Addr → Prop} {H : Hp} {d : Addr} {od : Obj} {kvs : List (Key × V)} {u : HO}
end
@[simp] def vLock (j : Nat) (t : VT) : VT := fun ρ Q _ => ∃ ds, ρ[j]? = some (.shr (.py (.dict ds))) ∧ (∀ p ∈ ds, leafB p.2 = true) ∧ t (flatE ds j ρ) (fun d => (∃ xs, d = .py (.list xs)) ∧ Q d) noE
end VL
set_option Elab.async false
set_option linter.all false
set_option maxRecDepth 100000
set_option maxHeartbeats 4000000
/-! VL83: two fields set from a pair; a dict of one number; a range that counts down -/
namespace VL
open PySem PySem.Spec PyProof.Rows L2
section
variable {X : Cx} {b : Bg} {W : WX} {e o o2 : Expr} {n f1 f2 : Str} {t : VT} {pos : Pos} {i : Nat}
@[simp] def sFld2 (i : Nat) (n f1 f2 : Str) (t : VT) : VS := fun ρ De => t ρ (fun d => ∃ p1 p2 a fs, d = .py (.tuple [p1, p2]) ∧ ρ[i]? = some (.own (.obj a n fs)) ∧ fs.length + 1 < 1000 ∧ De.nx (ρ.set i (.own (.obj a n (putFD f2 p2 (putFD f1 p1 fs)))))) (De.ex ρ)
end
/-! ### a dict of one number -/
@[simp] def vDI (t : VT) (j : Int) : VT := fun ρ Q E => t ρ (fun d => ∃ i, d = .py (.int i) ∧ Q (.py (.dict [(.int i, .int j)]))) E
/-! ### range(i, j, -1) -/
def rangeD (i : Int) (n : Nat) : List PyData := (List.range n).map fun (k : Nat) => PyData.int (i - k)
@[simp] def asR3 : List D → (List D → Prop) → Prop
  | [.py (.int i), .py (.int j), .py (.int k)], Q => k = -1 ∧ (small62 i ∧ small62 j) ∧ Q ((rangeD i (i - j).toNat).map D.py)
  | _, _ => False
@[simp] def iR3 (t : VA) : VIt := fun ρ Q E => t ρ (fun d => asR3 d Q) E
section
variable {X : Cx} {b : Bg} {W : WX} {tg e1 e2 e3 : Expr} {ta : VA} {p pos : Pos} {Y Z : Addr → Prop} {H : Hp}
end
end VL
set_option Elab.async false
set_option linter.all false
set_option maxRecDepth 100000
set_option maxHeartbeats 4000000
/-! VL84: list(d.values()) -/
namespace VL
open PySem PySem.Spec PyProof.Rows L2
@[simp] def gVals : D → (D → Prop) → Prop
  | .py (.dict ds), Q => Q (.py (.list (ds.map (·.2))))
  | _, _ => False
end VL
set_option Elab.async false
set_option linter.all false
set_option maxRecDepth 100000
set_option maxHeartbeats 4000000
/-! VL85: sorted(d.items()), numbers for keys and values -/
namespace VL
open PySem PySem.Spec PyProof.Rows L2
section
variable {prog : Program} {w : World} {A : Around} {s : Shared} {E : Value → Shared → Prop}
def prV (p : Int × Int) : List Int := [p.1, p.2]
end
section
variable {X : Cx}
end
/-! ### over values -/
@[simp] def gSrtIt : D → (D → Prop) → Prop
  | .py (.dict ds), Q => ∃ L : List (Int × Int), ds = L.map (fun p => (PyData.int p.1, PyData.int p.2)) ∧ L ≠ [] ∧ Q (.py (.list ((sortT (L.map prV)).map fun l => PyData.tuple (l.map PyData.int))))
  | _, _ => False
end VL
set_option Elab.async false
set_option linter.all false
set_option maxRecDepth 100000
set_option maxHeartbeats 4000000
/-! VL86: list(d.items()), numbers for keys and values -/
namespace VL
open PySem PySem.Spec PyProof.Rows L2
section
variable {X : Cx}
end
@[simp] def gLstIt : D → (D → Prop) → Prop
  | .py (.dict ds), Q => ∃ L : List (Int × Int), ds = L.map (fun p => (PyData.int p.1, PyData.int p.2)) ∧ Q (.py (.list ((L.map prV).map fun l => PyData.tuple (l.map PyData.int))))
  | _, _ => False
end VL
set_option Elab.async false
set_option linter.all false
set_option maxRecDepth 100000
set_option maxHeartbeats 4000000
/-! VL87: sorted(set(xs)), xs a list of allI0 -/
namespace VL
open PySem PySem.Spec PyProof.Rows L2
section
variable {P : Program} {w : World} {A : Around} {E : Value → Shared → Prop} {s : Shared}
end
section
variable {X : Cx}
end
@[simp] def vSortSetL (t : VT) : VT := fun ρ Q E => t ρ (fun d => ∃ xs ns, d = .py (.list xs) ∧ allI xs = some ns ∧ ns.length < 63 ∧ ∀ ks : List Int, ks.Pairwise (· < ·) → (∀ j, j ∈ ks ↔ j ∈ ns) → Q (.py (.list (ks.map PyData.int)))) E
end VL
set_option Elab.async false
set_option linter.all false
set_option maxRecDepth 100000
set_option maxHeartbeats 4000000
/-! VL88: x in d, x not in d, d a dict -/
namespace VL
open PySem PySem.Spec PyProof.Rows L2
section
variable {X : Cx} {b : Bg} {W : WX} {e1 e2 : Expr} {t1 t2 : VT} {pos : Pos}
@[simp] def gInDk (neg : Bool) : D → D → (D → Prop) → Prop
  | .py k, .py (.dict ds), Q => ∃ kk, VL.keyOf k = some kk ∧ Q (.py (.bool (neg ^^ (getD ds kk).isSome)))
  | _, _, _ => False
end
end VL
set_option Elab.async false
set_option linter.all false
set_option maxRecDepth 100000
set_option maxHeartbeats 4000000
/-! VL89: a def under another global name -/
namespace VL
open PySem PySem.Spec PyProof.Rows L2
end VL
set_option Elab.async false
set_option linter.all false
set_option maxRecDepth 100000
set_option maxHeartbeats 4000000
/-! VL90: zip of any number of tuples of one length, at the machine's level -/
namespace VL
open PySem PySem.Spec PyProof.Rows L2
section
variable {M : Model} {A : Around} {E : Value → Shared → Prop}
end
section
variable {prog : Program} {w : World} {A : Around} {E : Value → Shared → Prop} {s : Shared} {z TI TO : Addr} {its ls : List Addr} {cols : List (List Value)} {k : Nat}
end
end VL
set_option Elab.async false
set_option linter.all false
set_option maxRecDepth 100000
set_option maxHeartbeats 4000000
/-! VL91: zip(e, *e2) as what a comprehension walks -/
namespace VL
open PySem PySem.Spec PyProof.Rows L2
section
variable {prog : Program} {w : World} {A : Around} {E : Value → Shared → Prop} {s : Shared} {ls : List Addr} {cols : List (List Value)}
end
end VL
set_option Elab.async false
set_option linter.all false
set_option maxRecDepth 100000
set_option maxHeartbeats 4000000
/-! VL92: for x in zip(e, *e2), the sources being tuples of one length -/
namespace VL
open PySem PySem.Spec PyProof.Rows L2 StX
section
variable {X : Cx} {b : Bg} {W : WX} {e : Expr} {es : List Expr} {x : Str} {p q pos : Pos}
/-! ### over data -/
def zipNP (m : Nat) (cols : List (List PyData)) : List PyData := (List.range m).map fun i => .tuple (cols.map fun c => c.getD i .none)
@[simp] def asZN (ds : List D) (Q : List D → Prop) : Prop := ∃ (cols : List (List PyData)) (m : Nat), ds = cols.map (fun c => D.py (.tuple c)) ∧ 1 ≤ cols.length ∧ cols.length ≤ 6 ∧ (∀ c ∈ cols, c.length = m) ∧ Q ((zipNP m cols).map D.py)
@[simp] def iZN (t : VA) : VIt := fun ρ Q E => t ρ (fun d => asZN d Q) E
end
end VL
set_option Elab.async false
set_option linter.all false
set_option maxRecDepth 100000
set_option maxHeartbeats 4000000
/-! VL93: list(zip(a, b, c)) of up to six tuples of one length -/
namespace VL
open PySem PySem.Spec PyProof.Rows L2
section
variable {prog : Program} {w : World} {A : Around} {s : Shared} {R : Result → Shared → Prop}
end
section
variable {prog : Program} {w : World} {A : Around} {E : Value → Shared → Prop} {s : Shared} {R : Result → Shared → Prop}
end
section
variable {X : Cx}
end
/-! ### over values -/
@[simp] def gLstZN (ds : List D) (Q : D → Prop) : Prop := ∃ (cols : List (List PyData)) (m : Nat), ds = cols.map (fun c => D.py (.tuple c)) ∧ 1 ≤ cols.length ∧ cols.length ≤ 6 ∧ (∀ c ∈ cols, c.length = m) ∧ Q (.py (.list (zipNP m cols)))
end VL
set_option Elab.async false
set_option linter.all false
set_option maxRecDepth 100000
set_option maxHeartbeats 4000000
/-! VL94: min, max of two texts; a <= b <= c <= d of texts -/
namespace VL
open PySem PySem.Spec PySem.Calls PyProof.Rows L2
section
variable {X : Cx}
end
@[simp] def gMaxS : List D → (D → Prop) → Prop
  | [.py (.str i), .py (.str j)], Q => Q (.py (.str (if ltT i j then j else i)))
  | _, _ => False
@[simp] def gMinS : List D → (D → Prop) → Prop
  | [.py (.str i), .py (.str j)], Q => Q (.py (.str (if ltT j i then j else i)))
  | _, _ => False
@[simp] def gLeSt : D → D → (D → Prop) → Prop
  | .py (.str i), .py (.str j), Q => Q (.py (.bool (!ltT j i)))
  | _, _, _ => False
section
variable {b : Bg}
end
/-! ### chains of three comparisons -/
section
variable {X : Cx} {a b c d : Expr} {ta tb tc td : TE} {pos : Pos}
end
@[simp] def vChain3 (g g' g'' : D → D → (D → Prop) → Prop) (ta tb tc td : VT) : VT := fun ρ Q E => ta ρ (fun x => tb ρ (fun y => g x y fun z => ∃ k, z = .py (.bool k) ∧ if k = true then tc ρ (fun w => g' y w fun z => ∃ k, z = .py (.bool k) ∧ if k = true then td ρ (fun v => g'' w v Q) E else Q (.py (.bool false))) E else Q (.py (.bool false))) E) E
section
variable {X : Cx} {b : Bg} {W : WX} {e e1 e2 e3 e4 : Expr} {t1 t2 t3 t4 : VT} {es : List Expr} {u : VA} {p pos : Pos} {r r' r'' : R2} {g g' g'' : D → D → (D → Prop) → Prop}
end
end VL
set_option Elab.async false
set_option linter.all false
set_option maxRecDepth 100000
set_option maxHeartbeats 4000000
/-! VL95: sorted(set(t)), t a tuple of texts, all unlike -/
namespace VL
open PySem PySem.Spec PyProof.Rows L2 PySem.Froz
section
variable {P : Program} {w : World} {A : Around} {E : Value → Shared → Prop} {s : Shared}
end
end VL
set_option Elab.async false
set_option linter.all false
set_option maxRecDepth 100000
set_option maxHeartbeats 4000000
/-! VL96: sorted(set(t)), t a tuple of texts, over values -/
namespace VL
open PySem PySem.Spec PyProof.Rows L2 PySem.Froz
section
variable {X : Cx}
end
@[simp] def vSortSetX (t : VT) : VT := fun ρ Q E => t ρ (fun d => ∃ ns : List Str, d = .py (.tuple (ns.map PyData.str)) ∧ ns.Nodup ∧ ns.length < 4000 ∧ Q (.py (.list ((sortSt ns).map PyData.str)))) E
section
variable {X : Cx} {a b c d : Expr} {ta tb tc td : TE} {pos : Pos}
end
section
variable {X : Cx} {b : Bg} {W : WX} {e1 e2 e3 e4 : Expr} {t1 t2 t3 t4 : VT} {pos : Pos}
end
end VL
set_option Elab.async false
set_option linter.all false
set_option maxRecDepth 100000
set_option maxHeartbeats 4000000
namespace VL
open PySem PySem.Spec PyProof.Rows L2
/-! ### several targets, some of them items of owned lists -/
section
variable {X : Cx} {b : Bg} {W : WX} {e e1 e2 : Expr} {es : List Expr} {st : Stmt} {t t1 t2 : VT} {u : VA} {pos pos' : Pos} {i : Nat} {x : Str}
/-- an item of an owned list -/
@[simp] def tgSto (i : Nat) (ty : VT) : VTg := fun d ρ Q => ∃ xs, ρ[i]? = some (.own (.py (.list xs))) ∧ ∃ p, d = .py p ∧ ty ρ (fun y => ∃ k, y = .py (.int k) ∧ ∃ ys, setAt xs k p = some ys ∧ Q (ρ.set i (.own (.py (.list ys))))) fun _ => False
/-- t1, t2 = e1, e2 by way of a tuple -/
@[simp] def sParM (n : Nat) (u : VA) (g : VTgs) : VS := fun ρ De => u ρ (fun ds => ds.length = n ∧ g ds ρ De.nx) (De.ex ρ)
/-! ### a list, from an item on, with a step -/
def stepL {α : Type} (xs : List α) (lo st : Int) : List α := (sliceRange (sliceBounds (some lo) none (some st) xs.length).1 (sliceBounds (some lo) none (some st) xs.length).2.1 (sliceBounds (some lo) none (some st) xs.length).2.2).filterMap (xs[·]?)
@[simp] def vStp (t : VT) (tl ts : VO) : VT := fun ρ Q E => t ρ (fun x => tl ρ (fun l => ts ρ (fun k => ∃ xs lo st, x = .py (.list xs) ∧ l = some lo ∧ k = some st ∧ st ≠ 0 ∧ Q (.py (.list (stepL xs lo st)))) E) E) E
end
end VL
set_option Elab.async false
set_option linter.all false
set_option maxRecDepth 100000
set_option maxHeartbeats 4000000
/-! VL98: the stairs of demands: two lists in the fields of an object, changed while it is made -/
namespace VL
open PySem PySem.Spec PyProof.Rows L2
/-! the heap while the object is made -/
section
variable {H H' : Hp} {x C dx l1 l2 a1 : Addr} {fs fs' : List (Str × V)} {ls hs : List Int}
end
end VL
set_option Elab.async false
set_option linter.all false
set_option maxRecDepth 100000
set_option maxHeartbeats 4000000
/-! VL99: sorted of a list of any alike data -/
namespace VL
open PySem PySem.Spec PyProof.Rows L2
/-- the data, sorted -/
def sortD (ds : List PyData) : List PyData := ds.mergeSort (PySem.W.dataLe false id)
section
variable {X : Cx}
end
@[simp] def gSortedD : List D → (D → Prop) → Prop
  | [.py (.list xs)], Q => PySem.W.AllAlike xs ∧ PySem.W.Sortable xs ∧ (∀ d ∈ xs, d.depth ≤ 40) ∧ Q (.py (.list (sortD xs)))
  | _, _ => False
section
variable {X : Cx} {b : Bg} {W : WX} {e : Expr} {es : List Expr} {u : VA} {p pos : Pos}
end
end VL
set_option Elab.async false
set_option linter.all false
set_option maxRecDepth 100000
set_option maxHeartbeats 4000000
/-! VL100: tuple(zip(a, b)) -/
namespace VL
open PySem PySem.Spec PyProof.Rows L2
section
variable {prog : Program} {w : World} {A : Around} {E : Value → Shared → Prop} {s : Shared}
end
section
variable {X : Cx}
end
/-! ### over values -/
@[simp] def gTupZ : List D → (D → Prop) → Prop
  | [.py (.list xs), .py (.list ys)], Q => xs.length = ys.length ∧ Q (.py (.tuple (zip2P xs ys)))
  | [.py (.tuple xs), .py (.tuple ys)], Q => xs.length = ys.length ∧ Q (.py (.tuple (zip2P xs ys)))
  | _, _ => False
end VL
set_option Elab.async false
set_option linter.all false
set_option maxRecDepth 100000
set_option maxHeartbeats 4000000
/-! VL101: generators: «if» and «for» in a body that yields -/
namespace VL
open PySem PySem.Spec PyProof.Rows L2 GenW
section
variable {M : Model} {A : Around} {R : GenEnd} {Y : Protocol} {n : Nat} {s0 : Shared} {c : Code} {fs : List Frame} {s : Shared} {env : Env} {K : Flow → Sem PySem.Fin} {J : Value → Sem PySem.Fin} {gd : Bool → Bool} {lv : List Value → List Value}
end
section
variable {prog : Program} {w : World} {A : Around} {R : GenEnd} {Y : Protocol} {n : Nat} {s0 : Shared} {fs : List Frame} {s : Shared} {env : Env}
/-- the end of a turn's body -/
abbrev turns (c' : Code) (f : Flow) : Sem PySem.Fin := match f with
  | .next | .cont => .pure (.again c')
  | .brk => .pure (.done .next)
  | .ret v => .pure (.done (.ret v))
end
section
variable {X : Cx}
/-! ### «if» and «for» that hand out -/
end
end VL
set_option Elab.async false
set_option linter.all false
set_option maxRecDepth 100000
set_option maxHeartbeats 4000000
/-! VL102: readings of a generator's body: the list is what has been handed out -/
namespace VL
open PySem PySem.Spec PyProof.Rows L2 GenW
/-- what is wanted behind a statement: the names' values and what is out -/
structure GEn where
  nx : VEnv → List PyData → Prop
  bk : VEnv → List PyData → Prop
  ct : VEnv → List PyData → Prop
  ex : VEnv → Er → Prop
abbrev VY := VEnv → List PyData → GEn → Prop
section
variable {b : Bg} {W : WX} {H0 : Hp} {M Zo Z Z' : Addr → Prop} {σ σ' : L2.St} {H H' : Hp} {ρ ρ' : VEnv} {De : GEn} {Dn : GEnds} {ys : List V} {out : List PyData}
end
section
variable {X : Cx} {b : Bg} {W : WX} {st : Stmt} {rest xs zs body : List Stmt} {t : VS} {g u : VY} {pos yp : Pos}
/-- a statement that hands out nothing -/
@[simp] def yP (t : VS) : VY := fun ρ out De => t ρ { nx := fun ρ' => De.nx ρ' out, rt := fun _ => False, bk := fun ρ' => De.bk ρ' out, ct := fun ρ' => De.ct ρ' out, ex := De.ex }
@[simp] def yNil : VY := fun ρ out De => De.nx ρ out
@[simp] def yThen (g u : VY) : VY := fun ρ out De => g ρ out { De with nx := fun ρ' out' => u ρ' out' De }
@[simp] def yIf (c : VB) (g u : VY) : VY := fun ρ out De => c ρ (fun k => if k = true then g ρ out De else u ρ out De) (De.ex ρ)
@[simp] def yFor (ti : VIt) (tg : VTg) (tb : VY) : VY := fun ρ out De => ti ρ (fun ds => yForGo tg tb ds ρ out De) (De.ex ρ)
where @[simp] yForGo (tg : VTg) (tb : VY) : List D → VEnv → List PyData → GEn → Prop
  | [], ρ, out, De => De.nx ρ out
  | d :: ds, ρ, out, De => tg d ρ fun ρ1 => tb ρ1 out { De with nx := fun ρ2 out2 => yForGo tg tb ds ρ2 out2 De, ct := fun ρ2 out2 => yForGo tg tb ds ρ2 out2 De, bk := De.nx }
@[simp] def yYl (t : VT) : VY := fun ρ out De => out.length < sizeLine ∧ t ρ (fun d => ∃ p, d = .py p ∧ De.nx ρ (out ++ [p])) (De.ex ρ)
end
end VL
set_option Elab.async false
set_option linter.all false
set_option maxRecDepth 100000
set_option maxHeartbeats 4000000
/-! VL103: a generator def's promise, by values; list(g(..)) -/
namespace VL
open PySem PySem.Spec PyProof.Rows L2 GenW
/-- the arguments, what is wanted of all that is handed out, the errors -/
abbrev SY := List D → (List PyData → Prop) → (Er → Prop) → Prop
def spY (b : Bg) (S : SY) : SpG := fun vs H Q E => ∃ Z ds Qd Ed, Gd b Z H ∧ Rps b Z H vs ds ∧ S ds Qd Ed ∧ (∀ ys H' out, Ex b H H' → b.G H' → Rqs Z H' ys out → Qd out → Q ys H') ∧ ∀ c x H' er, Ex b H H' → b.G H' → ErRp b Z H' c x er → Ed er → E c x H'
@[simp] def finY (Q : List PyData → Prop) (E : Er → Prop) : GEn := { nx := fun _ out => Q out, bk := fun _ _ => False, ct := fun _ _ => False, ex := fun _ => E }
section
variable {P : Program} {w : World} {K : PySem.W.Frag} {mg : Str → Option Value} {base : Heap} {b : Bg} {k : Nat} {x qual : Str} {st : Stmt} {f : Addr} {fd : FuncData} {N ps : List Str} {S : SY}
end
/-! ### list(g(..)) -/
structure CalY (P : Program) (w : World) (K : PySem.W.Frag) (mg : Str → Option Value) (base : Heap) (b : Bg) (k : Nat) (x : Str) (ps : List Str) (S : SY) where
  f : Addr
  fd : FuncData
  F : GFn P w K mg base k f fd ps (spY b S)
  g : mg x = some (.ref f)
  kp : PySem.W.keepIn K (.ref f) = true
  bd : Binds K fd ps []
/-- this error ends no iterator -/
def NoSt (K : PySem.W.Frag) (b : Bg) (n : Str) : Prop := PySem.W.subIn K (.ref (b.cls n)) (.type "StopIteration") = some false
@[simp] def vListY (ns : Str → Prop) (S : SY) (u : VA) : VT := fun ρ Q E => u ρ (fun ds => S ds (fun out => Q (.py (.list out))) fun er => ns er.n ∧ E er) E
/-- a class of errors that is no StopIteration -/
structure NoStK (K : PySem.W.Frag) (n : Str) : Prop where
  ex : ∃ C : Addr, PySem.W.nsIn K mainGlobals n = some (some (.ref C)) ∧ PySem.W.subIn K (.ref C) (.type "StopIteration") = some false
theorem noStK {K : PySem.W.Frag} {C : Addr} {n : Str} (a1 : PySem.W.nsIn K mainGlobals n = some (some (.ref C))) (a2 : PySem.W.subIn K (.ref C) (.type "StopIteration") = some false) : NoStK K n := ⟨C, a1, a2⟩
theorem noSt_of {K : PySem.W.Frag} {b : Bg} {n : Str} (t : NoStK K n) (r : RaiB K (b.cls n) n) : NoSt K b n := by
  obtain ⟨C, a1, a2⟩ := t.ex
  have e1 : C = b.cls n := by
    have := a1.symm.trans r.ns
    injection this with this; injection this with this; injection this
  unfold NoSt
  rw [← e1]; exact a2
section
variable {X : Cx} {b : Bg} {W : WX} {k j : Nat} {x nm : Str} {ps : List Str} {S : SY} {e : Expr} {es : List Expr} {u : VA} {p p2 pos pos2 : Pos} {ns : Str → Prop}
end
end VL
set_option Elab.async false
set_option linter.all false
set_option maxRecDepth 100000
set_option maxHeartbeats 4000000
/-! VL104: a run that is held where the sleeping generators can't be woken wakes none of them: they stay what they are -/
namespace VL
open PySem
open Sem (wp)
def noWake : Resume → Sem PySem.Fin := fun _ => .unsupported ""
/-- the same to look at, but nothing wakes it -/
def numb : GenState → GenState
  | .suspended _ l c p fs cl => .suspended noWake l c p fs cl
  | x => x
def isAsleep (y : GenState) : Prop := ∃ k l c p fs cl, y = .suspended k l c p fs cl
theorem numb_seen (y : GenState) : (numb y).seen = y.seen := by cases y <;> rfl
theorem numb_bare (y : GenState) : (numb y).bare = y.bare := by cases y <;> rfl
abbrev Olds := Nat → Option GenState
structure Dorm (old : Olds) (a : Array GenState) : Prop where
  at_ : ∀ i y, old i = some y → isAsleep y ∧ a[i]? = some (numb y)
  rest : ∀ i k l c p fs cl, a[i]? = some (.suspended k l c p fs cl) → old i = none → splitAtGen fs = none
def ovG (old : Olds) (a : Array GenState) : Array GenState := a.mapIdx fun i x => (old i).getD x
def ovS (old : Olds) (s : Shared) : Shared := { s with gens := ovG old s.gens }
section
variable {old : Olds} {a : Array GenState} {s : Shared} {g : Nat}
theorem ovG_get (i : Nat) : (ovG old a)[i]? = a[i]?.map fun x => (old i).getD x := by simp [ovG]
theorem ovG_size : (ovG old a).size = a.size := by simp [ovG]
theorem ovG_none {x : GenState} (h : old g = none) (e : a[g]? = some x) : (ovG old a)[g]? = some x := by rw [ovG_get, e, h]; rfl
theorem ovG_some {y : GenState} (d : Dorm old a) (h : old g = some y) : (ovG old a)[g]? = some y := by rw [ovG_get, (d.at_ g y h).2, h]; rfl
theorem ov_seen {st : GenState} (d : Dorm old a) (h : a[g]? = some st) : ∃ y, (ovG old a)[g]? = some y ∧ y.seen = st.seen := by
  cases q : old g with
  | none => exact ⟨st, ovG_none q h, rfl⟩
  | some y =>
    have h2 := (d.at_ g y q).2
    rw [h] at h2
    have e1 : st = numb y := Option.some.inj h2
    exact ⟨y, ovG_some d q, by rw [e1, numb_seen]⟩
theorem ov_set {x : GenState} (h : old g = none) : ovS old (s.setGen g x) = (ovS old s).setGen g x := by
  have e : ovG old (s.gens.setIfInBounds g x) = (ovG old s.gens).setIfInBounds g x := by
    apply Array.ext_getElem?
    intro i
    rw [ovG_get, Array.getElem?_setIfInBounds, Array.getElem?_setIfInBounds, ovG_size, ovG_get]
    by_cases hi : g = i
    · subst hi
      simp only [if_true]
      split
      · rw [h]; rfl
      · rfl
    · simp [hi]
  show ({ s with gens := ovG old (s.gens.setIfInBounds g x) } : Shared) = { s with gens := (ovG old s.gens).setIfInBounds g x }
  rw [e]
theorem ov_push {c : Code} (d : Dorm old s.gens) : ovS old { s with gens := s.gens.push (.fresh c) } = { ovS old s with gens := (ovS old s).gens.push (.fresh c) } := by
  have hs : old s.gens.size = none := by
    cases e : old s.gens.size with
    | none => rfl
    | some y => have := (d.at_ _ y e).2; simp at this
  have e : ovG old (s.gens.push (.fresh c)) = (ovG old s.gens).push (.fresh c) := by
    apply Array.ext_getElem?
    intro i
    rw [ovG_get, Array.getElem?_push, Array.getElem?_push, ovG_size, ovG_get]
    by_cases hi : i = s.gens.size
    · subst hi
      simp [hs]
    · simp [hi]
  show ({ s with gens := ovG old (s.gens.push (.fresh c)) } : Shared) = { s with gens := (ovG old s.gens).push (.fresh c) }
  rw [e]
theorem Dorm.push {c : Code} (d : Dorm old a) : Dorm old (a.push (.fresh c)) where
  at_ := fun i y h => by
    obtain ⟨h1, h2⟩ := d.at_ i y h
    refine ⟨h1, ?_⟩
    have hi : i < a.size := (Array.getElem?_eq_some_iff.mp h2).1
    rw [Array.getElem?_push, if_neg (Nat.ne_of_lt hi)]
    exact h2
  rest := fun i k l cc p fs cl h hn => by
    rw [Array.getElem?_push] at h
    split at h
    · cases h
    · exact d.rest i k l cc p fs cl h hn
theorem Dorm.set {x : GenState} (d : Dorm old s.gens) (h : old g = none) (hx : ∀ k l c p fs cl, x = .suspended k l c p fs cl → splitAtGen fs = none) : Dorm old (s.setGen g x).gens where
  at_ := fun i y e => by
    obtain ⟨h1, h2⟩ := d.at_ i y e
    refine ⟨h1, ?_⟩
    have hi : g ≠ i := fun z => by rw [z, e] at h; cases h
    show (s.gens.setIfInBounds g x)[i]? = _
    rw [Array.getElem?_setIfInBounds_ne hi]
    exact h2
  rest := fun i k l c p fs cl e hn => by
    have e : (s.gens.setIfInBounds g x)[i]? = _ := e
    by_cases hi : g = i
    · subst hi
      rw [Array.getElem?_setIfInBounds] at e
      simp only [if_true] at e
      split at e
      · exact hx k l c p fs cl (Option.some.inj e)
      · cases e
    · rw [Array.getElem?_setIfInBounds_ne hi] at e
      exact d.rest i k l c p fs cl e hn
theorem Dorm.not {x : GenState} (d : Dorm old a) (e : a[g]? = some x) (h : ¬ isAsleep x) : old g = none := by
  cases q : old g with
  | none => rfl
  | some y =>
    obtain ⟨⟨k, l, c, p, fs, cl, rfl⟩, h2⟩ := d.at_ g y q
    rw [e] at h2
    exact absurd ⟨_, _, _, _, _, _, Option.some.inj h2⟩ h
end
theorem split_app : ∀ {fs gs : List Frame}, splitAtGen fs = none → splitAtGen gs = none → splitAtGen (fs ++ gs) = none
  | [], gs, _, h => h
  | .ret .. :: fs, gs, h1, h2 => by
    have q : splitAtGen fs = none := by
      have h1 : (splitAtGen fs).map _ = none := h1
      simpa using h1
    show (splitAtGen (fs ++ gs)).map _ = none
    rw [split_app q h2]; rfl
  | .gen .. :: fs, gs, h1, _ => by cases h1
theorem split_ret {k : Result → Sem PySem.Fin} {h : Option Value} {g : Bool} {l : List Value} {c : Code} {p : Pos} {kp : List Value} {fs : List Frame} (e : splitAtGen (.ret k h g l c p kp :: fs) = none) : splitAtGen fs = none := by
  have e : (splitAtGen fs).map _ = none := e
  simpa using e
section
variable {M : Model}
theorem no_run0 {Γ : Ctx} {p : Pos} {w : String} {s : Shared} {e : End} {s' : Shared} (h : Runs M Γ p (.unsupported w) [] s e s') : False := by cases h
theorem no_run {Γ : Ctx} {p : Pos} {w : String} {fs : List Frame} {s : Shared} {e : End} {s' : Shared} (h : Runs M Γ p (.unsupported w) fs s e s') : False := by
  cases h <;> (rename_i h1 h2; first | exact no_run0 h1 | exact no_run0 h2 | skip)
  all_goals (rename_i h3; first | exact no_run0 h3 | skip)
/-- what is left behind keeps no frame of a generator -/
def EndOk (e : End) : Prop := ∀ v g l k c p fs, e = .susp v g l k c p fs → splitAtGen fs = none
theorem EndOk.gen {e : End} (h : EndOk e) : ∀ k l c p fs cl, e.genState = .suspended k l c p fs cl → splitAtGen fs = none := fun k l c p fs cl q => by
  cases e with
  | ret r => cases q
  | susp v g l0 k0 c0 p0 fs0 =>
    have : GenState.suspended k0 l0 c0 p0 fs0 (g || fs0.any Frame.guarded) = .suspended k l c p fs cl := q
    injection this with _ _ _ _ e5 _
    rw [← e5]
    exact h v g l0 k0 c0 p0 fs0 rfl
theorem runs_ov {old : Olds} {Γ : Ctx} {p : Pos} {t : Sem PySem.Fin} {fs : List Frame} {s : Shared} {e : End} {s' : Shared} (h : Runs M Γ p t fs s e s') :
    Dorm old s.gens → splitAtGen fs = none → Dorm old s'.gens ∧ EndOk e ∧ Runs M Γ p t fs (ovS old s) e (ovS old s') := by
  induction h with
  | done => exact fun d _ => ⟨d, fun _ _ _ _ _ _ _ z => by (cases z), .done⟩
  | raise => exact fun d _ => ⟨d, fun _ _ _ _ _ _ _ z => by (cases z), .raise⟩
  | again hq _ ih => exact fun d f => let ⟨a, b, c⟩ := ih d f; ⟨a, b, .again hq c⟩
  | rule _ ih => exact fun d f => let ⟨a, b, c⟩ := ih d f; ⟨a, b, .rule c⟩
  | «at» _ ih => exact fun d f => let ⟨a, b, c⟩ := ih d f; ⟨a, b, .at c⟩
  | load ho _ ih => exact fun d f => let ⟨a, b, c⟩ := ih d f; ⟨a, b, .load ho c⟩
  | update ho _ ih => exact fun d f => let ⟨a, b, c⟩ := ih d f; ⟨a, b, .update ho c⟩
  | loadIfAlive _ ih => exact fun d f => let ⟨a, b, c⟩ := ih d f; ⟨a, b, .loadIfAlive c⟩
  | point _ ih => exact fun d f => let ⟨a, b, c⟩ := ih d f; ⟨a, b, .point c⟩
  | alloc _ ih => exact fun d f => let ⟨a, b, c⟩ := ih d f; ⟨a, b, .alloc c⟩
  | fresh _ ih => exact fun d f => let ⟨a, b, c⟩ := ih d f; ⟨a, b, .fresh c⟩
  | ask _ ih => exact fun d f => let ⟨a, b, c⟩ := ih d f; ⟨a, b, .ask c⟩
  | choose hn _ ih => exact fun d f => let ⟨a, b, c⟩ := ih d f; ⟨a, b, .choose hn c⟩
  | os _ ih => exact fun d f => let ⟨a, b, c⟩ := ih d f; ⟨a, b, .os c⟩
  | handled _ ih => exact fun d f => let ⟨a, b, c⟩ := ih d f; ⟨a, b, .handled c⟩
  | stack _ ih => exact fun d f => let ⟨a, b, c⟩ := ih d f; ⟨a, b, .stack c⟩
  | thread _ ih => exact fun d f => let ⟨a, b, c⟩ := ih d f; ⟨a, b, .thread c⟩
  | genState hs _ ih =>
    intro d f
    obtain ⟨a, b, c⟩ := ih d f
    obtain ⟨y, h1, h2⟩ := ov_seen d hs
    refine ⟨a, b, .genState h1 ?_⟩
    rw [h2]
    exact c
  | @newGen Γ₁ p₁ k s₁ c₁ e₁ s₁' _ ih =>
    intro d f
    obtain ⟨a, b, c⟩ := ih d.push f
    refine ⟨a, b, .newGen ?_⟩
    rw [ov_push d] at c
    have z : (ovS old s₁).gens.size = s₁.gens.size := ovG_size
    rw [z]
    exact c
  | call _ _ ih1 ih2 =>
    intro d f
    obtain ⟨a1, _, c1⟩ := ih1 d rfl
    obtain ⟨a, b, c⟩ := ih2 a1 f
    exact ⟨a, b, .call c1 c⟩
  | callSusp _ ih1 =>
    intro d f
    obtain ⟨a1, b1, c1⟩ := ih1 d rfl
    refine ⟨a1, fun v g l k c p fs z => ?_, .callSusp c1⟩
    injection z with _ _ _ _ _ _ e7
    rw [← e7]
    exact split_app (b1 _ _ _ _ _ _ _ rfl) rfl
  | yield => exact fun d _ => ⟨d, fun v g l k c p fs z => by (injection z with _ _ _ _ _ _ e7; rw [← e7]; rfl), .yield⟩
  | resumeFresh hg _ hq _ ih1 ih2 =>
    intro d f
    have hn := d.not hg fun ⟨_, _, _, _, _, _, z⟩ => by cases z
    obtain ⟨a1, b1, c1⟩ := ih1 (d.set hn fun _ _ _ _ _ _ z => by cases z) rfl
    obtain ⟨a2, b2, c2⟩ := ih2 (a1.set hn b1.gen) f
    rw [ov_set hn] at c1 c2
    exact ⟨a2, b2, .resumeFresh (ovG_none hn hg) c1 hq c2⟩
  | @resumeSuspended Γ₁ p₁ g r l k s₁ k₀ l₀ c₀ p₀ fs₀ cl e₁ s₂ e₂ s₃ hg h1 hq _ ih1 ih2 =>
    intro d f
    cases q : old g with
    | some y =>
      obtain ⟨⟨k', l', c', p', fs', cl', rfl⟩, h2⟩ := d.at_ g y q
      rw [hg] at h2
      have e1 := Option.some.inj h2
      injection e1 with e1
      rw [e1] at h1
      exact (no_run h1).elim
    | none =>
      obtain ⟨a1, b1, c1⟩ := ih1 (d.set q fun _ _ _ _ _ _ z => by cases z) (d.rest g _ _ _ _ _ _ hg q)
      obtain ⟨a2, b2, c2⟩ := ih2 (a1.set q b1.gen) f
      rw [ov_set q] at c1 c2
      exact ⟨a2, b2, .resumeSuspended (ovG_none q hg) c1 hq c2⟩
  | resumeJustStarted hg hv _ ih =>
    intro d f
    obtain ⟨a, b, c⟩ := ih d f
    exact ⟨a, b, .resumeJustStarted (ovG_none (d.not hg fun ⟨_, _, _, _, _, _, z⟩ => by cases z) hg) hv c⟩
  | resumeThrowFresh hg _ ih =>
    intro d f
    have hn := d.not hg fun ⟨_, _, _, _, _, _, z⟩ => by cases z
    obtain ⟨a, b, c⟩ := ih (d.set hn fun _ _ _ _ _ _ z => by cases z) f
    rw [ov_set hn] at c
    exact ⟨a, b, .resumeThrowFresh (ovG_none hn hg) c⟩
  | resumeRunning hg _ ih =>
    intro d f
    obtain ⟨a, b, c⟩ := ih d f
    exact ⟨a, b, .resumeRunning (ovG_none (d.not hg fun ⟨_, _, _, _, _, _, z⟩ => by cases z) hg) c⟩
  | resumeFinished hg _ ih =>
    intro d f
    obtain ⟨a, b, c⟩ := ih d f
    exact ⟨a, b, .resumeFinished (ovG_none (d.not hg fun ⟨_, _, _, _, _, _, z⟩ => by cases z) hg) c⟩
  | segRet _ _ ih1 ih2 =>
    intro d f
    obtain ⟨a1, _, c1⟩ := ih1 d rfl
    obtain ⟨a2, b2, c2⟩ := ih2 a1 (split_ret f)
    exact ⟨a2, b2, .segRet c1 c2⟩
  | segGen _ _ _ _ => intro d f; cases f
  | segSuspOut hs _ ih1 =>
    intro d f
    obtain ⟨a1, b1, c1⟩ := ih1 d rfl
    refine ⟨a1, fun v g l k c p fs z => ?_, .segSuspOut hs c1⟩
    injection z with _ _ _ _ _ _ e7
    rw [← e7]
    exact split_app (b1 _ _ _ _ _ _ _ rfl) hs
  | segSuspGen hs _ _ _ _ _ => intro d f; rw [f] at hs; cases hs
theorem wakes_ov {old : Olds} {Γ : Ctx} {p : Pos} {g : Nat} {r : Resume} {s : Shared} {res : GenResult} {s' : Shared} (h : Wakes M Γ p g r s res s') (d : Dorm old s.gens) :
    Dorm old s'.gens ∧ Wakes M Γ p g r (ovS old s) res (ovS old s') := by
  unfold Wakes at h
  cases hg : s.gens[g]? with
  | none => rw [hg] at h; exact h.elim
  | some x =>
    rw [hg] at h
    cases x with
    | fresh c =>
      have hn := d.not hg fun ⟨_, _, _, _, _, _, z⟩ => by cases z
      have hg' : (ovS old s).gens[g]? = some (.fresh c) := ovG_none hn hg
      unfold Wakes
      rw [hg']
      cases r with
      | send v =>
        cases v with
        | none =>
          obtain ⟨e₁, s₁, h1, h2, h3, rfl⟩ := h
          obtain ⟨a1, b1, c1⟩ := runs_ov (old := old) h1 (d.set hn fun _ _ _ _ _ _ z => by cases z) rfl
          refine ⟨a1.set hn b1.gen, e₁, ovS old s₁, ?_, h2, h3, ov_set hn⟩
          rw [ov_set hn] at c1
          exact c1
        | _ => obtain ⟨h1, rfl⟩ := h; exact ⟨d, h1, rfl⟩
      | throw v =>
        obtain ⟨h1, rfl⟩ := h
        exact ⟨d.set hn fun _ _ _ _ _ _ z => (by cases z), h1, ov_set hn⟩
    | suspended k₀ l₀ c₀ p₀ fs cl =>
      obtain ⟨e₁, s₁, h1, h2, h3, rfl⟩ := h
      cases q : old g with
      | some y =>
        obtain ⟨⟨k', l', c', p', fs', cl', rfl⟩, z2⟩ := d.at_ g y q
        rw [hg] at z2
        have e1 := Option.some.inj z2
        injection e1 with e1
        rw [e1] at h1
        exact (no_run h1).elim
      | none =>
        have hg' : (ovS old s).gens[g]? = some (.suspended k₀ l₀ c₀ p₀ fs cl) := ovG_none q hg
        unfold Wakes
        rw [hg']
        obtain ⟨a1, b1, c1⟩ := runs_ov (old := old) h1 (d.set q fun _ _ _ _ _ _ z => by cases z) (d.rest g _ _ _ _ _ _ hg q)
        refine ⟨a1.set q b1.gen, e₁, ovS old s₁, ?_, h2, h3, ov_set q⟩
        rw [ov_set q] at c1
        exact c1
    | running =>
      have hg' : (ovS old s).gens[g]? = some .running := ovG_none (d.not hg fun ⟨_, _, _, _, _, _, z⟩ => by cases z) hg
      obtain ⟨h1, h2⟩ := h
      rw [h2]
      unfold Wakes
      rw [hg']
      exact ⟨d, h1, rfl⟩
    | finished =>
      have hg' : (ovS old s).gens[g]? = some .finished := ovG_none (d.not hg fun ⟨_, _, _, _, _, _, z⟩ => by cases z) hg
      obtain ⟨h1, h2⟩ := h
      rw [h2]
      unfold Wakes
      rw [hg']
      exact ⟨d, h1, rfl⟩
theorem wp_ov {α : Type} (old : Olds) (Γ : Ctx) (t : Sem α) : ∀ (Q : α → Pos → Shared → Prop) (E : Value → Pos → Shared → Prop) (p : Pos) (s : Shared), Dorm old s.gens → wp M Γ t Q E p s →
    wp M Γ t (fun a p' s' => ∃ z, s' = ovS old z ∧ Dorm old z.gens ∧ Q a p' z) (fun e p' s' => ∃ z, s' = ovS old z ∧ Dorm old z.gens ∧ E e p' z) p (ovS old s) := by
  induction t with
  | pure a => intro Q E p s hn h; exact ⟨s, rfl, hn, h⟩
  | raise e => intro Q E p s hn h; exact ⟨s, rfl, hn, h⟩
  | unsupported _ => intro Q E p s _ h; exact h
  | finish _ => intro Q E p s _ h; exact h
  | rule _ k ih => intro Q E p s hn h; exact ih () Q E p s hn h
  | «at» p' k ih => intro Q E p s hn h; exact ih () Q E p' s hn h
  | load a _ k ih => intro Q E p s hn h; obtain ⟨o, ho, h⟩ := h; exact ⟨o, ho, ih o Q E p s hn h⟩
  | update a _ f k ih => intro Q E p s hn h; exact ⟨h.1, ih () Q E p { s with heap := s.heap.update a f } hn h.2⟩
  | loadIfAlive a k ih => intro Q E p s hn h; exact ih _ Q E p s hn h
  | point _ k ih => intro Q E p s hn h; exact ih () Q E p s hn h
  | register _ _ => intro Q E p s _ h; exact h
  | alloc o k ih => intro Q E p s hn h; exact ih _ Q E p { s with heap := s.heap.push o } hn h
  | fresh k ih => intro Q E p s hn h; exact ih _ Q E p { s with toks := s.toks + 1 } hn h
  | ask k ih => intro Q E p s hn h; exact ih _ Q E p s hn h
  | choose src m k ih => intro Q E p s hn h; exact ⟨h.1, ih _ Q E p { s with drawn := s.drawn.bump src } hn h.2⟩
  | os q _ k ih => intro Q E p s hn h; exact ih _ Q E p { s with os := (Os.step s.os q).1 } hn h
  | call c hd _ _ k ih =>
    intro Q E p s hn h
    obtain ⟨r, s', hr, h⟩ := h
    obtain ⟨a1, _, c1⟩ := runs_ov (old := old) hr hn rfl
    exact ⟨r, ovS old s', c1, ih r Q E p s' a1 h⟩
  | handled own k ih => intro Q E p s hn h; exact ih _ Q E p s hn h
  | genState g k ih =>
    intro Q E p s hn h
    obtain ⟨st, hs, h⟩ := h
    cases q : old g with
    | none => exact ⟨st, ovG_none q hs, ih _ Q E p s hn h⟩
    | some y =>
      have h2 := (hn.at_ g y q).2
      rw [hs] at h2
      have e1 : st = numb y := Option.some.inj h2
      rw [e1, numb_seen] at h
      exact ⟨y, ovG_some hn q, ih _ Q E p s hn h⟩
  | newGen c k ih =>
    intro Q E p s hn h
    have h1 := ih _ Q E p _ (hn.push (c := c)) h
    rw [ov_push hn] at h1
    have z : (ovS old s).gens.size = s.gens.size := ovG_size
    show wp M Γ (k (ovS old s).gens.size) _ _ p _
    rw [z]
    exact h1
  | resume g r _ k ih =>
    intro Q E p s hn h
    obtain ⟨res, s', hw, h⟩ := h
    obtain ⟨a1, c1⟩ := wakes_ov hw hn
    exact ⟨res, ovS old s', c1, ih res Q E p s' a1 h⟩
  | yield _ _ _ _ => intro Q E p s _ h; exact h
  | stack k ih => intro Q E p s hn h; exact ih _ Q E p s hn h
  | fork _ _ => intro Q E p s _ h; exact h
  | thread k ih => intro Q E p s hn h; exact ih _ Q E p s hn h
  | await _ _ _ _ _ => intro Q E p s _ h; exact h
/-- the sleepers of a state -/
def sleepers (s : Shared) : Olds := fun i => match s.gens[i]? with
  | some (.suspended k l c p fs cl) => some (.suspended k l c p fs cl)
  | _ => none
def numbed (s : Shared) : Shared := { s with gens := s.gens.map numb }
theorem sleepers_some {s : Shared} {i : Nat} {y : GenState} (h : sleepers s i = some y) : isAsleep y ∧ s.gens[i]? = some y := by
  unfold sleepers at h
  split at h
  · rename_i e
    cases h
    exact ⟨⟨_, _, _, _, _, _, rfl⟩, e⟩
  · cases h
theorem sleepers_at {s : Shared} {i : Nat} {k l c p fs cl} (h : s.gens[i]? = some (.suspended k l c p fs cl)) : sleepers s i = some (.suspended k l c p fs cl) := by
  unfold sleepers
  rw [h]
theorem dorm_numbed (s : Shared) : Dorm (sleepers s) (numbed s).gens where
  at_ := fun i y h => by
    obtain ⟨h1, h2⟩ := sleepers_some h
    refine ⟨h1, ?_⟩
    show (s.gens.map numb)[i]? = _
    rw [Array.getElem?_map, h2]; rfl
  rest := fun i k l c p fs cl h hn => by
    have h : (s.gens.map numb)[i]? = _ := h
    rw [Array.getElem?_map] at h
    cases e : s.gens[i]? with
    | none => rw [e] at h; cases h
    | some x =>
      rw [e] at h
      cases x with
      | suspended k' l' c' p' fs' cl' => rw [sleepers_at e] at hn; cases hn
      | fresh c => cases Option.some.inj h
      | running => cases Option.some.inj h
      | finished => cases Option.some.inj h
theorem ov_numbed (s : Shared) : ovS (sleepers s) (numbed s) = s := by
  have e : ovG (sleepers s) (s.gens.map numb) = s.gens := by
    apply Array.ext_getElem?
    intro i
    rw [ovG_get, Array.getElem?_map]
    cases e : s.gens[i]? with
    | none => rfl
    | some x =>
      cases q : sleepers s i with
      | some y => rw [(sleepers_some q).2] at e; simp [e]
      | none =>
        cases x with
        | suspended k' l' c' p' fs' cl' => rw [sleepers_at e] at q; cases q
        | fresh c => rfl
        | running => rfl
        | finished => rfl
  show ({ s with gens := ovG (sleepers s) (s.gens.map numb) } : Shared) = s
  rw [e]
/-- THE FRAME: what runs where nothing sleeping can be woken keeps all that sleeps -/
theorem wpAny_sleep {α : Type} {A : Around} {t : Sem α} {Q : α → Shared → Prop} {E : Value → Shared → Prop} {s : Shared} (h : wpAny M A t Q E (numbed s)) :
    wpAny M A t (fun a s' => ∃ z, s' = ovS (sleepers s) z ∧ Dorm (sleepers s) z.gens ∧ Q a z) (fun e s' => ∃ z, s' = ovS (sleepers s) z ∧ Dorm (sleepers s) z.gens ∧ E e z) s := fun Γ p hΓ => by
  have := wp_ov (sleepers s) Γ t _ _ p (numbed s) (dorm_numbed s) (h Γ p hΓ)
  rw [ov_numbed] at this
  exact this
end
end VL
set_option Elab.async false
set_option linter.all false
set_option maxRecDepth 100000
set_option maxHeartbeats 4000000
/-! VL105: a generator that sleeps while its consumer runs any code: contexts, protocol, plain statements, yield -/
namespace VL
open PySem PySem.Spec PyProof.Rows L2 GenW
/-! ### the heap's first objects -/
def pre (n : Nat) (h : Heap) : Heap := ⟨h.objs.extract 0 n, h.life⟩
def cut (n : Nat) (s : Shared) : Shared := { s with heap := pre n s.heap }
theorem pre_at {n b : Nat} {h : Heap} : (pre n h).objs[b]? = if b < n then h.objs[b]? else none := by
  show (h.objs.extract 0 n)[b]? = _
  rw [Array.getElem?_extract]
  by_cases hb : b < n
  · rw [if_pos hb]
    by_cases hs : b < h.objs.size
    · rw [if_pos (by omega)]; simp
    · rw [if_neg (by omega), Array.getElem?_eq_none (by omega)]
  · rw [if_neg hb, if_neg (by omega)]
theorem pre_get {n : Nat} {h : Heap} {b : Addr} (hb : b < n) : (pre n h).get? b = h.get? b := by
  unfold Heap.get?
  rw [pre_at, if_pos hb]
theorem of_pre {n : Nat} {h : Heap} {b : Addr} {o : Obj} (e : (pre n h).get? b = some o) : b < n ∧ h.get? b = some o := by
  by_cases hb : b < n
  · exact ⟨hb, by rw [← pre_get hb]; exact e⟩
  · unfold Heap.get? at e
    rw [pre_at, if_neg hb] at e
    cases e
theorem pre_size {n : Nat} {h : Heap} : (pre n h).objs.size ≤ n := by
  show (h.objs.extract 0 n).size ≤ n
  rw [Array.size_extract]; omega
theorem pre_size' {n : Nat} {h : Heap} (hn : n ≤ h.objs.size) : (pre n h).objs.size = n := by
  show (h.objs.extract 0 n).size = n
  rw [Array.size_extract]; omega
theorem pre_frames {n : Nat} {h base : Heap} : ∀ {l : List Env}, (∀ b ∈ frs l, b < n) → h.FunFrames base l → (pre n h).FunFrames base l
  | [], _, _ => trivial
  | env :: l, hl, ⟨hk, ⟨L, o, hf, hn, ho, hd⟩, hr⟩ => by
    have hL : L < n := hl L (List.mem_filterMap.mpr ⟨env, List.mem_cons_self, hf⟩)
    exact ⟨hk, ⟨L, o, hf, hn, by rw [pre_get hL]; exact ho, hd⟩, pre_frames (fun b hb => hl b (by
      obtain ⟨e, he, q⟩ := List.mem_filterMap.mp hb
      exact List.mem_filterMap.mpr ⟨e, List.mem_cons_of_mem _ he, q⟩)) hr⟩
/-! ### contexts -/
/-- behind a call that let an exception out; what is pinned stands in the ground -/
def CXP (P : Program) (w : World) (outer : List Env) (H : Hp) (s : Shared) (E : XK) (pn : List (Addr × Obj)) (u : Value) (s' : Shared) : Prop :=
  ∃ (a : Addr) (B : Heap) (H' : Hp) (cls : Value) (d : Option Addr), u = .ref a ∧ HandSPX.FlyingZ B outer a (Zc cls d) s'.heap ∧ HOk P w H' B ∧ UB (frs outer) H H' s.heap B s'.heap ∧ H' a = none ∧ s'.os = s.os ∧ AllBare s'.gens ∧ E cls d H' ∧ ∀ p ∈ pn, B.get? p.1 = some p.2 ∧ H' p.1 = none
theorem leaveP {X : Cx} {W : WX} {E : XK} {s' : Shared} (hs : X.stack = X.env :: X.outer) (hf : X.env.frame = some X.env.locals) (hex : X.ex = []) {E₁ : Value → Shared → Prop} (hW : ∀ cls d σ H, W cls d σ H → E cls d H) {u : Value} (x : XE X W u s') :
    wpAny (model X.prog X.w) X.A (leaving X.env u) (fun _ s'' => CXP X.prog X.w X.outer X.H_0 X.s_0 E X.pn u s'') E₁ s' := by
  obtain ⟨a, Bh, sI, pins, σ, H, cls, d, eu, I, nb, up, sky, na, os, ag, wc⟩ := x
  subst eu
  have hfr : X.A.frames = some (X.env :: X.outer) := I.ok.frames.trans (by rw [hs])
  have hex' : ∀ b, b ∉ X.ex := fun b hb => by rw [hex] at hb; cases hb
  have nst : ∀ b o, X.s_0.heap.get? b = some o → b ∉ X.fs → b ∉ frs X.stack := fun b o e hb hm => (List.mem_cons.mp (I.stkSub b hm)).elim (fun z => by
    have h1 := Heap.lt_size e
    rw [z] at h1
    exact Nat.lt_irrefl _ (Nat.lt_of_lt_of_le h1 I.ok.above)) hb
  have pinB : ∀ p ∈ X.pn, Bh.get? p.1 = some p.2 ∧ H p.1 = none := fun p hp => by
    obtain ⟨h1, h2, h3, h4, _⟩ := I.pin p (List.mem_append_left _ hp)
    exact ⟨nb p.1 p.2 h1 fun hm => (List.mem_cons.mp (I.stkSub p.1 hm)).elim h3 h4, h2⟩
  have slots : ∀ h', s'.heap.UpToSlots h' → ∀ b o, X.s_0.heap.get? b = some o → b ∈ frs X.outer → ∃ sl, h'.get? b = some { o with slots := sl } := fun h' up' b o e hb => by
    obtain ⟨_, o₀, e₀, hnf⟩ := I.ok.funs.mem hb
    have eo : o = o₀ := Option.some.inj (e.symm.trans e₀)
    subst eo
    obtain ⟨sl, e1⟩ := I.base.slot b o e (I.ok.frf b hb) hb (hex' b)
    obtain ⟨sl2, e2⟩ := up b _ e1 hnf
    obtain ⟨sl3, e3⟩ := up' b _ e2 hnf
    exact ⟨sl3, e3⟩
  have there : ∀ b o, X.s_0.heap.get? b = some o → b ∉ frs X.outer → ∃ o', Bh.get? b = some o' := fun b o e hb => by
    obtain ⟨o', e1⟩ := I.base.there b o e (hex' b)
    exact ⟨o', nb b o' e1 (nst b o e hb)⟩
  have fin : ∀ h', HandSPX.FlyingZ Bh X.outer a (Zc cls d) h' → s'.heap.UpToSlots h' → CXP X.prog X.w X.outer X.H_0 X.s_0 E X.pn (.ref a) { s' with heap := h' } := fun h' fl up' => by
    have ub : UB (frs X.outer) X.H_0 H X.s_0.heap Bh h' :=
      ⟨fun b o e n hb => nb b o (I.base.keep b o e n hb (hex' b)) (nst b o e hb), slots h' up', fun b o e n => I.base.free b o e n (hex' b), there, I.base.tups, I.base.frzs, I.base.tbls⟩
    exact ⟨a, Bh, H, cls, d, rfl, fl, I.inGround nb, ub, na, os.trans I.os, ag, hW _ _ _ _ wc, pinB⟩
  rw [hs] at sky
  rcases sky with ⟨hB, hn, hl, oe, vs, he, hz, hd, h1⟩ | fl | hd
  · exact HandSPX.leaving_firstZ Zc.steady hfr hl hf he hB hn hd h1 hz fin
  · exact HandSPX.leaves_onZ Zc.steady hfr hf fl fin
  · exact HandSPX.leaves_heldZ hf hd fin
/-- a generator's body in its frame at n0, woken at s -/
def gcxN (P : Program) (w : World) (K : PySem.W.Frag) (mg : Str → Option Value) (base : Heap) (N : List Str) (qual : Str) (scope : Scope) (f : Addr) (cd : Value) (A : Around) (outer : List Env) (n0 : Addr) (s : Shared) (H : Hp) (E : XK) (pn : List (Addr × Obj)) : Cx where
  prog := P
  w := w
  K := K
  mg := mg
  base := base
  A := A.deeper (envOfC qual scope n0 f cd)
  N := N
  s_0 := s
  H_0 := H
  env := envOfC qual scope n0 f cd
  outer := outer
  stack := envOfC qual scope n0 f cd :: outer
  ex := []
  calm := true
  fn := fun _ => true
  pn := pn
  xe := fun e s' => wpAny (model P w) (A.deeper (envOfC qual scope n0 f cd)) (leaving (envOfC qual scope n0 f cd) e)
    (fun _ s'' => CXP P w outer H s E pn e s'') (fun _ _ => False) s'
section
variable {P : Program} {w : World} {K : PySem.W.Frag} {mg : Str → Option Value} {base : Heap} {N : List Str} {qual : Str} {scope : Scope} {f : Addr} {cd : Value} {A : Around} {outer : List Env} {n0 : Addr} {s : Shared} {H : Hp} {E : XK} {pn : List (Addr × Obj)}
theorem takes_gcn : Takes (gcxN P w K mg base N qual scope f cd A outer n0 s H E pn) (fun cls d _ H' => E cls d H') := fun u s' x =>
  leaveP (W := fun cls d _ H' => E cls d H') (E := E) rfl rfl rfl (fun _ _ _ _ h => h) x
end
/-- what a consumer holds where it wakes the generator: turns that are left, the state, the heap, what is owned -/
abbrev Cons := Nat → Shared → Hp → (Addr → Prop) → List (Addr × Obj) → Prop
/-- one generator: its def, its frame, its object, what its consumer asks -/
structure GD where
  P : Program
  w : World
  K : PySem.W.Frag
  mg : Str → Option Value
  base : Heap
  N : List Str
  qual : Str
  scope : Scope
  f : Addr
  cd : Value
  A : Around
  outer : List Env
  n0 : Addr
  E : Hp → (Addr → Prop) → XK
  pn : List (Addr × Obj)
  b : Bg
  a : Addr
  g : Nat
  T : Nat
  J : Cons
  Yd : Nat → PyData → Prop
  Qd : Nat → Prop
abbrev GD.X (G : GD) (s : Shared) (H : Hp) (Z : Addr → Prop) (xp : List (Addr × Obj)) : Cx := gcxN G.P G.w G.K G.mg G.base G.N G.qual G.scope G.f G.cd G.A G.outer G.n0 s H (G.E H Z) (G.pn ++ xp)
abbrev GD.env (G : GD) : Env := envOfC G.qual G.scope G.n0 G.f G.cd
structure GOk (G : GD) : Prop where
  nocell : ∀ x c, G.env.cells.lookup x = some c → False
  low : ∀ b ∈ frs G.outer, b < G.n0
  pnlow : ∀ p ∈ G.pn, G.n0 ≤ p.1
  gen : ∀ h : Heap, (∀ p ∈ G.pn, h.get? p.1 = some p.2) → h.IsGen G.a G.g
  apn : ∃ o, (G.a, o) ∈ G.pn
  yT : ∀ i d, G.Yd i d → i < G.T
/-- while it sleeps: of what was tracked only what others own may change -/
structure Naps (b : Bg) (H : Hp) (Z : Addr → Prop) (H2 : Hp) (Z2 : Addr → Prop) : Prop where
  g : b.G H2
  zb : ∀ a, b.B a → Z2 a
  dom : ∀ a, Z2 a → H2 a ≠ none
  young : ∀ a, Z2 a → Z a ∨ H a = none
  keep : ∀ a o, H a = some o → ¬ Z a → H2 a = some o
/-- a state in which it may be woken: own: its own records as they stood -/
structure Wakeable (G : GD) (own : List (Addr × Obj)) (H : Hp) (Z : Addr → Prop) (H2 : Hp) (Z2 : Addr → Prop) (xp : List (Addr × Obj)) (s2 : Shared) : Prop where
  nap : Naps G.b H Z H2 Z2
  bare : AllBare s2.gens
  bs : ∀ b o, G.base.get? b = some o → s2.heap.get? b = some o ∧ H2 b = none
  funs : s2.heap.FunFrames G.base G.outer
  frf : ∀ b ∈ frs G.outer, H2 b = none
  hok : HOk G.P G.w H2 s2.heap
  ownk : ∀ p ∈ own, s2.heap.get? p.1 = some p.2 ∧ H2 p.1 = none
  sz : G.n0 ≤ s2.heap.objs.size
  xok : ∀ p ∈ xp, s2.heap.get? p.1 = some p.2 ∧ H2 p.1 = none ∧ p.1 ≠ G.n0 ∧ p.1 ∉ frs G.outer ∧ (∀ v, p.2.data ≠ .cell v) ∧ ∀ p' ∈ own, p.1 ≠ p'.1
def ownOf (G : GD) (ip : List (Addr × Obj)) (s : Shared) : List (Addr × Obj) := pinsAt [G.n0] s.heap ++ (G.pn ++ ip)
section
variable {G : GD} {ip : List (Addr × Obj)} {σ : L2.St} {H H2 H0 : Hp} {Z Z2 Z0 : Addr → Prop} {xp xp2 : List (Addr × Obj)} {s s2 s0 : Shared}
theorem wake_inv (ok : GOk G) (I : Inv (G.X s0 H0 Z0 xp) ip σ H s) (w : Wakeable G (ownOf G ip s) H Z H2 Z2 xp2 s2) : Inv (G.X (cut G.n0 s2) H2 Z2 xp2) ip σ H2 s2 := by
  obtain ⟨m, ⟨oL, es, ep, hoL, rL⟩, hl⟩ := id I.loc
  have hoL : s.heap.get? G.n0 = some oL := hoL
  have hown := w.ownk (G.n0, oL) (List.mem_append_left _ (mem_pinsAt (by simp) hoL))
  have o := I.ok
  refine ⟨⟨o.mod, o.kind, o.glob, o.blt, pre_size, o.inj, fun x hx => ?_, fun x c _ e => (ok.nocell x c e).elim, o.hd, o.frames, o.stk, o.exf, fun b u e => ?_, ?_, o.noex, o.exfs, pre_frames ok.low w.funs, w.frf⟩, rfl, w.bare, ?_, ⟨m, ⟨oL, es, ep, hown.1, rL⟩, fun i x v e1 e2 e3 => ?_⟩, fun x c e => (ok.nocell x c e).elim, hown.2, fun x c e => (ok.nocell x c e).elim, fun p hp => ?_, w.hok, I.len⟩
  · obtain ⟨c, e⟩ := o.has x hx
    exact ⟨c, e⟩
  · obtain ⟨h1, h2⟩ := w.bs b u e
    have hb : b < G.n0 := Nat.lt_of_lt_of_le (Heap.lt_size e) (Nat.le_trans o.bsz o.above)
    exact ⟨by show (pre G.n0 s2.heap).get? b = _; rw [pre_get hb]; exact h1, h2⟩
  · show G.base.objs.size ≤ (pre G.n0 s2.heap).objs.size
    rw [pre_size' w.sz]
    exact Nat.le_trans o.bsz o.above
  · exact Un.kept fun b u e => (of_pre e).2
  · obtain ⟨u, r, l⟩ := hl i x v e1 e2 e3
    refine ⟨u, r, ?_⟩
    rcases l with l | ⟨k, c, e, z⟩
    · exact .inl l
    · exact (ok.nocell x c e).elim
  · have old : p ∈ G.pn ++ ip → _ := fun hp => by
      have hp' : p ∈ (G.pn ++ xp) ++ ip := (List.mem_append.mp hp).elim (fun z => List.mem_append_left _ (List.mem_append_left _ z)) fun z => List.mem_append_right _ z
      obtain ⟨h1, h2, h3, h4, h5⟩ := I.pin p hp'
      obtain ⟨q1, q2⟩ := w.ownk p (List.mem_append_right _ hp)
      exact And.intro q1 (And.intro q2 (And.intro h3 (And.intro h4 h5)))
    rcases List.mem_append.mp hp with z | z
    · rcases List.mem_append.mp z with z | z
      · exact old (List.mem_append_left _ z)
      · obtain ⟨q1, q2, q3, q4, q5, _⟩ := w.xok p z
        exact ⟨q1, q2, q3, q4, q5⟩
    · exact old (List.mem_append_right _ z)
/-- what it hands over where it falls asleep, or ends -/
structure Gives (G : GD) (s₀ : Shared) (H0 : Hp) (xp : List (Addr × Obj)) (H1 : Hp) (s : Shared) : Prop where
  os : s.os = s₀.os
  bare : AllBare s.gens
  un : Un (frs G.outer) [] H0 H1 (pre G.n0 s₀.heap) s.heap
  hok : HOk G.P G.w H1 s.heap
  ex : Ex G.b H0 H1
  g : G.b.G H1
  gen : s.heap.IsGen G.a G.g
  xk : ∀ p ∈ xp, s.heap.get? p.1 = some p.2 ∧ H1 p.1 = none
def OwnP (G : GD) (own : List (Addr × Obj)) (s : Shared) (H1 : Hp) : Prop := (∃ o, (G.a, o) ∈ own) ∧ ∀ p ∈ own, s.heap.get? p.1 = some p.2 ∧ H1 p.1 = none ∧ G.n0 ≤ p.1 ∧ ∀ v, p.2.data ≠ .cell v
theorem gives_of {s₀ : Shared} (ok : GOk G) (I : Inv (G.X (cut G.n0 s₀) H0 Z0 xp) ip σ H s) (x : Ex G.b H0 H) (g : G.b.G H) : Gives G s₀ H0 xp H s :=
  ⟨I.os, I.bare, I.base, I.hok, x, g, ok.gen _ fun p hp => (I.pin p (List.mem_append_left _ (List.mem_append_left _ hp))).1, fun p hp => let z := I.pin p (List.mem_append_left _ (List.mem_append_right _ hp)); ⟨z.1, z.2.1⟩⟩
theorem ownP_of {s₀ : Shared} (ok : GOk G) (lo : ∀ p ∈ ip, G.n0 ≤ p.1) (I : Inv (G.X s₀ H0 Z0 xp) ip σ H s) : OwnP G (ownOf G ip s) s H := ⟨ok.apn.imp fun o h => List.mem_append_right _ (List.mem_append_left _ h), fun p hp => by
  rcases List.mem_append.mp hp with h | h
  · obtain ⟨h1, h2⟩ := of_pinsAt h
    have e : p.1 = G.n0 := List.mem_singleton.mp h1
    refine ⟨h2, by rw [e]; exact I.free, Nat.le_of_eq e.symm, fun v q => ?_⟩
    obtain ⟨m, ⟨oL, es, ep, hoL, hd, rL⟩, _⟩ := id I.loc
    have hoL : s.heap.get? G.n0 = some oL := hoL
    rw [e, hoL] at h2
    have h2 := Option.some.inj h2
    rw [← h2, hd] at q
    cases q
  · obtain ⟨h1, h2, _, _, h5⟩ := I.pin p ((List.mem_append.mp h).elim (fun z => List.mem_append_left _ (List.mem_append_left _ z)) fun z => List.mem_append_right _ z)
    refine ⟨h1, h2, ?_, h5⟩
    rcases List.mem_append.mp h with z | z
    · exact ok.pnlow p z
    · exact lo p z⟩
end
/-! ### the protocol -/
/-- others' records are none of the generator's own -/
def Dj (xp ip : List (Addr × Obj)) : Prop := ∀ p ∈ xp, ∀ p' ∈ ip, p.1 ≠ p'.1
def GYZ (G : GD) : Protocol := fun m s₀ v s kap => ∃ (H0 : Hp) (Z0 : Addr → Prop) (H1 : Hp) (x : V) (d : PyData) (own xp : List (Addr × Obj)), G.J (m + 1) s₀ H0 Z0 xp ∧ RelV x v ∧ Rq Z0 H1 x d ∧ G.Yd (G.T - (m + 1)) d ∧ Gives G s₀ H0 xp H1 s ∧ OwnP G own s H1 ∧ Dj xp own ∧
  ∀ s2 H2 Z2 xp2, G.J m s2 H2 Z2 xp2 → Wakeable G own H1 Z0 H2 Z2 xp2 s2 → kap (.send .none) s2
def GRZ (G : GD) : GenEnd := fun n s₀ r s => ((r = .ok (.ret .none) ∨ r = .ok .next) ∧ ∃ H0 Z0 H1 xp, G.J n s₀ H0 Z0 xp ∧ Gives G s₀ H0 xp H1 s ∧ G.Qd (G.T - n)) ∨
  ∃ e H0 Z0 xp, r = .error e ∧ G.J n s₀ H0 Z0 xp ∧ CXP G.P G.w G.outer H0 (cut G.n0 s₀) (G.E H0 Z0) (G.pn ++ xp) e s ∧ s.heap.IsGen G.a G.g
/-- where a segment stands: turns, the heap and what was owned where it was woken -/
structure Pt where
  i : Nat
  H0 : Hp
  Z0 : Addr → Prop
  xp : List (Addr × Obj)
structure GZ where
  nx : Pt → L2.St → Hp → Prop
  bk : Pt → L2.St → Hp → Prop
  ct : Pt → L2.St → Hp → Prop
abbrev TZ := GZ → Pt → L2.St → Hp → Prop
abbrev SegZ (G : GD) (n : Nat) (s₀ : Shared) (c : Code) (t : Sem PySem.Fin) (fs : List Frame) (s : Shared) : Prop := Seg (model G.P G.w) G.A (GRZ G) (GYZ G) n s₀ c t fs s
structure Stands (G : GD) (n : Nat) (q : Pt) (s₀ : Shared) : Prop where
  cnt : n + q.i = G.T
  j : G.J n s₀ q.H0 q.Z0 q.xp
  sz : G.n0 ≤ s₀.heap.objs.size
  xpn : ∀ p ∈ q.xp, p.1 ≠ G.n0 ∧ ∀ p' ∈ G.pn, p.1 ≠ p'.1
def GSPz (G : GD) (ip : List (Addr × Obj)) (D : GZ) (s₀ : Shared) (q : Pt) (f : Flow) (s : Shared) : Prop := match f with
  | .next => ∃ σ H, Inv (G.X (cut G.n0 s₀) q.H0 q.Z0 q.xp) ip σ H s ∧ D.nx q σ H
  | .brk => ∃ σ H, Inv (G.X (cut G.n0 s₀) q.H0 q.Z0 q.xp) ip σ H s ∧ D.bk q σ H
  | .cont => ∃ σ H, Inv (G.X (cut G.n0 s₀) q.H0 q.Z0 q.xp) ip σ H s ∧ D.ct q σ H
  | .ret _ => False
structure WC (G : GD) (c : Code) (fs : List Frame) (gd : Bool → Bool) : Prop where
  over : G.A.over c fs = G.A.deeper G.env
  split : splitAtGen fs = none
  guard : fs.any Frame.guarded = false
  gd : gd false = false
structure WK (G : GD) (ip : List (Addr × Obj)) (c : Code) (fs : List Frame) (K : Flow → Sem PySem.Fin) (J : Value → Sem PySem.Fin) (D : GZ) : Prop where
  ok : ∀ n q s₀ s f, Stands G n q s₀ → Dj q.xp ip → GSPz G ip D s₀ q f s → SegZ G n s₀ c (K f) fs s
  exc : ∀ n q s₀ e s, Stands G n q s₀ → (G.X (cut G.n0 s₀) q.H0 q.Z0 q.xp).xe e s → SegZ G n s₀ c (J e) fs s
structure GW (G : GD) (st : Stmt) (t : TZ) : Prop where
  run : GOk G → ∀ (ip : List (Addr × Obj)) (n : Nat) (q : Pt) (s₀ : Shared) (c : Code) (fs : List Frame) (K : Flow → Sem PySem.Fin) (J : Value → Sem PySem.Fin) (gd : Bool → Bool) (lv : List Value → List Value) (s : Shared) (σ : L2.St) (H : Hp) (D : GZ),
    WC G c fs gd → Stands G n q s₀ → WK G ip c fs K J D → (∀ p ∈ ip, G.n0 ≤ p.1) → Dj q.xp ip → Inv (G.X (cut G.n0 s₀) q.H0 q.Z0 q.xp) ip σ H s → t D q σ H → SegZ G n s₀ c ((exec st G.env).wrap K J gd lv) fs s
structure GWs (G : GD) (st : List Stmt) (t : TZ) : Prop where
  run : GOk G → ∀ (ip : List (Addr × Obj)) (n : Nat) (q : Pt) (s₀ : Shared) (c : Code) (fs : List Frame) (K : Flow → Sem PySem.Fin) (J : Value → Sem PySem.Fin) (gd : Bool → Bool) (lv : List Value → List Value) (s : Shared) (σ : L2.St) (H : Hp) (D : GZ),
    WC G c fs gd → Stands G n q s₀ → WK G ip c fs K J D → (∀ p ∈ ip, G.n0 ≤ p.1) → Dj q.xp ip → Inv (G.X (cut G.n0 s₀) q.H0 q.Z0 q.xp) ip σ H s → t D q σ H → SegZ G n s₀ c ((execs st G.env).wrap K J gd lv) fs s
section
variable {G : GD} {st : Stmt} {rest : List Stmt}
def GZ.at (D : GZ) (q : Pt) : Ends := { nx := D.nx q, rt := fun _ _ => False, bk := D.bk q, ct := D.ct q }
/-- a reading by where the segment began -/
abbrev ByZ (α : Type) := Hp → (Addr → Prop) → α
def tZP (t : ByZ TS) : TZ := fun D q σ H => t q.H0 q.Z0 (D.at q) σ H
theorem gw_ps {t : ByZ TS} (h : ∀ s H Z xp, PS (G.X s H Z xp) st (t H Z)) : GW G st (tZP t) := by
  refine ⟨fun ok ip n q s₀ c fs K J gd lv s σ H D g hs k lo dj I ht => ?_⟩
  refine seg_wrap ?_
  rw [g.over]
  refine wpAny_mono ((h _ _ _ _).run ip s σ H (D.at q) I ht) (fun f s' hs' => k.ok n q s₀ s' f hs dj ?_) fun x s' hx => k.exc n q s₀ x s' hs hx
  cases f with
  | next => exact hs'
  | brk => exact hs'
  | cont => exact hs'
  | ret u => obtain ⟨_, _, _, _, _, z⟩ := hs'; exact z
def tZ0 : TZ := fun D q σ H => D.nx q σ H
theorem gws_nil : GWs G [] tZ0 := by
  refine ⟨fun ok ip n q s₀ c fs K J gd lv s σ H D g hs k lo dj I ht => ?_⟩
  exact seg_execs_nil (k.ok n q s₀ s .next hs dj ⟨σ, H, I, ht⟩)
def tZThen (t u : TZ) : TZ := fun D q σ H => t { D with nx := fun q' σ' H' => u D q' σ' H' } q σ H
theorem gws_cons {t u : TZ} (a : GW G st t) (b : GWs G rest u) : GWs G (st :: rest) (tZThen t u) := by
  refine ⟨fun ok ip n q s₀ c fs K J gd lv s σ H D g hs k lo dj I ht => ?_⟩
  refine seg_execs_cons ?_
  refine a.run ok ip n q s₀ c fs _ J gd lv s σ H { D with nx := fun q' σ' H' => u D q' σ' H' } g hs ⟨fun n' q' s₀' s' f hs' dj' hf => ?_, k.exc⟩ lo dj I ht
  cases f with
  | next =>
    obtain ⟨σ', H', I', z⟩ := hf
    exact b.run ok ip n' q' s₀' c fs K J gd lv s' σ' H' D g hs' k lo dj' I' z
  | brk => exact k.ok n' q' s₀' s' .brk hs' dj' hf
  | cont => exact k.ok n' q' s₀' s' .cont hs' dj' hf
  | ret u => exact False.elim hf
end
end VL
set_option Elab.async false
set_option linter.all false
set_option maxRecDepth 100000
set_option maxHeartbeats 4000000
/-! VL106: loops in a generator that sleeps while its consumer runs -/
namespace VL
open PySem PySem.Spec PyProof.Rows L2 GenW
section
variable {G : GD} {ip : List (Addr × Obj)} {c c' : Code} {fs : List Frame} {K : Flow → Sem PySem.Fin} {J : Value → Sem PySem.Fin} {gd : Bool → Bool} {lv : List Value → List Value} {D : GZ} {n : Nat} {q : Pt} {s₀ s : Shared} {e : Value} {p : Pos}
end
section
variable {G : GD}
end
end VL
set_option Elab.async false
set_option linter.all false
set_option maxRecDepth 100000
set_option maxHeartbeats 4000000
/-! VL107: readings of such a generator's body: the number of items that are out -/
namespace VL
open PySem PySem.Spec PyProof.Rows L2 GenW
/-- what is wanted behind a statement, and of each item -/
structure GEz where
  nx : VEnv → Nat → Prop
  bk : VEnv → Nat → Prop
  ct : VEnv → Nat → Prop
  yd : Nat → PyData → Prop
  ex : VEnv → Er → Prop
abbrev VZ := VEnv → Nat → GEz → Prop
abbrev nobody : Addr → Prop := fun _ => False
/-- since then nothing that was shared has changed -/
structure Stay (Hm : Hp) (Zm : Addr → Prop) (H : Hp) (Z : Addr → Prop) : Prop where
  young : ∀ a, Z a → Zm a ∨ Hm a = none
  keep : ∀ a o, Hm a = some o → ¬ Zm a → H a = some o
section
variable {b : Bg} {H H1 H2 : Hp} {Zo Z Z1 Z2 : Addr → Prop} {σ σ' : L2.St} {ρ ρ' : VEnv}
theorem Stay.refl : Stay H Z H Z := ⟨fun _ z => .inl z, fun _ _ e _ => e⟩
theorem Stay.not (x : Stay H Z H1 Z1) {a : Addr} {o : HO} (e : H a = some o) (n : ¬ Z a) : ¬ Z1 a := fun z => (x.young a z).elim n fun q => by rw [e] at q; cases q
theorem Stay.trans (x : Stay H Z H1 Z1) (y : Stay H1 Z1 H2 Z2) : Stay H Z H2 Z2 where
  young := fun a z => by
    rcases y.young a z with h | h
    · exact x.young a h
    · by_cases hz : Z a
      · exact .inl hz
      · cases e : H a with
        | none => exact .inr rfl
        | some o => rw [x.keep a o e hz] at h; cases h
  keep := fun a o e n => y.keep a o (x.keep a o e n) (x.not e n)
theorem Stay.of_fok (v : VOk b Zo Z σ H ρ) (f : FOk b H (Mo Zo Z) Zo Z1 σ' H1 ρ') : Stay H Z H1 Z1 := ⟨f.young v, fun a o e n => f.ext a o e (v.nb n) fun z => n z.1⟩
theorem Stay.of_ex (v : VOk b Zo Z σ H ρ) (x : Ex b H H1) : Stay H Z H1 Z := ⟨fun _ z => .inl z, fun a o e n => x a o e (v.nb n)⟩
theorem Stay.rp (x : Stay H Z H1 Z1) {u : V} {d : D} (r : Rp b Z H u d) : Rp b Z1 H1 u d := r.mono x.young x.keep
end
/-- no name owns anything -/
@[simp] def noOwns : VEnv → Prop
  | [] => True
  | .own _ :: _ => False
  | .un :: r => noOwns r
  | .shr _ :: r => noOwns r
theorem noOwns_at : ∀ {ρ : VEnv} {i : Nat} {d : D}, noOwns ρ → ρ[i]? ≠ some (.own d)
  | [], i, d, _, e => by simp at e
  | .own _ :: r, i, d, h, e => h
  | .un :: r, 0, d, h, e => by simp at e
  | .shr _ :: r, 0, d, h, e => by simp at e
  | .un :: r, i + 1, d, h, e => noOwns_at (ρ := r) (i := i) (d := d) h (by simpa using e)
  | .shr _ :: r, i + 1, d, h, e => noOwns_at (ρ := r) (i := i) (d := d) h (by simpa using e)
structure ZOk (b : Bg) (Hm : Hp) (Zm : Addr → Prop) (q : Pt) (Z : Addr → Prop) (σ : L2.St) (H : Hp) (ρ : VEnv) : Prop where
  f : FOk b q.H0 nobody q.Z0 Z σ H ρ
  st : Stay Hm Zm H Z
structure LkZ (G : GD) (Hm : Hp) (Zm : Addr → Prop) (De : GEz) (D : GZ) : Prop where
  nx : ∀ q Z σ H ρ, ZOk G.b Hm Zm q Z σ H ρ → De.nx ρ q.i → D.nx q σ H
  bk : ∀ q Z σ H ρ, ZOk G.b Hm Zm q Z σ H ρ → De.bk ρ q.i → D.bk q σ H
  ct : ∀ q Z σ H ρ, ZOk G.b Hm Zm q Z σ H ρ → De.ct ρ q.i → D.ct q σ H
  yd : ∀ i d, De.yd i d → G.Yd i d
  ex : ∀ c x (q : Pt) Z σ H ρ er, FOk G.b q.H0 nobody q.Z0 Z σ H ρ → ErRp G.b Z H c x er → De.ex ρ er → G.E q.H0 q.Z0 c x H
def LZ (G : GD) (g : VZ) : TZ := fun D q σ H => ∃ Hm Zm Z ρ De, ZOk G.b Hm Zm q Z σ H ρ ∧ g ρ q.i De ∧ LkZ G Hm Zm De D
def VZt (G : GD) (st : Stmt) (g : VZ) : Prop := GW G st (LZ G g)
def VZs (G : GD) (st : List Stmt) (g : VZ) : Prop := GWs G st (LZ G g)
theorem gw_mono {G : GD} {st : Stmt} {t t' : TZ} (h : GW G st t) (m : ∀ D q σ H, t' D q σ H → t D q σ H) : GW G st t' :=
  ⟨fun ok ip n q s₀ c fs K J gd lv s σ H D g hs k lo dj I ht => h.run ok ip n q s₀ c fs K J gd lv s σ H D g hs k lo dj I (m D q σ H ht)⟩
theorem gws_mono {G : GD} {st : List Stmt} {t t' : TZ} (h : GWs G st t) (m : ∀ D q σ H, t' D q σ H → t D q σ H) : GWs G st t' :=
  ⟨fun ok ip n q s₀ c fs K J gd lv s σ H D g hs k lo dj I ht => h.run ok ip n q s₀ c fs K J gd lv s σ H D g hs k lo dj I (m D q σ H ht)⟩
section
variable {G : GD} {Hm H H1 : Hp} {Zm Z Z' : Addr → Prop} {q : Pt} {σ σ' : L2.St} {ρ ρ' : VEnv} {De : GEz} {D : GZ}
theorem ZOk.ex (f : ZOk G.b Hm Zm q Z σ H ρ) (x : Ex G.b H H1) (g : G.b.G H1) : ZOk G.b Hm Zm q Z σ H1 ρ := ⟨f.f.ex x g, f.st.trans (Stay.of_ex f.f.v x)⟩
theorem ZOk.back (f : ZOk G.b Hm Zm q Z σ H ρ) (f' : FOk G.b H (Mo q.Z0 Z) q.Z0 Z' σ' H1 ρ') : ZOk G.b Hm Zm q Z' σ' H1 ρ' := ⟨f.f.back f', f.st.trans (Stay.of_fok f.f.v f')⟩
theorem LkZ.er (l : LkZ G Hm Zm De D) (f : ZOk G.b Hm Zm q Z σ H ρ) : ∀ c x H' er, Ex G.b H H' → G.b.G H' → ErRp G.b Z H' c x er → De.ex ρ er → G.E q.H0 q.Z0 c x H' := fun c x H' er x1 g1 r z => l.ex c x q Z σ H' ρ er (f.f.ex x1 g1) r z
end
section
variable {G : GD} {st : Stmt} {rest xs zs body : List Stmt} {t : VS} {g u : VZ} {pos yp : Pos}
/-- a statement that hands out nothing -/
@[simp] def zP (t : VS) : VZ := fun ρ i De => t ρ { nx := fun ρ' => De.nx ρ' i, rt := fun _ => False, bk := fun ρ' => De.bk ρ' i, ct := fun ρ' => De.ct ρ' i, ex := De.ex }
theorem vz_ps (h : ∀ s H Z xp, VSt (G.X s H Z xp) G.b (WF (G.E H Z)) st t) : VZt G st (zP t) := gw_mono (gw_ps (t := fun H Z => LS G.b (WF (G.E H Z)) t) h) fun D q σ H ⟨Hm, Zm, Z, ρ, De, f, z, l⟩ =>
  ⟨H, Mo q.Z0 Z, q.Z0, Z, ρ, _, f.f.v.here, z, ⟨fun Z' σ' H' ρ' f' z' => l.nx q Z' σ' H' ρ' (f.back f') z', fun _ _ _ _ _ _ z' => z'.elim, fun Z' σ' H' ρ' f' z' => l.bk q Z' σ' H' ρ' (f.back f') z',
    fun Z' σ' H' ρ' f' z' => l.ct q Z' σ' H' ρ' (f.back f') z', fun c x Z' σ' H' ρ' er f' re z' => l.ex c x q Z' σ' H' ρ' er (f.f.back f') re z'⟩⟩
@[simp] def zNil : VZ := fun ρ i De => De.nx ρ i
theorem vz_nil : VZs G [] zNil := gws_mono gws_nil fun D q σ H ⟨Hm, Zm, Z, ρ, De, f, z, l⟩ => l.nx q Z σ H ρ f z
@[simp] def zThen (g u : VZ) : VZ := fun ρ i De => g ρ i { De with nx := fun ρ' i' => u ρ' i' De }
theorem vz_cons (h : VZt G st g) (k : VZs G rest u) : VZs G (st :: rest) (zThen g u) := gws_mono (gws_cons h k) fun D q σ H ⟨Hm, Zm, Z, ρ, De, f, z, l⟩ =>
  ⟨Hm, Zm, Z, ρ, _, f, z, ⟨fun q' Z' σ' H' ρ' f' z' => ⟨Hm, Zm, Z', ρ', De, f', z', l⟩, l.bk, l.ct, l.yd, l.ex⟩⟩
@[simp] def zIf (c : VB) (g u : VZ) : VZ := fun ρ i De => c ρ (fun k => if k = true then g ρ i De else u ρ i De) (De.ex ρ)
/-- an item: plain data; no name owns anything here -/
@[simp] def zYl (t : VT) : VZ := fun ρ i De => noOwns ρ ∧ t ρ (fun d => ∃ p, d = .py p ∧ De.yd i p ∧ De.nx ρ (i + 1)) (De.ex ρ)
@[simp] def zFor (ti : VIt) (tg : VTg) (tb : VZ) : VZ := fun ρ i De => ti ρ (fun ds => zForGo tg tb ds ρ i De) (De.ex ρ)
where @[simp] zForGo (tg : VTg) (tb : VZ) : List D → VEnv → Nat → GEz → Prop
  | [], ρ, i, De => De.nx ρ i
  | d :: ds, ρ, i, De => tg d ρ fun ρ1 => tb ρ1 i { De with nx := fun ρ2 i2 => zForGo tg tb ds ρ2 i2 De, ct := fun ρ2 i2 => zForGo tg tb ds ρ2 i2 De, bk := De.nx }
end
end VL
set_option Elab.async false
set_option linter.all false
set_option maxRecDepth 100000
set_option maxHeartbeats 4000000
/-! VL108: the promise of a generator def whose consumer runs any code -/
namespace VL
open PySem PySem.Spec PyProof.Rows L2 GenW
/-- the arguments; what is asked of each item by its place; of their number; of an error ahead of them -/
abbrev SZ := List D → (Nat → PyData → Prop) → (Nat → Prop) → (Er → Prop) → Prop
@[simp] def finZ (Y : Nat → PyData → Prop) (Q : Nat → Prop) (E : Er → Prop) : GEz := { nx := fun _ i => Q i, bk := fun _ _ => False, ct := fun _ _ => False, yd := Y, ex := fun _ => E }
/-- an error's wish, by where its segment began -/
def EZ (b : Bg) (Ed : Er → Prop) : Hp → (Addr → Prop) → XK := fun H Z c d H' => ∃ er, Ed er ∧ Ex b H H' ∧ b.G H' ∧ ErRp b Z H' c d er
def GD.use (G : GD) (A : Around) (T : Nat) (J : Cons) (Y : Nat → PyData → Prop) (Q : Nat → Prop) (Ed : Er → Prop) : GD := { G with A := A, E := EZ G.b Ed, T := T, J := J, Yd := Y, Qd := Q }
/-- a generator that has not begun -/
structure MadeZ (P : Program) (w : World) (base : Heap) (k : Nat) (outer : List Env) (b : Bg) (S : SZ) (ds : List D) (H : Hp) (Z : Addr → Prop) (s : Shared) (G : GD) (c : Code) (own : List (Addr × Obj)) (s' : Shared) : Prop where
  is : G.P = P ∧ G.w = w ∧ G.base = base ∧ G.outer = outer ∧ G.n0 = s.heap.objs.size ∧ G.b = b
  gen : s'.heap.IsGen G.a G.g
  at_ : s'.gens[G.g]? = some (.fresh c)
  os : s'.os = s.os
  bare : AllBare s'.gens
  keep : ∀ c o, s.heap.get? c = some o → s'.heap.get? c = some o
  ownp : OwnP G own s' H
  run : ∀ (A : Around) (T : Nat) (J : Cons) (Y : Nat → PyData → Prop) (Q : Nat → Prop) (Ed : Er → Prop), Room k A → A.frames = some outer → S ds Y Q Ed → (∀ i d, Y i d → i < T) → GOk (G.use A T J Y Q Ed) ∧
    ∀ s2 H2 Z2 xp2, J T s2 H2 Z2 xp2 → Wakeable (G.use A T J Y Q Ed) own H Z H2 Z2 xp2 s2 → SegZ (G.use A T J Y Q Ed) T s2 c ((model P w).den c) [] s2
structure GFnZ (P : Program) (w : World) (K : PySem.W.Frag) (mg : Str → Option Value) (base : Heap) (b : Bg) (k : Nat) (f : Addr) (fd : FuncData) (ps : List Str) (S : SZ) : Prop where
  len : ∀ ds Y Q E, S ds Y Q E → ds.length = ps.length
  run : ∀ (A : Around) (outer : List Env) (s : Shared) (H : Hp) (Z : Addr → Prop) (args : Args) (us : List Value) (vs : List V) (ds : List D), Room k A → Env0 P w K mg base A outer s H → BindsTo s fd args (ps.zip us) → Vals vs us → Gd b Z H → Rps b Z H vs ds → ds.length = ps.length →
    codeAny (model P w) A (.call (.ref f) args) (fun r s' => ∃ G c own, r = .ok (.ret (.ref G.a)) ∧ MadeZ P w base k outer b S ds H Z s G c own s') s
section
variable {P : Program} {w : World} {K : PySem.W.Frag} {mg : Str → Option Value} {base : Heap} {b : Bg} {k : Nat} {f : Addr} {name qual : Str} {params : Arguments} {body : List Stmt} {scope : Scope} {dV kV doc pm cdv ct oc : Value} {an od : Option Addr} {osl : Array (Option Value)} {N ps : List Str} {S : SZ} {g : VZ}
theorem ErRp.less {Z Z' : Addr → Prop} {H : Hp} {c : Value} {d : Option Addr} {er : Er} (h : ∀ a, Z' a → Z a) (r : ErRp b Z H c d er) : ErRp b Z' H c d er := by
  obtain ⟨h1, h2⟩ := r
  refine ⟨h1, h2.imp id ?_⟩
  rintro ⟨a, xs, e1, e2, e3, e4⟩
  exact ⟨a, xs, e1, e2, fun z => e3 (h a z), e4.mono (fun c z => .inl (h c z)) fun _ _ e _ => e⟩
theorem gfnz_of (lk : K.lookup f = some ⟨oc, od, .func (PySem.W.fnOf name qual params body scope dV kV doc pm an cdv ct), osl⟩) (hcd : PySem.W.codeIn K cdv qual = true) (Sc : GScope N ps scope) (hcell : ∀ n, cellsFrom n scope.names [] = [])
    (len : ∀ ds Y Q E, S ds Y Q E → ds.length = ps.length) (hps : ps.length ≤ N.length)
    (hbody : ∀ (A : Around) (outer : List Env) (n0 : Addr) (E : Hp → (Addr → Prop) → XK) (pn : List (Addr × Obj)) (a : Addr) (gi T : Nat) (J : Cons) (Y : Nat → PyData → Prop) (Q : Nat → Prop), Room k (A.deeper (envOfC qual scope n0 f cdv)) →
      VZs (GD.mk P w K mg base N qual scope f cdv A outer n0 E pn b a gi T J Y Q) body g)
    (hlaw : ∀ ds Y Q E, S ds Y Q E → g (envOf N.length ds) 0 (finZ Y Q E)) :
    GFnZ P w K mg base b (k + 1) f (PySem.W.fnOf name qual params body scope dV kV doc pm an cdv ct) ps S := by
  refine ⟨len, fun A outer s H Z args us vs ds hr e0 hb r gd rp hl0 => ?_⟩
  have hl : vs.length = ps.length := rp.length.trans hl0
  have KX : K.In s.heap := e0.mod.kin.keeps fun b o e => (e0.bs b o e).1
  have lim : s.heap.NoLimit := e0.mod.nolimit.keeps fun b o e => (e0.bs b o e).1
  have hkind : ∀ y ∈ ps.zip us, scope.names.lookup y.1 = some .local ∨ (scope.names.lookup y.1 = some .cell ∧ ((cellsFrom (s.heap.objs.size + 1) scope.names []).lookup y.1).isSome = true) := fun ⟨n, v⟩ hy => by
    rcases Sc.par n (List.of_mem_zip hy).1 with q | q
    · exact .inl q
    · exact .inr ⟨q, PySem.W.cellsFrom_some _ _ _ (.inl q)⟩
  refine codeAny_call_generator hr.depth (KX _ _ lk) rfl Sc.co Sc.gen rfl (PySem.W.codeRec_of KX hcd) (hb _ _ _ _ ?_)
  refine wpAny_newFunctionEnv_cells Sc.kind hkind fun env he s1 x => ?_
  subst he
  have lim1 : s1.heap.NoLimit := lim.keeps x.toInCall.keep
  refine ⟨lim1, ?_⟩
  obtain ⟨h1, tk, es1, hk1⟩ := x.done
  have os1 : s1.os = s.os := by rw [es1]
  have gen1 : s1.gens = s.gens := by rw [es1]
  have lt1 : s.heap.objs.size < s1.heap.objs.size := x.toInCall.ns.lt
  have sz1 : s.heap.objs.size ≤ s1.heap.objs.size := Nat.le_of_lt lt1
  have kp1 : ∀ b o, s.heap.get? b = some o → s1.heap.get? b = some o := x.toInCall.keep
  have main : ∀ (go : Obj) (nm qn : Value) (tk2 : Nat) (sE : Shared), go.cls = .type "generator" → go.data = .fields #[.int s1.gens.size 0, nm, qn] → go.slots = #[] → (∀ h : Heap, (h.push go).get? h.objs.size = some go) →
      sE = { s1 with gens := s1.gens.push (.fresh (.func body (envOfC qual scope s.heap.objs.size f cdv))), toks := tk2, heap := s1.heap.push go } →
      ∃ G c own, (.ok (.ret (.ref s1.heap.objs.size)) : Result) = .ok (.ret (.ref G.a)) ∧ MadeZ P w base (k + 1) outer b S ds H Z s G c own sE := by
    intro go nm qn tk2 sE hgc hgd0 hgs hgp hsE
    have hgen : ∀ h : Heap, h.get? s1.heap.objs.size = some go → h.IsGen s1.heap.objs.size s1.gens.size := fun h e => ⟨go, nm, qn, e, hgc, hgd0, hgs⟩
    have hpushed : sE.heap.get? s1.heap.objs.size = some go := by rw [hsE]; exact hgp _
    have kpE : ∀ b o, s1.heap.get? b = some o → sE.heap.get? b = some o := fun b o e => by rw [hsE]; exact Heap.get?_push_of_some _ e
    have bareE : AllBare sE.gens := by rw [hsE]; exact AllBare.push (by rw [gen1]; exact e0.bare) rfl
    have hgd : ∀ v, go.data ≠ .cell v := fun v q => by rw [hgd0] at q; cases q
    -- the state as the body finds it
    have inv : ∀ (Aw : Around) (E : XK), Aw.handled = none → Aw.frames = some outer → Inv (gcxN P w K mg base N qual scope f cdv Aw outer s.heap.objs.size s H E [(s1.heap.objs.size, go)]) [] (start N vs) H sE := fun Aw E hh hfr => by
      have e0w : Env0 P w K mg base Aw outer s H := ⟨hfr, e0.mod, e0.bs, e0.bsz, e0.funs, e0.frf, e0.hok, e0.bare⟩
      have I1 : Inv (gcxOf P w K mg base N qual scope f cdv Aw outer s H E []) [] (start N vs) H s1 := inv_startG Sc hh e0w hl r x
      have I2 : Inv (gcxOf P w K mg base N qual scope f cdv Aw outer s H E []) [] (start N vs) H sE :=
        I1.call' (ch := []) (by rw [hsE]) (Un.kept kpE) (I1.hok.kept kpE) bareE fun b z => by simp at z
      have o := I2.ok
      refine ⟨⟨o.mod, o.kind, o.glob, o.blt, o.above, o.inj, o.has, o.cab, o.hd, o.frames, o.stk, o.exf, o.bs, o.bsz, o.noex, o.exfs, o.funs, o.frf⟩, I2.os, I2.bare, I2.base, I2.loc, I2.cell, I2.free, I2.freeC, fun p hp => ?_, I2.hok, I2.len⟩
      have hp : p ∈ [(s1.heap.objs.size, go)] ++ [] := hp
      have e : p = (s1.heap.objs.size, go) := by simpa using hp
      rw [e]
      exact ⟨hpushed, I1.hok.fresh (Nat.le_refl _), Nat.ne_of_gt lt1, I1.nofs (Nat.le_refl _), hgd⟩
    have I0 := inv (A) (fun _ _ _ => False) hr.hd e0.frames
    refine ⟨⟨P, w, K, mg, base, N, qual, scope, f, cdv, A, outer, s.heap.objs.size, fun _ _ _ _ _ => False, [(s1.heap.objs.size, go)], b, s1.heap.objs.size, s1.gens.size, 0, fun _ _ _ _ _ => False, fun _ _ => False, fun _ => False⟩, _,
      pinsAt [s.heap.objs.size] sE.heap ++ ([(s1.heap.objs.size, go)] ++ []), rfl, ⟨rfl, rfl, rfl, rfl, rfl, rfl⟩, hgen _ hpushed, by rw [hsE]; exact Array.getElem?_push_size .., by rw [hsE]; exact os1, bareE, fun b o e => kpE b o (kp1 b o e), ⟨⟨go, List.mem_append_right _ (List.mem_append_left _ (List.mem_singleton.mpr rfl))⟩, fun p hp => ?_⟩, ?_⟩
    · rcases List.mem_append.mp hp with h | h
      · obtain ⟨z1, z2⟩ := of_pinsAt h
        have e : p.1 = s.heap.objs.size := List.mem_singleton.mp z1
        obtain ⟨m, ⟨oL, es, ep, hoL, hd, rL⟩, _⟩ := id I0.loc
        have hoL : sE.heap.get? s.heap.objs.size = some oL := hoL
        refine ⟨z2, by rw [e]; exact I0.free, Nat.le_of_eq e.symm, fun v q => ?_⟩
        rw [e, hoL] at z2
        have z2 := Option.some.inj z2
        rw [← z2, hd] at q
        cases q
      · have e : p = (s1.heap.objs.size, go) := by simpa using h
        rw [e]
        exact ⟨hpushed, (I0.pin (s1.heap.objs.size, go) (by simp [gcxN])).2.1, sz1, hgd⟩
    · intro Aw T J Y Q Ed hrw hfr hS hT
      have ok : GOk (GD.use ⟨P, w, K, mg, base, N, qual, scope, f, cdv, A, outer, s.heap.objs.size, fun _ _ _ _ _ => False, [(s1.heap.objs.size, go)], b, s1.heap.objs.size, s1.gens.size, 0, fun _ _ _ _ _ => False, fun _ _ => False, fun _ => False⟩ Aw T J Y Q Ed) :=
        { nocell := fun x c e => by
            have e : (cellsFrom (s.heap.objs.size + 1) scope.names []).lookup x = some c := e
            rw [hcell] at e
            cases e
          low := fun b hb => by
            obtain ⟨_, o, ho, _⟩ := e0.funs.mem hb
            exact Heap.lt_size ho
          pnlow := fun p hp => by
            have e : p = (s1.heap.objs.size, go) := List.mem_singleton.mp hp
            rw [e]; exact sz1
          gen := fun h hp => hgen h (hp (s1.heap.objs.size, go) (List.mem_singleton.mpr rfl))
          apn := ⟨go, List.mem_singleton.mpr rfl⟩
          yT := hT }
      refine ⟨ok, fun s2 H2 Z2 xp2 j2 w2 => ?_⟩
      have ht := hbody Aw outer s.heap.objs.size (EZ b Ed) [(s1.heap.objs.size, go)] s1.heap.objs.size s1.gens.size T J Y Q (hrw.deeper _)
      have I3 := wake_inv (s0 := s) (H0 := H) (Z0 := Z) (xp := []) ok (inv Aw (EZ b Ed H Z) hrw.hd hfr) w2
      have v0 : VOk b Z2 Z2 (start N vs) H2 (envOf N.length ds) := VOk.entry ⟨w2.nap.g, w2.nap.zb, w2.nap.dom⟩ (rp.mono w2.nap.young w2.nap.keep) (Nat.le_trans (Nat.le_of_eq hl) hps)
      refine seg_func ?_
      refine ht.run ok [] T ⟨0, H2, Z2, xp2⟩ s2 _ [] _ _ id id s2 (start N vs) H2 { nx := fun q σ H => Q q.i ∧ Ex b q.H0 H ∧ b.G H, bk := fun _ _ _ => False, ct := fun _ _ _ => False } ⟨over_func, rfl, rfl, rfl⟩ ⟨Nat.add_zero _, j2, w2.sz, fun p hp => ⟨(w2.xok p hp).2.2.1, fun p' hp' => (w2.xok p hp).2.2.2.2.2 p' (List.mem_append_right _ (List.mem_append_left _ hp'))⟩⟩ ⟨fun n q s₀ s' fl hs _ hf => ?_, fun n q s₀ e s' hs hx => ?_⟩ (fun p hp => by simp at hp) (fun p _ p' hp' => by simp at hp') I3
        ⟨H2, Z2, Z2, _, _, ⟨⟨v0, fun _ _ e _ _ => e, fun i d a e _ => by rcases envOf_at e with h | ⟨d', h, _⟩ <;> cases h⟩, Stay.refl⟩, hlaw ds Y Q Ed hS, ⟨fun q Z' σ' H' ρ' f' z' => ⟨z', fun a o e nb => f'.f.ext a o e nb fun z => z, f'.f.v.g⟩, fun _ _ _ _ _ _ z => z.elim, fun _ _ _ _ _ _ z => z.elim, fun _ _ z => z, fun c x q Z' σ' H' ρ' er f' re z' =>
          ⟨er, z', fun a o e nb => f'.ext a o e nb fun z => z, f'.v.g, re.less f'.v.zo⟩⟩⟩
      · cases fl with
        | next =>
          obtain ⟨σ', H', I', z1, z2, z3⟩ := hf
          refine seg_end (.ok (.ret .none)) (.inl ⟨.inl rfl, q.H0, q.Z0, H', q.xp, hs.j, gives_of ok I' z2 z3, ?_⟩)
          have en := hs.cnt
          have en : n + q.i = T := en
          have e : T - n = q.i := by omega
          show Q (T - n)
          rw [e]; exact z1
        | brk => obtain ⟨_, _, _, z⟩ := hf; exact False.elim z
        | cont => obtain ⟨_, _, _, z⟩ := hf; exact False.elim z
        | ret u => exact False.elim hf
      · refine seg_wrap ?_
        show wpAny _ (Aw.over (.func body (envOfC qual scope s.heap.objs.size f cdv)) []) _ _ _ _
        rw [over_func]
        refine wpAny_mono (show wpAny (model P w) (Aw.deeper (envOfC qual scope s.heap.objs.size f cdv)) (leaving (envOfC qual scope s.heap.objs.size f cdv) e) (fun _ s'' => CXP P w outer q.H0 (cut s.heap.objs.size s₀) (EZ b Ed q.H0 q.Z0) ([(s1.heap.objs.size, go)] ++ q.xp) e s'') (fun _ _ => False) s' from hx) (fun _ s'' z => ?_) fun _ s'' z => z.elim
        refine seg_end (.error e) (.inr ⟨e, q.H0, q.Z0, q.xp, rfl, hs.j, z, ?_⟩)
        obtain ⟨_, Bh, _, _, _, _, fl, _, _, _, _, _, _, pb⟩ := z
        exact hgen _ (fl.1 _ _ (pb (s1.heap.objs.size, go) (List.mem_append_left _ (List.mem_singleton.mpr rfl))).1)
  exact main _ _ _ _ _ rfl rfl rfl (fun h => Heap.get?_push_size _ rfl) rfl
end
end VL
set_option Elab.async false
set_option linter.all false
set_option maxRecDepth 100000
set_option maxHeartbeats 4000000
/-! VL109: the consumer's turn: next of such a generator; it sleeps behind it, and stays as it is through any code -/
namespace VL
open PySem PySem.Spec PyProof.Rows L2 GenW
open Sem (wp)
/-- how the sleeper goes on -/
def kapZ (M : Model) (B : Around) (Rr : GenEnd) (Yy : Protocol) : Nat → GenState → Resume → Shared → Prop
  | 0, _, _, _ => False
  | j + 1, gs', r', s'' => gs'.Goes M B Rr Yy j r' s''
theorem resume_z {M : Model} {B : Around} {Rr : GenEnd} {Yy : Protocol} {m : Nat} {Ex' : Value → Shared → Prop} {st : Shared} {g : Nat} {gs : GenState} {r : Resume} {l : List Value} {α : Type} {kk : GenResult → Sem α} {Po : α → Shared → Prop}
    (at_ : st.gens[g]? = some gs) (go : gs.Goes M B Rr Yy m r (st.setGen g .running)) (left : ∀ x s1, Rr m (st.setGen g .running) x s1 → wpAny M B (kk (End.ret x).result) Po Ex' (s1.setGen g .finished))
    (slept : ∀ v s1 gs', gs'.bare = true → isAsleep gs' → Yy (m - 1) (st.setGen g .running) v s1 (kapZ M B Rr Yy m gs') → wpAny M B (kk (.yielded v)) Po Ex' (s1.setGen g gs')) :
    wpAny M B (.resume g r l kk) Po Ex' st := by
  intro Γ p hΓ
  rw [Sem.wp_resume]
  have ending : ∀ e1 s1, SegEnd Rr Yy m (Seg.next M B Rr Yy m) (st.setGen g .running) e1 s1 → e1.quiet = true ∧ wp M Γ (kk e1.result) (fun a _ s' => Po a s') (fun e _ s' => Ex' e s') p (s1.setGen g e1.genState) := fun e1 s1 he => by
    cases e1 with
    | ret x => exact ⟨rfl, left x s1 he Γ p hΓ⟩
    | susp v g0 l0 k0 c0 p0 fs0 =>
      refine ⟨he.1, slept v s1 _ (End.bare_of_quiet he.1) ⟨_, _, _, _, _, _, rfl⟩ ?_ Γ p hΓ⟩
      cases m with
      | zero => exact he.2
      | succ j => exact he.2
  have run : ∀ (c : Code) (p1 : Pos) (t : Sem PySem.Fin) (fs : List Frame), Seg M B Rr Yy m (st.setGen g .running) c t fs (st.setGen g .running) →
      (∀ e1 s1, Runs M (Γ.wake c p) p1 t fs (st.setGen g .running) e1 s1 → e1.quiet = true → Wakes M Γ p g r st e1.result (s1.setGen g e1.genState)) →
      ∃ res s', Wakes M Γ p g r st res s' ∧ wp M Γ (kk res) (fun a _ s' => Po a s') (fun e _ s' => Ex' e s') p s' := fun c p1 t fs hs wk => by
    obtain ⟨e1, s1, hr, he⟩ := seg_iff.mp hs (Γ.wake c p) p1 rfl (hΓ.wake c p)
    obtain ⟨q1, q2⟩ := ending e1 s1 he
    exact ⟨_, _, wk e1 s1 hr q1, q2⟩
  cases gs with
  | fresh c =>
    obtain ⟨er, hs⟩ := go
    subst er
    exact run c p _ _ hs fun e1 s1 hr hq => by unfold Wakes; rw [at_]; exact ⟨e1, s1, hr, hq, rfl, rfl⟩
  | suspended k0 l0 c0 p0 fs0 cl => exact run c0 p0 _ _ go fun e1 s1 hr hq => by unfold Wakes; rw [at_]; exact ⟨e1, s1, hr, hq, rfl, rfl⟩
  | running => exact go.elim
  | finished => exact go.elim
section
variable {P : Program} {w : World} {B : Around} {Ex' : Value → Shared → Prop} {st : Shared}
theorem next_z {a : Addr} {g m : Nat} {gs : GenState} {Rr : GenEnd} {Yy : Protocol} {Po : Option Value → Shared → Prop} (hh : B.handled = none) (hl : st.heap.NoLimit) (room : B.depth < recursionLimit) (isg : st.heap.IsGen a g) (at_ : st.gens[g]? = some gs)
    (go : gs.Goes (model P w) B.in1 Rr Yy m (.send .none) (st.setGen g .running))
    (slept : ∀ v s1 gs', gs'.bare = true → isAsleep gs' → Yy (m - 1) (st.setGen g .running) v s1 (kapZ (model P w) B.in1 Rr Yy m gs') → Po (some v) (s1.setGen g gs'))
    (left : ∀ x s1, Rr m (st.setGen g .running) x s1 → (x = .ok (.ret .none) ∨ x = .ok .next) ∧ (∀ h', (∀ b o, s1.heap.get? b = some o → h'.get? b = some o) → Po none { s1.setGen g .finished with heap := h' }) ∨
      ∃ e, x = .error e ∧ s1.heap.IsGen a g ∧ NotStop (model P w) e s1.heap ∧ Ex' e (s1.setGen g .finished)) :
    wpAny (model P w) B (pyNext (.ref a)) Po Ex' st := by
  unfold pyNext
  refine wpAny_bind (wpAny_attempt (wpAny_callSpecial?_slot (name := Str.ofString "__next__") isg.typeIs slot_gen_next (wpAny_call_entry slot_gen_next isg.typeIs entry_gen_next ?_ (args_gen_next _))))
  show wpAny _ B.in1 (Builtin.Generator.genWake (.ref a) (.send .none)) _ _ st
  unfold Builtin.Generator.genWake
  refine wpAny_bind (wpAny_holding (wpAny_genNumber isg (wpAny_bind (wpAny_genState at_ ?_))))
  cases gs with
  | running => exact go.elim
  | finished => exact go.elim
  | _ =>
    refine wpAny_bind (wpAny_roomToWake hl room ?_)
    show wpAny _ B.in1 (.resume g (.send .none) [] _) _ _ st
    refine resume_z at_ go (fun x s1 hx => ?_) fun v s1 gs' hb ha hv => wpAny_pure ⟨v, rfl, wpAny_pure (slept v s1 gs' hb ha hv)⟩
    rcases left x s1 hx with ⟨hr, hp⟩ | ⟨e, er, isg1, hns, hq⟩
    · have res : End.result (.ret x) = .returned .none := by rcases hr with hr | hr <;> rw [hr] <;> rfl
      first | rw [res] | simp only [res]
      show wpAny _ B.in1 (newExc (.type "StopIteration") [] >>= _) _ _ _
      refine wpAny_bind ?_
      simp only [newExc, newTuple]
      refine wpAny_bind (wpAny_newObj_type ?_ (by size_fits))
      refine wpAny_bind (m := firstArgMember _ _) (wpAny_of_eq (a := Value.none) (by first | rfl | (simp only [firstArgMember]; rfl)) (wpAny_newObj_type ?_ (by size_fits)))
      simp only [raiseNew]
      refine wpAny_bind (wpAny_bind (wpAny_handled ?_))
      first | rw [show B.in1.handled = none from hh] | rw [hh]
      refine wpAny_throw (wpAny_bind (wpAny_isInstance (T := "StopIteration") (b := true) ⟨_, Heap.get?_push_size _ rfl, rfl⟩ isSubtype_stop ?_))
      exact wpAny_pure (hp _ fun b o hb => Heap.get?_push_of_some _ (Heap.get?_push_of_some _ hb))
    · subst er
      obtain ⟨o, nm, qn, ho, hc, hd, hsl⟩ := isg1
      show wpAny _ B.in1 (Builtin.Generator.genLeft (.ref a) e) _ _ _
      unfold Builtin.Generator.genLeft Builtin.Generator.madeByALambda
      refine wpAny_bind (wpAny_bind (wpAny_load (o := o) ho (wpAny_pure (wpAny_bind (hns _ _ _ _ rfl ?_)))))
      rw [Bool.and_false, if_neg Bool.false_ne_true]
      unfold Builtin.Generator.genEscaped
      first
        | refine wpAny_bind (hns _ _ _ _ rfl ?_)
        | refine wpAny_bind (wpAny_pure (wpAny_bind (hns _ _ _ _ rfl ?_)))
      rw [if_pos (show (!false) = true from rfl)]
      first
        | refine wpAny_throw (hns _ _ _ _ rfl ?_)
        | refine wpAny_throw (wpAny_bind (hns _ _ _ _ rfl ?_))
        | refine wpAny_bind (wpAny_throw (wpAny_bind (hns _ _ _ _ rfl ?_)))
      rw [if_neg Bool.false_ne_true]
      exact wpAny_throw hq
end
end VL
set_option Elab.async false
set_option linter.all false
set_option maxRecDepth 100000
set_option maxHeartbeats 4000000
/-! VL110: the consumer: what it keeps while it runs, the turn -/
namespace VL
open PySem PySem.Spec PyProof.Rows L2 GenW
section
variable {X : Cx} {pins : List (Addr × Obj)} {σ : L2.St} {H : Hp} {s : Shared}
theorem _root_.L2.Inv.gensZ {g' : Array GenState} (I : Inv X pins σ H s) (h : AllBare g') : Inv X pins σ H { s with gens := g' } := ⟨I.ok, I.os, h, I.base, I.loc, I.cell, I.free, I.freeC, I.pin, I.hok, I.len⟩
end
/-- all that sleeps stays as it is -/
def KeptG (s s' : Shared) : Prop := ∀ (i : Nat) (y : GenState), s.gens[i]? = some y → isAsleep y → s'.gens[i]? = some y
theorem KeptG.trans {a b c : Shared} (h : KeptG a b) (k : KeptG b c) : KeptG a c := fun i y e n => k i y (h i y e n) n
theorem sleepers_of {s : Shared} {i : Nat} {y : GenState} (e : s.gens[i]? = some y) (n : isAsleep y) : sleepers s i = some y := by
  obtain ⟨k, l, c, p, fs, cl, rfl⟩ := n
  exact sleepers_at e
theorem kept_ov {s z : Shared} (d : Dorm (sleepers s) z.gens) : KeptG s (ovS (sleepers s) z) := fun i y e n => ovG_some d (sleepers_of e n)
theorem bare_numbed {s : Shared} (h : AllBare s.gens) : AllBare (numbed s).gens := fun y hy => by
  obtain ⟨x, hx, rfl⟩ := Array.mem_map.mp hy
  rw [numb_bare]
  exact h x hx
theorem bare_ov {s z : Shared} (h : AllBare s.gens) (k : AllBare z.gens) : AllBare (ovS (sleepers s) z).gens := fun y hy => by
  obtain ⟨i, hi, e⟩ := Array.mem_iff_getElem.mp hy
  have e' : (ovG (sleepers s) z.gens)[i]? = some y := by rw [← e]; exact Array.getElem?_eq_getElem hi
  rw [ovG_get] at e'
  cases q : z.gens[i]? with
  | none => rw [q] at e'; cases e'
  | some x =>
    rw [q] at e'
    cases r : sleepers s i with
    | none =>
      rw [r] at e'
      have e' : x = y := Option.some.inj e'
      rw [← e']
      exact k x (Array.mem_of_getElem? q)
    | some x' =>
      rw [r] at e'
      have e' : x' = y := Option.some.inj e'
      rw [← e']
      exact h x' (Array.mem_of_getElem? (sleepers_some r).2)
section
variable {X : Cx} {pins : List (Addr × Obj)} {σ : L2.St} {H : Hp} {s : Shared} {xe : Value → Shared → Prop}
end
/-- a generator of ours that sleeps (or has not begun): it goes on from each state that is like this -/
structure SleepsAt (G : GD) (n : Nat) (own : List (Addr × Obj)) (H1 : Hp) (Z1 : Addr → Prop) (s : Shared) : Prop where
  gen : s.heap.IsGen G.a G.g
  at_ : ∃ gs, s.gens[G.g]? = some gs ∧ ∀ s2 H2 Z2 xp, G.J n s2 H2 Z2 xp → Wakeable G own H1 Z1 H2 Z2 xp s2 → gs.Goes (model G.P G.w) G.A (GRZ G) (GYZ G) n (.send .none) s2
/-- the consumer's context and the generator's -/
structure Feeds (G : GD) (X : Cx) : Prop where
  P : G.P = X.prog
  w : G.w = X.w
  base : G.base = X.base
  outer : G.outer = X.stack
  A : G.A = X.A.in1
  hd : X.A.handled = none
  dp : X.A.depth < recursionLimit
section
variable {G : GD} {X : Cx} {pins : List (Addr × Obj)} {σ : L2.St} {H H1 : Hp} {Z Z1 : Addr → Prop} {s : Shared} {own xp : List (Addr × Obj)} {n m : Nat}
abbrev awake (G : GD) (s : Shared) : Shared := s.setGen G.g .running
theorem turn_z {Po : Option Value → Shared → Prop} {E : Value → Shared → Prop} (F : Feeds G X) (I : Inv X pins σ H s) (ko : ∀ p ∈ own, s.heap.get? p.1 = some p.2 ∧ H p.1 = none) (nap : Naps G.b H1 Z1 H Z) (hz : G.n0 ≤ s.heap.objs.size)
    (sl : SleepsAt G (m + 1) own H1 Z1 s) (j : G.J (m + 1) (awake G s) H Z xp) (xok : ∀ p ∈ xp, s.heap.get? p.1 = some p.2 ∧ H p.1 = none ∧ p.1 ≠ G.n0 ∧ p.1 ∉ frs G.outer ∧ (∀ v, p.2.data ≠ .cell v) ∧ ∀ p' ∈ own, p.1 ≠ p'.1)
    (item : ∀ H0 Z0 xp0 v x d H2 own2 s1 gs', G.J (m + 1) (awake G s) H0 Z0 xp0 → RelV x v → Rq Z0 H2 x d → G.Yd (G.T - (m + 1)) d → Gives G (awake G s) H0 xp0 H2 s1 → OwnP G own2 s1 H2 → Dj xp0 own2 → isAsleep gs' → gs'.bare = true → (s1.setGen G.g gs').gens[G.g]? = some gs' →
      SleepsAt G m own2 H2 Z0 (s1.setGen G.g gs') → Po (some v) (s1.setGen G.g gs'))
    (done : ∀ H0 Z0 xp0 H2 s1 h', G.J (m + 1) (awake G s) H0 Z0 xp0 → Gives G (awake G s) H0 xp0 H2 s1 → G.Qd (G.T - (m + 1)) → (∀ b o, s1.heap.get? b = some o → h'.get? b = some o) → Po none { s1.setGen G.g .finished with heap := h' })
    (fails : ∀ e H0 Z0 xp0 s1, G.J (m + 1) (awake G s) H0 Z0 xp0 → CXP G.P G.w G.outer H0 (cut G.n0 (awake G s)) (G.E H0 Z0) (G.pn ++ xp0) e s1 → NotStop (model G.P G.w) e s1.heap ∧ E e (s1.setGen G.g .finished)) :
    wpAny (model X.prog X.w) X.A (pyNext (.ref G.a)) Po E s := by
  obtain ⟨gen, gs, at_, go⟩ := sl
  have hlt : G.g < s.gens.size := (Array.getElem?_eq_some_iff.mp at_).1
  have bare' : AllBare (awake G s).gens := allBare_setGen I.bare rfl
  have w0 : Wakeable G own H1 Z1 H Z xp (awake G s) := ⟨nap, bare', fun b o e => by rw [F.base] at e; exact I.bs b o e, by rw [F.base, F.outer]; exact I.stack, fun b hb => by rw [F.outer] at hb; exact I.stkFree b hb, by rw [F.P, F.w]; exact I.hok, ko, hz, xok⟩
  have go1 := go (awake G s) H Z xp j w0
  have sz0 : G.g + 1 ≤ s.gens.size := hlt
  rw [← F.P, ← F.w]
  refine wpAny_gsz (n := G.g + 1) sz0 ?_
  rw [F.A] at go1
  refine next_z F.hd I.nolimit F.dp gen at_ go1 (fun v s1 gs' hb ha hv hsz => ?_) fun x s1 hx => ?_
  · obtain ⟨H0, Z0, H2, xv, d, own2, xp0, j0, rv, rq, yd, gv, ow, dj, k⟩ := hv
    have hsz : G.g + 1 ≤ (s1.setGen G.g gs').gens.size := hsz
    rw [setGen_size] at hsz
    have at2 : (s1.setGen G.g gs').gens[G.g]? = some gs' := setGen_at hsz
    refine item H0 Z0 xp0 v xv d H2 own2 s1 gs' j0 rv rq yd gv ow dj ha hb at2 ⟨gv.gen, gs', at2, fun s2 H3 Z3 xp3 j3 w3 => ?_⟩
    rw [F.A]
    exact k s2 H3 Z3 xp3 j3 w3
  · rcases hx with ⟨hr, H0, Z0, H2, xp0, j0, gv, qd⟩ | ⟨e, H0, Z0, xp0, er, j0, cx, isg⟩
    · exact .inl ⟨hr, fun h' hk _ => done H0 Z0 xp0 H2 s1 h' j0 gv qd hk⟩
    · obtain ⟨q1, q2⟩ := fails e H0 Z0 xp0 s1 j0 cx
      exact .inr ⟨e, er, isg, q1, fun _ => q2⟩
/-- what the consumer has of its own lies below the generator -/
structure Below (X : Cx) (pins : List (Addr × Obj)) (n0 : Nat) : Prop where
  s0 : X.s_0.heap.objs.size ≤ n0
  loc : X.env.locals < n0
  cell : ∀ x c, X.env.cells.lookup x = some c → c < n0
  pin : ∀ p ∈ X.pn ++ pins, p.1 < n0
theorem _root_.L2.Inv.below (I : Inv X pins σ H s) : Below X pins s.heap.objs.size := ⟨I.sz, I.lt, fun x c e => by
  obtain ⟨v, o, ho, _⟩ := I.cell x c e
  exact Heap.lt_size ho, fun p hp => Heap.lt_size (I.pin p hp).1⟩
def above (n0 : Nat) (h : Heap) : List Addr := (List.range h.objs.size).filter fun b => decide (n0 ≤ b)
theorem mem_above {n0 b : Nat} {h : Heap} : b ∈ above n0 h ↔ b < h.objs.size ∧ n0 ≤ b := by simp [above]
theorem Below.ch {n0 : Nat} {h : Heap} (B : Below X pins n0) : ∀ b ∈ above n0 h, (b ∈ X.ex ∨ X.s_0.heap.objs.size ≤ b) ∧ b ≠ X.env.locals ∧ (∀ x c, X.env.cells.lookup x = some c → c ≠ b) ∧ ∀ p ∈ X.pn ++ pins, p.1 ≠ b := fun b hb => by
  have hl := (mem_above.mp hb).2
  exact ⟨.inr (Nat.le_trans B.s0 hl), Nat.ne_of_gt (Nat.lt_of_lt_of_le B.loc hl), fun x c e => Nat.ne_of_lt (Nat.lt_of_lt_of_le (B.cell x c e) hl), fun p hp => Nat.ne_of_lt (Nat.lt_of_lt_of_le (B.pin p hp) hl)⟩
end
end VL
set_option Elab.async false
set_option linter.all false
set_option maxRecDepth 100000
set_option maxHeartbeats 4000000
/-! VL111: `for x in g(..)` with any body that lets no exception out -/
namespace VL
open PySem PySem.Spec PyProof.Rows L2 GenW
structure CalZ (P : Program) (w : World) (K : PySem.W.Frag) (mg : Str → Option Value) (base : Heap) (b : Bg) (k : Nat) (x : Str) (ps : List Str) (S : SZ) where
  f : Addr
  fd : FuncData
  F : GFnZ P w K mg base b k f fd ps S
  g : mg x = some (.ref f)
  kp : PySem.W.keepIn K (.ref f) = true
  bd : Binds K fd ps []
section
variable {X : Cx} {b : Bg} {W : WX} {k j : Nat} {x : Str} {ps : List Str} {S : SZ} {e : Expr} {es : List Expr} {u : VA} {p pos pos2 fpos : Pos} {ns : Str → Prop}
variable {pins : List (Addr × Obj)} {σ : L2.St} {H : Hp} {s : Shared} {Zo Z : Addr → Prop} {ρ : VEnv} {Qd : List D → Prop} {Ed : Er → Prop}
/-- a generator is made by a call -/
def MadeBy (X : Cx) (b : Bg) (k : Nat) (S : SZ) (pins : List (Addr × Obj)) (σ : L2.St) (H : Hp) (Z : Addr → Prop) (Qd : List D → Prop) (v : Value) (s' : Shared) : Prop :=
  ∃ ds H1 sc G cd own, v = .ref G.a ∧ Ex b H H1 ∧ b.G H1 ∧ Qd ds ∧ Inv X pins σ H1 sc ∧ MadeZ X.prog X.w X.base k X.stack b S ds H1 Z sc G cd own s'
theorem call_z (c : CalZ X.prog X.w X.K X.mg X.base b k x ps S) (hr : Room k X.A) (hgx : Gl X x) (ha : VAs X b W (e :: es) u) (I : Inv X pins σ H s) (v : VOk b Zo Z σ H ρ) (q : u ρ Qd Ed) (hlen : ∀ ds, Qd ds → ds.length = ps.length)
    (m : ∀ c x H' er, Ex b H H' → b.G H' → ErRp b Z H' c x er → Ed er → W c x σ H')
    (hdx : (x == ("__debug__" : Str)) = false := by decide) (he : starEach (e :: es) X.env = (false, eval e X.env) :: starEach es X.env := by rfl) (hpl : (backTo pos2 (starEach es X.env)).any (·.1) = false := by rfl) :
    wpAny (model X.prog X.w) X.A (eval (.Call (.Name x p) (e :: es) [] pos2) X.env) (MadeBy X b k S pins σ H Z Qd) X.xe s := by
  refine wpAny_Call_Name_kw (ld_glob I hgx c.g ?_ hdx)
  refine PySem.W.callWith_K (h₀ := X.base) I.ok.mod.kin c.kp (thn (ha.run pos2 pins s σ H (fun vs H1 => ∃ ds, Ex b H H1 ∧ b.G H1 ∧ Rps b Z H1 vs ds ∧ Qd ds) I ⟨Zo, Z, ρ, Qd, Ed, v, q, fun vs H1 ds x1 g1 r1 q1 => ⟨ds, x1, g1, r1, q1⟩, m⟩) fun us s1 ⟨vs, H1, I1, rv, ds, x1, g1, r1, q1⟩ => ⟨I1.kIn, ?_⟩) he hpl
  have hl := hlen ds q1
  have v1 := v.ex x1 g1
  have hus : us.length = ps.length := (rv.length.symm.trans r1.length).trans hl
  refine wpAny_call (codeAny_mono (c.F.run X.A X.stack s1 H1 Z ⟨us, []⟩ us vs ds hr I1.env0 (by have := c.bd s1 us I1.kIn (by rw [List.append_nil]; exact hus); rw [List.append_nil] at this; exact this) rv v1.gd r1 hl) fun r s' ⟨G, cd, own, er, mz⟩ => ?_)
  subst er
  exact ⟨ds, H1, s1, G, cd, own, rfl, x1, g1, q1, I1, mz⟩
/-- an expression whose value is a new generator of this promise -/
structure VMk (X : Cx) (b : Bg) (W : WX) (k : Nat) (S : SZ) (call : Expr) (u : VA) : Prop where
  run : ∀ (pins : List (Addr × Obj)) (s : Shared) (σ : L2.St) (H : Hp) (Zo Z : Addr → Prop) (ρ : VEnv) (Qd : List D → Prop) (Ed : Er → Prop), Inv X pins σ H s → VOk b Zo Z σ H ρ → u ρ Qd Ed → (∀ ds, Qd ds → ∃ Y Q E, S ds Y Q E) →
    (∀ c x H' er, Ex b H H' → b.G H' → ErRp b Z H' c x er → Ed er → W c x σ H') → wpAny (model X.prog X.w) X.A (eval call X.env) (MadeBy X b k S pins σ H Z Qd) X.xe s
theorem mk_call (c : CalZ X.prog X.w X.K X.mg X.base b k x ps S) (hr : Room j X.A) (hgx : Gl X x) (ha : VAs X b W (e :: es) u) (hk : k ≤ j := by decide)
    (hdx : (x == ("__debug__" : Str)) = false := by decide) (he : starEach (e :: es) X.env = (false, eval e X.env) :: starEach es X.env := by rfl) (hpl : (backTo pos2 (starEach es X.env)).any (·.1) = false := by rfl) : VMk X b W k S (.Call (.Name x p) (e :: es) [] pos2) u :=
  ⟨fun pins s σ H Zo Z ρ Qd Ed I v q hl m => call_z (p := p) c (hr.mono hk) hgx ha I v q (fun ds h => by obtain ⟨Y, Q, E, z⟩ := hl ds h; exact c.F.len _ _ _ _ z) m hdx he hpl⟩
theorem MadeZ.inv {H1 : Hp} {sc s' : Shared} {ds : List D} {G : GD} {cd : Code} {own : List (Addr × Obj)} (mz : MadeZ X.prog X.w X.base k X.stack b S ds H1 Z sc G cd own s') (I : Inv X pins σ H1 sc) : Inv X pins σ H1 s' :=
  I.call' (ch := []) mz.os (Un.kept mz.keep) (I.hok.kept mz.keep) mz.bare fun b z => by simp at z
theorem MadeZ.feeds {H1 : Hp} {sc s' : Shared} {ds : List D} {G : GD} {cd : Code} {own : List (Addr × Obj)} {T : Nat} {J : Cons} {Y : Nat → PyData → Prop} {Q : Nat → Prop} {Ed : Er → Prop} (mz : MadeZ X.prog X.w X.base k X.stack b S ds H1 Z sc G cd own s') (hr : Room j X.A) : Feeds (G.use X.A.in1 T J Y Q Ed) X := by
  obtain ⟨h1, h2, h3, h4, h5, h6⟩ := mz.is
  exact ⟨h1, h2, h3, h4, rfl, hr.hd, by have := hr.dp; omega⟩
/-- the sleeper at its start -/
theorem MadeZ.sleeps {H1 : Hp} {sc s' : Shared} {ds : List D} {G : GD} {cd : Code} {own : List (Addr × Obj)} {T : Nat} {J : Cons} {Y : Nat → PyData → Prop} {Q : Nat → Prop} {Ed : Er → Prop} (mz : MadeZ X.prog X.w X.base k X.stack b S ds H1 Z sc G cd own s') (hr : Room (k + 1) X.A) (I : Inv X pins σ H1 sc)
    (hS : S ds Y Q Ed) (hT : ∀ i d, Y i d → i < T) : SleepsAt (G.use X.A.in1 T J Y Q Ed) T own H1 Z s' := by
  obtain ⟨h1, h2, h3, h4, h5, h6⟩ := mz.is
  obtain ⟨ok, go⟩ := mz.run X.A.in1 T J Y Q Ed hr.in1 I.ok.frames hS hT
  refine ⟨mz.gen, _, mz.at_, fun s2 H2 Z2 xp2 j2 w2 => ⟨rfl, ?_⟩⟩
  have := go s2 H2 Z2 xp2 j2 w2
  have e1 : (G.use X.A.in1 T J Y Q Ed).P = X.prog := h1
  have e2 : (G.use X.A.in1 T J Y Q Ed).w = X.w := h2
  rw [e1, e2]
  unfold SegZ at this
  rw [e1, e2] at this
  exact this
theorem go_gen {M : Model} {A : Around} {E : Value → Shared → Prop} {s : Shared} {tg : Expr} {a : Addr} {g : Nat} {u : Value} {Q : Unit → Shared → Prop} (h : s.heap.IsGen a g) (hQ : Q () s) : wpAny M A (letOwnedTupleGo tg (.ref a) u) Q E s := by
  obtain ⟨o, nm, qn, ho, hc, hd, _⟩ := h
  exact go_of ho hc hd (by decide) hQ
theorem gen_pin {G : GD} {own : List (Addr × Obj)} {H2 : Hp} {s1 s7 : Shared} (ow : OwnP G own s1 H2) (h : s1.heap.IsGen G.a G.g) (k : ∀ p ∈ own, s7.heap.get? p.1 = some p.2) : s7.heap.IsGen G.a G.g := by
  obtain ⟨o, nm, qn, ho, r⟩ := h
  obtain ⟨o', hm⟩ := ow.1
  have e1 := (ow.2 _ hm).1
  have e1 : s1.heap.get? G.a = some o' := e1
  rw [ho] at e1
  have e1 := Option.some.inj e1
  have e2 : s7.heap.get? G.a = some o' := k _ hm
  exact ⟨o, nm, qn, by rw [e1]; exact e2, r⟩
@[simp] def sForZ (ns : Str → Prop) (S : SZ) (u : VA) (tv : VTg) (tb : VS) : VS := fun ρ De => u ρ (fun ds =>
  (∃ out : List PyData, S ds (fun i d => out[i]? = some d) (fun i => i = out.length) (fun _ => False) ∧ forGo tv tb (out.map D.py) ρ { De with ex := fun _ _ => False }) ∨ S ds (fun _ _ => False) (fun _ => False) (fun er => ns er.n ∧ De.ex ρ er)) (De.ex ρ)
end
end VL
set_option Elab.async false
set_option linter.all false
set_option maxRecDepth 100000
set_option maxHeartbeats 4000000
/-! VL112: a comprehension over a generator: its block as the consumer -/
namespace VL
open PySem PySem.Spec PyProof.Rows L2 GenW
theorem objOk_there {P : Program} {w : World} {H : Hp} {h : Heap} {a : Addr} : ∀ {o : HO}, ObjOk P w H h a o → ∃ ob, h.get? a = some ob := fun {o} x => by
  cases o with
  | lst xs => obtain ⟨_, _, _, _, e⟩ := x; exact ⟨_, e⟩
  | tup xs => obtain ⟨_, _, _, ob, e, _⟩ := x; exact ⟨ob, e⟩
  | dK kvs => obtain ⟨_, _, _, _, o, _, _, e, _⟩ := x; exact ⟨o, e⟩
  | dT kvs => obtain ⟨_, _, _, _, o, _, _, e, _⟩ := x; exact ⟨o, e⟩
  | set S n => obtain ⟨o, _, _, _, e, _⟩ := x; exact ⟨o, e⟩
  | ins C dx fs => obtain ⟨_, _, _, e, _⟩ := x; exact ⟨_, e⟩
  | own y => exact x
  | xd fs => obtain ⟨mA, hn, _⟩ := x; obtain ⟨o, _, _, e, _⟩ := hn; exact ⟨o, e⟩
  | rng lo hi => obtain ⟨_, _, _, e⟩ := x; exact ⟨_, e⟩
  | frz o u => exact ⟨o, x.1⟩
  | tbl ps => exact ⟨_, x⟩
  | met f y => exact ⟨_, x⟩
  | ext φ => exact x.2.1
theorem hok_there {P : Program} {w : World} {H : Hp} {h : Heap} (k : HOk P w H h) {a : Addr} (n : H a ≠ none) : ∃ ob, h.get? a = some ob := by
  cases e : H a with
  | none => exact absurd e n
  | some o => exact objOk_there (k a o e)
theorem ex_there {b : Bg} {H H' : Hp} (x : Ex b H H') (g : b.G H') {a : Addr} (n : H a ≠ none) : H' a ≠ none := fun z => n (none_back g x a z)
section
variable {X : Cx} {pins : List (Addr × Obj)} {σ : L2.St} {H H1 : Hp} {s : Shared} {n0 : Nat}
/-- the exception of a cut state's call, over a state without what the generator may have changed -/
theorem cx_of_cut {xp pn : List (Addr × Obj)} {E0 : XK} {u : Value} {s' : Shared} (I : Inv X pins σ H s) (B : Below X pins n0) (bl : ∀ b ∈ frs X.stack, b < n0) (xk : ∀ p ∈ xp, s.heap.get? p.1 = some p.2 ∧ H p.1 = none ∧ p.1 ∉ frs X.stack)
    (tr : ∀ cls d H', E0 cls d H' → ∀ a, H a ≠ none → H' a ≠ none) (c : CXP X.prog X.w X.stack H (cut n0 s) E0 (pn ++ xp) u s') :
    ∃ sR, Inv X pins σ H sR ∧ (∀ p ∈ xp, sR.heap.get? p.1 = some p.2) ∧ L2.CX X.prog X.w X.stack H sR E0 u s' := by
  obtain ⟨a, Bh, H', cls, d, eu, fl, hok, ub, na, os, ag, hE, pb⟩ := c
  obtain ⟨Gh, g1, g2⟩ := restrict s.heap fun b => decide (b < n0) || (H b).isSome || decide (b ∈ xp.map (·.1))
  have og : ∀ b o, Gh.get? b = some o → s.heap.get? b = some o ∧ (b < n0 ∨ H b ≠ none ∨ b ∈ xp.map (·.1)) := fun b o e => by
    cases q : (decide (b < n0) || (H b).isSome || decide (b ∈ xp.map (·.1))) with
    | false => rw [g2 b q] at e; cases e
    | true =>
      rw [g1 b q] at e
      refine ⟨e, ?_⟩
      simp only [Bool.or_eq_true, decide_eq_true_eq] at q
      rcases q with (q | q) | q
      · exact .inl q
      · exact .inr (.inl fun z => by rw [z] at q; cases q)
      · exact .inr (.inr q)
  have kLow : ∀ b, b < n0 → Gh.get? b = s.heap.get? b := fun b hb => g1 b (by simp [hb])
  have kTr : ∀ b, H b ≠ none → Gh.get? b = s.heap.get? b := fun b hb => g1 b (by
    cases e : H b with
    | none => exact absurd e hb
    | some o => simp)
  have kXp : ∀ p ∈ xp, Gh.get? p.1 = s.heap.get? p.1 := fun p hp => g1 p.1 (by
    have : p.1 ∈ xp.map (·.1) := List.mem_map.mpr ⟨p, hp, rfl⟩
    simp only [Bool.or_eq_true, decide_eq_true_eq]
    exact .inr this)
  let ch : List Addr := (above n0 s.heap).filter fun b => !(H b).isSome && !decide (b ∈ xp.map (·.1))
  have mch : ∀ {b}, b ∈ ch → b ∈ above n0 s.heap := fun {b} hb => (List.mem_filter.mp hb).1
  have nch : ∀ {b o}, b ∉ ch → s.heap.get? b = some o → b < n0 ∨ H b ≠ none ∨ b ∈ xp.map (·.1) := fun {b o} hb e => by
    by_cases h1 : b < n0
    · exact .inl h1
    · by_cases h2 : H b = none
      · by_cases h3 : b ∈ xp.map (·.1)
        · exact .inr (.inr h3)
        · exact absurd (List.mem_filter.mpr ⟨mem_above.mpr ⟨Heap.lt_size e, Nat.le_of_not_lt h1⟩, by rw [h2]; simp only [Option.isSome_none, Bool.not_false, Bool.true_and, Bool.not_eq_true', decide_eq_false_iff_not]; exact h3⟩) hb
      · exact .inr (.inl h2)
  have kept : ∀ b o, b ∉ ch → s.heap.get? b = some o → Gh.get? b = some o := fun b o hb e => by
    rcases nch hb e with z | z | z
    · rw [kLow b z]; exact e
    · rw [kTr b z]; exact e
    · obtain ⟨p, hp, ep⟩ := List.mem_map.mp z
      subst ep
      rw [kXp p hp]; exact e
  have hokR : HOk X.prog X.w H Gh := fun b o q => (I.hok b o q).stay (fun c v hc e => by
    rw [kTr c ?_]; exact e
    rcases hc with z | z
    · rw [z, q]; simp
    · rw [z]; simp) (fun _ e => e) fun _ _ e => e
  have IR : Inv X pins σ H { s with heap := Gh } := I.call' (ch := ch) rfl ⟨fun b o e _ _ hc => kept b o hc e, fun b o e _ _ hc => ⟨o.slots, kept b o hc e⟩, fun _ _ _ n _ => n, fun b o e hc => ⟨o, kept b o hc e⟩, fun _ _ e => e, fun _ _ _ e => e, fun b ps e => ⟨#[], by rw [e]; simp⟩⟩ hokR I.bare
    fun b hb => B.ch b (mch hb)
  refine ⟨{ s with heap := Gh }, IR, fun p hp => (kXp p hp).trans (xk p hp).1, a, Bh, H', cls, d, eu, fl, hok, ⟨fun b o e n hb => ?_, fun b o e hb => ?_, fun b o e n => ?_, fun b o e hb => ?_, ub.tups, ub.frzs, ub.tbls⟩, na, os, ag, hE⟩
  · obtain ⟨e1, z⟩ := og b o e
    rcases z with z | z | z
    · exact ub.keep b o (by show (pre n0 s.heap).get? b = _; rw [pre_get z]; exact e1) n hb
    · exact absurd n z
    · obtain ⟨p, hp, ep⟩ := List.mem_map.mp z
      subst ep
      rw [(xk p hp).1] at e1
      rw [← Option.some.inj e1]
      exact (pb p (List.mem_append_right _ hp)).1
  · obtain ⟨e1, _⟩ := og b o e
    have hl : b < n0 := bl b hb
    exact ub.slot b o (by show (pre n0 s.heap).get? b = _; rw [pre_get hl]; exact e1) hb
  · obtain ⟨e1, z⟩ := og b o e
    rcases z with z | z | z
    · exact ub.free b o (by show (pre n0 s.heap).get? b = _; rw [pre_get z]; exact e1) n
    · exact absurd n z
    · obtain ⟨p, hp, ep⟩ := List.mem_map.mp z
      subst ep
      exact (pb p (List.mem_append_right _ hp)).2
  · obtain ⟨e1, z⟩ := og b o e
    rcases z with z | z | z
    · exact ub.there b o (by show (pre n0 s.heap).get? b = _; rw [pre_get z]; exact e1) hb
    · exact hok_there hok (tr _ _ _ hE b z)
    · obtain ⟨p, hp, ep⟩ := List.mem_map.mp z
      subst ep
      exact ⟨_, (pb p (List.mem_append_right _ hp)).1⟩
/-- the consumer's state behind a segment, where it has objects that are younger than the generator -/
theorem back_invB {G : GD} {xp : List (Addr × Obj)} {s1 : Shared} (F : Feeds G X) (bl : ∀ b ∈ frs X.stack, b < G.n0)
    (hch : ∀ b, G.n0 ≤ b → H b = none → b ∉ xp.map (·.1) → (b ∈ X.ex ∨ X.s_0.heap.objs.size ≤ b) ∧ b ≠ X.env.locals ∧ (∀ x c, X.env.cells.lookup x = some c → c ≠ b) ∧ ∀ p ∈ X.pn ++ pins, p.1 ≠ b)
    (xk : ∀ p ∈ xp, s.heap.get? p.1 = some p.2) (I : Inv X pins σ H s) (g : Gives G s H xp H1 s1) : Inv X pins σ H1 s1 := by
  have u := g.un
  rw [F.outer] at u
  let ch : List Addr := (above G.n0 s.heap).filter fun b => !(H b).isSome && !decide (b ∈ xp.map (·.1))
  have nch : ∀ {b o}, b ∉ ch → s.heap.get? b = some o → b < G.n0 ∨ H b ≠ none ∨ b ∈ xp.map (·.1) := fun {b o} hb e => by
    by_cases h1 : b < G.n0
    · exact .inl h1
    · by_cases h2 : H b = none
      · by_cases h3 : b ∈ xp.map (·.1)
        · exact .inr (.inr h3)
        · exact absurd (List.mem_filter.mpr ⟨mem_above.mpr ⟨Heap.lt_size e, Nat.le_of_not_lt h1⟩, by rw [h2]; simp only [Option.isSome_none, Bool.not_false, Bool.true_and, Bool.not_eq_true', decide_eq_false_iff_not]; exact h3⟩) hb
      · exact .inr (.inl h2)
  have xpk : ∀ {b o}, b ∈ xp.map (·.1) → s.heap.get? b = some o → s1.heap.get? b = some o ∧ H1 b = none := fun {b o} z e => by
    obtain ⟨p, hp, ep⟩ := List.mem_map.mp z
    subst ep
    rw [xk p hp] at e
    obtain ⟨h1, h2⟩ := g.xk p hp
    exact ⟨by rw [← Option.some.inj e]; exact h1, h2⟩
  refine I.call' (ch := ch) g.os ⟨fun b o e n hb hc => ?_, fun b o e n hb hc => ?_, fun b o e n hc => ?_, fun b o e hc => ?_, u.tups, u.frzs, u.tbls⟩ (by rw [← F.P, ← F.w]; exact g.hok) g.bare fun b hb => ?_
  · rcases nch hc e with z | z | z
    · exact u.keep b o (by rw [pre_get z]; exact e) n hb (by simp)
    · exact absurd n z
    · exact (xpk z e).1
  · have hl : b < G.n0 := bl b hb
    exact u.slot b o (by rw [pre_get hl]; exact e) n hb (by simp)
  · rcases nch hc e with z | z | z
    · exact u.free b o (by rw [pre_get z]; exact e) n (by simp)
    · exact absurd n z
    · exact (xpk z e).2
  · rcases nch hc e with z | z | z
    · exact u.there b o (by rw [pre_get z]; exact e) (by simp)
    · have hk := g.hok
      exact hok_there hk (ex_there g.ex g.g z)
    · exact ⟨o, (xpk z e).1⟩
  · obtain ⟨h1, h2⟩ := List.mem_filter.mp hb
    simp only [Bool.and_eq_true, Bool.not_eq_true', decide_eq_false_iff_not] at h2
    refine hch b (mem_above.mp h1).2 ?_ h2.2
    cases e : H b with
    | none => rfl
    | some o => rw [e] at h2; simp at h2
/-- code that keeps the state's form keeps all that sleeps -/
theorem any_sleep {α : Type} {t : Sem α} {Qv : α → L2.St → Hp → Prop} {E' : Value → Shared → Prop}
    (h : ∀ s, Inv X pins σ H s → wpAny (model X.prog X.w) X.A t (fun a s' => ∃ σ' H', Inv X pins σ' H' s' ∧ Qv a σ' H') (fun _ _ => False) s) (I : Inv X pins σ H s) :
    wpAny (model X.prog X.w) X.A t (fun a s' => (∃ σ' H', Inv X pins σ' H' s' ∧ Qv a σ' H') ∧ KeptG s s') E' s := by
  refine wpAny_mono (wpAny_sleep (h (numbed s) (I.gensZ (bare_numbed I.bare)))) (fun a s' ⟨z, e, d, σ', H', I', q⟩ => ?_) fun e s' ⟨z, _, _, q⟩ => q.elim
  subst e
  exact ⟨⟨σ', H', I'.gensZ (bare_ov I.bare I'.bare), q⟩, kept_ov d⟩
end
end VL
set_option Elab.async false
set_option linter.all false
set_option maxRecDepth 100000
set_option maxHeartbeats 8000000
/-! VL113: `[item for x in g(..)]` -/
namespace VL
open PySem PySem.Spec PyProof.Rows L2 GenW
/-- a turn of the block: the sleeper's heap is kept but for the new list -/
def NxL (Z : Addr → Prop) (A : Addr) (Wt : Nat → Hp → Prop) (i : Nat) (H' H2 : Hp) : Prop := Wt (i + 1) H2 ∧ ∀ a o, H' a = some o → ¬ (Z a ∨ a = A) → H2 a = some o
def LcTurn (b : Bg) (Z : Addr → Prop) (A : Addr) (out : List PyData) (g : TG) (tt : TT) (te : TE) (vs : List Nat) (σ : L2.St) (Q : VK) (Wt : Nat → Hp → Prop) : Prop :=
  ∀ i H, Wt i H → b.G H ∧ (∀ a, Z a ∨ a = A → H a ≠ none) ∧ (i = out.length → ∀ H', Ex b H H' → b.G H' → Q (.ref A) H') ∧
    ∀ d, out[i]? = some d → ∀ x H', Ex b H H' → b.G H' → Rq (fun c => Z c ∨ c = A) H' x d → g x (wipe σ vs) H' fun σ2 H2 => wipe σ2 vs = wipe σ vs ∧ H2 = H' ∧ tt σ2 H2 fun bb H3 =>
      if bb = true then te σ2 H3 fun y H4 => ∃ acc, H4 A = some (.lst acc) ∧ acc.length < sizeLine ∧ NxL Z A Wt i H' (upd H4 A (.lst (acc ++ [y]))) else NxL Z A Wt i H' H3
section
variable {X : Cx} {b : Bg} {W : WX} {k j : Nat} {x : Str} {ps : List Str} {S : SZ} {e : Expr} {es : List Expr} {u : VA} {p pos pos2 pos' : Pos} {ns : Str → Prop}
theorem lcZ_core (hst : X.stack = X.env :: X.outer) (hfr : X.env.frame = some X.env.locals) (tk : Takes X W) (hr : Room j X.A) (hk : k + 1 ≤ j) {pins : List (Addr × Obj)} {s : Shared} {σ : L2.St} {H : Hp} {Q : VK} {elt tg : Expr} {ifs : List Expr} {scope : Scope} {own : List (Str × Nat)} {g : TG} {tt : TT} {te : TE} {use : Option (Value → Sem Unit)} {Qf : Value → Shared → Prop}
    (hc : X.calm = true) (hN : X.N.Nodup) (I : Inv X pins σ H s) (ok : BlkOk X.N X.env.scope scope own) (nocell : ∀ y ∈ scope.names, y.2 ≠ .cell) {Zo Z : Addr → Prop} {ρ : VEnv} {Qd : List D → Prop} {Ed : Er → Prop}
    {call : Expr} (hm : VMk X b W k S call u) (hns : ∀ n, ns n → NoSt X.K b n) (v : VOk b Zo Z σ H ρ) (q : u ρ Qd Ed)
    (m : ∀ c x H' er, Ex b H H' → b.G H' → ErRp b Z H' c x er → Ed er → W c x σ H')
    (hq : ∀ ds, Qd ds → (∃ out : List PyData, S ds (fun i d => out[i]? = some d) (fun i => i = out.length) (fun _ => False) ∧ ∀ H1, Ex b H H1 → b.G H1 → ∀ A, H1 A = none → ∃ Wt, Wt 0 (upd H1 A (.lst [])) ∧ LcTurn b Z A out g tt te (own.map (·.2)) σ Q Wt) ∨
      S ds (fun _ _ => False) (fun _ => False) (fun er => ns er.n ∧ Ed er))
    (hg : ∀ (s : Shared) (H : Hp) (C : Addr) (cl : List (Str × Addr)) (fp : List Addr), PG (X.blk s H scope (compEnvC scope cl C X.env) fp) tg g) (ht : ∀ (s : Shared) (H : Hp) (C : Addr) (cl : List (Str × Addr)) (fp : List Addr), PTs (X.blk s H scope (compEnvC scope cl C X.env) fp) ifs tt)
    (he : ∀ (s : Shared) (H : Hp) (C : Addr) (cl : List (Str × Addr)) (fp : List Addr), PE (X.blk s H scope (compEnvC scope cl C X.env) fp) elt te)
    (hs : ∀ y, foldedSetIterable call X.env y = pure y)
    (hRR : ∀ A C s' m H', Inv X pins σ H' s' → Q (.ref A) H' → s'.heap.Ns C m → FpOk X pins H' C → compPost (model X.prog X.w) X.A X.xe use Qf (.ref A) C (.ok .next) s') :
    wpAny (model X.prog X.w) X.A (comprehension (.ListComp elt [⟨tg, call, ifs, 0⟩] scope pos) scope X.env pos' (newList []) false (eval call X.env) use) Qf X.xe s := by
  have hfree : ∀ y ∈ scope.names, y.2 = .free → ∃ c, X.env.cells.lookup y.1 = some c := fun y hy e => by
    rcases ok.free y hy e with z | z
    · exact I.ok.has _ (.inl z)
    · exact I.ok.has _ (.inr z)
  have R := hr.mono hk
  refine comp_freeE (use := use) rfl hs (closure_ok hfree) ok.kind (fun y hy e => by rw [ok.uniq y hy, e]) (thn (hm.run pins s σ H Zo Z ρ Qd Ed I v q (fun ds h => ?_) m) fun v0 s1 h1 => ?_)
  · rcases hq ds h with ⟨out, z, _⟩ | z
    · exact ⟨_, _, _, z⟩
    · exact ⟨_, _, _, z⟩
  obtain ⟨ds, H1, sc, G0, cd, own0, e0, x1, g1, q1, I1, mz⟩ := h1
  subst e0
  have v1 := v.ex x1 g1
  have I2 := mz.inv I1
  have hn0 : G0.n0 = sc.heap.objs.size := mz.is.2.2.2.2.1
  have hbG : G0.b = b := mz.is.2.2.2.2.2
  have B : Below X pins G0.n0 := by rw [hn0]; exact I1.below
  have szn : G0.n0 < s1.heap.objs.size := by
    obtain ⟨o, ho⟩ := mz.ownp.1
    exact Nat.lt_of_le_of_lt (mz.ownp.2 _ ho).2.2.1 (Heap.lt_size (mz.ownp.2 _ ho).1)
  have bl : ∀ b ∈ frs X.stack, b < G0.n0 := fun b hb => by
    obtain ⟨_, o, ho, _⟩ := I1.stack.mem hb
    rw [hn0]; exact Heap.lt_size ho
  refine wpAny_pyIter_gen mz.gen ?_
  refine wpAny_newObj_type (newEnv_comp ?_) (by show 0 ≤ sizeLine; decide)
  generalize hD : s1.heap.objs.size = A
  have hAn : H1 A = none := I2.hok.fresh (Nat.le_of_eq hD)
  generalize hs3 : ({ s1 with heap := s1.heap.push { cls := .type "list", data := .seq ([] : List Value).toArray } } : Shared) = s3
  have I3 : Inv X pins σ (upd H1 A (.lst [])) s3 := by
    rw [← hs3]
    refine I2.laid (t' := s1.toks) (fun b o e => Heap.get?_push_of_some _ e) (Nat.le_of_eq hD) ⟨Nat.zero_le _, [], 0, .nil, ?_⟩
    rw [← hD]
    exact Heap.get?_push_size _ rfl
  have h3 : s3.heap = s1.heap.push { cls := .type "list", data := .seq ([] : List Value).toArray } := by rw [← hs3]
  have g3 : s3.gens = s1.gens := by rw [← hs3]
  have k3 : ∀ b o, s1.heap.get? b = some o → s3.heap.get? b = some o := fun b o e => by rw [h3]; exact Heap.get?_push_of_some _ e
  have sz3 : s1.heap.objs.size < s3.heap.objs.size := by rw [h3, Heap.size_push]; exact Nat.lt_succ_self _
  generalize hH3 : upd H1 A (.lst []) = H3 at I3
  have H3A : H3 A = some (.lst []) := by rw [← hH3]; exact upd_same
  generalize hfp : (above G0.n0 s3.heap).filter (fun b => !(H3 b).isSome) = fp
  have mfp : ∀ b, b ∈ fp ↔ (b < s3.heap.objs.size ∧ G0.n0 ≤ b) ∧ H3 b = none := fun b => by
    rw [← hfp, List.mem_filter, mem_above]
    constructor
    · rintro ⟨h, z⟩
      refine ⟨h, ?_⟩
      cases e : H3 b with
      | none => rfl
      | some o => rw [e] at z; simp at z
    · rintro ⟨h, z⟩
      exact ⟨h, by rw [z]; rfl⟩
  have f3 : ∀ b ∈ fp, FpOk X pins H3 b ∧ b < s3.heap.objs.size := fun b hb => by
    obtain ⟨⟨h1, h2⟩, h4⟩ := (mfp b).mp hb
    obtain ⟨c1, c2, c3, c4⟩ := B.ch (h := s3.heap) b (mem_above.mpr ⟨h1, h2⟩)
    refine ⟨⟨h4, c2, fun hf => ?_, c1, c3, c4⟩, h1⟩
    obtain ⟨_, o, ho, _⟩ := I3.ok.funs.mem hf
    exact absurd (Nat.lt_of_lt_of_le (Heap.lt_size ho) (Nat.le_trans B.s0 h2)) (Nat.lt_irrefl _)
  have I4 := block_start I3 ok hN f3
  have pg := hg s3 H3 s3.heap.objs.size (cellsFrom (s3.heap.objs.size + 1) scope.names (cloFrom X.env.cells scope.names [])) fp
  have pt := ht s3 H3 s3.heap.objs.size (cellsFrom (s3.heap.objs.size + 1) scope.names (cloFrom X.env.cells scope.names [])) fp
  have pe := he s3 H3 s3.heap.objs.size (cellsFrom (s3.heap.objs.size + 1) scope.names (cloFrom X.env.cells scope.names [])) fp
  show codeAny _ _ (.compStart (.ListComp elt [⟨tg, call, ifs, 0⟩] scope pos) 0 (.ref G0.a) (.ref A) (compEnvC scope (cellsFrom (s3.heap.objs.size + 1) scope.names (cloFrom X.env.cells scope.names [])) s3.heap.objs.size X.env)) (postE (model X.prog X.w) X.A X.xe use Qf (.ref A) (compEnvC scope (cellsFrom (s3.heap.objs.size + 1) scope.names (cloFrom X.env.cells scope.names [])) s3.heap.objs.size X.env)) { s3 with heap := pushCells (s3.heap.push { cls := .type "dict", data := .dict #[] }) scope.names }
  have nc : ∀ y c, (compEnvC scope (cellsFrom (s3.heap.objs.size + 1) scope.names (cloFrom X.env.cells scope.names [])) s3.heap.objs.size X.env).cells.lookup y = some c → c < G0.n0 := fun y c e => by
    have hm := PySem.mem_of_lookup (show (cellsFrom (s3.heap.objs.size + 1) scope.names (cloFrom X.env.cells scope.names [])).lookup y = some c from e)
    rw [← Heap.size_push s3.heap { cls := .type "dict", data := .dict #[] }] at hm
    rcases cells_mem hm with z | ⟨z, _⟩
    · rcases cloFrom_mem z with z | ⟨z1, z2⟩
      · simp at z
      · obtain ⟨c', e'⟩ := hfree _ z1 rfl
        rw [z2, e']
        exact B.cell _ _ e'
    · exact absurd rfl (nocell _ z)
  generalize hce : compEnvC scope (cellsFrom (s3.heap.objs.size + 1) scope.names (cloFrom X.env.cells scope.names [])) s3.heap.objs.size X.env = ce at I4 pg pt pe nc ⊢
  have cL : ce.locals = s3.heap.objs.size := by subst hce; rfl
  have cF : ce.frame = X.env.frame := by subst hce; rfl
  generalize hs4 : ({ s3 with heap := pushCells (s3.heap.push { cls := .type "dict", data := .dict #[] }) scope.names } : Shared) = s4 at I4 ⊢
  have k4 : ∀ b o, s1.heap.get? b = some o → s4.heap.get? b = some o := fun b o e => by rw [← hs4]; exact pushCells_keeps _ _ _ _ (Heap.get?_push_of_some _ (k3 b o e))
  have g4 : s4.gens = s1.gens := by rw [← hs4]; exact g3
  generalize hC : s3.heap.objs.size = C at cL
  have hCn : G0.n0 < C := by rw [← hC]; exact Nat.lt_trans szn sz3
  have hCs : C ∉ frs X.stack := fun hb => Nat.lt_irrefl _ (Nat.lt_trans hCn (bl C hb))
  -- the def's context, from the block's
  have back : ∀ {pins' : List (Addr × Obj)} {σ' : L2.St} {H' : Hp} {s' : Shared}, Inv (X.blk s3 H3 scope ce fp) pins' σ' H' s' → Inv X pins σ H' s' ∧ (∃ m, s'.heap.Ns C m) ∧ FpOk X pins H' C := fun {pins' σ' H' s'} I6 => by
    have nC : H' C = none := by
      have z : H' ce.locals = none := I6.free
      rw [cL] at z
      exact z
    obtain ⟨m, hn, _⟩ := I6.loc
    have hn : s'.heap.Ns ce.locals m := hn
    rw [cL] at hn
    exact ⟨I3.call' (ch := fp) I6.os I6.base I6.hok I6.bare fun b hb => ⟨(f3 b hb).1.2.2.2.1, (f3 b hb).1.2.1, (f3 b hb).1.2.2.2.2.1, (f3 b hb).1.2.2.2.2.2⟩, ⟨m, hn⟩, I3.fpOk (by rw [hC]; exact Nat.le_refl _) nC⟩
  have hch : ∀ {H' : Hp}, (∀ a, H3 a ≠ none → H' a ≠ none) → ∀ b, G0.n0 ≤ b → H' b = none → b ≠ C → (b ∈ (X.blk s3 H3 scope ce fp).ex ∨ (X.blk s3 H3 scope ce fp).s_0.heap.objs.size ≤ b) ∧ b ≠ (X.blk s3 H3 scope ce fp).env.locals ∧
      (∀ y c, (X.blk s3 H3 scope ce fp).env.cells.lookup y = some c → c ≠ b) ∧ ∀ p ∈ (X.blk s3 H3 scope ce fp).pn ++ [], p.1 ≠ b := fun {H'} mono b hb hn hne => by
    refine ⟨?_, fun z => hne (z.trans cL), fun y c e => Nat.ne_of_lt (Nat.lt_of_lt_of_le (nc y c e) hb), fun p hp => by simp at hp⟩
    by_cases hlt : b < s3.heap.objs.size
    · refine .inl ((mfp b).mpr ⟨⟨hlt, hb⟩, ?_⟩)
      cases e : H3 b with
      | none => rfl
      | some o => exact absurd hn (mono b (by rw [e]; simp))
    · exact .inr (Nat.le_of_not_lt hlt)
  have xpAt : ∀ {σ' H' s'}, Inv (X.blk s3 H3 scope ce fp) [] σ' H' s' → ∃ oC, s'.heap.get? C = some oC ∧ H' C = none ∧ ∀ v, oC.data ≠ .cell v := fun {σ' H' s'} I' => by
    obtain ⟨m, ⟨oC, es, ep, hoC, hd, _⟩, _⟩ := I'.loc
    have hoC : s'.heap.get? ce.locals = some oC := hoC
    rw [cL] at hoC
    have z : H' ce.locals = none := I'.free
    rw [cL] at z
    exact ⟨oC, hoC, z, fun v q => by rw [hd] at q; cases q⟩
  rcases hq ds q1 with ⟨out, hS, qq⟩ | hS
  · obtain ⟨Wt, w0, turn⟩ := qq H1 x1 g1 A hAn
    rw [hH3] at w0
    let Jc : Cons := fun n s₀ H0 Z0 xp => Z0 = (fun c => Z c ∨ c = A) ∧ Inv (X.blk s3 H3 scope ce fp) [] (wipe σ (own.map (·.2))) H0 s₀ ∧ Wt (out.length + 1 - n) H0 ∧ (∀ a, H3 a ≠ none → H0 a ≠ none) ∧ ∃ oC, xp = [(C, oC)] ∧ s₀.heap.get? C = some oC
    generalize hG : G0.use X.A.in1 (out.length + 1) Jc (fun i d => out[i]? = some d) (fun i => i = out.length) (fun _ => False) = G
    have F : Feeds G (X.blk s3 H3 scope ce fp) := by
      have F0 : Feeds G X := by rw [← hG]; exact mz.feeds R
      exact ⟨F0.P, F0.w, F0.base, F0.outer, F0.A, F0.hd, F0.dp⟩
    have eJ : G.J = Jc := by rw [← hG]; rfl
    have en0 : G.n0 = G0.n0 := by rw [← hG]; rfl
    have ea : G.a = G0.a := by rw [← hG]; rfl
    have eT : G.T = out.length + 1 := by rw [← hG]; rfl
    have eY : G.Yd = fun i d => out[i]? = some d := by rw [← hG]; rfl
    have eQ : G.Qd = fun i => i = out.length := by rw [← hG]; rfl
    have eb : G.b = b := by rw [← hG]; exact hbG
    have eE : ∀ H Z c d H', G.E H Z c d H' → False := fun H Z c d H' h => by rw [← hG] at h; obtain ⟨er, z, _⟩ := h; exact z
    have eO : G.outer = X.stack := F.outer
    have sl0 : SleepsAt G (out.length + 1) own0 H1 Z s4 := by
      have z : SleepsAt G (out.length + 1) own0 H1 Z s1 := by
        rw [← hG]
        exact mz.sleeps R I1 hS fun i d z => Nat.lt_succ_of_lt (List.getElem?_eq_some_iff.mp z).1
      obtain ⟨z1, gs, z2, z3⟩ := z
      exact ⟨z1.keeps k4, gs, by rw [g4]; exact z2, z3⟩
    rw [← ea]
    have loop : codeAny (model X.prog X.w) X.A (.compLoop (.ListComp elt [⟨tg, call, ifs, 0⟩] scope pos) 0 (.ref G.a) (.ref A) ce) (postE (model X.prog X.w) X.A X.xe use Qf (.ref A) ce) s4 := by
      refine compLoop_any (fun n s' => ∃ i H' own' Ha Za, n = out.length - i ∧ i ≤ out.length ∧ Inv (X.blk s3 H3 scope ce fp) [] (wipe σ (own.map (·.2))) H' s' ∧ Wt i H' ∧ (∀ a, H3 a ≠ none → H' a ≠ none) ∧ (∀ p ∈ own', s'.heap.get? p.1 = some p.2 ∧ H' p.1 = none ∧ C ≠ p.1) ∧
        Naps b Ha Za H' (fun c => Z c ∨ c = A) ∧ SleepsAt G (out.length - i + 1) own' Ha Za s' ∧ G.n0 ≤ s'.heap.objs.size) ?_ out.length ?_
      · rintro n s5 ⟨i, H5, own5, Ha, Za, en, hi, I5, w5, t5, ko5, nap5, sl5, hz5⟩
        subst en
        obtain ⟨tg5, td5, tn5, ti5⟩ := turn i H5 w5
        obtain ⟨oC, hoC, hCH, hCd⟩ := xpAt I5
        have j5 : G.J (out.length - i + 1) (awake G s5) H5 (fun c => Z c ∨ c = A) [(C, oC)] := by
          rw [eJ]
          exact ⟨rfl, I5.gensZ (allBare_setGen (s := s5) I5.bare rfl), by rw [show out.length + 1 - (out.length - i + 1) = i by omega]; exact w5, t5, oC, rfl, hoC⟩
        have backB : ∀ {H0 H4 : Hp} {s4' : Shared} {xp0 : List (Addr × Obj)} {oC' : Obj}, Inv (X.blk s3 H3 scope ce fp) [] (wipe σ (own.map (·.2))) H0 (awake G s5) → (∀ a, H3 a ≠ none → H0 a ≠ none) → xp0 = [(C, oC')] → (awake G s5).heap.get? C = some oC' → Gives G (awake G s5) H0 xp0 H4 s4' →
            Inv (X.blk s3 H3 scope ce fp) [] (wipe σ (own.map (·.2))) H4 s4' := fun {H0 H4 s4' xp0 oC'} I0 t0 ex0 hx0 gv => by
          refine back_invB F (by rw [en0]; exact bl) (fun b hb hn hx => hch t0 b (by rw [← en0]; exact hb) hn fun z => hx (by rw [ex0, z]; simp)) (fun p hp => ?_) I0 gv
          rw [ex0] at hp
          rw [List.mem_singleton.mp hp]
          exact hx0
        refine turn_z (X := X.blk s3 H3 scope ce fp) F I5 (fun p hp => ⟨(ko5 p hp).1, (ko5 p hp).2.1⟩) (by rw [eb]; exact nap5) hz5 sl5 j5 (fun p hp => ?_) (fun H0 Z0 xp0 v' xv d H6 own6 s6 gs6 j6 rv rq yd gv ow dj as6 bs6 at6 sl6 => ?_) (fun H0 Z0 xp0 H6 s6 h' j6 gv qd hk' => ?_) fun er H0 Z0 xp0 s6 j6 cx => ?_
        · have ep : p = (C, oC) := List.mem_singleton.mp hp
          subst ep
          exact ⟨hoC, hCH, by rw [en0]; exact Nat.ne_of_gt hCn, by rw [eO]; exact hCs, hCd, fun p' hp' => (ko5 p' hp').2.2⟩
        · rw [eJ] at j6
          obtain ⟨ez, I6, w6, t6, oC', ex6, hx6⟩ := j6
          subst ez
          rw [show out.length + 1 - (out.length - i + 1) = i by omega] at w6
          rw [eT, eY, show out.length + 1 - (out.length - i + 1) = i by omega] at yd
          have yd : out[i]? = some d := yd
          have hlt : i < out.length := (List.getElem?_eq_some_iff.mp yd).1
          have x6 : Ex b H0 H6 := by have := gv.ex; rw [eb] at this; exact this
          have g6 : b.G H6 := by have := gv.g; rw [eb] at this; exact this
          have I7 := backB I6 t6 ex6 hx6 gv
          have hCo : ∀ p' ∈ own6, C ≠ p'.1 := fun p' hp' => dj (C, oC') (by rw [ex6]; exact List.mem_singleton.mpr rfl) p' hp'
          have I8 : Inv (X.blk s3 H3 scope ce fp) own6 (wipe σ (own.map (·.2))) H6 (s6.setGen G.g gs6) := (I7.gensZ (allBare_setGen (s := s6) I7.bare bs6)).pins_of fun p' hp' => by
            obtain ⟨h1, h2, h3', h4'⟩ := ow.2 p' hp'
            refine ⟨h1, h2, fun z => hCo p' hp' (cL.symm.trans z.symm), fun hf => ?_, h4'⟩
            have hf : p'.1 ∈ frs X.stack := hf
            have := bl p'.1 hf
            rw [← en0] at this
            exact absurd (Nat.lt_of_lt_of_le this h3') (Nat.lt_irrefl _)
          obtain ⟨_, _, _, ti6⟩ := turn i H0 w6
          have step := ti6 d yd xv H6 x6 g6 rq
          refine go_gen sl6.gen ?_
          have t6' : ∀ a, H3 a ≠ none → H6 a ≠ none := fun a n => ex_there x6 g6 (t6 a n)
          refine thnF (any_sleep (X := X.blk s3 H3 scope ce fp) (E' := fun _ _ => False) (Qv := fun _ σ' H' => wipe σ' (own.map (·.2)) = wipe σ (own.map (·.2)) ∧ H' = H6 ∧ tt σ' H' fun bb H3 => if bb = true then te σ' H3 fun y H4 => ∃ acc, H4 A = some (.lst acc) ∧ acc.length < sizeLine ∧ NxL Z A Wt i H6 (upd H4 A (.lst (acc ++ [y]))) else NxL Z A Wt i H6 H3) (fun s' I' => pg.run own6 s' _ H6 xv v' _ I' rv step) I8) fun _ s8 ⟨⟨σ8, H8, I9, hw8, eH8, q8⟩, kg8⟩ => ?_
          subst eH8
          refine thnF (any_sleep (X := X.blk s3 H3 scope ce fp) (E' := fun _ _ => False) (Qv := fun bb σ' H' => σ' = σ8 ∧ if bb = true then te σ8 H' fun y H4 => ∃ acc, H4 A = some (.lst acc) ∧ acc.length < sizeLine ∧ NxL Z A Wt i H8 (upd H4 A (.lst (acc ++ [y]))) else NxL Z A Wt i H8 H') (fun s' I' => thnF (pt.run own6 s' σ8 H8 _ I' q8) fun bb s'' ⟨H9, I'', q9⟩ => ⟨σ8, H9, I'', rfl, q9⟩) I9) fun bb s9 ⟨⟨σ9, H9, I10, eσ9, q9⟩, kg9⟩ => ?_
          subst eσ9
          have again : ∀ {s' : Shared} {H' : Hp}, Inv (X.blk s3 H3 scope ce fp) own6 σ9 H' s' → KeptG (s6.setGen G.g gs6) s' → NxL Z A Wt i H8 H' → (∀ a, H8 a ≠ none → H' a ≠ none) → ∃ m, m < out.length - i ∧ ∃ i' H' own' Ha Za, m = out.length - i' ∧ i' ≤ out.length ∧ Inv (X.blk s3 H3 scope ce fp) [] (wipe σ (own.map (·.2))) H' s' ∧ Wt i' H' ∧ (∀ a, H3 a ≠ none → H' a ≠ none) ∧ (∀ p ∈ own', s'.heap.get? p.1 = some p.2 ∧ H' p.1 = none ∧ C ≠ p.1) ∧
              Naps b Ha Za H' (fun c => Z c ∨ c = A) ∧ SleepsAt G (out.length - i' + 1) own' Ha Za s' ∧ G.n0 ≤ s'.heap.objs.size := fun {s' H'} I' kg ⟨nw, nk⟩ th => by
            have pk : ∀ p ∈ own6, s'.heap.get? p.1 = some p.2 ∧ H' p.1 = none := fun p hp => by
              obtain ⟨h1, h2, _⟩ := I'.pin p (List.mem_append_right _ hp)
              exact ⟨h1, h2⟩
            obtain ⟨_, gs', at', go'⟩ := sl6
            have egs : gs' = gs6 := by rw [at6] at at'; exact (Option.some.inj at').symm
            subst egs
            obtain ⟨tg7, td7, _, _⟩ := turn (i + 1) H' nw
            have hl : (wipe σ (own.map (·.2))).length = σ9.length := by rw [← hw8, wipe_length]
            refine ⟨out.length - (i + 1), by omega, i + 1, H', own6, H8, (fun c => Z c ∨ c = A), rfl, hlt, (I'.pins_of (pins' := []) fun p hp => by simp at hp).weak hl (fun jj v e => ?_), nw, fun a n => th a (t6' a n), fun p hp => ⟨(pk p hp).1, (pk p hp).2, hCo p hp⟩,
              ⟨tg7, fun a z => .inl (v1.zo _ (v1.zb a z)), td7, fun _ z => .inl z, nk⟩, ⟨gen_pin ow gv.gen fun p hp => (pk p hp).1, gs', kg _ _ at6 as6, ?_⟩, ?_⟩
            · rw [← hw8] at e
              exact (wipe_some e).1
            · rw [show out.length - (i + 1) + 1 = out.length - i by omega]
              exact go'
            · obtain ⟨o, ho⟩ := ow.1
              exact Nat.le_of_lt (Nat.lt_of_le_of_lt (ow.2 _ ho).2.2.1 (Heap.lt_size (pk _ ho).1))
          have exT : ∀ {H' : Hp}, NxL Z A Wt i H8 H' → ∀ a, H8 a ≠ none → H' a ≠ none := fun {H'} nx a n => by
            by_cases hz : Z a ∨ a = A
            · exact (turn (i + 1) H' nx.1).2.1 a hz
            · cases e : H8 a with
              | none => exact absurd e n
              | some o => rw [nx.2 a o e hz]; simp
          cases bb with
          | false =>
            simp only [Bool.false_eq_true, if_false] at q9 ⊢
            exact again I10 (kg8.trans kg9) q9 (exT q9)
          | true =>
            simp only [if_true] at q9 ⊢
            refine thnF (any_sleep (X := X.blk s3 H3 scope ce fp) (E' := fun _ _ => False) (Qv := fun z σ' H' => σ' = σ9 ∧ ∃ yv acc, RelV yv z ∧ H' A = some (.lst acc) ∧ acc.length < sizeLine ∧ NxL Z A Wt i H8 (upd H' A (.lst (acc ++ [yv])))) (fun s' I' => thnF (pe.run own6 s' σ9 H9 _ I' q9) fun z s'' ⟨yv, H10, I'', r10, acc, hA10, hz10, nx⟩ => ⟨σ9, H10, I'', rfl, yv, acc, r10, hA10, hz10, nx⟩) I10) fun z s10 ⟨⟨σ10, H10, I11, eσ10, yv, acc, r10, hA10, hz10, nx⟩, kg10⟩ => ?_
            subst eσ10
            refine wpAny_mono (any_sleep (X := X.blk s3 H3 scope ce fp) (E' := fun _ _ => False) (Qv := fun _ σ' H' => σ' = σ10 ∧ H' = upd H10 A (.lst (acc ++ [yv]))) (fun s' I' => app_ok (X := X.blk s3 H3 scope ce fp) I' hA10 hz10 r10 fun s'' I'' => ⟨σ10, _, I'', rfl, rfl⟩) I11) (fun _ s11 ⟨⟨σ11, H11, I12, eσ11, eH11⟩, kg11⟩ => ?_) fun _ _ f => f.elim
            subst eσ11 eH11
            exact again I12 ((kg8.trans kg9).trans (kg10.trans kg11)) nx (exT nx)
        · rw [eJ] at j6
          obtain ⟨ez, I6, w6, t6, oC', ex6, hx6⟩ := j6
          subst ez
          rw [show out.length + 1 - (out.length - i + 1) = i by omega] at w6
          rw [eT, eQ, show out.length + 1 - (out.length - i + 1) = i by omega] at qd
          have qd : i = out.length := qd
          have x6 : Ex b H0 H6 := by have := gv.ex; rw [eb] at this; exact this
          have g6 : b.G H6 := by have := gv.g; rw [eb] at this; exact this
          have I7 := backB I6 t6 ex6 hx6 gv
          have I8 : Inv (X.blk s3 H3 scope ce fp) [] (wipe σ (own.map (·.2))) H6 { s6.setGen G.g .finished with heap := h' } := (I7.gensZ (allBare_setGen (s := s6) I7.bare rfl)).kept (t' := s6.toks) hk'
          obtain ⟨J7, ⟨m7, hn7⟩, fC⟩ := back I8
          show compPost _ _ _ _ _ _ ce.locals _ _
          rw [cL]
          exact hRR A C _ m7 H6 J7 ((turn i H0 w6).2.2.1 qd H6 x6 g6) hn7 fC
        · obtain ⟨a', Bh, H', cls, d', _, _, _, _, _, _, _, z, _⟩ := cx
          exact (eE _ _ _ _ _ z).elim
      · refine ⟨0, H3, own0, H1, Z, rfl, Nat.zero_le _, I4, w0, fun a n => n, fun p hp => ⟨k4 _ _ (mz.ownp.2 p hp).1, ?_, ?_⟩, ⟨?_, fun a z => .inl (v1.zo _ (v1.zb a z)), (turn 0 H3 w0).2.1, fun a z => z.imp id fun ez => by rw [ez]; exact hAn, fun a o eo n => ?_⟩, sl0, ?_⟩
        · rw [← hH3, upd_ne (fun z => by have := Heap.lt_size (mz.ownp.2 p hp).1; rw [z, hD] at this; exact Nat.lt_irrefl _ this)]
          exact (mz.ownp.2 p hp).2.1
        · exact fun z => by
            have h1 := Heap.lt_size (mz.ownp.2 p hp).1
            rw [← z, ← hC] at h1
            exact Nat.lt_irrefl _ (Nat.lt_trans h1 sz3)
        · exact (turn 0 H3 w0).1
        · rw [← hH3, upd_ne (fun z => by rw [z, hAn] at eo; cases eo)]; exact eo
        · rw [en0]
          obtain ⟨o, ho⟩ := mz.ownp.1
          exact Nat.le_of_lt (Nat.lt_of_le_of_lt (mz.ownp.2 _ ho).2.2.1 (Heap.lt_size (k4 _ _ (mz.ownp.2 _ ho).1)))
    exact codeAny_compStart_list loop (wpAny_pyIter_gen sl0.gen loop)
  · -- it raises an error at once
    let Jc : Cons := fun n s₀ H0 Z0 xp => H0 = H3 ∧ Inv (X.blk s3 H3 scope ce fp) [] (wipe σ (own.map (·.2))) H0 s₀ ∧ Z0 = (fun c => Z c ∨ c = A) ∧ ∃ oC, xp = [(C, oC)] ∧ s₀.heap.get? C = some oC
    generalize hG : G0.use X.A.in1 1 Jc (fun _ _ => False) (fun _ => False) (fun er => ns er.n ∧ Ed er) = G
    have F : Feeds G (X.blk s3 H3 scope ce fp) := by
      have F0 : Feeds G X := by rw [← hG]; exact mz.feeds R
      exact ⟨F0.P, F0.w, F0.base, F0.outer, F0.A, F0.hd, F0.dp⟩
    have eJ : G.J = Jc := by rw [← hG]; rfl
    have en0 : G.n0 = G0.n0 := by rw [← hG]; rfl
    have ea : G.a = G0.a := by rw [← hG]; rfl
    have eY : G.Yd = fun _ _ => False := by rw [← hG]; rfl
    have eQ : G.Qd = fun _ => False := by rw [← hG]; rfl
    have eb : G.b = b := by rw [← hG]; exact hbG
    have eO : G.outer = X.stack := F.outer
    have eE : ∀ H Z c d H', G.E H Z c d H' → ∃ er, (ns er.n ∧ Ed er) ∧ Ex b H H' ∧ b.G H' ∧ ErRp b Z H' c d er := fun H Z c d H' h => by
      rw [← hG] at h
      obtain ⟨er, z1, z2, z3, z4⟩ := h
      have z2 : Ex G0.b H H' := z2
      have z3 : G0.b.G H' := z3
      have z4 : ErRp G0.b Z H' c d er := z4
      rw [hbG] at z2 z3 z4
      exact ⟨er, z1, z2, z3, z4⟩
    have sl0 : SleepsAt G 1 own0 H1 Z s4 := by
      have z : SleepsAt G 1 own0 H1 Z s1 := by
        rw [← hG]
        exact mz.sleeps R I1 hS fun i d z => z.elim
      obtain ⟨z1, gs, z2, z3⟩ := z
      exact ⟨z1.keeps k4, gs, by rw [g4]; exact z2, z3⟩
    rw [← ea]
    obtain ⟨oC, hoC, hCH, hCd⟩ := xpAt I4
    have x13 : Ex b H1 H3 := by rw [← hH3]; exact Ex.new hAn
    have g13 : b.G H3 := by rw [← hH3]; exact Bg.new g1 hAn
    have loop : codeAny (model X.prog X.w) X.A (.compLoop (.ListComp elt [⟨tg, call, ifs, 0⟩] scope pos) 0 (.ref G.a) (.ref A) ce) (postE (model X.prog X.w) X.A X.xe use Qf (.ref A) ce) s4 := by
      refine compLoop_any (fun n s' => s' = s4) (fun n s5 e5 => ?_) 0 rfl
      subst e5
      have j5 : G.J (0 + 1) (awake G s5) H3 (fun c => Z c ∨ c = A) [(C, oC)] := by
        rw [eJ]
        exact ⟨rfl, I4.gensZ (allBare_setGen (s := s5) I4.bare rfl), rfl, oC, rfl, hoC⟩
      have ko : ∀ p ∈ own0, s5.heap.get? p.1 = some p.2 ∧ H3 p.1 = none := fun p hp => ⟨k4 _ _ (mz.ownp.2 p hp).1, by
        rw [← hH3, upd_ne (fun z => by have := Heap.lt_size (mz.ownp.2 p hp).1; rw [z, hD] at this; exact Nat.lt_irrefl _ this)]
        exact (mz.ownp.2 p hp).2.1⟩
      have nap : Naps b H1 Z H3 (fun c => Z c ∨ c = A) := ⟨g13, fun a z => .inl (v1.zo _ (v1.zb a z)), fun a z => by
          rcases z with z | z
          · exact ex_there x13 g13 (v1.dom a z)
          · rw [z, H3A]; simp, fun a z => z.imp id fun ez => by rw [ez]; exact hAn, fun a o eo n => by rw [← hH3, upd_ne (fun z => by rw [z, hAn] at eo; cases eo)]; exact eo⟩
      refine turn_z (X := X.blk s3 H3 scope ce fp) F I4 ko (by rw [eb]; exact nap) ?_ sl0 j5 (fun p hp => ?_) (fun H0 Z0 xp0 v' xv d H6 own6 s6 gs6 j6 rv rq yd gv ow dj as6 bs6 at6 sl6 => ?_) (fun H0 Z0 xp0 H6 s6 h' j6 gv qd hk' => ?_) fun er H0 Z0 xp0 s6 j6 cx => ?_
      · rw [en0]
        obtain ⟨o, ho⟩ := mz.ownp.1
        exact Nat.le_of_lt (Nat.lt_of_le_of_lt (mz.ownp.2 _ ho).2.2.1 (Heap.lt_size (k4 _ _ (mz.ownp.2 _ ho).1)))
      · have ep : p = (C, oC) := List.mem_singleton.mp hp
        subst ep
        exact ⟨hoC, hCH, by rw [en0]; exact Nat.ne_of_gt hCn, by rw [eO]; exact hCs, hCd, fun p' hp' z => by
          have h1 := Heap.lt_size (mz.ownp.2 p' hp').1
          rw [← z, ← hC] at h1
          exact Nat.lt_irrefl _ (Nat.lt_trans h1 sz3)⟩
      · rw [eY] at yd; exact yd.elim
      · rw [eQ] at qd; exact qd.elim
      · rw [eJ] at j6
        obtain ⟨eH, I6, eZ, oC', ex6, hx6⟩ := j6
        subst eH eZ
        obtain ⟨J6, hm6, fC6⟩ := back I6
        rw [F.P, F.w, eO] at cx
        have noz : ∀ cls d H', G.E H0 (fun c => Z c ∨ c = A) cls d H' → (W cls d σ H' ∧ PySem.W.subIn X.K cls (.type "StopIteration") = some false) ∧ ∀ a, H0 a ≠ none → H' a ≠ none := fun cls d H' z => by
          obtain ⟨er', ⟨zn, ze⟩, zx, zg, zr⟩ := eE _ _ _ _ _ z
          refine ⟨⟨m cls d H' er' ((x1.trans x13).trans zx) zg (zr.less fun a z => .inl z) ze, ?_⟩, fun a n => ex_there zx zg n⟩
          rw [zr.1]
          exact hns _ zn
        obtain ⟨sR, IR, xR, cxR⟩ := cx_of_cut (xp := xp0) (pn := G.pn) J6 (by rw [en0]; exact B) (by rw [en0]; exact bl) (fun p hp => by
          rw [ex6] at hp
          rw [List.mem_singleton.mp hp]
          exact ⟨hx6, fC6.1, hCs⟩) (fun cls d H' z => (noz cls d H' z).2) cx
        have cx' : L2.CX X.prog X.w X.stack H0 sR (fun cls d H' => W cls d σ H' ∧ PySem.W.subIn X.K cls (.type "StopIteration") = some false) er s6 := by
          obtain ⟨a', Bh, H', cls, d', z1, z2, z3, z4, z5, z6, z7, z8⟩ := cxR
          exact ⟨a', Bh, H', cls, d', z1, z2, z3, z4, z5, z6, z7, (noz _ _ _ z8).1⟩
        have kin : X.K.In s6.heap := by
          obtain ⟨a', Bh, H', cls, d', z1, z2, z3, z4, _⟩ := id cx'
          refine IR.ok.mod.kin.keeps fun c' o ec => z2.1 c' o (z4.keep c' o (IR.bs c' o ec).1 (IR.bs c' o ec).2 fun hin => ?_)
          rcases List.mem_cons.mp (IR.stkSub c' hin) with z | z
          · have up := Nat.le_trans IR.ok.bsz IR.ok.above
            have low := Heap.lt_size ec
            rw [z] at low
            exact absurd (Nat.lt_of_lt_of_le low up) (Nat.lt_irrefl _)
          · exact IR.ok.nofr ec z
        refine ⟨by rw [F.P, F.w]; exact notStop_of (E := fun cls d H' => W cls d σ H' ∧ PySem.W.subIn X.K cls (.type "StopIteration") = some false) (fun cls d H' z => z.2) kin cx', ?_⟩
        have hmR : ∃ m, sR.heap.Ns C m := by
          obtain ⟨m', oo, es', ep', ho', r'⟩ := hm6
          have ho2 : sR.heap.get? C = some oC' := xR (C, oC') (by rw [ex6]; exact List.mem_singleton.mpr rfl)
          have : (awake G s5).heap.get? C = some oo := ho'
          rw [hx6] at this
          have this := Option.some.inj this
          exact ⟨m', oo, es', ep', by rw [← this]; exact ho2, r'⟩
        have cx2 : L2.CX X.prog X.w X.stack H0 sR (fun cls d H' => W cls d σ H') er (s6.setGen G.g .finished) := by
          obtain ⟨a', Bh, H', cls, d', z1, z2, z3, z4, z5, z6, z7, z8⟩ := cx'
          exact ⟨a', Bh, H', cls, d', z1, z2, z3, z4, z5, z6, allBare_setGen z7 rfl, z8.1⟩
        have z := xe_block hst hfr tk IR fC6 hmR (E0 := fun cls d H' => W cls d σ H') (fun _ _ _ h => h) cx2 cF
        rw [← cL] at z
        exact z
    exact codeAny_compStart_list loop (wpAny_pyIter_gen sl0.gen loop)
end
end VL
set_option Elab.async false
set_option linter.all false
set_option maxRecDepth 100000
set_option maxHeartbeats 8000000
/-! VL114: `[item for x in g(..)]` over values -/
namespace VL
open PySem PySem.Spec PyProof.Rows L2 GenW
@[simp] def vLcZ (ns : Str → Prop) (vs : List Nat) (S : SZ) (u : VA) (g : VTg) (tt : VB) (te : VT) : VT := fun ρ Q E => noOwn ρ vs ∧ u ρ (fun ds =>
  (∃ out : List PyData, S ds (fun i d => out[i]? = some d) (fun i => i = out.length) (fun _ => False) ∧ lcGo g tt te Q (out.map D.py) [] (wipeE ρ vs)) ∨ S ds (fun _ _ => False) (fun _ => False) (fun er => ns er.n ∧ E er)) E
section
variable {b : Bg} {W : WX} {js : List Nat} {g : VTg} {tt : VB} {te : VT} {vs : List Nat}
theorem lcZ_sound (hjs : ∀ j ∈ js, j ∈ vs) {Zo Z : Addr → Prop} {σ : L2.St} {H : Hp} {Q : VK} {ρ : VEnv} {Qd : D → Prop} {out : List PyData} (v : VOk b Zo Z σ H ρ) (hno : noOwn ρ vs) (q : lcGo g tt te Qd (out.map D.py) [] (wipeE ρ vs))
    (l : ∀ u H' d, Ex b H H' → b.G H' → RN b Z H H' u d → Qd d → Q u H') : ∀ H1, Ex b H H1 → b.G H1 → ∀ A, H1 A = none → ∃ Wt, Wt 0 (upd H1 A (.lst [])) ∧ LcTurn b Z A out (LG b js g) (LB b noW tt) (LE b noW (RE b) te) vs σ Q Wt := by
  intro H1 x1 g1 A hA
  have v1 := v.ex x1 g1
  have nzA : ¬ Z A := v1.fresh hA
  have nbA : ¬ b.B A := v1.nb nzA
  have hA0 : H A = none := none_back g1 x1 A hA
  have v2 := (v1.apart hA (o := .lst [])).wiped hno
  refine ⟨fun i H' => i ≤ out.length ∧ ∃ xs acc, H' A = some (.lst xs) ∧ Rqs (fun c => Z c ∨ c = A) H' xs acc ∧ VOk b (fun c => Zo c ∨ c = A) (fun c => Z c ∨ c = A) (wipe σ vs) H' (wipeE ρ vs) ∧ (∀ a o, H1 a = some o → ¬ b.B a → H' a = some o) ∧ lcGo g tt te Qd ((out.map D.py).drop i) acc (wipeE ρ vs),
    ⟨Nat.zero_le _, [], [], upd_same, .nil, v2, fun a o e _ => by rw [upd_ne (ne_of_none e hA)]; exact e, q⟩, ?_⟩
  rintro i H' ⟨hi, xs, acc, hx, rx, v', st, q'⟩
  refine ⟨v'.g, v'.dom, fun ei H2 x2 g2 => ?_, fun d hd w H3 x3 g3 r3 => ?_⟩
  · rw [List.drop_eq_nil_of_le (by rw [List.length_map]; omega)] at q'
    have xx : Ex b H H2 := fun a o e n => x2 a o (st a o (x1 a o e n) n) n
    exact l _ H2 (.py (.list acc)) xx g2 ⟨A, rfl, hA0, xs, x2 A _ hx nbA, v'.rqs x2 rx⟩ q'
  · have hlt : i < out.length := (List.getElem?_eq_some_iff.mp hd).1
    have hlt' : i < (out.map D.py).length := by rw [List.length_map]; exact hlt
    have ed : out[i] = d := (List.getElem?_eq_some_iff.mp hd).2
    rw [List.drop_eq_getElem_cons hlt', List.getElem_map, ed] at q'
    have v3 := v'.ex x3 g3
    refine ⟨H3, fun _ => True, _, _, _, .py d, _, ⟨v3, fun _ _ e _ _ => e, fun _ _ _ _ _ => .inl trivial⟩, r3, q', fun Z4 σ4 ρ4 sub sm f4 q4 => ?_⟩
    have ww : wipe (wipe σ vs) vs = wipe σ vs := wipe_same (js := vs) (σ := σ) (ρ := ρ) (ρ' := ρ) ⟨by rw [wipe_length], fun j hj => wipe_out hj, fun _ _ => rfl⟩ fun j h => h
    refine ⟨(wipe_same sm hjs).trans ww, rfl, ?_⟩
    have st3 : ∀ a o, H1 a = some o → ¬ b.B a → H3 a = some o := fun a o e n => x3 a o (st a o e n) n
    have hx3 : H3 A = some (.lst xs) := x3 A _ hx nbA
    have nb3 : ∀ a, ¬ (Z a ∨ a = A) → ¬ b.B a := fun a n z => n (.inl (v1.zo a (v1.zb a z)))
    refine ⟨_, _, _, _, _, f4.v, q4, fun k H5 x5 g5 q5 => ?_, fun c z H5 er _ _ _ h => h.elim⟩
    have st5 : ∀ a o, H1 a = some o → ¬ b.B a → H5 a = some o := fun a o e n => x5 a o (st3 a o e n) n
    have hx5 : H5 A = some (.lst xs) := x5 A _ hx3 nbA
    have v5 := v3.ex x5 g5
    have rx5 : Rqs (fun c => Z c ∨ c = A) H5 xs acc := v3.rqs x5 (v'.rqs x3 rx)
    cases k with
    | false => exact ⟨⟨hlt, xs, acc, hx5, rx5, v5, st5, q5⟩, fun a o e n => x5 a o e (nb3 a n)⟩
    | true =>
      refine ⟨_, _, _, _, _, f4.v.ex x5 g5, q5, fun u H6 d6 x6 g6 r6 ⟨p, ep, hz, q6⟩ => ?_, fun c z H6 er _ _ _ h => h.elim⟩
      subst ep
      have hx6 : H6 A = some (.lst xs) := x6 A _ hx5 nbA
      have rx6 := v5.rqs x6 rx5
      have v6 := v5.ex x6 g6
      have zo4 : ∀ c, (Zo c ∨ c = A) → Z4 c := f4.v.zo
      have r7 : Rq (fun c => Z c ∨ c = A) H6 u p := by
        refine Rq.mono (fun c z => ?_) (fun _ _ e _ => e) r6
        rcases v'.zi c z with z' | ⟨j, dj, h1, h2⟩
        · exact .inl (zo4 c z')
        · rcases wipeE_in h1 with ⟨h1, _⟩ | ⟨h1, hj⟩
          · cases h1
          · have hj' : j ∉ js := fun m => hj (hjs j m)
            have e4 := sm.env j hj'
            rw [wipeE_out h1 hj] at e4
            obtain ⟨c', h3, h4, _⟩ := f4.v.own j dj e4
            rw [sm.out j hj', h2] at h3
            cases h3
            exact .inl h4
      have mv : ∀ c o, H6 c = some o → ¬ (Z c ∨ c = A) → upd H6 A (.lst (xs ++ [u])) c = some o := fun c o e n => by rw [upd_ne (fun q => n (.inr q))]; exact e
      refine ⟨xs, hx6, by rw [rx6.length]; exact hz, ⟨hlt, xs ++ [u], acc ++ [p], upd_same, ?_, v6.outer (.inr rfl) nbA (fun o ho z => by rw [hx6] at z; cases z; exact ho), fun a o e n => ?_, q6⟩, fun a o e n => mv a o (x6 a o (x5 a o e (nb3 a n)) (nb3 a n)) n⟩
      · exact (rx6.mono (fun _ z => .inl z) mv).append (.cons (Rq.mono (fun _ z => .inl z) mv r7) .nil)
      · rw [upd_ne (ne_of_none e hA)]
        exact x6 a o (st5 a o e n) n
end
section
variable {X : Cx} {b : Bg} {W : WX} {k j : Nat} {x : Str} {ps : List Str} {S : SZ} {e elt tg : Expr} {es ifs : List Expr} {u : VA} {p pos pos2 spos py : Pos} {ns : Str → Prop} {scope : Scope} {own : List (Str × Nat)} {js : List Nat} {g : VTg} {tt : VB} {te : VT} {i : Nat} {y : Str}
theorem vn_lcZ (hst : X.stack = X.env :: X.outer) (hfr : X.env.frame = some X.env.locals) (hc : X.calm = true) (hN : X.N.Nodup) (ok : BlkOk X.N X.env.scope scope own) (nocell : ∀ y ∈ scope.names, y.2 ≠ .cell) (hjs : ∀ j ∈ js, j ∈ own.map (·.2))
    {call : Expr} (hm : VMk X b W k S call u) (hns : ∀ n, ns n → NoSt X.K b n) (hr : Room j X.A) (tk : Takes X W)
    (hg : ∀ (s : Shared) (H : Hp) (C : Addr) (cl : List (Str × Addr)) (fp : List Addr), VG (X.blk s H scope (compEnvC scope cl C X.env) fp) b tg js g) (ht : ∀ (s : Shared) (H : Hp) (C : Addr) (cl : List (Str × Addr)) (fp : List Addr), VTs (X.blk s H scope (compEnvC scope cl C X.env) fp) b ifs tt)
    (he : ∀ (s : Shared) (H : Hp) (C : Addr) (cl : List (Str × Addr)) (fp : List Addr), VE (X.blk s H scope (compEnvC scope cl C X.env) fp) b noW elt te) (hk : k + 1 ≤ j := by decide)
    (hs : ∀ z, foldedSetIterable call X.env z = pure z := by intro _; rfl) :
    VN X b W (.ListComp elt [⟨tg, call, ifs, 0⟩] scope pos) (vLcZ ns (own.map (·.2)) S u g tt te) := by
  refine ⟨fun pins s σ H Q I ⟨Zo, Z, ρ, Qd, Ed, v, ⟨hno, q⟩, l, m⟩ => ?_⟩
  rw [eval_ListComp]
  refine lcZ_core (Q := Q) hst hfr tk hr hk hc hN I ok nocell hm hns v q m (fun ds h => ?_) hg ht he hs fun A C s' m' H' I' q' hn f => ⟨m', hn, fun h'' sb => ?_⟩
  · rcases h with ⟨out, h1, h2⟩ | h
    · exact .inl ⟨out, h1, lcZ_sound hjs v hno h2 l⟩
    · exact .inr h
  · obtain ⟨f0, f1, f2, f3, f4, f5⟩ := f
    exact ⟨.ref A, H', I'.turned (t' := s'.toks) (fun b o hb e => (sb.2 b hb).trans e) f0 f1 f3 f4 f5, rfl, q'⟩
/-- name = [..] on one line -/
theorem ps_setLcZ (hst : X.stack = X.env :: X.outer) (hfr : X.env.frame = some X.env.locals) (hc : X.calm = true) (hN : X.N.Nodup) (hy : X.N[i]? = some y) (hyl : X.env.scope.names.lookup y = some .local)
    (ok : BlkOk X.N X.env.scope scope own) (nocell : ∀ y ∈ scope.names, y.2 ≠ .cell) (hjs : ∀ j ∈ js, j ∈ own.map (·.2))
    {call : Expr} (hm : VMk X b W k S call u) (hns : ∀ n, ns n → NoSt X.K b n) (hr : Room j X.A) (tk : Takes X W) (hsw : swapsWith (.ListComp elt [⟨tg, call, ifs, 0⟩] scope pos) (some (.Name y py)) spos.line X.env = pure true)
    (hg : ∀ (s : Shared) (H : Hp) (C : Addr) (cl : List (Str × Addr)) (fp : List Addr), VG (X.blk s H scope (compEnvC scope cl C X.env) fp) b tg js g) (ht : ∀ (s : Shared) (H : Hp) (C : Addr) (cl : List (Str × Addr)) (fp : List Addr), VTs (X.blk s H scope (compEnvC scope cl C X.env) fp) b ifs tt)
    (he : ∀ (s : Shared) (H : Hp) (C : Addr) (cl : List (Str × Addr)) (fp : List Addr), VE (X.blk s H scope (compEnvC scope cl C X.env) fp) b noW elt te) (hk : k + 1 ≤ j := by decide)
    (hs : ∀ z, foldedSetIterable call X.env z = pure z := by intro _; rfl) :
    PS X (.Assign [.Name y py] (.ListComp elt [⟨tg, call, ifs, 0⟩] scope pos) spos) (tAsg (LE b W (RN b) (vLcZ ns (own.map (·.2)) S u g tt te)) (gName i)) := by
  refine ⟨fun pins s σ H Dn I h => ?_⟩
  obtain ⟨Zo, Z, ρ, Qd, Ed, v, ⟨hno, q⟩, l, m⟩ := h
  rw [exec_Assign_Name_used _ _ _ _ hsw]
  refine wpAny_bind (wpAny_standAt (wpAny_bind ?_))
  show wpAny _ X.A (do let _ ← comprehension (.ListComp elt [⟨tg, call, ifs, 0⟩] scope pos) scope X.env (firstIterPos [⟨tg, call, ifs, 0⟩] pos) (newList []) false (eval call X.env) (some (assign (.Name y py) X.env))) _ _ s
  refine wpAny_bind (thn (lcZ_core (Q := fun x H1 => gName i x σ H1 Dn.nx) (Qf := fun _ s' => SP X pins Dn .next s') hst hfr tk hr hk hc hN I ok nocell hm hns v q m (fun ds h => ?_) hg ht he hs fun A C s' m' H' I' q' hn f => ?_) fun _ s' hq => wpAny_pure (wpAny_pure hq))
  · rcases h with ⟨out, h1, h2⟩ | h
    · exact .inl ⟨out, h1, lcZ_sound hjs v hno h2 l⟩
    · exact .inr h
  · show wpAny _ _ (assign (.Name y py) X.env (.ref A)) _ _ _
    refine wpAny_assign_Name (store_ok2 (v := V.ref A) I' hN hy (.inl hyl) rfl (fun s2 I2 ⟨a, sb, ha⟩ => ?_) (.inr hyl))
    obtain ⟨f0, f1, f2, f3, f4, f5⟩ := f
    have haC : C ≠ a := by
      rcases ha with z | z
      · rw [z]; exact f1
      · exact fun e => f4 y a z e.symm
    refine ⟨m', hn.sameBut sb haC, fun h3 sb3 => ?_⟩
    exact ⟨_, H', I2.turned (t' := s2.toks) (fun b o hb e => (sb3.2 b hb).trans e) f0 f1 f3 f4 f5, q'⟩
theorem vs_setLcZE (hst : X.stack = X.env :: X.outer) (hfr : X.env.frame = some X.env.locals) (hc : X.calm = true) (hN : X.N.Nodup) (hy : X.N[i]? = some y) (hyl : X.env.scope.names.lookup y = some .local)
    (ok : BlkOk X.N X.env.scope scope own) (nocell : ∀ y ∈ scope.names, y.2 ≠ .cell) (hjs : ∀ j ∈ js, j ∈ own.map (·.2))
    {call : Expr} (hm : VMk X b W k S call u) (hns : ∀ n, ns n → NoSt X.K b n) (hr : Room j X.A) (tk : Takes X W) (hsw : swapsWith (.ListComp elt [⟨tg, call, ifs, 0⟩] scope pos) (some (.Name y py)) spos.line X.env = pure true)
    (hg : ∀ (s : Shared) (H : Hp) (C : Addr) (cl : List (Str × Addr)) (fp : List Addr), VG (X.blk s H scope (compEnvC scope cl C X.env) fp) b tg js g) (ht : ∀ (s : Shared) (H : Hp) (C : Addr) (cl : List (Str × Addr)) (fp : List Addr), VTs (X.blk s H scope (compEnvC scope cl C X.env) fp) b ifs tt)
    (he : ∀ (s : Shared) (H : Hp) (C : Addr) (cl : List (Str × Addr)) (fp : List Addr), VE (X.blk s H scope (compEnvC scope cl C X.env) fp) b noW elt te) (hk : k + 1 ≤ j := by decide)
    (hs : ∀ z, foldedSetIterable call X.env z = pure z := by intro _; rfl) :
    VSt X b W (.Assign [.Name y py] (.ListComp elt [⟨tg, call, ifs, 0⟩] scope pos) spos) (sSet i (vLcZ ns (own.map (·.2)) S u g tt te)) :=
  vs_set (ps_setLcZ hst hfr hc hN hy hyl ok nocell hjs hm hns hr tk hsw hg ht he hk hs) fun σ H Q ⟨Zo, Z, ρ, Qd, Ed, v, q, l, m⟩ => ⟨Zo, Z, ρ, Qd, Ed, v, q, fun u H' d x g ⟨a, e, n, o⟩ => by
    subst e
    exact l _ H' d x g (o.rp (fun _ z => .inl z) (v.fresh n)), m⟩
end
end VL
set_option Elab.async false
set_option linter.all false
set_option maxRecDepth 100000
set_option maxHeartbeats 8000000
/-! VL115: `yield from` a list in such a generator -/
namespace VL
open PySem PySem.Spec PyProof.Rows L2 GenW
section
variable {P : Program} {w : World} {B : Around} {Er' : Value → Shared → Prop} {st : Shared}
theorem lst_next {it l : Addr} {i : Nat} {items : Array Value} {u : Value} {Po : Option Value → Shared → Prop} (isI : st.heap.IsListIter it l i) (isL : st.heap.IsList l items) (hx : items[i]? = some u)
    (go : ∀ h', h'.IsListIter it l (i + 1) → Heap.SameBut it st.heap h' → Po (some u) { st with heap := h' }) : wpAny (model P w) B (callSpecial? (.ref it) "__next__") Po Er' st := by
  obtain ⟨o, ho, hc, hd⟩ := id isI
  obtain ⟨ol, hol, _, nl, hdl⟩ := isL
  refine wpAny_callSpecial?_slot (name := Str.ofString "__next__") isI.typeIs slot_listiter_next (wpAny_call_entry slot_listiter_next isI.typeIs entry_listiter_next ?_ (args_listiter_next _))
  show wpAny _ _ (field (.ref it) 0 >>= _) _ _ st
  refine wpAny_bind (wpAny_field ho hd (x := .ref l) rfl ?_)
  show wpAny _ _ (if (Value.ref l == Value.none) = true then _ else _) _ _ st
  rw [if_neg (show ¬ ((Value.ref l == Value.none) = true) from Bool.false_ne_true)]
  show wpAny _ _ (field (.ref it) 1 >>= _) _ _ st
  refine wpAny_bind (wpAny_field ho hd (x := .int i 0) rfl ?_)
  show wpAny _ _ (seqItems? (.ref l) >>= _) _ _ st
  refine wpAny_bind (wpAny_seqItems hol hdl ?_)
  simp only [Int.toNat_natCast, hx]
  refine wpAny_bind (wpAny_setField ho hd (by simp) (wpAny_pure ⟨u, rfl, go _ ⟨_, Heap.get?_update_self _ ho (Obj.isFreed_of_fields (Obj.data_mapFields hd _)), (Obj.cls_mapFields ..).trans hc, ?_⟩ (Heap.SameBut.update ..)⟩))
  rw [Obj.data_mapFields hd]; simp [rawInt]
theorem lst_stop {it l : Addr} {i : Nat} {items : Array Value} {Po : Option Value → Shared → Prop} (hh : B.handled = none) (isI : st.heap.IsListIter it l i) (isL : st.heap.IsList l items) (hx : items[i]? = none)
    (go : ∀ e h', StopX e h' → Heap.ExtBut it st.heap h' → Er' e { st with heap := h' }) : wpAny (model P w) B (callSpecial? (.ref it) "__next__") Po Er' st := by
  obtain ⟨o, ho, hc, hd⟩ := id isI
  obtain ⟨ol, hol, _, nl, hdl⟩ := isL
  refine wpAny_callSpecial?_slot (name := Str.ofString "__next__") isI.typeIs slot_listiter_next (wpAny_call_entry slot_listiter_next isI.typeIs entry_listiter_next ?_ (args_listiter_next _))
  show wpAny _ _ (field (.ref it) 0 >>= _) _ _ st
  refine wpAny_bind (wpAny_field ho hd (x := .ref l) rfl ?_)
  show wpAny _ _ (if (Value.ref l == Value.none) = true then _ else _) _ _ st
  rw [if_neg (show ¬ ((Value.ref l == Value.none) = true) from Bool.false_ne_true)]
  show wpAny _ _ (field (.ref it) 1 >>= _) _ _ st
  refine wpAny_bind (wpAny_field ho hd (x := .int i 0) rfl ?_)
  show wpAny _ _ (seqItems? (.ref l) >>= _) _ _ st
  refine wpAny_bind (wpAny_seqItems hol hdl ?_)
  simp only [Int.toNat_natCast, hx]
  refine wpAny_bind (wpAny_rule (wpAny_bind (wpAny_setField ho hd (by simp) ?_)))
  show wpAny _ _ (newExc (.type "StopIteration") [] >>= _) _ _ _
  refine wpAny_bind ?_
  simp only [newExc, newTuple]
  refine wpAny_bind (wpAny_newObj_type ?_ (by size_fits))
  refine wpAny_bind (m := firstArgMember _ _) (wpAny_of_eq (a := Value.none) (by first | rfl | (simp only [firstArgMember]; rfl)) (wpAny_newObj_type ?_ (by size_fits)))
  simp only [raiseNew]
  refine wpAny_bind (wpAny_handled ?_)
  first | rw [show B.in1.handled = none from hh] | rw [hh]
  refine wpAny_bind (wpAny_pure (wpAny_throw (go _ _ ⟨_, _, _, rfl, Heap.get?_push_size _ rfl, rfl, rfl, ?_⟩ (((Heap.SameBut.update ..).extBut.push _).push _))))
  first
    | rfl
    | (rw [Array.getElem?_append_left (by decide)]; rfl)
    | kernel_rfl
end
theorem close_lst : typeLookup (.type "list_iterator") "close" = pure none := by rw [typeLookup_type, builtinLookup_eq_fast]; kernel_rfl
abbrev cYf (it : Addr) : Code := .builtin "proto.yield_from" ⟨[.ref it, .bool false, .none], []⟩
section
variable {G : GD} {ip : List (Addr × Obj)} {σ : L2.St} {fs : List Frame} {it a : Addr} {vs : List V} {ds : List PyData}
theorem segz_yf (ok : GOk G) (lo : ∀ p ∈ ip, G.n0 ≤ p.1) (hlo : G.n0 < it) (hpi : ∀ p ∈ G.pn ++ ip, p.1 ≠ it) (hh : (G.A.over (cYf it) fs).handled = none) (hsp : splitAtGen fs = none) (hgd : fs.any Frame.guarded = false) (hlen : vs.length = ds.length) {i0 : Nat}
    {Pq : Pt → Hp → Prop} (hitem : ∀ k d, ds[k]? = some d → G.Yd (i0 + k) d) (hstep : ∀ q H H2 Z2 xp2, Pq q H → Naps G.b H q.Z0 H2 Z2 → Pq ⟨q.i + 1, H2, Z2, xp2⟩ H2)
    (hend : ∀ n q s₀ s H, Stands G n q s₀ → Dj q.xp ip → Inv (G.X (cut G.n0 s₀) q.H0 q.Z0 q.xp) ip σ H s → Pq q H → q.i = i0 + ds.length → SegZ G n s₀ (cYf it) (.pure (.done (.ret .none))) fs s) :
    ∀ (r j n : Nat) (q : Pt) (s₀ s : Shared) (H : Hp), j + r = ds.length → q.i = i0 + j → Stands G n q s₀ → Dj q.xp ip → (∀ p ∈ q.xp, p.1 ≠ it) → Inv (G.X (cut G.n0 s₀) q.H0 q.Z0 q.xp) ip σ H s → s.heap.IsListIter it a j → H it = none → Pq q H →
      H a = some (.lst vs) → ¬ q.Z0 a → Rqs q.Z0 H vs ds → Ex G.b q.H0 H → G.b.G H → SegZ G n s₀ (cYf it) ((model G.P G.w).den (cYf it)) fs s := by
  have turned : ∀ {q : Pt} {s₀ s : Shared} {H : Hp} {h' : Heap}, Inv (G.X (cut G.n0 s₀) q.H0 q.Z0 q.xp) ip σ H s → H it = none → (∀ p ∈ q.xp, p.1 ≠ it) → (∀ b o, b ≠ it → s.heap.get? b = some o → h'.get? b = some o) → Inv (G.X (cut G.n0 s₀) q.H0 q.Z0 q.xp) ip σ H { s with heap := h' } := fun {q s₀ s H h'} I hn hx hk => by
    refine I.turned (t' := s.toks) (it := it) hk hn (Nat.ne_of_gt hlo) (.inr (Nat.le_trans pre_size (Nat.le_of_lt hlo))) (fun x c e => (ok.nocell x c e).elim) fun p hp => ?_
    rcases List.mem_append.mp hp with z | z
    · exact (List.mem_append.mp z).elim (fun z => hpi p (List.mem_append_left _ z)) (hx p)
    · exact hpi p (List.mem_append_right _ z)
  intro r
  induction r with
  | zero =>
    intro j n q s₀ s H hj hq hs dj hx I isI hn pq hl nz rq x1 g1
    have ej : j = ds.length := by omega
    obtain ⟨_, its, cc, rv, eL⟩ := I.hok a _ hl
    have isL : s.heap.IsList a its.toArray := ⟨_, eL, rfl, cc, rfl⟩
    have hnone : its.toArray[j]? = none := by
      have e := rv.length
      have e2 : its[j]? = none := List.getElem?_eq_none_iff.mpr (by omega)
      simpa using e2
    rw [show (model G.P G.w).den (cYf it) = Builtin.«proto.yield_from» ⟨[.ref it, .bool false, .none], []⟩ from den_yf (X := G.X s₀ q.H0 q.Z0 q.xp)]
    unfold Builtin.«proto.yield_from»
    try dsimp only
    refine seg_bind (wpAny_pure ?_)
    try dsimp only
    refine seg_bind (wpAny_attempt (wpAny_holding ?_))
    rw [if_neg Bool.false_ne_true, if_pos (show (Value.none == Value.none) = true from rfl)]
    refine wpAny_bind (wpAny_rule (wpAny_bind (lst_stop hh isI isL hnone fun e h' hS hk => ?_)))
    obtain ⟨ae, o, vz, ee, hoa, hcls, hdat, h5⟩ := hS
    subst ee
    try dsimp only
    refine seg_bind (wpAny_endsTurn hoa hcls ?_)
    try dsimp only
    rw [if_pos rfl]
    first
      | refine seg_bind (wpAny_rule ?_)
      | (rw [if_neg Bool.false_ne_true]; refine seg_bind (wpAny_rule ?_))
      | (rw [if_neg Bool.false_ne_true]; refine seg_bind (wpAny_pure ?_); refine seg_bind (wpAny_rule ?_))
    refine seg_bind (wpAny_field hoa hdat h5 ?_)
    exact hend n q s₀ _ H hs dj (turned I hn hx hk) pq (by omega)
  | succ r ih =>
    intro j n q s₀ s H hj hq hs dj hx I isI hn pq hl nz rq x1 g1
    have hjl : j < ds.length := by omega
    obtain ⟨_, its, cc, rv, eL⟩ := I.hok a _ hl
    have isL : s.heap.IsList a its.toArray := ⟨_, eL, rfl, cc, rfl⟩
    obtain ⟨y, hy, ry⟩ := rq.get (List.getElem?_eq_getElem hjl)
    obtain ⟨uv, hu, ru⟩ := rv.get hy
    have yd : G.Yd q.i ds[j] := by rw [hq]; exact hitem j _ (List.getElem?_eq_getElem hjl)
    have hT := ok.yT _ _ yd
    obtain ⟨n, rfl⟩ : ∃ m, n = m + 1 := ⟨n - 1, by have := hs.cnt; omega⟩
    rw [show (model G.P G.w).den (cYf it) = Builtin.«proto.yield_from» ⟨[.ref it, .bool false, .none], []⟩ from den_yf (X := G.X s₀ q.H0 q.Z0 q.xp)]
    unfold Builtin.«proto.yield_from»
    try dsimp only
    refine seg_bind (wpAny_pure ?_)
    try dsimp only
    refine seg_bind (wpAny_attempt (wpAny_holding ?_))
    rw [if_neg Bool.false_ne_true, if_pos (show (Value.none == Value.none) = true from rfl)]
    refine wpAny_bind (wpAny_rule (wpAny_bind (lst_next isI isL (by simpa using hu) fun h' isI' hsb => ?_)))
    have I' := turned (s := s) I hn hx (h' := h') fun b o hb e => hsb.extBut b o hb e
    obtain ⟨oi, hoi, hoc, hod⟩ := id isI'
    refine wpAny_pure ?_
    try dsimp only
    refine seg_bind (wpAny_typeOf (T := "list_iterator") ⟨oi, hoi, hoc⟩ ?_)
    try dsimp only
    first
      | (refine seg_bind (wpAny_of_eq close_lst ?_); refine seg_bind (wpAny_pure ?_))
      | refine seg_bind (wpAny_bind (wpAny_of_eq close_lst (wpAny_pure ?_)))
      | refine seg_bind (wpAny_of_eq close_lst ?_)
    try dsimp only
    refine seg_bind (wpAny_sleptOver hoi hoc (by decide) ?_)
    refine seg_yield hsp rfl hgd ?_
    have I2 : Inv (G.X (cut G.n0 s₀) q.H0 q.Z0 q.xp) (ip ++ [(it, oi)]) σ H { s with heap := h' } := I'.pins_of fun p hp => by
      rcases List.mem_append.mp hp with z | z
      · exact I'.pin p (List.mem_append_right _ z)
      · rw [List.mem_singleton.mp z]
        refine ⟨hoi, hn, Nat.ne_of_gt hlo, fun hf => ?_, fun v e => by rw [hod] at e; cases e⟩
        exact Nat.lt_irrefl _ (Nat.lt_trans hlo (ok.low it hf))
    have lo2 : ∀ p ∈ ip ++ [(it, oi)], G.n0 ≤ p.1 := fun p hp => (List.mem_append.mp hp).elim (lo p) fun z => by rw [List.mem_singleton.mp z]; exact Nat.le_of_lt hlo
    have dj2 : Dj q.xp (ip ++ [(it, oi)]) := fun p hp p' hp' => (List.mem_append.mp hp').elim (dj p hp p') fun z => by rw [List.mem_singleton.mp z]; exact hx p hp
    have djo : Dj q.xp (ownOf G (ip ++ [(it, oi)]) { s with heap := h' }) := fun p hp p' hp' => by
      obtain ⟨h1, h2⟩ := hs.xpn p hp
      rcases List.mem_append.mp hp' with z | z
      · rw [List.mem_singleton.mp (of_pinsAt z).1]; exact h1
      · exact (List.mem_append.mp z).elim (h2 p') (dj2 p hp p')
    have en : G.T - (n + 1) = q.i := by have := hs.cnt; omega
    refine ⟨q.H0, q.Z0, H, y, ds[j], ownOf G (ip ++ [(it, oi)]) { s with heap := h' }, q.xp, hs.j, ru, ry, by rw [en]; exact yd, gives_of ok I2 x1 g1, ownP_of ok lo2 I2, djo, fun s2 H2 Z2 xp2 j2 wk => ?_⟩
    have I3 := wake_inv ok I2 wk
    have I4 : Inv (G.X (cut G.n0 s2) H2 Z2 xp2) ip σ H2 s2 := I3.pins_of fun p hp => I3.pin p (List.mem_append_right _ (List.mem_append_left _ hp))
    have hit2 := wk.ownk (it, oi) (List.mem_append_right _ (List.mem_append_right _ (List.mem_append_right _ (List.mem_singleton.mpr rfl))))
    have isI2 : s2.heap.IsListIter it a (j + 1) := ⟨oi, hit2.1, hoc, hod⟩
    have hl2 : H2 a = some (.lst vs) := wk.nap.keep a _ hl nz
    have nz2 : ¬ Z2 a := fun z => (wk.nap.young a z).elim nz fun e => by rw [hl] at e; cases e
    show Seg _ _ _ _ n s2 _ (Builtin.Generator.sleptOver (.ref it) false >>= fun _ => _) fs s2
    refine seg_bind (wpAny_sleptOver hit2.1 hoc (by decide) ?_)
    try dsimp only
    refine seg_bind (wpAny_pure ?_)
    have st2 : Stands G n ⟨q.i + 1, H2, Z2, xp2⟩ s2 := ⟨by show n + (q.i + 1) = _; have := hs.cnt; omega, j2, wk.sz, fun p hp => ⟨(wk.xok p hp).2.2.1, fun p' hp' => (wk.xok p hp).2.2.2.2.2 p' (List.mem_append_right _ (List.mem_append_left _ hp'))⟩⟩
    exact seg_again (plainId_quiet plain_yf _) (ih (j + 1) n ⟨q.i + 1, H2, Z2, xp2⟩ s2 s2 H2 (by omega) (by show q.i + 1 = _; omega) st2 (fun p hp p' hp' => (wk.xok p hp).2.2.2.2.2 p' (List.mem_append_right _ (List.mem_append_right _ (List.mem_append_left _ hp'))))
      (fun p hp => (wk.xok p hp).2.2.2.2.2 (it, oi) (List.mem_append_right _ (List.mem_append_right _ (List.mem_append_right _ (List.mem_singleton.mpr rfl))))) I4 isI2 hit2.2 (hstep q H H2 Z2 xp2 pq wk.nap) hl2 nz2 (rq.mono wk.nap.young wk.nap.keep) Ex.refl wk.nap.g)
/-- all items of a list are handed out -/
def tZYf (G : GD) (te : ByZ TE) : TZ := fun D q σ H => te q.H0 q.Z0 σ H fun x H1 => ∃ a vs ds, x = .ref a ∧ H1 a = some (.lst vs) ∧ ¬ q.Z0 a ∧ Rqs q.Z0 H1 vs ds ∧ (∀ k d, ds[k]? = some d → G.Yd (q.i + k) d) ∧ Ex G.b q.H0 H1 ∧ G.b.G H1 ∧
  ∃ Pq : Pt → Hp → Prop, Pq q H1 ∧ (∀ q' H' H2 Z2 xp2, Pq q' H' → Naps G.b H' q'.Z0 H2 Z2 → Pq ⟨q'.i + 1, H2, Z2, xp2⟩ H2) ∧ ∀ q' H', Pq q' H' → q'.i = q.i + ds.length → D.nx q' σ H'
theorem gw_yieldFrom {e : Expr} {yp pos : Pos} {te : ByZ TE} (he : ∀ s H Z xp, PE (G.X s H Z xp) e (te H Z)) (hc : G.A.handled = none) (hi : interactive G.env = false := by rfl) : GW G (.Expr (.YieldFrom e yp) pos) (tZYf G te) := by
  refine ⟨fun ok ip n q s₀ c fs K J gd lv s σ H Dn g hs k lo dj I ht => ?_⟩
  rw [exec_Expr G.env _ pos hi rfl]
  show Seg _ _ _ _ n s₀ c (.at pos fun _ => ((eval e G.env >>= fun v => (standAt yp >>= fun _ => yieldFrom G.env v)) >>= fun x => dropValue (.YieldFrom e yp) pos x).wrap K J gd lv) fs s
  refine seg_at (segw_bind2 ?_)
  rw [g.over]
  refine wpAny_mono ((he _ _ _ _).run ip s σ H _ I ht) (fun v s1 hv => ?_) fun x s' hx => k.exc n q s₀ x s' hs hx
  obtain ⟨x, H1, I1, rv, a, vs, ds, ex, hl, nz, rq, yd, x1, g1, Pq, p0, pstep, pend⟩ := hv
  subst ex
  obtain rfl : v = Value.ref a := rv
  obtain ⟨_, its, cc, rvs, eL⟩ := I1.hok a _ hl
  have isL : s1.heap.IsList a its.toArray := ⟨_, eL, rfl, cc, rfl⟩
  refine seg_at ?_
  show Seg _ _ _ _ n s₀ c ((yieldFrom G.env (.ref a)).wrap (fun b => (dropValue (.YieldFrom e yp) pos b).wrap K J gd lv) J gd lv) fs s1
  unfold yieldFrom
  refine seg_bind_wrap (wpAny_typeOf isL.typeIs ?_)
  rw [if_neg (show ¬ ((Value.type "list" == Value.type "coroutine") = true) by decide)]
  refine seg_bind_wrap (wpAny_holding ?_)
  rw [g.over]
  refine wpAny_pyIter_list isL ?_
  have ksz : ∀ b o, s1.heap.get? b = some o → b ≠ s1.heap.objs.size := fun b o e => Nat.ne_of_lt (Heap.lt_size e)
  have kp : ∀ b o, s1.heap.get? b = some o → (s1.heap.push { cls := .type "list_iterator", data := .fields #[.ref a, .int 0 0] }).get? b = some o := fun b o e => Heap.get?_push_of_some _ e
  have I2 : Inv (G.X (cut G.n0 s₀) q.H0 q.Z0 q.xp) ip σ H1 { s1 with heap := s1.heap.push { cls := .type "list_iterator", data := .fields #[.ref a, .int 0 0] } } := I1.kept (t' := s1.toks) kp
  refine seg_call fun p => ?_
  refine segz_yf (Pq := Pq) (a := a) (vs := vs) (ds := ds) (i0 := q.i) ok lo I1.lt (fun p hp => ?_) ?_ ?_ ?_ rq.length yd pstep (fun n' q' s₀' s' H' hs' dj' I' pq' ei => ?_) ds.length 0 n q s₀ _ H1 (Nat.zero_add _) rfl hs dj (fun p hp => ?_) I2 ⟨_, Heap.get?_push_size _ rfl, rfl, rfl⟩ (I1.hok.fresh (Nat.le_refl _)) p0 hl nz rq x1 g1
  · refine ksz p.1 p.2 (I1.pin p ?_).1
    exact (List.mem_append.mp hp).elim (fun z => List.mem_append_left _ (List.mem_append_left _ z)) fun z => List.mem_append_right _ z
  · show (G.A.over c fs).handled = none
    rw [g.over]; exact hc
  · show (splitAtGen fs).map _ = none
    rw [g.split]; rfl
  · show (gd false || fs.any Frame.guarded) = false
    rw [g.gd, g.guard]; rfl
  · exact seg_leaf (.ok (.ret .none)) (k.ok n' q' s₀' s' .next hs' dj' ⟨σ, H', I', pend q' H' pq' ei⟩)
  · exact ksz p.1 p.2 (I1.pin p (List.mem_append_left _ (List.mem_append_right _ hp))).1
theorem ZOk.nap {b : Bg} {Hm H1 : Hp} {Zm Z : Addr → Prop} {q : Pt} {ρ : VEnv} (f1 : ZOk b Hm Zm q Z σ H1 ρ) (no : noOwns ρ) {H2 : Hp} {Z2 : Addr → Prop} {xp2 : List (Addr × Obj)} (nap : Naps b H1 q.Z0 H2 Z2) : ZOk b Hm Zm ⟨q.i + 1, H2, Z2, xp2⟩ Z2 σ H2 ρ := by
  have zz : ∀ a, q.Z0 a → Z a := f1.f.v.zo
  have stay : Stay H1 Z H2 Z2 := ⟨fun a z => (nap.young a z).imp (zz a) id, fun a o e n => nap.keep a o e fun z => n (zz a z)⟩
  have v2 : VOk b Z2 Z2 σ H2 ρ := ⟨nap.g, nap.zb, fun _ z => z, nap.dom, fun _ z => .inl z, fun i d e => absurd e (noOwns_at no), fun i j d e a h1 _ _ _ => absurd h1 (noOwns_at no), fun i d e => by
    obtain ⟨u, h1, h2⟩ := f1.f.v.shr i d e
    exact ⟨u, h1, stay.rp h2⟩, f1.f.v.len⟩
  exact ⟨⟨v2, fun _ _ e _ _ => e, fun i d a e _ => absurd e (noOwns_at no)⟩, f1.st.trans stay⟩
@[simp] def zYf (t : VT) : VZ := fun ρ i De => noOwns ρ ∧ t ρ (fun d => ∃ ds : List PyData, d = .py (.list ds) ∧ (∀ k p, ds[k]? = some p → De.yd (i + k) p) ∧ De.nx ρ (i + ds.length)) (De.ex ρ)
theorem vz_yieldFrom {e : Expr} {t : VT} {yp pos : Pos} (he : ∀ s H Z xp, VE (G.X s H Z xp) G.b (WF (G.E H Z)) e t) (hc : G.A.handled = none) (hi : interactive G.env = false := by rfl) : VZt G (.Expr (.YieldFrom e yp) pos) (zYf t) :=
  gw_mono (gw_yieldFrom (te := fun H Z => LE G.b (WF (G.E H Z)) (fun Z _ H v d => Rp G.b Z H v d) t) he hc hi) fun Dn q σ H ⟨Hm, Zm, Z, ρ, De, f, ⟨no, z⟩, l⟩ => ⟨q.Z0, Z, ρ, _, _, f.f.v, z, fun v H1 d x1 g1 r1 q1 => by
    obtain ⟨ds, ed, yd, nx⟩ := q1
    subst ed
    have f1 := f.ex x1 g1
    have zz : ∀ a, q.Z0 a → Z a := f1.f.v.zo
    have r1 : Rq Z H1 v (.list ds) := r1
    cases r1 with
    | lst e nz rs =>
      exact ⟨_, _, ds, rfl, e, fun z => nz (zz _ z), rs.mono (fun a z => .inl (zz a z)) fun _ _ e _ => e, fun k d hd => l.yd _ _ (yd k d hd), fun a o e nb => f1.f.ext a o e nb fun z => z, g1,
        fun q' H' => ∃ Z', ZOk G.b Hm Zm q' Z' σ H' ρ, ⟨Z, f1⟩, fun q' H' H2 Z2 xp2 ⟨Z', f'⟩ nap => ⟨Z2, f'.nap no nap⟩, fun q' H' ⟨Z', f'⟩ ei => l.nx q' Z' σ H' ρ f' (by rw [ei]; exact nx)⟩, l.er f⟩
end
end VL
set_option Elab.async false
set_option linter.all false
set_option maxRecDepth 100000
set_option maxHeartbeats 8000000
/-! VL116: list(g(..)) of such a generator -/
namespace VL
open PySem PySem.Spec PyProof.Rows L2 GenW
section
variable {X : Cx} {pins : List (Addr × Obj)} {σ : L2.St} {H : Hp} {s : Shared}
end
@[simp] def vListZ (ns : Str → Prop) (S : SZ) (u : VA) : VT := fun ρ Q E => u ρ (fun ds =>
  (∃ out : List PyData, S ds (fun i d => out[i]? = some d) (fun i => i = out.length) (fun _ => False) ∧ out.length ≤ sizeLine ∧ Q (.py (.list out))) ∨ S ds (fun _ _ => False) (fun _ => False) (fun er => ns er.n ∧ E er)) E
section
variable {X : Cx} {b : Bg} {W : WX} {k j : Nat} {x nm : Str} {ps : List Str} {S : SZ} {e : Expr} {es : List Expr} {u : VA} {p p2 pos pos2 : Pos} {ns : Str → Prop}
end
end VL
set_option Elab.async false
set_option linter.all false
set_option maxRecDepth 100000
set_option maxHeartbeats 8000000
/-! VL117: generator defs of the text; a keyword-only parameter -/
namespace VL
open PySem PySem.Spec PyProof.Rows L2 GenW
section
variable {P : Program} {w : World} {K : PySem.W.Frag} {mg : Str → Option Value} {base : Heap} {b : Bg} {k : Nat} {x qual : Str} {st : Stmt} {f : Addr} {fd : FuncData} {N ps : List Str} {S : SZ}
/-- a generator def of the text, by its body -/
theorem fnZ (F : Fun K x qual st f fd) (Sc : GScope N ps (defScope st)) (hcell : ∀ n, cellsFrom n (defScope st).names [] = []) {g : VZ} (hlen : ∀ ds Y Q E, S ds Y Q E → ds.length = ps.length) (hps : ps.length ≤ N.length)
    (hbody : ∀ (cdv : Value) (A : Around) (outer : List Env) (n0 : Addr) (E : Hp → (Addr → Prop) → XK) (pn : List (Addr × Obj)) (a : Addr) (gi T : Nat) (J : Cons) (Y : Nat → PyData → Prop) (Q : Nat → Prop), Room k (A.deeper (envOfC qual (defScope st) n0 f cdv)) →
      VZs (GD.mk P w K mg base N qual (defScope st) f cdv A outer n0 E pn b a gi T J Y Q) (defBody st) g)
    (hlaw : ∀ ds Y Q E, S ds Y Q E → g (envOf N.length ds) 0 (finZ Y Q E)) : GFnZ P w K mg base b (k + 1) f fd ps S := by
  obtain ⟨oc, od, kV, doc, pm, an, cdv, ct, osl, rfl, lk, hcd⟩ := F.ex
  exact gfnz_of lk hcd Sc hcell hlen hps (fun A outer n0 E pn a gi T J Y Q hr => hbody cdv A outer n0 E pn a gi T J Y Q hr) hlaw
end
/-- .. with a keyword-only parameter that has a default -/
structure CalZW (P : Program) (w : World) (K : PySem.W.Frag) (mg : Str → Option Value) (base : Heap) (b : Bg) (k : Nat) (x : Str) (ps : List Str) (kn : Str) (dv : PyData) (S : SZ) where
  f : Addr
  fd : FuncData
  F : GFnZ P w K mg base b k f fd (ps ++ [kn]) S
  g : mg x = some (.ref f)
  kp : PySem.W.keepIn K (.ref f) = true
  b0 : ∃ v ds, Vals [v] ds ∧ Binds K fd (ps ++ [kn]) ds ∧ ∀ Z H, Rq Z H v dv
  b1 : KBn K fd (ps ++ [kn]) ps.length [kn] (fun us ws => us ++ ws) (fun vs zs => vs ++ zs)
@[simp] def szW (dv : PyData) (S : SZ) : SZ := fun ds Y Q E => S (ds ++ [.py dv]) Y Q E
section
variable {X : Cx} {b : Bg} {W : WX} {k j : Nat} {x kn : Str} {ps : List Str} {dv : PyData} {S : SZ} {e e2 : Expr} {es : List Expr} {u : VA} {t : VT} {p pos kpos : Pos}
/-- the arguments, then the keyword's -/
@[simp] def vArgK (u : VA) (t : VT) : VA := fun ρ Q E => u ρ (fun ds => t ρ (fun d => Q (ds ++ [d])) E) E
end
end VL
set_option Elab.async false
set_option linter.all false
set_option maxRecDepth 100000
set_option maxHeartbeats 4000000
namespace LawP
open PySem PySem.Spec PyProof.Rows L2 VL
def t_law_word (S_law_take : SV) : VS :=
  (sSeq (sPar [3, 4, 5] (mCons true (vLst vNil) (mCons false (vC (.py (.int 0))) (mCons false (vVar 1) mNil))))
  (sSeq (sWhile (vTst (vBin gGt (vBin gAdd (vBor 5) (vBor 4)) (vC (.py (.int 0)))))
  (sSeq (sSet 6 (vBin gIx (vLst (vCons (vCall S_law_take (vCons (vVar 0) (vCons (vC (.py (.int 2))) vNil))) (vCons (vC (.py (.int 1))) (vCons (vC (.py (.int 0))) (vCons (vCal gInt (vCons (vBin gGt (vCall S_law_take (vCons (vVar 0) (vCons (vC (.py (.int 5))) vNil))) (vC (.py (.int 0)))) vNil)) (vCons (vCal gInt (vCons (vBin gGt (vBor 4) (vC (.py (.int 2)))) vNil)) vNil)))))) (vBor 2)))
  (sIf (wOr (vTst (vBin gEq (vBor 5) (vC (.py (.int 0))))) (wAnd (vTst (vBin gGt (vBor 4) (vC (.py (.int 0))))) (vTst (vBin gEq (vBor 6) (vC (.py (.int 1)))))))
  (sSeq (sMut 3 gApp (vCons (vC (.py (.str "s"))) vNil))
  (sSet 4 (vBin gSub (vBor 4) (vC (.py (.int 1))))))
  (sSeq (sMut 3 gApp (vCons (vC (.py (.str "a"))) vNil))
  (sPar [4, 5] (mCons false (vBin gAdd (vBor 4) (vC (.py (.int 1)))) (mCons false (vBin gSub (vBor 5) (vC (.py (.int 1)))) mNil)))))))
  (sRet (vMth isS gTJoin (vC (.py (.str ""))) (vCons (vBor 3) vNil)))))
def t_word_error : VS :=
  (sSeq (sIf (wNot (vTst (vCal gIsi (vCons (vBor 1) (vCons (vC (.raw (.ty "str"))) vNil)))))
  (sRet (vTup (vCons (vC (.py .none)) (vCons (vC (.py (.str "string"))) vNil))))
  sNext)
  (sSeq (sSet 2 (vLc [5, 6] (iEn (vCons (vBor 1) vNil)) (tgTup 2 (tgCons (tgName 5) (tgCons (tgName 6) tgNil))) (vTst (vBin (gIn true) (vBor 6) (vTup (vCons (vC (.py (.str "a"))) (vCons (vC (.py (.str "s"))) vNil))))) (vVar 5)))
  (sSeq (sIf (vTst (vBin gNe (vBor 2) (vLst vNil)))
  (sRet (vTup (vCons (vBin gIx (vBor 2) (vC (.py (.int 0)))) (vCons (vC (.py (.str "letter"))) vNil))))
  sNext)
  (sSeq (sPar [3, 4] (mCons false (vC (.py (.int 0))) (mCons false (vC (.py (.int 0))) mNil)))
  (sSeq (sFor (iEn (vCons (vVar 1) vNil)) (tgTup 2 (tgCons (tgName 5) (tgCons (tgName 6) tgNil)))
  (sIf (vTst (vBin gEq (vBor 6) (vC (.py (.str "a")))))
  (sSeq (sIf (vTst (vBin gEq (vBor 3) (vCal gLen (vCons (vBor 0) vNil))))
  (sRet (vTup (vCons (vVar 5) (vCons (vC (.py (.str "arrival"))) vNil))))
  sNext)
  (sAugA 3 gAugAdd (vC (.py (.int 1)))))
  (sSeq (sIf (vTst (vBin gEq (vBor 4) (vBor 3)))
  (sRet (vTup (vCons (vVar 5) (vCons (vC (.py (.str "service"))) vNil))))
  sNext)
  (sAugA 4 gAugAdd (vC (.py (.int 1)))))))
  (sRet (vC (.py .none))))))))
end LawP
set_option Elab.async false
set_option linter.all false
set_option maxRecDepth 100000
set_option maxHeartbeats 4000000
namespace LawP
open PySem PySem.Spec PyProof.Rows L2 VL
def t_law_drawn (S_law_take : SV) (S_law_pick : SV) : VS :=
  (sSeq (sPar [2, 3] (mCons false (vBin gAdd (vC (.py (.int 1))) (vCall S_law_take (vCons (vVar 0) (vCons (vVar 1) vNil)))) (mCons false (vCall S_law_take (vCons (vVar 0) (vCons (vC (.py (.int 6))) vNil))) mNil)))
  (sSeq (sSet 4 (vBin gIx (vLst (vCons (vC (.py (.int 2))) (vCons (vC (.py (.int 3))) (vCons (vBin gAdd (vC (.py (.int 1))) (vBin gFdiv (vBor 2) (vC (.py (.int 3))))) (vCons (vVar 2) (vCons (vC (.py (.int 1))) (vCons (vC (.py (.int 4))) vNil))))))) (vBor 3)))
  (sSeq (sSet 5 (vLc [6] (iR1 (vCons (vBor 4) vNil)) (tgName 6) wYes (vCall S_law_pick (vCons (vVar 0) (vCons (vLst (vCons (vVar 6) (vCons (vBin gSub (vBin gPow (vC (.py (.int 10))) (vC (.py (.int 9)))) (vBor 6)) (vCons (vBin gAdd (vBin gMulA (vC (.py (.int 7))) (vBor 6)) (vCall S_law_take (vCons (vVar 0) (vCons (vC (.py (.int 7))) vNil)))) vNil)))) vNil)))))
  (sSeq (sIf (vTst (vBin gEq (vBor 3) (vC (.py (.int 5)))))
  (sRet (vCal gTuple (vCons (vLc [6] (iR1 (vCons (vBor 2) vNil)) (tgName 6) wYes (vBin gIx (vBor 5) (vBin gMod (vBin gFdiv (vBor 6) (vC (.py (.int 2)))) (vBor 4)))) vNil)))
  sNext)
  (sRet (vCal gTuple (vCons (vLc [6] (iR1 (vCons (vBor 2) vNil)) (tgName 6) wYes (vBin gIx (vBor 5) (vCall S_law_take (vCons (vVar 0) (vCons (vVar 4) vNil))))) vNil)))))))
def t_mates : VS :=
  (sSeq (sPar [1, 2] (mCons true (vLst vNil) (mCons true vD0 mNil)))
  (sSeq (sFor (iEn (vCons (vVar 0) vNil)) (tgTup 2 (tgCons (tgName 3) (tgCons (tgName 4) tgNil)))
  (sSeq (sMut 1 gApp (vCons (vDGet2 (vBor 2) (vVar 4) (vC (.py .none))) vNil))
  (sDPutO 2 (vVar 4) (vVar 3))))
  (sRet (vCal gTuple (vCons (vBor 1) vNil)))))
end LawP
set_option Elab.async false
set_option linter.all false
namespace LawP
open PySem VL
/-! ### mates: the mathematics -/
/-- the latest person before i of the group g -/
def lastIn (row : List Int) (g : Int) (i : Nat) : Option Nat := ((List.range i).filter fun j => row[j]? == some g).getLast?
def mateOf (row : List Int) (i : Nat) : Option Nat := (row[i]?).bind fun g => lastIn row g i
def matesL (row : List Int) : List (Option Nat) := (List.range row.length).map (mateOf row)
theorem lastIn_succ (row : List Int) (g : Int) (i : Nat) : lastIn row g (i + 1) = if row[i]? = some g then some i else lastIn row g i := by
  unfold lastIn
  rw [List.range_succ, List.filter_append]
  by_cases h : row[i]? = some g
  · rw [if_pos h]; simp [h]
  · rw [if_neg h]; simp [h]
theorem lastIn_some {row : List Int} {g : Int} {i m : Nat} (h : lastIn row g i = some m) : m < i ∧ row[m]? = some g ∧ ∀ j, m < j → j < i → row[j]? ≠ some g := by
  induction i with
  | zero => simp [lastIn] at h
  | succ i ih =>
    rw [lastIn_succ] at h
    split at h
    · rename_i c
      cases h
      exact ⟨Nat.lt_succ_self _, c, fun j h1 h2 => by omega⟩
    · rename_i c
      obtain ⟨a, b, d⟩ := ih h
      refine ⟨by omega, b, fun j h1 h2 => ?_⟩
      by_cases e : j = i
      · rw [e]; exact c
      · exact d j h1 (by omega)
theorem lastIn_none {row : List Int} {g : Int} {i : Nat} (h : lastIn row g i = none) : ∀ j, j < i → row[j]? ≠ some g := by
  induction i with
  | zero => intro j hj; omega
  | succ i ih =>
    rw [lastIn_succ] at h
    split at h
    · cases h
    · rename_i c
      intro j hj
      by_cases e : j = i
      · rw [e]; exact c
      · exact ih h j (by omega)
theorem mateOf_at {row : List Int} {i : Nat} {g : Int} (h : row[i]? = some g) : mateOf row i = lastIn row g i := by unfold mateOf; rw [h]; rfl
end LawP
set_option Elab.async false
set_option linter.all false
set_option maxRecDepth 100000
set_option maxHeartbeats 4000000
namespace LawP
open PySem PySem.Spec PyProof.Rows L2 VL
/-! ### mates -/
def matesP (row : List Int) : PyData := .tuple ((matesL row).map oN)
@[simp] def S_mates : SV := fun ds Q _ => ∃ row : List Int, ds = [.py (tI row)] ∧ row.length ≤ 1000 ∧ Q (.py (matesP row))
theorem l_mates : ∀ ds Q E, S_mates ds Q E → t_mates (envOf 5 ds) (fin Q E) := by
  rintro ds Q E ⟨row, rfl, hl, q⟩
  simp [t_mates, tI, -forGo]
  refine for_inv (fun i ρ => ∃ acc ds x y, ρ = [.shr (.py (tI row)), .own (.py (.list acc)), .own (.py (.dict ds)), x, y] ∧ acc = ((matesL row).take i).map oN ∧ ds.length ≤ i ∧ ∀ g, getD ds (.inl g) = (lastIn row g i).map pN) (fun i d ρ hd iv nx ct hn => ?_) (fun ρ iv => ?_) ⟨[], [], _, _, rfl, by simp, by simp, fun g => by simp [lastIn]⟩
  · obtain ⟨acc, ds, x, y, rfl, ea, h1, h2⟩ := iv
    obtain ⟨g, hg, rfl⟩ := enumP_getD hd
    have hi : i < row.length := (List.getElem?_eq_some_iff.mp hg).1
    have hm : (matesL row)[i]? = some (mateOf row i) := by simp [matesL, hi]
    have la : acc.length = i := by rw [ea]; simp [matesL]; omega
    simp [VL.keyOf, h2]
    refine ⟨by omega, by omega, (hn _ ⟨_, _, _, _, rfl, ?_, ?_, fun g' => ?_⟩).1⟩
    · rw [take_succ_get hm, List.map_append, ea, mateOf_at hg]
      cases lastIn row g i <;> rfl
    · have := putD_len ds (.inl g) (.int i)
      omega
    · rw [getD_putD, lastIn_succ, h2, hg]
      by_cases c : g' = g
      · subst c; simp [pN]
      · simp [c, Ne.symm c]
  · obtain ⟨acc, ds, x, y, rfl, ea, _, _⟩ := iv
    rw [List.take_of_length_le (by simp [matesL, enumP_len])] at ea
    subst ea
    simpa [matesP] using q
/-! ### a drawn row -/
@[simp] def S_law_drawn (r : Addr) : SV
  | [.raw v, .py (.int m)], Q, _ => v = .ref r ∧ 1 ≤ m ∧ m ≤ 40 ∧ ∀ gs : List Int, gs ≠ [] → gs.length ≤ m → (∀ g ∈ gs, 0 ≤ g ∧ g ≤ 1000000000) → Q (.py (.tuple (gs.map PyData.int)))
  | _, _, _ => False
theorem l_law_drawn (r : Addr) : ∀ ds Q E, S_law_drawn r ds Q E → t_law_drawn (svTake r) (svPick r) (envOf 7 ds) (fin Q E)
  | [.raw v, .py (.int m)], Q, E, ⟨hv, h1, h2, q⟩ => by
    subst hv
    simp [t_law_drawn]
    refine ⟨by omega, by omega, fun x x0 x1 w w0 w1 => ?_⟩
    obtain ⟨kn, ek, k1, k2⟩ : ∃ kn : Int, atI [PyData.int 2, PyData.int 3, PyData.int (1 + (1 + x).fdiv 3), PyData.int (1 + x), PyData.int 1, PyData.int 4] w = some (.int kn) ∧ 1 ≤ kn ∧ kn ≤ 40 := by
      have f3 : (1 + x).fdiv 3 = (1 + x) / 3 := Int.fdiv_eq_ediv_of_nonneg _ (by omega)
      rcases (by omega : w = 0 ∨ w = 1 ∨ w = 2 ∨ w = 3 ∨ w = 4 ∨ w = 5) with rfl | rfl | rfl | rfl | rfl | rfl
      · exact ⟨2, rfl, by omega, by omega⟩
      · exact ⟨3, rfl, by omega, by omega⟩
      · exact ⟨_, rfl, by rw [f3]; omega, by rw [f3]; omega⟩
      · exact ⟨_, rfl, by omega, by omega⟩
      · exact ⟨1, rfl, by omega, by omega⟩
      · exact ⟨4, rfl, by omega, by omega⟩
    refine ⟨_, ek, ?_⟩
    simp
    refine ⟨⟨by omega, by omega⟩, ?_⟩
    refine lc_mem (fun p => ∃ g, p = .int g ∧ (0 ≤ g ∧ g ≤ 1000000000)) (fun d hd k hk => ?_) (by simp; omega) fun ps hl hps => ?_
    · obtain ⟨j, hj, rfl⟩ := mem_rangeP hd
      have hj' : (j : Int) < 40 := by omega
      simp [lcStep, AllIn]
      intro y y0 y1
      exact ⟨hk _ ⟨_, rfl, by omega, by omega⟩, hk _ ⟨_, rfl, by omega, by omega⟩, hk _ ⟨_, rfl, by omega, by omega⟩⟩
    obtain ⟨ns, rfl, hns⟩ := ints_of hps
    simp at hl
    have fin : ∀ ps : List PyData, ps.length = (1 + x).toNat → (∀ p ∈ ps, ∃ g, p = PyData.int g ∧ (0 ≤ g ∧ g ≤ 1000000000)) → Q (.py (.tuple ps)) := fun ps e h => by
      obtain ⟨gs, rfl, hg⟩ := ints_of h
      simp at e
      exact q gs (fun z => by rw [z] at e; simp at e; omega) (by omega) hg
    have at_ : ∀ i : Int, 0 ≤ i → i < kn → ∃ d, atI (ns.map PyData.int) i = some d ∧ ∃ g, d = .int g ∧ (0 ≤ g ∧ g ≤ 1000000000) := fun i i0 i1 => by
      obtain ⟨d, e, m⟩ := atI_ok (xs := ns.map PyData.int) i0 (by simp; omega)
      obtain ⟨g, hg, rfl⟩ := List.mem_map.mp m
      exact ⟨_, e, g, rfl, hns g hg⟩
    simp
    split
    · refine ⟨⟨by omega, by omega⟩, lc_mem (fun p => ∃ g, p = .int g ∧ (0 ≤ g ∧ g ≤ 1000000000)) (fun d hd k hk => ?_) (by simp; omega) fun ps hl hps => ?_⟩
      · obtain ⟨j, hj, rfl⟩ := mem_rangeP hd
        simp [lcStep]
        refine ⟨by omega, ?_⟩
        obtain ⟨d, e, hd⟩ := at_ _ (Int.emod_nonneg ((j : Int).fdiv 2) (by omega : kn ≠ 0)) (Int.emod_lt_of_pos _ (by omega))
        exact ⟨d, e, hk d hd⟩
      · simp at hl ⊢
        exact fin ps hl hps
    · refine ⟨⟨by omega, by omega⟩, lc_mem (fun p => ∃ g, p = .int g ∧ (0 ≤ g ∧ g ≤ 1000000000)) (fun d hd k hk => ?_) (by simp; omega) fun ps hl hps => ?_⟩
      · obtain ⟨j, hj, rfl⟩ := mem_rangeP hd
        simp [lcStep]
        refine ⟨by omega, by omega, fun y y0 y1 => ?_⟩
        obtain ⟨d, e, hd⟩ := at_ y y0 y1
        exact ⟨d, e, hk d hd⟩
      · simp at hl ⊢
        exact fin ps hl hps
end LawP
set_option Elab.async false
set_option linter.all false
namespace LawP
open PySem VL
/-! ### words: the mathematics -/
def isL (c : Nat) : Bool := c == 97 || c == 115
/-- the places of signs that are no letters -/
def badW (w : List Nat) : List Nat := (w.zipIdx.filter fun p => !isL p.1).map (·.2)
/-- the first arrival or service too many: n persons, from place k on, behind a arrivals and s services -/
def scanP (n : Nat) : Nat → Nat → Nat → List Nat → PyData
  | _, _, _, [] => .none
  | k, a, s, c :: w => if c = 97 then (if a = n then .tuple [.int k, .str "arrival"] else scanP n (k + 1) (a + 1) s w) else (if s = a then .tuple [.int k, .str "service"] else scanP n (k + 1) a (s + 1) w)
def wErrL (n : Nat) (w : List Nat) : PyData := match badW w with
  | i :: _ => .tuple [.int (i : Nat), .str "letter"]
  | [] => scanP n 0 0 0 w
def wErr (n : Nat) : PyData → PyData
  | .str z => wErrL n (sl z)
  | _ => .tuple [.none, .str "string"]
theorem badW_none {w : List Nat} (h : badW w = []) : ∀ c ∈ w, isL c = true := by
  intro c hc
  unfold badW at h
  rw [List.map_eq_nil_iff, List.filter_eq_nil_iff] at h
  obtain ⟨i, hi⟩ := List.getElem?_of_mem hc
  have := h (c, i) (by rw [List.mem_zipIdx_iff_getElem?]; exact hi)
  simpa using this
theorem badW_cons {w : List Nat} {i : Nat} {r : List Nat} (h : badW w = i :: r) : ∃ c, w[i]? = some c ∧ isL c = false ∧ ∀ j, j < i → ∀ d, w[j]? = some d → isL d = true := by
  have go : ∀ (w : List Nat) (k : Nat), ((w.zipIdx k).filter fun p => !isL p.1).map (·.2) = i :: r → ∃ c, k ≤ i ∧ w[i - k]? = some c ∧ isL c = false ∧ ∀ j, j < i - k → ∀ d, w[j]? = some d → isL d = true := by
    intro w
    induction w with
    | nil => intro k h; simp at h
    | cons c w ih =>
      intro k h
      rw [List.zipIdx_cons, List.filter_cons] at h
      by_cases hc : isL c = true
      · rw [if_neg (by simp [hc])] at h
        obtain ⟨d, h1, h2, h3, h4⟩ := ih (k + 1) h
        refine ⟨d, by omega, ?_, h3, fun j hj e he => ?_⟩
        · have : i - k = (i - (k + 1)) + 1 := by omega
          rw [this, List.getElem?_cons_succ]; exact h2
        · cases j with
          | zero => simp at he; subst he; exact hc
          | succ j => exact h4 j (by omega) e (by simpa using he)
      · rw [if_pos (by simpa using hc)] at h
        simp at h
        have : i = k := h.1.symm
        subst this
        exact ⟨c, Nat.le_refl _, by simp, by simpa using hc, fun j hj => by omega⟩
  obtain ⟨c, _, h2, h3, h4⟩ := go w 0 h
  exact ⟨c, by simpa using h2, h3, fun j hj d hd => h4 j (by simpa using hj) d hd⟩
theorem badW_nil {w : List Nat} (h : ∀ (i : Nat) d, w[i]? = some d → isL d = true) : badW w = [] := by
  cases e : badW w with
  | nil => rfl
  | cons i r =>
    obtain ⟨d, h1, h2, h3⟩ := badW_cons e
    have := h i d h1
    rw [h2] at this; cases this
/-- w is what is left of a history of n persons, behind a arrivals and s services -/
def goodW (n : Nat) : Nat → Nat → List Nat → Prop
  | a, s, [] => a = n ∧ s = n
  | a, s, c :: w => (c = 97 ∧ a < n ∧ goodW n (a + 1) s w) ∨ (c = 115 ∧ s < a ∧ goodW n a (s + 1) w)
/-- histories -/
def HistW (n : Nat) (w : List Nat) : Prop := goodW n 0 0 w
theorem goodW_len {n : Nat} : ∀ {w : List Nat} {a s : Nat}, goodW n a s w → w.length + a + s = 2 * n
  | [], a, s, ⟨h1, h2⟩ => by simp; omega
  | c :: w, a, s, h => by
    rcases h with ⟨_, _, h⟩ | ⟨_, _, h⟩
    · have := goodW_len h; simp; omega
    · have := goodW_len h; simp; omega
theorem HistW.len {n : Nat} {w : List Nat} (h : HistW n w) : w.length = 2 * n := by have := goodW_len h; omega
end LawP
set_option Elab.async false
set_option linter.all false
set_option maxRecDepth 100000
set_option maxHeartbeats 4000000
namespace LawP
open PySem PySem.Spec PyProof.Rows L2 VL
@[simp] theorem lit_a : Str.ofString "a" = mkS [97] := by decide +kernel
@[simp] theorem lit_s : Str.ofString "s" = mkS [115] := by decide +kernel
@[simp] theorem lit_e : Str.ofString "" = mkS [] := by decide +kernel
@[simp] theorem lit_as : Str.ofString "as" = mkS [97, 115] := by decide +kernel
def isSm (p : PyData) : Prop := ∀ z, p = .str z → z.length ≤ 100000
theorem str_ex (z : Str) : ∃ w, z = mkS w := ⟨sl z, (mkS_sl z).symm⟩
/-! ### word_error -/
@[simp] def S_word_error : SV
  | [.py (.tuple xs), .py p], Q, _ => isSm p ∧ Q (.py (wErr xs.length p))
  | _, _, _ => False
theorem l_word_error : ∀ ds Q E, S_word_error ds Q E → t_word_error (envOf 7 ds) (fin Q E)
  | [.py (.tuple xs), .py (.str z)], Q, E, ⟨hs, q⟩ => by
    obtain ⟨w, rfl⟩ := str_ex z
    have hw : w.length ≤ 100000 := by have := hs _ rfl; simpa using this
    simp [t_word_error, -forGo, -lcGo, signsD_mkS, enumP_enc]
    refine lc_encF' (encE encC) (fun p => !isL p.1) (fun p => pN p.2) (fun i p hp k h1 h2 => ?_) (by simp; omega) ?_
    · obtain ⟨c, hc, rfl⟩ := zipIdx_at hp
      simp [lcStep, isL] at h1 h2 ⊢
      by_cases a1 : c = 97
      · subst a1; simpa using h2
      · by_cases a2 : c = 115
        · subst a2; simpa using h2
        · have b1 : ¬ 97 = c := fun e => a1 e.symm
          have b2 : ¬ 115 = c := fun e => a2 e.symm
          simp [a1, a2, b1, b2] at h1 ⊢
          exact h1
    · have eb : (List.map (fun p => pN p.2) (List.filter (fun p => !isL p.1) w.zipIdx)) = (badW w).map pN := by simp [badW]
      rw [eb]
      have q' : Q (.py (wErrL xs.length w)) := by simpa [wErr] using q
      unfold wErrL at q'
      cases hb : badW w with
      | cons i r =>
        rw [hb] at q'
        simpa [pN] using q'
      | nil =>
        rw [hb] at q'
        have hL := badW_none hb
        simp [-forGo]
        refine for_enc' (encE encC) (fun k ρ => ∃ a s x y, ρ = [.shr (.py (.tuple xs)), .shr (.py (.str (mkS w))), .shr (.py (.list [])), .shr (.py (.int (a : Nat))), .shr (.py (.int (s : Nat))), x, y] ∧ Q (.py (scanP xs.length k a s (w.drop k)))) ⟨0, 0, _, _, rfl, q'⟩ (fun k p ρ hp iv nx ct hn => ?_) (fun ρ iv => ?_)
        · obtain ⟨a, s, x, y, rfl, h⟩ := iv
          obtain ⟨c, hc, rfl⟩ := zipIdx_at hp
          have hk : k < w.length := (List.getElem?_eq_some_iff.mp hc).1
          have hd : w.drop k = c :: w.drop (k + 1) := by
            rw [List.drop_eq_getElem_cons hk]
            congr 1
            exact (List.getElem?_eq_some_iff.mp hc).2
          rw [hd] at h
          unfold scanP at h
          have hl := hL c (List.mem_of_getElem? hc)
          simp
          by_cases c1 : c = 97
          · subst c1
            rw [if_pos rfl] at h
            simp
            by_cases e : a = xs.length
            · subst e
              rw [if_pos rfl] at h
              simpa using h
            · rw [if_neg e] at h
              have e' : ¬ (a : Int) = (xs.length : Int) := by omega
              simp [e, e']
              exact (hn _ ⟨a + 1, s, _, _, rfl, h⟩).1
          · rw [if_neg c1] at h
            simp [c1]
            by_cases e : s = a
            · subst e
              rw [if_pos rfl] at h
              simpa using h
            · rw [if_neg e] at h
              have e' : ¬ (s : Int) = (a : Int) := by omega
              simp [e, e']
              exact (hn _ ⟨a, s + 1, _, _, rfl, h⟩).1
        · obtain ⟨a, s, x, y, rfl, h⟩ := iv
          rw [List.drop_eq_nil_of_le (by simp)] at h
          exact h
  | [.py (.tuple xs), .py .none], Q, E, q | [.py (.tuple xs), .py (.bool _)], Q, E, q | [.py (.tuple xs), .py (.int _)], Q, E, q | [.py (.tuple xs), .py (.list _)], Q, E, q | [.py (.tuple xs), .py (.tuple _)], Q, E, q | [.py (.tuple xs), .py (.dict _)], Q, E, q => by simpa [t_word_error, wErr] using q.2
/-! ### is_history -/
def isHist (n : Nat) (p : PyData) : Bool := match p with
  | .str z => isNn (wErr n (.str z)) && decide (z.length = 2 * n)
  | _ => false
@[simp] def S_is_history : SV
  | [.py (.tuple xs), .py p], Q, _ => isSm p ∧ xs.length ≤ 100000 ∧ Q (.py (.bool (isHist xs.length p)))
  | _, _, _ => False
/-! ### what is drawn -/
def odds : List PyData := [.none, .bool true, .bool false, .int (-1), .int 0, .int 1, .int 40, .int 1000000001, .int 1000000000000000000000000000000000000000, .str "", .str "a", .str "as", .str "0", .tuple [], .list [], .dict [], .tuple [.int 0], .list [.int 0], .tuple [.bool true], .tuple [.str "a", .str "s"], .tuple [.int 0, .int 0], .str "none", .dict [(.str "a", .int 0)], .tuple [.int 1, .int 0]]
@[simp] def S_law_odd (r : Addr) : SV
  | [.raw v], Q, _ => v = .ref r ∧ ∀ p ∈ odds, Q (.py p)
  | _, _, _ => False
@[simp] def S_law_word (r : Addr) : SV
  | [.raw v, .py (.int m), .py (.int way)], Q, _ => v = .ref r ∧ 0 ≤ m ∧ m ≤ 1000 ∧ 0 ≤ way ∧ way < 5 ∧ ∀ w : List Nat, HistW m.toNat w → Q (.py (.str (mkS w)))
  | _, _, _ => False
theorem l_law_word (r : Addr) : ∀ ds Q E, S_law_word r ds Q E → t_law_word (svTake r) (envOf 7 ds) (fin Q E)
  | [.raw v, .py (.int m), .py (.int way)], Q, E, ⟨hv, m0, m1, w0, w1, q⟩ => by
    subst hv
    obtain ⟨n, rfl⟩ := Int.eq_ofNat_of_zero_le m0
    simp [t_law_word]
    refine ⟨fun k ρ => ∃ (acc : List Nat) (a s : Nat) (x : VL.Slot), ρ = [.shr (.raw (.ref r)), .shr (.py (.int (n : Nat))), .shr (.py (.int way)), .own (.py (.list (acc.map encC))), .shr (.py (.int ((a : Int) - s))), .shr (.py (.int ((n : Int) - a))), x] ∧ s ≤ a ∧ a ≤ n ∧ acc.length = a + s ∧ k = 2 * n - a - s ∧ (∀ w, goodW n a s w → HistW n (acc ++ w)),
      ⟨_, [], 0, 0, _, by simp; rfl, by omega, by omega, rfl, rfl, fun w h => h⟩, ?_⟩
    rintro k ρ ⟨acc, a, s, x, rfl, h1, h2, h3, h4, h5⟩
    have hS : s < a → ∃ m', m' < k ∧ ∃ (acc' : List Nat) (a' s' : Nat), (acc.map encC ++ [PyData.str (mkS [115])] = acc'.map encC ∧ (a : Int) - s - 1 = (a' : Int) - s' ∧ (a : Int) = a') ∧ s' ≤ a' ∧ a' ≤ n ∧ acc'.length = a' + s' ∧ m' = 2 * n - a' - s' ∧ ∀ w, goodW n a' s' w → HistW n (acc' ++ w) := fun h => by
      refine ⟨_, ?_, acc ++ [115], a, s + 1, ⟨by simp, by omega, rfl⟩, by omega, h2, by simp; omega, rfl, fun w hw => ?_⟩
      · omega
      · rw [List.append_assoc]
        exact h5 (115 :: w) (.inr ⟨rfl, h, hw⟩)
    have hA : a < n → ∃ m', m' < k ∧ ∃ (acc' : List Nat) (a' s' : Nat), (acc.map encC ++ [PyData.str (mkS [97])] = acc'.map encC ∧ (a : Int) - s + 1 = (a' : Int) - s' ∧ (n : Int) - a - 1 = (n : Int) - a') ∧ s' ≤ a' ∧ a' ≤ n ∧ acc'.length = a' + s' ∧ m' = 2 * n - a' - s' ∧ ∀ w, goodW n a' s' w → HistW n (acc' ++ w) := fun h => by
      refine ⟨_, ?_, acc ++ [97], a + 1, s, ⟨by simp, by omega, by omega⟩, by omega, by omega, by simp; omega, rfl, fun w hw => ?_⟩
      · omega
      · rw [List.append_assoc]
        exact h5 (97 :: w) (.inl ⟨rfl, h, hw⟩)
    simp
    split
    · rename_i c
      intro y y0 y1 z z0 z1
      obtain ⟨d, hd⟩ : ∃ d : Int, atI [PyData.int y, PyData.int 1, PyData.int 0, PyData.int (if 0 < z then 1 else 0), PyData.int (if 2 < (a : Int) - s then 1 else 0)] way = some (.int d) := by
        rcases (by omega : way = 0 ∨ way = 1 ∨ way = 2 ∨ way = 3 ∨ way = 4) with rfl | rfl | rfl | rfl | rfl
        · exact ⟨y, rfl⟩
        · exact ⟨1, rfl⟩
        · exact ⟨0, rfl⟩
        · exact ⟨_, rfl⟩
        · exact ⟨_, rfl⟩
      refine ⟨_, hd, ?_⟩
      by_cases c1 : (n : Int) - a = 0
      · rw [if_pos c1]
        refine ⟨by omega, ?_⟩
        have := hS (by omega)
        simpa using this
      · rw [if_neg c1]
        have hA' := hA (by omega)
        by_cases c2 : s < a
        · rw [if_pos c2]
          have hS' := hS c2
          simp
          split
          · exact ⟨by omega, by simpa using hS'⟩
          · exact ⟨by omega, by simpa using hA'⟩
        · rw [if_neg c2]
          exact ⟨by omega, by simpa using hA'⟩
    · rename_i c
      have e1 : a = n := by omega
      have e2 : s = n := by omega
      subst e1 e2
      have hw : HistW s acc := by have := h5 [] ⟨rfl, rfl⟩; simpa using this
      have h := hw.len
      refine ⟨_, allS_signs acc, ?_, ?_⟩
      · have := sum_signs acc
        simp at this ⊢
        omega
      · rw [join_signs]
        exact q acc (by simpa using hw)
/-! ### the law's own look at a word -/
@[simp] def S_law_fault : SV
  | [.py (.tuple xs), .py p], Q, _ => isSm p ∧ Q (.py (wErr xs.length p))
  | _, _, _ => False
/-! ### a word changed -/
@[simp] def S_law_twisted (r : Addr) : SV
  | [.raw v, .py (.str z)], Q, _ => v = .ref r ∧ z.length ≤ 50000 ∧ ∀ z' : Str, z'.length ≤ z.length + 10 → (∀ c ∈ sl z', c ∈ sl z ∨ c < 128) → Q (.py (.str z'))
  | _, _, _ => False
end LawP
set_option Elab.async false
set_option linter.all false
set_option maxRecDepth 100000
set_option maxHeartbeats 4000000
namespace LawP
open PySem PySem.Spec PyProof.Rows L2 VL
/-! ### sizes of words and what is told of them -/
end LawP
set_option Elab.async false
set_option linter.all false
namespace LawP
open PySem VL
/-! ### the queue: the mathematics -/
/-- p stands at place i -/
def insAt (ws : List Nat) (i p : Nat) : List Nat := ws.take i ++ p :: ws.drop i
/-- where p joins: behind the mate, or at the end -/
def joinPl (ws : List Nat) (m : Option Nat) : Nat := match m with
  | some k => if k ∈ ws then ws.idxOf k + 1 else ws.length
  | none => ws.length
def joinQ (ws : List Nat) (p : Nat) (m : Option Nat) : List Nat := insAt ws (joinPl ws m) p
theorem mem_insAt {ws : List Nat} {i p x : Nat} : x ∈ insAt ws i p ↔ x = p ∨ x ∈ ws := by
  unfold insAt
  rw [List.mem_append, List.mem_cons]
  constructor
  · rintro (h | h | h)
    · exact .inr (List.mem_of_mem_take h)
    · exact .inl h
    · exact .inr (List.mem_of_mem_drop h)
  · rintro (h | h)
    · exact .inr (.inl h)
    · rw [← List.take_append_drop i ws] at h
      exact (List.mem_append.mp h).elim .inl fun h => .inr (.inr h)
theorem insAt_len (ws : List Nat) (i p : Nat) : (insAt ws i p).length = ws.length + 1 := by
  unfold insAt
  rw [List.length_append, List.length_cons, List.length_take, List.length_drop]
  omega
theorem joinQ_len (ws : List Nat) (p : Nat) (m : Option Nat) : (joinQ ws p m).length = ws.length + 1 := insAt_len _ _ _
theorem mem_joinQ {ws : List Nat} {p x : Nat} {m : Option Nat} : x ∈ joinQ ws p m ↔ x = p ∨ x ∈ ws := mem_insAt
/-- members of a group stand in the order of their arrival, and who came behind a waiting one waits, too -/
structure QInv (row : List Int) (a : Nat) (ws : List Nat) : Prop where
  lt : ∀ x ∈ ws, x < a
  up : ∀ x ∈ ws, ∀ y, x < y → y < a → row[x]? = row[y]? → y ∈ ws
  ord : ws.Pairwise fun x y => row[x]? = row[y]? → x < y
  nd : ws.Nodup
theorem QInv.nil (row : List Int) (a : Nat) : QInv row a [] := ⟨by simp, by simp, .nil, .nil⟩
theorem QInv.serve {row : List Int} {a x : Nat} {ws : List Nat} (h : QInv row a (x :: ws)) : QInv row a ws := by
  obtain ⟨h1, h2, h3, h4⟩ := h
  rw [List.pairwise_cons] at h3
  rw [List.nodup_cons] at h4
  refine ⟨fun y hy => h1 y (List.mem_cons_of_mem _ hy), fun y hy z l1 l2 e => ?_, h3.2, h4.2⟩
  rcases List.mem_cons.mp (h2 y (List.mem_cons_of_mem _ hy) z l1 l2 e) with rfl | h
  · have := h3.1 y hy e.symm
    omega
  · exact h
theorem pair_idx {row : List Int} {ws : List Nat} {k x : Nat} (hp : ws.Pairwise fun x y => row[x]? = row[y]? → x < y) (hk : k ∈ ws) (h : x ∈ ws.drop (ws.idxOf k + 1)) (e : row[k]? = row[x]?) : k < x := by
  obtain ⟨j, hj, ej⟩ := List.mem_iff_getElem.mp h
  rw [List.getElem_drop] at ej
  rw [List.length_drop] at hj
  have hi := List.idxOf_lt_length_of_mem hk
  have e2 : ws[ws.idxOf k] = k := List.getElem_idxOf hi
  have := List.pairwise_iff_getElem.mp hp (ws.idxOf k) (ws.idxOf k + 1 + j) hi (by omega) (by omega)
  rw [e2, ej] at this
  exact this e
theorem QInv.join {row : List Int} {a : Nat} {ws : List Nat} {g : Int} (h : QInv row a ws) (hg : row[a]? = some g) : QInv row (a + 1) (joinQ ws a (mateOf row a)) := by
  have hna : a ∉ ws := fun m => by have := h.lt a m; omega
  have same : ∀ i, (∀ x ∈ ws.drop i, row[x]? ≠ row[a]?) → QInv row (a + 1) (insAt ws i a) := fun i hd => by
    refine ⟨fun x hx => ?_, fun x hx y l1 l2 e => ?_, ?_, ?_⟩
    · rcases mem_insAt.mp hx with rfl | hx
      · omega
      · have := h.lt x hx; omega
    · rcases mem_insAt.mp hx with rfl | hx
      · omega
      · by_cases ey : y = a
        · exact mem_insAt.mpr (.inl ey)
        · exact mem_insAt.mpr (.inr (h.up x hx y l1 (by omega) e))
    · unfold insAt
      have hp := h.ord
      rw [← List.take_append_drop i ws, List.pairwise_append] at hp
      rw [List.pairwise_append, List.pairwise_cons]
      refine ⟨hp.1, ⟨fun x hx e => absurd e.symm (hd x hx), hp.2.1⟩, fun x hx y hy e => ?_⟩
      rcases List.mem_cons.mp hy with rfl | hy
      · exact h.lt x (List.mem_of_mem_take hx)
      · exact hp.2.2 x hx y hy e
    · unfold insAt
      have hp := h.nd
      rw [← List.take_append_drop i ws, List.nodup_append] at hp
      rw [List.nodup_append, List.nodup_cons]
      refine ⟨hp.1, ⟨fun m => hna (List.mem_of_mem_drop m), hp.2.1⟩, fun x hx y hy e => ?_⟩
      rcases List.mem_cons.mp hy with rfl | hy
      · exact hna (by rw [← e]; exact List.mem_of_mem_take hx)
      · exact hp.2.2 x hx y hy e
  unfold joinQ
  rw [mateOf_at hg]
  cases hm : lastIn row g a with
  | none =>
    exact same _ (by unfold joinPl; simp)
  | some m =>
    obtain ⟨m1, m2, m3⟩ := lastIn_some hm
    unfold joinPl
    simp only
    split
    · rename_i hmw
      refine same _ fun x hx e => ?_
      rw [hg] at e
      have := pair_idx h.ord hmw hx (by rw [m2, e])
      exact m3 x this (h.lt x (List.mem_of_mem_drop hx)) e
    · refine same _ (by simp)
/-! ### words done -/
/-- a beginning of a history, behind a arrivals and s services -/
def okP (n : Nat) : Nat → Nat → List Nat → Prop
  | _, _, [] => True
  | a, s, c :: w => (c = 97 ∧ a < n ∧ okP n (a + 1) s w) ∨ (c = 115 ∧ s < a ∧ okP n a (s + 1) w)
/-- letter, person, waiting: for each letter -/
def stepsL (row : List Int) : Nat → List Nat → List Nat → List (Nat × Nat × List Nat)
  | _, _, [] => []
  | a, ws, c :: w => if c = 97 then (c, a, joinQ ws a (mateOf row a)) :: stepsL row (a + 1) (joinQ ws a (mateOf row a)) w else match ws with
    | x :: ws' => (c, x, ws') :: stepsL row a ws' w
    | [] => []
theorem stepsL_a (row : List Int) (a : Nat) (ws w : List Nat) : stepsL row a ws (97 :: w) = (97, a, joinQ ws a (mateOf row a)) :: stepsL row (a + 1) (joinQ ws a (mateOf row a)) w := rfl
theorem stepsL_s (row : List Int) (a x : Nat) (ws w : List Nat) : stepsL row a (x :: ws) (115 :: w) = (115, x, ws) :: stepsL row a ws w := rfl
/-- who was served -/
def servedL (st : List (Nat × Nat × List Nat)) : List Nat := (st.filter fun p => p.1 == 115).map fun p => p.2.1
/-- who waits at the end -/
def waitL (st : List (Nat × Nat × List Nat)) : List Nat := match st.getLast? with
  | some p => p.2.2
  | none => []
theorem scan_ok {n : Nat} : ∀ {w : List Nat} {k a s : Nat}, (∀ c ∈ w, isL c = true) → s ≤ a → a ≤ n → (scanP n k a s w = .none ↔ okP n a s w)
  | [], k, a, s, _, _, _ => by simp [scanP, okP]
  | c :: w, k, a, s, hL, h1, h2 => by
    have hc := hL c List.mem_cons_self
    have hw : ∀ d ∈ w, isL d = true := fun d hd => hL d (List.mem_cons_of_mem _ hd)
    unfold scanP okP
    by_cases e : c = 97
    · subst e
      rw [if_pos rfl]
      by_cases e2 : a = n
      · rw [if_pos e2]
        simp
        intro h; omega
      · rw [if_neg e2, scan_ok hw (by omega) (by omega)]
        simp
        intro _; omega
    · have e' : c = 115 := by simp [isL] at hc; exact hc.resolve_left e
      subst e'
      rw [if_neg e]
      by_cases e2 : s = a
      · rw [if_pos e2]
        simp
        intro h; omega
      · rw [if_neg e2, scan_ok hw (by omega) h2]
        simp
        intro _; omega
theorem okP_let {n : Nat} : ∀ {w : List Nat} {a s : Nat}, okP n a s w → ∀ c ∈ w, isL c = true
  | [], _, _, _, c, h => by simp at h
  | d :: w, a, s, h, c, hc => by
    rcases List.mem_cons.mp hc with rfl | hc
    · rcases h with ⟨rfl, _⟩ | ⟨rfl, _⟩ <;> rfl
    · exact h.elim (fun q => okP_let q.2.2 c hc) fun q => okP_let q.2.2 c hc
theorem badW_okP {n : Nat} {w : List Nat} (h : okP n 0 0 w) : badW w = [] := badW_nil fun i d hd => okP_let h d (List.mem_of_getElem? hd)
theorem wErr_none {n : Nat} {w : List Nat} : wErrL n w = .none ↔ okP n 0 0 w := by
  unfold wErrL
  constructor
  · intro h
    cases e : badW w with
    | nil => rw [e] at h; exact (scan_ok (badW_none e) (Nat.le_refl _) (Nat.zero_le _)).mp h
    | cons i r => rw [e] at h; cases h
  · intro h
    rw [badW_okP h]
    exact (scan_ok (okP_let h) (Nat.le_refl _) (Nat.zero_le _)).mpr h
end LawP
set_option Elab.async false
set_option linter.all false
set_option maxRecDepth 100000
set_option maxHeartbeats 4000000
namespace LawP
open PySem PySem.Spec PyProof.Rows L2 VL
def t_check_word (S_word_error : SV) : VS :=
  (sSeq (sSet 2 (vCall S_word_error (vCons (vVar 0) (vCons (vVar 1) vNil))))
  (sIf (vTst (vBin (gIsN true) (vBor 2) (vC (.py .none))))
  (sRaise1 "BadWord" "error" (vVar 2))
  sNext))
def t_queue_with : VS :=
  (sSeq (sSet 3 (vIf (vTst (vBin (gIn false) (vBor 2) (vBor 0))) (vBin gAdd (vMth isSq gIndex (vBor 0) (vCons (vBor 2) vNil)) (vC (.py (.int 1)))) (vCal gLen (vCons (vBor 0) vNil))))
  (sRet (vBin gAdd (vBin gAdd (vSl gSl (vBor 0) oNo (oAt (vBor 3))) (vTup (vCons (vVar 1) vNil))) (vSl gSl (vBor 0) (oAt (vBor 3)) oNo))))
def t_steps_of (S_mates : SV) (S_queue_with : SV) : VS :=
  (sSeq (sPar [2, 3, 4, 5] (mCons true (vLst vNil) (mCons false (vTup vNil) (mCons false (vC (.py (.int 0))) (mCons false (vCall S_mates (vCons (vVar 0) vNil)) mNil)))))
  (sSeq (sFor (iS (vVar 1)) (tgName 6)
  (sSeq (sIf (vTst (vBin gEq (vBor 6) (vC (.py (.str "a")))))
  (sSeq (sPar [7, 4] (mCons false (vVar 4) (mCons false (vBin gAdd (vBor 4) (vC (.py (.int 1)))) mNil)))
  (sSet 3 (vCall S_queue_with (vCons (vVar 3) (vCons (vVar 7) (vCons (vBin gIx (vBor 5) (vBor 7)) vNil))))))
  (sPar [7, 3] (mCons false (vBin gIx (vBor 3) (vC (.py (.int 0)))) (mCons false (vSl gSl (vBor 3) (oAt (vC (.py (.int 1)))) oNo) mNil))))
  (sMut 2 gApp (vCons (vTup (vCons (vVar 6) (vCons (vVar 7) (vCons (vVar 3) vNil)))) vNil))))
  (sFrz 2 (sRet (vVar 2)))))
def t_run (S_check_word : SV) (S_steps_of : SV) : VS :=
  (sSeq (sExpr (vCall S_check_word (vCons (vVar 0) (vCons (vVar 1) vNil))))
  (sSeq (sSet 2 (vCall S_steps_of (vCons (vVar 0) (vCons (vVar 1) vNil))))
  (sSeq (sSet 3 (vLc [4, 5, 6] (iS (vBor 2)) (tgTup 3 (tgCons (tgName 4) (tgCons (tgName 5) (tgCons (tgName 6) tgNil)))) (vTst (vBin gEq (vBor 4) (vC (.py (.str "s"))))) (vVar 5)))
  (sRet (vTup (vCons (vCal gTuple (vCons (vBor 3) vNil)) (vCons (vIf (vTst (vBin gNe (vBor 2) (vLst vNil))) (vBin gIx (vBin gIx (vBor 2) (vUn gNeg (vC (.py (.int 1))))) (vC (.py (.int 2)))) (vTup vNil)) vNil)))))))
end LawP
set_option Elab.async false
set_option linter.all false
set_option maxRecDepth 100000
set_option maxHeartbeats 4000000
namespace LawP
open PySem PySem.Spec PyProof.Rows L2 VL
/-! ### queue_with -/
theorem ex_pN (ws : List Nat) (m : Option Nat) : (∃ x, x ∈ ws ∧ (pN x).eqv (oN m) = true) ↔ ∃ k, m = some k ∧ k ∈ ws := by
  constructor
  · rintro ⟨x, hx, e⟩
    cases m with
    | none => simp [pN, oN, PyData.eqv] at e
    | some k =>
      simp [pN, oN] at e
      have : x = k := by omega
      subst this
      exact ⟨_, rfl, hx⟩
  · rintro ⟨k, rfl, hk⟩
    exact ⟨k, hk, by simp [pN, oN]⟩
theorem plain_pN (ws : List Nat) : PyData.plainAll (ws.map pN) = true := by
  have : ws.map pN = (ws.map fun (n : Nat) => (n : Int)).map PyData.int := by rw [List.map_map]; rfl
  rw [this, plainAll_ints]
theorem depth_pN (ws : List Nat) : PyData.depthAll (ws.map pN) = 0 := by
  induction ws with
  | nil => rfl
  | cons w ws ih => rw [List.map_cons, depthAll_cons, ih]; rfl
theorem ix_pN {ws : List Nat} {k : Nat} (h : k ∈ ws) : ixOf (ws.map pN) (.int (k : Int)) = some (ws.idxOf k) := by
  induction ws with
  | nil => simp at h
  | cons w ws ih =>
    rw [List.map_cons, ixOf, List.idxOf_cons]
    by_cases e : w = k
    · have e1 : (pN w).eqv (.int (k : Int)) = true := by subst e; simp [pN]
      rw [if_pos e1, e]; simp
    · have e1 : ¬ (pN w).eqv (.int (k : Int)) = true := by simp [pN]; omega
      have e2 : (w == k) = false := beq_eq_false_iff_ne.mpr e
      have hk : k ∈ ws := by rcases List.mem_cons.mp h with h | h; exact absurd h.symm e; exact h
      rw [if_neg e1, ih hk, e2]; rfl
@[simp] def S_queue_with : SV := fun ds Q _ => ∃ (ws : List Nat) (p : Nat) (m : Option Nat), ds = [.py (tN ws), .py (pN p), .py (oN m)] ∧ ws.length ≤ 100000 ∧ Q (.py (tN (joinQ ws p m)))
theorem oN_plain (m : Option Nat) : (oN m).plain = true := by cases m <;> rfl
theorem oN_depth (m : Option Nat) : (oN m).depth = 0 := by cases m <;> rfl
theorem l_queue_with : ∀ ds Q E, S_queue_with ds Q E → t_queue_with (envOf 4 ds) (fin Q E) := by
  rintro ds Q E ⟨ws, p, m, rfl, hl, q⟩
  have cut : ∀ i : Nat, cutL (ws.map pN) none (some (i : Int)) ++ pN p :: cutL (ws.map pN) (some (i : Int)) none = (insAt ws i p).map pN := fun i => by
    rw [cutL_take _ (by omega), cutL_drop _ (by omega)]
    simp [insAt]
  have ln : ∀ i : Nat, (cutL (ws.map pN) none (some (i : Int))).length ≤ 16777215 ∧ (cutL (ws.map pN) none (some (i : Int))).length + 1 + (cutL (ws.map pN) (some (i : Int)) none).length ≤ 16777216 := fun i => by
    have h1 := cutL_len (ws.map pN) none (some (i : Int))
    have h2 := cutL_len (ws.map pN) (some (i : Int)) none
    rw [List.length_map] at h1 h2
    exact ⟨by omega, by omega⟩
  simp [t_queue_with, ex_pN, plain_pN, oN_plain, oN_depth, depth_pN]
  by_cases hk : ∃ k, m = some k ∧ k ∈ ws
  · rw [if_pos hk]
    obtain ⟨k, rfl, hk⟩ := hk
    refine ⟨_, ix_pN hk, ?_⟩
    have l := ln (ws.idxOf k + 1)
    have c := cut (ws.idxOf k + 1)
    push_cast at l c
    refine ⟨l.1, l.2, ?_⟩
    rw [c]
    simpa [joinQ, joinPl, hk] using q
  · rw [if_neg hk]
    have l := ln ws.length
    have c := cut ws.length
    refine ⟨l.1, l.2, ?_⟩
    rw [c]
    have : joinPl ws m = ws.length := by
      unfold joinPl
      cases m with
      | none => rfl
      | some k => simp only; rw [if_neg fun h => hk ⟨k, rfl, h⟩]
    simpa [joinQ, this] using q
/-! ### steps_of -/
def stepP (p : Nat × Nat × List Nat) : PyData := .tuple [.str (mkS [p.1]), pN p.2.1, tN p.2.2]
@[simp] def S_steps_of : SV := fun ds Q _ => ∃ (row : List Int) (w : List Nat), ds = [.py (tI row), .py (.str (mkS w))] ∧ row.length ≤ 1000 ∧ w.length ≤ 100000 ∧ okP row.length 0 0 w ∧ Q (.py (.list ((stepsL row 0 [] w).map stepP)))
theorem drop_at {α : Type} {w : List α} {k : Nat} {c : α} (hc : w[k]? = some c) : w.drop k = c :: w.drop (k + 1) := by
  have hk := (List.getElem?_eq_some_iff.mp hc).1
  rw [List.drop_eq_getElem_cons hk]
  congr 1
  exact (List.getElem?_eq_some_iff.mp hc).2
theorem l_steps_of : ∀ ds Q E, S_steps_of ds Q E → t_steps_of S_mates S_queue_with (envOf 8 ds) (fin Q E) := by
  rintro ds Q E ⟨row, w, rfl, hr, hw, hok, q⟩
  simp [t_steps_of, signsD_mkS, -forGo, -S_queue_with]
  refine ⟨hr, for_enc' encC (fun k ρ => ∃ acc a ws s x y, ρ = [.shr (.py (tI row)), .shr (.py (.str (mkS w))), .own (.py (.list acc)), .shr (.py (tN ws)), .shr (.py (.int (a : Nat))), .shr (.py (matesP row)), x, y] ∧ okP row.length a s (w.drop k) ∧ ws.length + s = a ∧ a ≤ k ∧
    acc ++ (stepsL row a ws (w.drop k)).map stepP = (stepsL row 0 [] w).map stepP ∧ acc.length = k) ⟨[], 0, [], 0, _, _, rfl, hok, rfl, Nat.le_refl _, rfl, rfl⟩ (fun k c ρ hc iv nx ct hn => ?_) (fun ρ iv => ?_)⟩
  · obtain ⟨acc, a, ws, s, x, y, rfl, h1, h2, h3, h4, h5⟩ := iv
    have hk := (List.getElem?_eq_some_iff.mp hc).1
    rw [drop_at hc] at h1 h4
    unfold okP at h1
    rcases h1 with ⟨rfl, ha, h1⟩ | ⟨rfl, ha, h1⟩
    · rw [stepsL_a] at h4
      have hm : (matesL row)[a]? = some (mateOf row a) := by simp [matesL, ha]
      have am : atI ((matesL row).map oN) (a : Int) = some (oN (mateOf row a)) := atI_map hm
      simp [matesP, am, -S_queue_with]
      refine ⟨ws, a, mateOf row a, by simp [pN], by omega, ?_⟩
      simp
      refine ⟨by omega, (hn _ ⟨_, a + 1, joinQ ws a (mateOf row a), s, _, _, rfl, h1, ?_, by omega, ?_, ?_⟩).1⟩
      · rw [joinQ_len]; omega
      · rw [List.append_assoc]
        exact h4
      · simp; omega
    · cases ws with
      | nil => simp at h2; omega
      | cons p ws =>
        rw [stepsL_s] at h4
        have c1 : cutL (pN p :: ws.map pN) (some 1) none = ws.map pN := by
          rw [cutL_drop _ (by omega)]; simp
        simp [c1]
        refine ⟨by omega, (hn _ ⟨_, a, ws, s + 1, _, _, rfl, h1, ?_, by omega, ?_, ?_⟩).1⟩
        · simp at h2; omega
        · rw [List.append_assoc]
          exact h4
        · simp; omega
  · obtain ⟨acc, a, ws, s, x, y, rfl, h1, h2, h3, h4, h5⟩ := iv
    rw [List.drop_eq_nil_of_le (by simp)] at h4
    simp [stepsL] at h4
    subst h4
    simpa using q
/-! ### check_word, run -/
@[simp] def S_check_word : SV
  | [.py (.tuple xs), .py p], Q, E => isSm p ∧ (wErr xs.length p = .none → Q (.py .none)) ∧ (wErr xs.length p ≠ .none → E ⟨"BadWord", [("error", wErr xs.length p)]⟩)
  | _, _, _ => False
theorem isNn_iff (p : PyData) : isNn p = true ↔ p = .none := by cases p <;> simp [isNn]
theorem l_check_word : ∀ ds Q E, S_check_word ds Q E → t_check_word S_word_error (envOf 3 ds) (fin Q E)
  | [.py (.tuple xs), .py p], Q, E, ⟨hs, q1, q2⟩ => by
    simp [t_check_word, -isNn]
    refine ⟨hs, ?_⟩
    cases h : isNn (wErr xs.length p) with
    | true =>
      simp [-isNn]
      exact q1 ((isNn_iff _).mp h)
    | false =>
      simp [-isNn]
      exact q2 fun e => by rw [(isNn_iff _).mpr e] at h; cases h
def runP (row : List Int) (w : List Nat) : PyData := .tuple [tN (servedL (stepsL row 0 [] w)), tN (waitL (stepsL row 0 [] w))]
@[simp] def S_run : SV := fun ds Q E => ∃ (row : List Int) (p : PyData), ds = [.py (tI row), .py p] ∧ row.length ≤ 1000 ∧ isSm p ∧ (∀ w, p = .str (mkS w) → okP row.length 0 0 w → Q (.py (runP row w))) ∧ (wErr row.length p ≠ .none → E ⟨"BadWord", [("error", wErr row.length p)]⟩)
theorem stepsL_len (row : List Int) : ∀ (w : List Nat) (a s : Nat) (ws : List Nat), okP row.length a s w → ws.length + s = a → (stepsL row a ws w).length = w.length
  | [], _, _, _, _, _ => rfl
  | c :: w, a, s, ws, h, e => by
    rcases h with ⟨rfl, h1, h⟩ | ⟨rfl, h1, h⟩
    · rw [stepsL_a, List.length_cons, stepsL_len row w (a + 1) s _ h (by rw [joinQ_len]; omega)]; rfl
    · cases ws with
      | nil => simp at e; omega
      | cons x ws => rw [stepsL_s, List.length_cons, stepsL_len row w a (s + 1) ws h (by simp at e; omega)]; rfl
theorem l_run : ∀ ds Q E, S_run ds Q E → t_run S_check_word S_steps_of (envOf 7 ds) (fin Q E) := by
  rintro ds Q E ⟨row, p, rfl, hr, hs, q1, q2⟩
  simp [t_run, -lcGo]
  refine ⟨hs, fun hn => ?_, q2⟩
  have hp : ∃ w, p = .str (mkS w) := by
    cases p <;> simp [wErr] at hn
    exact ⟨_, by rw [mkS_sl]⟩
  obtain ⟨w, rfl⟩ := hp
  have hok : okP row.length 0 0 w := by simpa [wErr, wErr_none] using hn
  have hw : w.length ≤ 100000 := by have := hs _ rfl; simpa using this
  have hl := stepsL_len row w 0 0 [] hok rfl
  have q' := q1 w rfl hok
  unfold runP at q'
  refine ⟨row, w, ⟨rfl, rfl⟩, hr, hw, hok, ?_⟩
  generalize stepsL row 0 [] w = L at hl q'
  refine lc_encF' stepP (fun p => p.1 == 115) (fun p => pN p.2.1) (fun i p hp k h1 h2 => ?_) (by omega) ?_
  · obtain ⟨c, x, ws⟩ := p
    simp [lcStep, stepP]
    by_cases e : c = 115
    · subst e; simp at h1 ⊢; exact h1
    · simp [e] at h2 ⊢; exact h2
  · simp
    have es : (List.filter (fun p => p.1 == 115) L).map (fun p => pN p.2.1) = (servedL L).map pN := by simp [servedL]
    rw [es]
    rcases List.eq_nil_or_concat L with rfl | ⟨L', z, rfl⟩
    · simpa [waitL] using q'
    · rw [if_neg (by simp)]
      refine ⟨stepP z, by rw [List.concat_eq_append, List.map_append]; exact atI_last _ _, tN z.2.2, rfl, ?_⟩
      have ew : waitL (L'.concat z) = z.2.2 := by rw [List.concat_eq_append]; simp [waitL]
      rw [ew] at q'
      simpa using q'
/-! ### the law's own queue -/
@[simp] def S_law_played : SV := fun ds Q _ => ∃ (row : List Int) (w : List Nat), ds = [.py (tI row), .py (.str (mkS w))] ∧ row.length ≤ 1000 ∧ w.length ≤ 100000 ∧ okP row.length 0 0 w ∧
  Q (.py (.list [tN (servedL (stepsL row 0 [] w)), tN (waitL (stepsL row 0 [] w)), .list ((stepsL row 0 [] w).map stepP)]))
theorem waitL_snoc (acc : List (Nat × Nat × List Nat)) (z : Nat × Nat × List Nat) : waitL (acc ++ [z]) = z.2.2 := by simp [waitL]
/-! ### sizes -/
end LawP
set_option Elab.async false
set_option linter.all false
set_option maxRecDepth 100000
set_option maxHeartbeats 4000000
namespace LawP
open PySem PySem.Spec PyProof.Rows L2 VL
def t_each_step (S_check_word : SV) (S_steps_of : SV) : VZ :=
  (zThen (zP (sExpr (vCall S_check_word (vCons (vVar 0) (vCons (vVar 1) vNil)))))
  (zThen (zYf (vCall S_steps_of (vCons (vVar 0) (vCons (vVar 1) vNil))))
  zNil))
end LawP
set_option Elab.async false
set_option linter.all false
set_option maxRecDepth 100000
set_option maxHeartbeats 4000000
namespace LawP
open PySem PySem.Spec PyProof.Rows L2 VL
/-! ### each_step -/
@[simp] def S_each_step : SZ := fun ds Y Q E => ∃ (row : List Int) (p : PyData), ds = [.py (tI row), .py p] ∧ row.length ≤ 1000 ∧ isSm p ∧
  ((∃ w, p = .str (mkS w) ∧ okP row.length 0 0 w ∧ (∀ i d, ((stepsL row 0 [] w).map stepP)[i]? = some d → Y i d) ∧ Q w.length) ∨ (wErr row.length p ≠ .none ∧ E ⟨"BadWord", [("error", wErr row.length p)]⟩))
theorem l_each_step : ∀ ds Y Q E, S_each_step ds Y Q E → t_each_step S_check_word S_steps_of (envOf 2 ds) 0 (finZ Y Q E) := by
  rintro ds Y Q E ⟨row, p, rfl, hr, hs, h⟩
  rcases h with ⟨w, rfl, hok, hy, hq⟩ | ⟨hn, he⟩
  · have hw : w.length ≤ 100000 := by have := hs _ rfl; simpa using this
    have hl := stepsL_len row w 0 0 [] hok rfl
    have hn : wErr row.length (.str (mkS w)) = .none := wErr_none.mpr hok
    simp [t_each_step]
    refine ⟨hs, fun _ => ⟨row, w, ⟨rfl, rfl⟩, hr, hw, hok, ?_, ?_⟩, fun h => absurd hn h⟩
    · intro k p
      rintro a a1 b hk rfl
      exact hy k _ (by rw [List.getElem?_map, hk]; rfl)
    · rw [hl]; exact hq
  · simp [t_each_step]
    exact ⟨hs, fun h => absurd h hn, fun _ => he⟩
end LawP
set_option Elab.async false
set_option linter.all false
set_option maxRecDepth 100000
set_option maxHeartbeats 4000000
namespace LawP
open PySem PySem.Spec PyProof.Rows L2 VL
def t_law_groups_right : VS :=
  (sSeq (sSet 3 (vBin gAdd (vBor 1) (vBor 2)))
  (sSeq (sFor (iS (vSortSet (vBor 0))) (tgName 4)
  (sSeq (sSet 5 (vLc [8] (iS (vBor 3)) (tgName 8) (vTst (vBin gEq (vBin gIx (vBor 0) (vBor 8)) (vBor 4))) (vVar 8)))
  (sSeq (sSet 6 (vLc [8] (iS (vBor 2)) (tgName 8) (vTst (vBin gEq (vBin gIx (vBor 0) (vBor 8)) (vBor 4))) (vMth isSq gIndex (vBor 2) (vCons (vBor 8) vNil))))
  (sSeq (sSet 7 (vLc [9] (iR1 (vCons (vCal gLen (vCons (vBor 6) vNil)) vNil)) (tgName 9) (vTst (vBin gNe (vBin gIx (vBor 6) (vBor 9)) (vBin gAdd (vBin gIx (vBor 6) (vC (.py (.int 0)))) (vBor 9)))) (vVar 9)))
  (sIf (wOr (vTst (vBin gNe (vBor 5) (vCal gSorted (vCons (vBor 5) vNil)))) (vTst (vBin gNe (vBor 7) (vLst vNil))))
  (sRet (vC (.py (.bool false))))
  sNext)))))
  (sRet (vC (.py (.bool true))))))
def t_law (S_law_drawn : SV) (S_law_word : SV) (S_law_take : SV) (S_run : SV) (S_law_groups_right : SV) (S_each_step : SZ) (S_mates : SV) : VS :=
  (sSeq (sFor (iR1 (vCons (vC (.py (.int 6))) vNil)) (tgName 2)
  (sSeq (sSet 3 (vCall S_law_drawn (vCons (vVar 1) (vCons (vBin gIx (vLst (vCons (vC (.py (.int 40))) (vCons (vC (.py (.int 12))) vNil))) (vBin gMod (vBor 2) (vC (.py (.int 2))))) vNil))))
  (sSeq (sSet 4 (vCall S_law_word (vCons (vVar 1) (vCons (vCal gLen (vCons (vBor 3) vNil)) (vCons (vCall S_law_take (vCons (vVar 1) (vCons (vC (.py (.int 5))) vNil))) vNil)))))
  (sSeq (sSet 5 (vCall S_law_take (vCons (vVar 1) (vCons (vBin gAdd (vCal gLen (vCons (vBor 4) vNil)) (vC (.py (.int 1)))) vNil))))
  (sSeq (sAsg (vCall S_run (vCons (vVar 3) (vCons (vSl gSl (vBor 4) oNo (oAt (vBor 5))) vNil))) (tgTup 2 (tgCons (tgName 6) (tgCons (tgName 7) tgNil))))
  (sSeq (sSet 8 (vCall S_run (vCons (vVar 3) (vCons (vVar 4) vNil))))
  (sSeq (sIf (wOr (vTst (vBin gNe (vSl gSl (vBin gIx (vBor 8) (vC (.py (.int 0)))) oNo (oAt (vCal gLen (vCons (vBor 6) vNil)))) (vBor 6))) (wOr (vTst (vBin gNe (vBin gIx (vBor 8) (vC (.py (.int 1)))) (vTup vNil))) (vTst (vBin gNe (vCal gLen (vCons (vBor 6) vNil)) (vMth isCt gCount (vSl gSl (vBor 4) oNo (oAt (vBor 5))) (vCons (vC (.py (.str "s"))) vNil))))))
  (sRet (vC (.py (.bool false))))
  sNext)
  (sSeq (sIf (vTst (vBin gNe (vCal gSorted (vCons (vBin gAdd (vBor 6) (vBor 7)) vNil)) (vLstRg (vMth isCt gCount (vSl gSl (vBor 4) oNo (oAt (vBor 5))) (vCons (vC (.py (.str "a"))) vNil)))))
  (sRet (vC (.py (.bool false))))
  sNext)
  (sSeq (sIf (wNot (vTst (vCall S_law_groups_right (vCons (vVar 3) (vCons (vVar 6) (vCons (vVar 7) vNil))))))
  (sRet (vC (.py (.bool false))))
  sNext)
  (sSeq (sSet 9 (vLcZ (fun n => n ∈ (["BadWord"] : List Str)) [11] S_each_step (vCons (vVar 3) (vCons (vSl gSl (vBor 4) oNo (oAt (vBor 5))) vNil)) (tgName 11) wYes (vVar 11)))
  (sSeq (sIf (wOr (vTst (vBin gNe (vLc [11] (iS (vBor 9)) (tgName 11) (vTst (vBin gEq (vBin gIx (vBor 11) (vC (.py (.int 0)))) (vC (.py (.str "s"))))) (vBin gIx (vBor 11) (vC (.py (.int 1))))) (vCal gList (vCons (vBor 6) vNil)))) (vTst (vBin gNe (vCal gLen (vCons (vBor 9) vNil)) (vBor 5))))
  (sRet (vC (.py (.bool false))))
  sNext)
  (sSeq (sIf (wOr (wAnd (vTst (vBin gNe (vBor 9) (vLst vNil))) (vTst (vBin gNe (vBin gIx (vBin gIx (vBor 9) (vUn gNeg (vC (.py (.int 1))))) (vC (.py (.int 2)))) (vBor 7)))) (vTst (vBin gNe (vSl gSl (vLcZ (fun n => n ∈ (["BadWord"] : List Str)) [11] S_each_step (vCons (vVar 3) (vCons (vVar 4) vNil)) (tgName 11) wYes (vVar 11)) oNo (oAt (vBor 5))) (vBor 9))))
  (sRet (vC (.py (.bool false))))
  sNext)
  (sSeq (sSet 10 (vLc [12] (iS (vBor 7)) (tgName 12) (vTst (vBin (gIn false) (vBin gIx (vCall S_mates (vCons (vVar 3) vNil)) (vBor 12)) (vBor 7))) (vVar 12)))
  (sIf (vTst (vBin gNe (vLc [12] (iS (vBor 10)) (tgName 12) (vTst (vBin gNe (vBin gIx (vBor 7) (vBin gSub (vMth isSq gIndex (vBor 7) (vCons (vBor 12) vNil)) (vC (.py (.int 1))))) (vBin gIx (vCall S_mates (vCons (vVar 3) vNil)) (vBor 12)))) (vVar 12)) (vLst vNil)))
  (sRet (vC (.py (.bool false))))
  sNext))))))))))))))
  (sRet (vC (.py (.bool true)))))
end LawP
set_option Elab.async false
set_option linter.all false
namespace VL
open PySem PySem.Spec PyProof.Rows L2 HT
@[simp] theorem atI_one {α : Type} (x y : α) (xs : List α) : atI (x :: y :: xs) 1 = some y := by have := @atI_nat _ (x :: y :: xs) 1 _ rfl; exact this
@[simp] theorem atI_two {α : Type} (x y z : α) (xs : List α) : atI (x :: y :: z :: xs) 2 = some z := by have := @atI_nat _ (x :: y :: z :: xs) 2 _ rfl; exact this
@[simp] theorem atI_three {α : Type} (x y z u : α) (xs : List α) : atI (x :: y :: z :: u :: xs) 3 = some u := by have := @atI_nat _ (x :: y :: z :: u :: xs) 3 _ rfl; exact this
end VL
namespace LawP
open PySem VL
/-! ### lists of persons -/
/-! ### what a word leads to -/
/-- the order of service -/
def ordL (row : List Int) (w : List Nat) : List Nat := servedL (stepsL row 0 [] w)
/-- the mate waits -/
def joinB (row : List Int) (ws : List Nat) (a : Nat) : Bool := match mateOf row a with
  | some m => decide (m ∈ ws)
  | none => false
/-- who joins the mate -/
def joinsL (row : List Int) : Nat → List Nat → List Nat → List Nat
  | _, _, [] => []
  | a, ws, c :: w => if c = 97 then (if joinB row ws a = true then [a] else []) ++ joinsL row (a + 1) (joinQ ws a (mateOf row a)) w else joinsL row a ws.tail w
/-- services before each arrival -/
def cntsL : Nat → List Nat → List Nat
  | _, [] => []
  | s, c :: w => if c = 97 then s :: cntsL s w else cntsL (s + 1) w
theorem servedL_a (x : Nat) (y : List Nat) (L : List (Nat × Nat × List Nat)) : servedL ((97, x, y) :: L) = servedL L := by simp [servedL]
theorem servedL_s (x : Nat) (y : List Nat) (L : List (Nat × Nat × List Nat)) : servedL ((115, x, y) :: L) = x :: servedL L := by simp [servedL]
theorem joinQ_perm (ws : List Nat) (a : Nat) (m : Option Nat) : (joinQ ws a m).Perm (a :: ws) := by
  unfold joinQ insAt
  refine List.perm_middle.trans ?_
  rw [List.take_append_drop]
theorem goodW_okP {n : Nat} : ∀ {w : List Nat} {a s : Nat}, goodW n a s w → okP n a s w
  | [], _, _, _ => trivial
  | c :: w, a, s, h => by
    rcases h with ⟨e, ha, h⟩ | ⟨e, ha, h⟩
    · exact .inl ⟨e, ha, goodW_okP h⟩
    · exact .inr ⟨e, ha, goodW_okP h⟩
end LawP
set_option Elab.async false
set_option linter.all false
set_option maxRecDepth 100000
set_option maxHeartbeats 4000000
namespace LawP
open PySem PySem.Spec PyProof.Rows L2 VL
end LawP
set_option Elab.async false
set_option linter.all false
set_option maxRecDepth 100000
set_option maxHeartbeats 4000000
namespace LawP
open PySem PySem.Spec PyProof.Rows L2 VL
end LawP
set_option Elab.async false
set_option linter.all false
set_option maxRecDepth 100000
set_option maxHeartbeats 4000000
namespace LawP
open PySem PySem.Spec PyProof.Rows L2 VL
end LawP
set_option Elab.async false
set_option linter.all false
set_option maxRecDepth 100000
set_option maxHeartbeats 4000000
namespace VL
open PySem PySem.Spec PyProof.Rows L2
/-! ### the sizes of lists of data -/
end VL
set_option Elab.async false
set_option linter.all false
set_option maxRecDepth 100000
set_option maxHeartbeats 4000000
namespace LawP
open PySem PySem.Spec PyProof.Rows L2 VL
/-! ### orders, plainly -/
def rngI (n : Nat) : List Int := (List.range n).map fun i : Nat => (i : Int)
def isIntJ (p : PyData) (lo hi : Int) : Bool := match p with
  | .int i => decide (lo ≤ i) && decide (i ≤ hi)
  | _ => false
@[simp] def S_is_number : SV
  | [.py p, .py (.int lo), .py (.int hi)], Q, _ => Q (.py (.bool (isIntJ p lo hi)))
  | _, _, _ => False
/-- is it an order of n persons? -/
def ordB (n : Nat) (p : PyData) : Bool := match p with
  | .tuple xs => decide (xs.length = n) && (match VL.allI xs with
    | some ns => decide (sortI ns = rngI n)
    | none => false)
  | _ => false
@[simp] def S_is_order : SV := fun ds Q _ => ∃ (row : List Int) (p : PyData), ds = [.py (tI row), .py p] ∧ row ≠ [] ∧ row.length ≤ 40 ∧ Q (.py (.bool (ordB row.length p)))
@[simp] def S_j_row (r : Addr) : SV
  | [.raw v, .py (.int m)], Q, _ => v = .ref r ∧ 1 ≤ m ∧ m ≤ 40 ∧ ∀ gs : List Int, gs ≠ [] → gs.length ≤ m → (∀ g ∈ gs, 0 ≤ g ∧ g ≤ 1000000000) → Q (.py (tI gs))
  | _, _, _ => False
@[simp] def S_j_mixed (r : Addr) : SV := fun ds Q _ => ∃ (xs : List PyData) (p : PyData), ds = [.raw (.ref r), .py p] ∧ (p = .list xs ∨ p = .tuple xs) ∧ xs.length ≤ 1000 ∧ ∀ ys : List PyData, ys.Perm xs → Q (.py (.tuple ys))
end LawP
set_option Elab.async false
set_option linter.all false
set_option maxRecDepth 100000
set_option maxHeartbeats 4000000
namespace LawP
open PySem PySem.Spec PyProof.Rows L2 VL
/-! ### orders as lists of persons -/
@[simp] def S_require_order : SV := fun ds Q E => ∃ (row : List Int) (p : PyData), ds = [.py (tI row), .py p] ∧ row ≠ [] ∧ row.length ≤ 40 ∧ (ordB row.length p = true → Q (.py .none)) ∧ (ordB row.length p = false → E ⟨"NoOrder", []⟩)
/-- the kind of a person -/
def kindS (near ahead : Bool) : Str := if near then (if ahead then "both" else "near") else (if ahead then "leads" else "none")
@[simp] def S_kind_of : SV
  | [.py (.bool a), .py (.bool b)], Q, _ => Q (.py (.str (kindS a b)))
  | _, _, _ => False
/-- pop and insert keep the persons -/
@[simp] def S_j_swapped (r : Addr) : SV := fun ds Q _ => ∃ ms : List Nat, ds = [.raw (.ref r), .py (tN ms)] ∧ ms ≠ [] ∧ ms.length ≤ 40 ∧ ∀ ns : List Nat, ns.Perm ms → Q (.py (tN ns))
theorem rangeP_pN (n : Nat) : rangeP 0 n = (List.range n).map pN := by
  rw [rangeP_eq]
  exact List.map_congr_left fun k _ => by rw [encR0]; rfl
/-! ### places -/
def placesL (ms : List Nat) : List Nat := (List.range ms.length).map fun k => ms.idxOf k
@[simp] def S_places_in : SV := fun ds Q _ => ∃ (ms : List Nat) (b : Bool), ds = [.py (cond b (tN ms) (.list (ms.map pN)))] ∧ ms.length ≤ 40 ∧ ms.Perm (List.range ms.length) ∧ Q (.py (.list ((placesL ms).map pN)))
@[simp] theorem lit_aH : Str.ofString "a" = mkS [97] := by decide +kernel
@[simp] theorem lit_sH : Str.ofString "s" = mkS [115] := by decide +kernel
@[simp] theorem lit_0 : Str.ofString "" = mkS [] := by decide +kernel
@[simp] def S_j_word (r : Addr) : SV := fun ds Q _ => ∃ n : Nat, ds = [.raw (.ref r), .py (.int (n : Nat))] ∧ n ≤ 40 ∧ ∀ w, HistW n w → Q (.py (.str (mkS w)))
@[simp] def S_j_mate : SV := fun ds Q _ => ∃ (row : List Int) (i : Nat), ds = [.py (tI row), .py (.int (i : Nat))] ∧ i < row.length ∧ row.length ≤ 40 ∧ Q (.py (oN (mateOf row i)))
/-- the earlier ones of the group -/
def kin (row : List Int) (i : Nat) : List Nat := (List.range i).filter fun k => row[k]? == row[i]?
/-! ### the law's own queue -/
@[simp] def S_j_run : SV := fun ds Q _ => ∃ (row : List Int) (w : List Nat), ds = [.py (tI row), .py (.str (mkS w))] ∧ row.length ≤ 40 ∧ w.length ≤ 1000 ∧ okP row.length 0 0 w ∧
  Q (.py (.list [tN (ordL row w), tN (joinsL row 0 [] w), tN (cntsL 0 w)]))
/-! ### kinds -/
def nearB (row : List Int) (ms : List Nat) (i : Nat) : Bool := match mateOf row i with
  | none => false
  | some m => decide (ms.idxOf i = ms.idxOf m + 1)
def leadB (ms : List Nat) (k : Nat) : Bool := (List.range k).all fun j => decide (ms.idxOf j < ms.idxOf k)
def kindL (row : List Int) (ms : List Nat) : List Str := (List.range row.length).map fun k => kindS (nearB row ms k) (leadB ms k)
@[simp] def S_j_leads : SV := fun ds Q _ => ∃ (ms : List Nat) (k : Nat), ds = [.py (tN ms), .py (.int (k : Nat))] ∧ ms.Perm (List.range ms.length) ∧ k < ms.length ∧ ms.length ≤ 40 ∧ Q (.py (.bool (leadB ms k)))
@[simp] def S_j_is_near : SV := fun ds Q _ => ∃ (row : List Int) (ms : List Nat) (i : Nat), ds = [.py (tI row), .py (tN ms), .py (.int (i : Nat))] ∧ i < row.length ∧ row.length ≤ 40 ∧ ms.Perm (List.range row.length) ∧ Q (.py (.bool (nearB row ms i)))
@[simp] def S_kinds_of : SV := fun ds Q E => ∃ (row : List Int) (p : PyData), ds = [.py (tI row), .py p] ∧ row ≠ [] ∧ row.length ≤ 40 ∧ (∀ ms, p = tN ms → ms.Perm (List.range row.length) → Q (.py (.tuple ((kindL row ms).map PyData.str)))) ∧ (ordB row.length p = false → E ⟨"NoOrder", []⟩)
end LawP
set_option Elab.async false
set_option linter.all false
set_option maxRecDepth 100000
set_option maxHeartbeats 4000000
namespace LawP
open PySem PySem.Spec PyProof.Rows L2 VL
/-! ### demands, plainly -/
def lowD (row : List Int) (ms : List Nat) (k : Nat) : Nat := match mateOf row k with
  | some m => if (!nearB row ms k && leadB ms k) = true then ms.idxOf m + 1 else 0
  | none => 0
def highD (row : List Int) (ms : List Nat) (k : Nat) : Nat := match mateOf row k with
  | some m => if (nearB row ms k && !leadB ms k) = true then ms.idxOf m else ms.idxOf k
  | none => ms.idxOf k
def lowsL (row : List Int) (ms : List Nat) : List Nat := (List.range row.length).map (lowD row ms)
def highsL (row : List Int) (ms : List Nat) : List Nat := (List.range row.length).map (highD row ms)
def wrongL (row : List Int) (ms : List Nat) : List Nat := (List.range row.length).filter fun k => !leadB ms k && !nearB row ms k
def clashRow (row : List Int) (ms : List Nat) (a : Nat) : List (Nat × Nat) := ((List.range (row.length - (a + 1))).filter fun j => decide (highD row ms (a + 1 + j) < lowD row ms a)).map fun j => (a, a + 1 + j)
def clashN (row : List Int) (ms : List Nat) (n : Nat) : List (Nat × Nat) := (List.range n).flatMap (clashRow row ms)
def clashL (row : List Int) (ms : List Nat) : List (Nat × Nat) := clashN row ms row.length
def pairP (p : Nat × Nat) : PyData := .tuple [pN p.1, pN p.2]
theorem matesL_map (row : List Int) : (matesL row).map oN = (List.range row.length).map fun k => oN (mateOf row k) := by
  unfold matesL; rw [List.map_map]; rfl
@[simp] def S_misplaced : SV := fun ds Q E => ∃ (row : List Int) (p : PyData), ds = [.py (tI row), .py p] ∧ row ≠ [] ∧ row.length ≤ 40 ∧ (∀ ms, p = tN ms → ms.Perm (List.range row.length) → Q (.py (tN (wrongL row ms)))) ∧ (ordB row.length p = false → E ⟨"NoOrder", []⟩)
@[simp] def S_least_counts : SV := fun ds Q E => ∃ (row : List Int) (p : PyData), ds = [.py (tI row), .py p] ∧ row ≠ [] ∧ row.length ≤ 40 ∧ (∀ ms, p = tN ms → ms.Perm (List.range row.length) → Q (.py (.list ((lowsL row ms).map pN)))) ∧ (ordB row.length p = false → E ⟨"NoOrder", []⟩)
@[simp] def S_greatest_counts : SV := fun ds Q E => ∃ (row : List Int) (p : PyData), ds = [.py (tI row), .py p] ∧ row ≠ [] ∧ row.length ≤ 40 ∧ (∀ ms, p = tN ms → ms.Perm (List.range row.length) → Q (.py (.list ((highsL row ms).map pN)))) ∧ (ordB row.length p = false → E ⟨"NoOrder", []⟩)
/-! ### clashes -/
@[simp] def S_clashes : SV := fun ds Q E => ∃ (row : List Int) (p : PyData), ds = [.py (tI row), .py p] ∧ row ≠ [] ∧ row.length ≤ 40 ∧ (∀ ms, p = tN ms → ms.Perm (List.range row.length) → Q (.py (.tuple ((clashL row ms).map pairP)))) ∧ (ordB row.length p = false → E ⟨"NoOrder", []⟩)
/-! ### the law's own look -/
@[simp] def S_j_wrong : SV := fun ds Q _ => ∃ (row : List Int) (ms : List Nat), ds = [.py (tI row), .py (tN ms)] ∧ row.length ≤ 40 ∧ ms.Perm (List.range row.length) ∧ Q (.py (.list ((wrongL row ms).map pN)))
def demP (row : List Int) (ms : List Nat) (k : Nat) : PyData := .tuple [pN (lowD row ms k), pN (highD row ms k)]
@[simp] def S_j_demands : SV := fun ds Q _ => ∃ (row : List Int) (ms : List Nat), ds = [.py (tI row), .py (tN ms)] ∧ row.length ≤ 40 ∧ ms.Perm (List.range row.length) ∧ Q (.py (.list ((List.range row.length).map (demP row ms))))
@[simp] def S_j_clashes : SV := fun ds Q _ => ∃ (row : List Int) (ms : List Nat), ds = [.py (tI row), .py (tN ms)] ∧ row.length ≤ 40 ∧ ms.Perm (List.range row.length) ∧ Q (.py (.list ((clashL row ms).map pairP)))
/-! ### sizes -/
end LawP
set_option Elab.async false
set_option linter.all false
namespace LawP
open PySem VL
/-! ### lists: places, what is left of them -/
/-! ### the line of all persons so far -/
end LawP
set_option Elab.async false
set_option linter.all false
set_option maxHeartbeats 4000000
namespace LawP
open PySem VL
/-! ### the line of the served and the waiting ones -/
structure LInv (row : List Int) (a : Nat) (sv ws : List Nat) : Prop where
  perm : (sv ++ ws).Perm (List.range a)
  ord : (sv ++ ws).Pairwise fun x y => row[x]? = row[y]? → x < y
  qi : QInv row a ws
  adj : ∀ (i m p : Nat), ws[i]? = some m → p ∈ ws → mateOf row p = some m → ws[i + 1]? = some p
theorem LInv.start (row : List Int) : LInv row 0 [] [] := ⟨.refl _, .nil, .nil _ _, fun i m p h => by simp at h⟩
theorem LInv.ser {row : List Int} {a x : Nat} {sv ws : List Nat} (h : LInv row a sv (x :: ws)) : LInv row a (sv ++ [x]) ws := by
  obtain ⟨h1, h2, h3, h4⟩ := h
  refine ⟨by rw [List.append_assoc]; exact h1, by rw [List.append_assoc]; exact h2, h3.serve, fun i m p e hp hm => ?_⟩
  have := h4 (i + 1) m p (by simpa using e) (List.mem_cons_of_mem _ hp) hm
  simpa using this
theorem idx_getZ {ws : List Nat} (nd : ws.Nodup) {i m : Nat} (h : ws[i]? = some m) : ws.idxOf m = i := by
  obtain ⟨hi, e⟩ := List.getElem?_eq_some_iff.mp h
  have hm : m ∈ ws := List.mem_of_getElem? h
  have hj := List.idxOf_lt_length_of_mem hm
  exact (List.getElem_inj (h₀ := hj) (h₁ := hi) nd).mp ((List.getElem_idxOf hj).trans e.symm)
theorem insAt_get {ws : List Nat} {i p j : Nat} (hi : i ≤ ws.length) : (insAt ws i p)[j]? = if j < i then ws[j]? else if j = i then some p else ws[j - 1]? := by
  unfold insAt
  have hl : (ws.take i).length = i := by rw [List.length_take]; omega
  by_cases h1 : j < i
  · rw [if_pos h1, List.getElem?_append_left (by omega), List.getElem?_take_of_lt h1]
  · rw [if_neg h1, List.getElem?_append_right (by omega), hl]
    by_cases h2 : j = i
    · rw [if_pos h2, h2]; simp
    · rw [if_neg h2]
      obtain ⟨k, hk⟩ : ∃ k, j - i = k + 1 := ⟨j - i - 1, by omega⟩
      rw [hk, List.getElem?_cons_succ, List.getElem?_drop]
      congr 1
      omega
theorem joinPl_le (ws : List Nat) (m : Option Nat) : joinPl ws m ≤ ws.length := by
  unfold joinPl
  cases m with
  | none => exact Nat.le_refl _
  | some k =>
    simp only
    split
    · rename_i h
      exact List.idxOf_lt_length_of_mem h
    · exact Nat.le_refl _
theorem mateOf_ltZ {row : List Int} {p m : Nat} (h : mateOf row p = some m) : m < p ∧ row[m]? = row[p]? ∧ ∀ x, x < p → row[x]? = row[p]? → x ≤ m := by
  cases hg : row[p]? with
  | none => unfold mateOf at h; rw [hg] at h; cases h
  | some g =>
    rw [mateOf_at hg] at h
    obtain ⟨h1, h2, h3⟩ := lastIn_some h
    exact ⟨h1, h2, fun x hx e => Nat.le_of_not_lt fun hl => h3 x hl hx e⟩
theorem LInv.arr {row : List Int} {a : Nat} {sv ws : List Nat} (h : LInv row a sv ws) (ha : a < row.length) : LInv row (a + 1) sv (joinQ ws a (mateOf row a)) := by
  obtain ⟨h1, h2, h3, h4⟩ := h
  obtain ⟨g, hg⟩ : ∃ g, row[a]? = some g := ⟨row[a], List.getElem?_eq_getElem ha⟩
  have hq := h3.join hg
  have hlt : ∀ x ∈ sv, x < a := fun x hx => List.mem_range.mp (h1.mem_iff.mp (List.mem_append_left _ hx))
  refine ⟨?_, ?_, hq, fun i m p e hp hm => ?_⟩
  · have p1 := (joinQ_perm ws a (mateOf row a)).append_left sv
    refine p1.trans ((List.perm_middle).trans ?_)
    rw [List.range_succ]
    exact (List.Perm.cons a h1).trans (List.perm_append_singleton a _).symm
  · rw [List.pairwise_append] at h2 ⊢
    refine ⟨h2.1, hq.ord, fun x hx y hy e => ?_⟩
    rcases mem_joinQ.mp hy with rfl | hy
    · exact hlt x hx
    · exact h2.2.2 x hx y hy e
  · have hle := joinPl_le ws (mateOf row a)
    have nd := h3.nd
    unfold joinQ at e ⊢
    rw [insAt_get hle] at e ⊢
    obtain ⟨m1, m2, m3⟩ := mateOf_ltZ hm
    rcases mem_joinQ.mp hp with ep | hp
    · -- the one who came
      subst ep
      have hma : m ≠ p := by omega
      have hmw : m ∈ ws := by
        split at e
        · exact List.mem_of_getElem? e
        · split at e
          · exact absurd (Option.some.inj e).symm hma
          · exact List.mem_of_getElem? e
      have epl : joinPl ws (mateOf row p) = ws.idxOf m + 1 := by unfold joinPl; rw [hm]; simp [hmw]
      have hi : i = ws.idxOf m := by
        split at e
        · exact (idx_getZ nd e).symm
        · rename_i hn
          split at e
          · exact absurd (Option.some.inj e).symm hma
          · rename_i hn2
            have := idx_getZ nd e
            omega
      rw [epl, hi, if_neg (by omega), if_pos rfl]
    · have hpa : p < a := h3.lt p hp
      have hma : m ≠ a := by omega
      have hmw : m ∈ ws := by
        split at e
        · exact List.mem_of_getElem? e
        · split at e
          · exact absurd (Option.some.inj e).symm hma
          · exact List.mem_of_getElem? e
      have hjl := List.idxOf_lt_length_of_mem hmw
      have hj : ws[ws.idxOf m + 1]? = some p := h4 (ws.idxOf m) m p (List.getElem?_eq_some_iff.mpr ⟨hjl, List.getElem_idxOf hjl⟩) hp hm
      have hjl2 := (List.getElem?_eq_some_iff.mp hj).1
      have npl : joinPl ws (mateOf row a) ≠ ws.idxOf m + 1 := fun ep => by
        unfold joinPl at ep
        cases hk : mateOf row a with
        | none => rw [hk] at ep; simp at ep; omega
        | some k =>
          rw [hk] at ep
          simp only at ep
          split at ep
          · rename_i hkw
            have ei : ws.idxOf k = ws.idxOf m := by omega
            have hkl := List.idxOf_lt_length_of_mem hkw
            have ekm : k = m := by
              have e1 := List.getElem_idxOf hkl
              have e2 := List.getElem_idxOf hjl
              rw [← e1, ← e2]
              congr 1
            subst ekm
            obtain ⟨n1, n2, n3⟩ := mateOf_ltZ hk
            have := n3 p hpa (m2.symm.trans n2)
            omega
          · omega
      have hi : (i = ws.idxOf m ∧ i < joinPl ws (mateOf row a)) ∨ (i = ws.idxOf m + 1 ∧ joinPl ws (mateOf row a) < i) := by
        split at e
        · rename_i h
          exact .inl ⟨(idx_getZ nd e).symm, h⟩
        · split at e
          · exact absurd (Option.some.inj e).symm hma
          · have := idx_getZ nd e
            exact .inr ⟨by omega, by omega⟩
      rcases hi with ⟨rfl, h⟩ | ⟨rfl, h⟩
      · rw [if_pos (by omega)]; exact hj
      · rw [if_neg (by omega), if_neg (by omega)]
        exact hj
/-- who waits behind a word -/
def waitF (row : List Int) (a : Nat) (ws w : List Nat) : List Nat := match (stepsL row a ws w).getLast? with
  | some z => z.2.2
  | none => ws
theorem waitF_cons {row : List Int} {a : Nat} {ws w : List Nat} {z : Nat × Nat × List Nat} {a' : Nat} {ws' w' : List Nat} (h : stepsL row a ws w = z :: stepsL row a' ws' w') (hz : z.2.2 = ws') : waitF row a ws w = waitF row a' ws' w' := by
  unfold waitF
  rw [h]
  cases e : stepsL row a' ws' w' with
  | nil => simp [hz]
  | cons y ys =>
    rw [List.getLast?_cons_cons]
    cases q : (y :: ys).getLast? with
    | none => simp at q
    | some z' => rfl
theorem LInv.run {row : List Int} : ∀ {w : List Nat} {a s : Nat} {sv ws : List Nat}, okP row.length a s w → ws.length + s = a → LInv row a sv ws →
    LInv row (a + w.count 97) (sv ++ servedL (stepsL row a ws w)) (waitF row a ws w) ∧ (servedL (stepsL row a ws w)).length = w.count 115
  | [], a, s, sv, ws, _, _, h => by simpa [stepsL, servedL, waitF] using h
  | c :: w, a, s, sv, ws, h, hl, L => by
    rcases h with ⟨rfl, ha, h⟩ | ⟨rfl, ha, h⟩
    · obtain ⟨h1, h2⟩ := LInv.run h (by rw [joinQ_len]; omega) (L.arr ha)
      rw [stepsL_a, servedL_a, waitF_cons (stepsL_a row a ws w) rfl]
      refine ⟨?_, by rw [h2]; simp⟩
      have e : a + List.count 97 (97 :: w) = a + 1 + w.count 97 := by simp; omega
      rw [e]
      exact h1
    · cases ws with
      | nil => simp at hl; omega
      | cons x ws =>
        obtain ⟨h1, h2⟩ := LInv.run h (by simp at hl; omega) L.ser
        rw [stepsL_s, servedL_s, waitF_cons (stepsL_s row a x ws w) rfl]
        refine ⟨?_, by simp [h2]⟩
        have e : a + List.count 97 (115 :: w) = a + w.count 97 := by simp
        rw [e]
        have e2 : sv ++ x :: servedL (stepsL row a ws w) = sv ++ [x] ++ servedL (stepsL row a ws w) := by simp
        rw [e2]
        exact h1
theorem waitF_L (row : List Int) (w : List Nat) : waitF row 0 [] w = waitL (stepsL row 0 [] w) := by
  unfold waitF waitL
  cases (stepsL row 0 [] w).getLast? <;> rfl
theorem line_inv {row : List Int} {w : List Nat} (h : okP row.length 0 0 w) : LInv row (w.count 97) (servedL (stepsL row 0 [] w)) (waitL (stepsL row 0 [] w)) ∧ (servedL (stepsL row 0 [] w)).length = w.count 115 := by
  have := LInv.run (row := row) h rfl (LInv.start row)
  rw [waitF_L, Nat.zero_add, List.nil_append] at this
  exact this
/-! ### a beginning of a word -/
theorem okP_take {n : Nat} : ∀ {w : List Nat} {a s : Nat} (k : Nat), okP n a s w → okP n a s (w.take k)
  | [], _, _, _, h => by simpa using h
  | c :: w, _, _, 0, _ => by rw [List.take_zero]; trivial
  | c :: w, a, s, k + 1, h => by
    rw [List.take_succ_cons]
    rcases h with ⟨rfl, ha, h⟩ | ⟨rfl, ha, h⟩
    · exact .inl ⟨rfl, ha, okP_take k h⟩
    · exact .inr ⟨rfl, ha, okP_take k h⟩
theorem stepsL_take {row : List Int} : ∀ {w : List Nat} {a s : Nat} {ws : List Nat} (k : Nat), okP row.length a s w → ws.length + s = a → stepsL row a ws (w.take k) = (stepsL row a ws w).take k
  | [], _, _, _, k, _, _ => by simp [stepsL]
  | c :: w, _, _, _, 0, _, _ => by simp [stepsL]
  | c :: w, a, s, ws, k + 1, h, hl => by
    rw [List.take_succ_cons]
    rcases h with ⟨rfl, ha, h⟩ | ⟨rfl, ha, h⟩
    · rw [stepsL_a, stepsL_a, List.take_succ_cons, stepsL_take k h (by rw [joinQ_len]; omega)]
    · cases ws with
      | nil => simp at hl; omega
      | cons x ws => rw [stepsL_s, stepsL_s, List.take_succ_cons, stepsL_take k h (by simp at hl; omega)]
theorem served_prefix (L : List (Nat × Nat × List Nat)) (k : Nat) : (servedL L).take (servedL (L.take k)).length = servedL (L.take k) := by
  have e : servedL L = servedL (L.take k) ++ servedL (L.drop k) := by
    unfold servedL
    rw [← List.map_append, ← List.filter_append, List.take_append_drop]
  rw [e, List.take_left' rfl]
theorem okP_good {n : Nat} {w : List Nat} (h : HistW n w) : okP n 0 0 w := goodW_okP h
/-! ### the members of one group -/
theorem LInv.members {row : List Int} {a : Nat} {sv ws : List Nat} (h : LInv row a sv ws) (g : Int) : ((sv ++ ws).filter fun x => row[x]? == some g).Pairwise fun x y => x < y := by
  refine (List.pairwise_filter.mpr (h.ord.imp fun {x y} hxy hx hy => hxy ?_))
  rw [beq_iff_eq.mp hx, beq_iff_eq.mp hy]
theorem LInv.mate_prev {row : List Int} {a : Nat} {sv ws : List Nat} (h : LInv row a sv ws) (g : Int) {t x y : Nat}
    (hx : (ws.filter fun x => row[x]? == some g)[t]? = some x) (hy : (ws.filter fun x => row[x]? == some g)[t + 1]? = some y) : mateOf row y = some x := by
  have pm := h.members g
  rw [List.filter_append, List.pairwise_append] at pm
  obtain ⟨-, pw, pc⟩ := pm
  generalize hF : ws.filter (fun x => row[x]? == some g) = F at hx hy pw pc
  have hxF : x ∈ F := List.mem_of_getElem? hx
  have hyF : y ∈ F := List.mem_of_getElem? hy
  have inF : ∀ z, z ∈ F ↔ z ∈ ws ∧ row[z]? = some g := fun z => by rw [← hF]; simp
  have gx := ((inF x).mp hxF).2
  have gy := ((inF y).mp hyF).2
  obtain ⟨hxl, ex⟩ := List.getElem?_eq_some_iff.mp hx
  obtain ⟨hyl, ey⟩ := List.getElem?_eq_some_iff.mp hy
  have asc := List.pairwise_iff_getElem.mp pw
  have hxy : x < y := by rw [← ex, ← ey]; exact asc t (t + 1) hxl hyl (by omega)
  cases hm : mateOf row y with
  | none =>
    rw [mateOf_at gy] at hm
    exact absurd gx (lastIn_none hm x hxy)
  | some m =>
    obtain ⟨m1, m2, m3⟩ := mateOf_ltZ hm
    have hle := m3 x hxy (gx.trans gy.symm)
    by_cases e : m = x
    · rw [e]
    · exfalso
      have hya : y < a := List.mem_range.mp (h.perm.mem_iff.mp (List.mem_append_right _ ((inF y).mp hyF).1))
      have hms : m ∈ sv ++ ws := h.perm.mem_iff.mpr (List.mem_range.mpr (by omega))
      have gm := m2.trans gy
      rcases List.mem_append.mp hms with c | c
      · have := pc m (by simpa [c] using gm) x hxF
        omega
      · have hmF : m ∈ F := (inF m).mpr ⟨c, gm⟩
        obtain ⟨u, hu, eu⟩ := List.mem_iff_getElem.mp hmF
        rcases Nat.lt_trichotomy u t with c1 | c1 | c1
        · have := asc u t hu hxl c1
          omega
        · subst c1; omega
        · rcases Nat.lt_or_ge u (t + 1) with c2 | c2
          · omega
          · rcases Nat.eq_or_lt_of_le c2 with c3 | c3
            · subst c3; omega
            · have := asc (t + 1) u hyl hu c3
              omega
theorem LInv.places {row : List Int} {a : Nat} {sv ws : List Nat} (h : LInv row a sv ws) (g : Int) : ∀ (t : Nat) (z : Nat), ((ws.filter fun x => row[x]? == some g).map fun x => ws.idxOf x)[t]? = some z →
    ∃ z0, ((ws.filter fun x => row[x]? == some g).map fun x => ws.idxOf x)[0]? = some z0 ∧ z = z0 + t
  | 0, z, hz => ⟨z, hz, rfl⟩
  | t + 1, z, hz => by
    rw [List.getElem?_map] at hz
    cases hy : (ws.filter fun x => row[x]? == some g)[t + 1]? with
    | none => rw [hy] at hz; cases hz
    | some y =>
      rw [hy] at hz
      obtain ⟨hyl, ey⟩ := List.getElem?_eq_some_iff.mp hy
      have hx : (ws.filter fun x => row[x]? == some g)[t]? = some ((ws.filter fun x => row[x]? == some g)[t]'(by omega)) := List.getElem?_eq_getElem _
      generalize (ws.filter fun x => row[x]? == some g)[t]'(by omega) = x at hx
      obtain ⟨z0, h0, e0⟩ := h.places g t (ws.idxOf x) (by rw [List.getElem?_map, hx]; rfl)
      have hxw : x ∈ ws := (List.mem_filter.mp (List.mem_of_getElem? hx)).1
      have hyw : y ∈ ws := (List.mem_filter.mp (List.mem_of_getElem? hy)).1
      have hj := List.idxOf_lt_length_of_mem hxw
      have := h.adj (ws.idxOf x) x y (List.getElem?_eq_some_iff.mpr ⟨hj, List.getElem_idxOf hj⟩) hyw (h.mate_prev g hx hy)
      have := idx_getZ h.qi.nd this
      refine ⟨z0, h0, ?_⟩
      have ez : z = ws.idxOf y := (Option.some.inj hz).symm
      omega
end LawP
set_option Elab.async false
set_option linter.all false
set_option maxRecDepth 100000
set_option maxHeartbeats 4000000
namespace LawP
open PySem PySem.Spec PyProof.Rows L2 VL
end LawP
set_option Elab.async false
set_option linter.all false
set_option maxRecDepth 100000
set_option maxHeartbeats 4000000
namespace LawP
open PySem PySem.Spec PyProof.Rows L2 VL
end LawP
set_option Elab.async false
set_option linter.all false
namespace LawP
open PySem VL
/-! ### counts of words -/
/-- the word of some counts -/
def wordC (n : Nat) : Nat → List Nat → List Nat
  | s, [] => List.replicate (n - s) 115
  | s, c :: cs => List.replicate (c - s) 115 ++ 97 :: wordC n c cs
end LawP
set_option Elab.async false
set_option linter.all false
namespace LawP
open PySem VL
/-! ### a history has an order exactly if its counts meet the demands -/
end LawP
set_option Elab.async false
set_option linter.all false
namespace LawP
open PySem VL
/-! ### stairs: the least and the greatest counts -/
def maxTo (f : Nat → Nat) : Nat → Nat
  | 0 => f 0
  | k + 1 => max (maxTo f k) (f (k + 1))
def minFrom (f : Nat → Nat) (k : Nat) : Nat → Nat
  | 0 => f k
  | d + 1 => min (minFrom f k d) (f (k + d + 1))
def loS (row : List Int) (ms : List Nat) (k : Nat) : Nat := maxTo (lowD row ms) k
def hiS (row : List Int) (ms : List Nat) (k : Nat) : Nat := minFrom (highD row ms) k (row.length - 1 - k)
/-- the order is possible: no reason against it -/
def Poss (row : List Int) (ms : List Nat) : Prop := wrongL row ms = [] ∧ clashL row ms = []
def csHi (row : List Int) (ms : List Nat) : List Nat := (List.range row.length).map (hiS row ms)
def csLo (row : List Int) (ms : List Nat) : List Nat := (List.range row.length).map (loS row ms)
end LawP
set_option Elab.async false
set_option linter.all false
namespace LawP
open PySem VL
/-! ### histories, tested -/
def goodB (n : Nat) : Nat → Nat → List Nat → Bool
  | a, s, [] => decide (a = n) && decide (s = n)
  | a, s, c :: w => (decide (c = 97) && (decide (a < n) && goodB n (a + 1) s w)) || (decide (c = 115) && (decide (s < a) && goodB n a (s + 1) w))
def histB (n : Nat) (p : PyData) : Bool := match p with
  | .str z => goodB n 0 0 (sl z)
  | _ => false
end LawP
set_option Elab.async false
set_option linter.all false
set_option maxRecDepth 100000
set_option maxHeartbeats 4000000
namespace LawP
open PySem PySem.Spec PyProof.Rows L2 VL
/-! ### stairs -/
@[simp] def S_stairs : SV := fun ds Q E => ∃ (row : List Int) (p : PyData), ds = [.py (tI row), .py p] ∧ row ≠ [] ∧ row.length ≤ 40 ∧ (∀ ms, p = tN ms → ms.Perm (List.range row.length) → Q (.py (.tuple [tN (csLo row ms), tN (csHi row ms)]))) ∧ (ordB row.length p = false → E ⟨"NoOrder", []⟩)
/-! ### the word of some counts -/
@[simp] def S_o_word_with : SV := fun ds Q _ => ∃ cs : List Nat, ds = [.py (tN cs)] ∧ cs.length ≤ 1000 ∧ (∀ c ∈ cs, c ≤ 1000) ∧ Q (.py (.str (mkS (wordC cs.length 0 cs))))
/-! ### verdict -/
def verdP (row : List Int) (ms : List Nat) : PyData := match wrongL row ms with
  | k :: _ => .tuple [.str "place", pN k]
  | [] => match clashL row ms with
    | c :: _ => .tuple [.str "clash", pN c.1, pN c.2]
    | [] => .tuple [.str "history", .str (mkS (wordC row.length 0 (csHi row ms)))]
@[simp] def S_verdict : SV := fun ds Q E => ∃ (row : List Int) (p : PyData), ds = [.py (tI row), .py p] ∧ row ≠ [] ∧ row.length ≤ 40 ∧ (∀ ms, p = tN ms → ms.Perm (List.range row.length) → Q (.py (verdP row ms))) ∧ (ordB row.length p = false → E ⟨"NoOrder", []⟩)
/-! ### the law's own look at words, all orders -/
@[simp] def S_j_is_word : SV := fun ds Q _ => ∃ (n : Nat) (p : PyData), ds = [.py (.int (n : Nat)), .py p] ∧ n ≤ 1000 ∧ (∀ z, p = .str z → z.length ≤ 100000) ∧ Q (.py (.bool (histB n p)))
@[simp] def S_j_all_orders : SV := fun ds Q _ => ∃ n : Nat, ds = [.py (.int (n : Nat))] ∧ 1 ≤ n ∧ n ≤ 5 ∧ ∀ L : List (List Nat), (∀ ms ∈ L, ms.Perm (List.range n)) → L.length ≤ 7776 → Q (.py (.list (L.map tN)))
end LawP
set_option Elab.async false
set_option linter.all false
set_option maxRecDepth 100000
set_option maxHeartbeats 4000000
namespace LawP
open PySem PySem.Spec PyProof.Rows L2 VL
end LawP
set_option Elab.async false
set_option linter.all false
namespace LawP
open PySem VL
/-! ### all histories, letter by letter -/
theorem okP_snoc {n c : Nat} : ∀ {w : List Nat} {a s : Nat}, okP n a s (w ++ [c]) ↔ okP n a s w ∧ ((c = 97 ∧ a + w.count 97 < n) ∨ (c = 115 ∧ s + w.count 115 < a + w.count 97))
  | [], a, s => by simp [okP]
  | d :: w, a, s => by
    rw [List.cons_append]
    constructor
    · rintro (⟨rfl, ha, h⟩ | ⟨rfl, ha, h⟩)
      · obtain ⟨h1, h2⟩ := okP_snoc.mp h
        refine ⟨.inl ⟨rfl, ha, h1⟩, ?_⟩
        rw [List.count_cons_self, List.count_cons_of_ne (by decide)]
        rcases h2 with ⟨e, h2⟩ | ⟨e, h2⟩
        · exact .inl ⟨e, by omega⟩
        · exact .inr ⟨e, by omega⟩
      · obtain ⟨h1, h2⟩ := okP_snoc.mp h
        refine ⟨.inr ⟨rfl, ha, h1⟩, ?_⟩
        rw [List.count_cons_self, List.count_cons_of_ne (by decide)]
        rcases h2 with ⟨e, h2⟩ | ⟨e, h2⟩
        · exact .inl ⟨e, by omega⟩
        · exact .inr ⟨e, by omega⟩
    · rintro ⟨⟨rfl, ha, h⟩ | ⟨rfl, ha, h⟩, h2⟩
      · rw [List.count_cons_self, List.count_cons_of_ne (by decide)] at h2
        refine .inl ⟨rfl, ha, okP_snoc.mpr ⟨h, ?_⟩⟩
        rcases h2 with ⟨e, h2⟩ | ⟨e, h2⟩
        · exact .inl ⟨e, by omega⟩
        · exact .inr ⟨e, by omega⟩
      · rw [List.count_cons_self, List.count_cons_of_ne (by decide)] at h2
        refine .inr ⟨rfl, ha, okP_snoc.mpr ⟨h, ?_⟩⟩
        rcases h2 with ⟨e, h2⟩ | ⟨e, h2⟩
        · exact .inl ⟨e, by omega⟩
        · exact .inr ⟨e, by omega⟩
theorem okP_le {n : Nat} {w : List Nat} (h : okP n 0 0 w) : w.count 115 ≤ w.count 97 ∧ w.count 97 ≤ n := by
  rcases List.eq_nil_or_concat w with rfl | ⟨v, c, rfl⟩
  · simp
  · rw [List.concat_eq_append] at h ⊢
    obtain ⟨h1, h2⟩ := okP_snoc.mp h
    have ih := okP_le h1
    rw [List.count_append, List.count_append]
    rcases h2 with ⟨rfl, h2⟩ | ⟨rfl, h2⟩
    · simp; omega
    · simp; omega
termination_by w.length
decreasing_by subst_vars; simp
end LawP
set_option Elab.async false
set_option linter.all false
set_option maxRecDepth 100000
set_option maxHeartbeats 4000000
namespace LawP
open PySem PySem.Spec PyProof.Rows L2 VL
def possB (row : List Int) (ms : List Nat) : Bool := (wrongL row ms).isEmpty && (clashL row ms).isEmpty
@[simp] def S_is_possible : SV := fun ds Q E => ∃ (row : List Int) (p : PyData), ds = [.py (tI row), .py p] ∧ row ≠ [] ∧ row.length ≤ 40 ∧ (∀ ms, p = tN ms → ms.Perm (List.range row.length) → Q (.py (.bool (possB row ms)))) ∧ (ordB row.length p = false → E ⟨"NoOrder", []⟩)
@[simp] def S_j_words : SV := fun ds Q _ => ∃ n : Nat, ds = [.py (.int (n : Nat))] ∧ n ≤ 10 ∧ ∀ L : List (List Nat), (∀ w, w ∈ L ↔ HistW n w) → L.length ≤ 2 ^ (2 * n) → Q (.py (.list (L.map fun w => PyData.str (mkS w))))
/-! ### lists of orders -/
end LawP
set_option Elab.async false
set_option linter.all false
set_option maxRecDepth 100000
set_option maxHeartbeats 4000000
namespace LawP
open PySem PySem.Spec PyProof.Rows L2 VL
@[simp] def S_h_groups (r : Addr) : SV
  | [.raw v, .py (.int m)], Q, _ => v = .ref r ∧ 1 ≤ m ∧ m ≤ 40 ∧ ∀ gs : List Int, gs ≠ [] → gs.length ≤ m → (∀ g ∈ gs, 0 ≤ g ∧ g ≤ 1000000000) → Q (.py (tI gs))
  | _, _, _ => False
@[simp] def S_h_letters (r : Addr) : SV := fun ds Q _ => ∃ n : Nat, ds = [.raw (.ref r), .py (.int (n : Nat))] ∧ n ≤ 40 ∧ ∀ w : List Nat, HistW n w → Q (.py (.str (mkS w)))
@[simp] def S_h_served : SV := fun ds Q _ => ∃ (row : List Int) (w : List Nat), ds = [.py (tI row), .py (.str (mkS w))] ∧ row.length ≤ 1000 ∧ w.length ≤ 100000 ∧ HistW row.length w ∧ Q (.py (tN (ordL row w)))
@[simp] def S_h_counts : SV := fun ds Q _ => ∃ (n : Nat) (w : List Nat), ds = [.py (.str (mkS w))] ∧ n ≤ 1000 ∧ HistW n w ∧ Q (.py (.list ((cntsL 0 w).map pN)))
/-! ### all words, in the order of texts -/
def ltW (a b : List Nat) : Prop := ltCps a b = true
theorem sl_mkS (w : List Nat) : (mkS w).cps.toList = w := by simp [mkS]
@[simp] def S_h_words : SV := fun ds Q _ => ∃ n : Nat, ds = [.py (.int (n : Nat))] ∧ n ≤ 10 ∧ ∀ L : List (List Nat), (∀ w, w ∈ L ↔ HistW n w) → L.Pairwise ltW → L.length ≤ 2 ^ (2 * n) → Q (.py (.list (L.map fun w => PyData.str (mkS w))))
@[simp] def S_h_having : SV := fun ds Q _ => ∃ (row : List Int) (ms : List Nat), ds = [.py (tI row), .py (tN ms)] ∧ row.length ≤ 7 ∧ ∀ L : List (List Nat), (∀ w, w ∈ L ↔ HistW row.length w ∧ ordL row w = ms) → L.Pairwise ltW → L.length ≤ 20000 → Q (.py (.list (L.map fun w => PyData.str (mkS w))))
end LawP
set_option Elab.async false
set_option linter.all false
set_option maxRecDepth 100000
set_option maxHeartbeats 4000000
namespace LawP
open PySem PySem.Spec PyProof.Rows L2 VL
end LawP
set_option Elab.async false
set_option linter.all false
set_option maxRecDepth 100000
set_option maxHeartbeats 4000000
namespace LawP
open PySem PySem.Spec PyProof.Rows L2 VL
end LawP
set_option Elab.async false
set_option linter.all false
set_option maxRecDepth 100000
set_option maxHeartbeats 4000000
namespace LawP
open PySem PySem.Spec PyProof.Rows L2 VL
theorem allI_pN (L : List Nat) : allI (L.map pN) = some (L.map fun (n : Nat) => (n : Int)) := by
  have : L.map pN = (L.map fun (n : Nat) => (n : Int)).map PyData.int := by rw [List.map_map]; rfl
  rw [this, allI_map]
/-! ### least and greatest of lists -/
end LawP
set_option Elab.async false
set_option linter.all false
set_option maxRecDepth 100000
set_option maxHeartbeats 4000000
namespace LawP
open PySem PySem.Spec PyProof.Rows L2 VL
/-! ### the law's own stairs -/
def ownP (row : List Int) (ms : List Nat) (k : Nat) : PyData := if nearB row ms k = true ∨ leadB ms k = true then .list [pN (lowD row ms k), pN (highD row ms k)] else .none
@[simp] def S_h_own_bounds : SV := fun ds Q _ => ∃ (row : List Int) (ms : List Nat) (k : Nat), ds = [.py (tI row), .py (tN ms), .py (.int (k : Nat))] ∧ ms.Perm (List.range row.length) ∧ k < row.length ∧ row.length ≤ 40 ∧ Q (.py (ownP row ms k))
def stairsP (row : List Int) (ms : List Nat) : PyData := if possB row ms then .list [.list ((csLo row ms).map pN), .list ((csHi row ms).map pN)] else .none
@[simp] def S_h_stairs : SV := fun ds Q _ => ∃ (row : List Int) (ms : List Nat), ds = [.py (tI row), .py (tN ms)] ∧ row ≠ [] ∧ ms.Perm (List.range row.length) ∧ row.length ≤ 40 ∧ Q (.py (stairsP row ms))
/-! ### the same -/
def leafP : PyData → Bool
  | .list _ => false
  | .tuple _ => false
  | .dict _ => false
  | _ => true
def flatN : Nat → PyData → Prop
  | 0, p => leafP p = true
  | n + 1, p => leafP p = true ∨ ∃ xs, (p = .list xs ∨ p = .tuple xs) ∧ xs.length ≤ 1000000 ∧ ∀ x ∈ xs, flatN n x
@[simp] def S_h_same : Nat → SV
  | 0 => fun _ _ _ => False
  | n + 1 => fun ds Q _ => ∃ p, ds = [.py p, .py p] ∧ flatN n p ∧ Q (.py (.bool true))
@[simp] def S_bounds_of : SV := fun ds Q E => ∃ (row : List Int) (p : PyData), ds = [.py (tI row), .py p] ∧ row ≠ [] ∧ row.length ≤ 40 ∧ (∀ ms, p = tN ms → ms.Perm (List.range row.length) → (Poss row ms → Q (.py (.tuple [tN (csLo row ms), tN (csHi row ms)]))) ∧ (¬ Poss row ms → E ⟨"Impossible", []⟩)) ∧ (ordB row.length p = false → E ⟨"NoOrder", []⟩)
def fixP (row : List Int) (ms : List Nat) (k : Nat) : PyData := if loS row ms k = hiS row ms k then pN (loS row ms k) else .none
@[simp] def S_fixed_counts : SV := fun ds Q E => ∃ (row : List Int) (p : PyData), ds = [.py (tI row), .py p] ∧ row ≠ [] ∧ row.length ≤ 40 ∧ (∀ ms, p = tN ms → ms.Perm (List.range row.length) → (Poss row ms → Q (.py (.tuple ((List.range row.length).map (fixP row ms))))) ∧ (¬ Poss row ms → E ⟨"Impossible", []⟩)) ∧ (ordB row.length p = false → E ⟨"NoOrder", []⟩)
end LawP
set_option Elab.async false
set_option linter.all false
set_option maxRecDepth 100000
set_option maxHeartbeats 4000000
namespace LawP
open PySem PySem.Spec PyProof.Rows L2 VL
/-! M22: the table of numbers -/
def geS (P : List (Nat × Nat)) (c : Nat) : Nat := ((P.filter fun p => decide (c ≤ p.1)).map (·.2)).sum
def rowT (lo hi : Nat) (P : List (Nat × Nat)) : List (Nat × Nat) := (List.range (hi + 1 - lo)).map fun i => (hi - i, geS P (hi - i))
def tabD (n : Nat) : List (Nat × Nat) → List (Nat × Nat)
  | [] => [(n, 1)]
  | (lo, hi) :: r => rowT lo hi (tabD n r)
def dctN (P : List (Nat × Nat)) : List (PyData × PyData) := P.map fun p => (pN p.1, pN p.2)
def tabN (n : Nat) : List (Nat × Nat) → List PyData
  | [] => []
  | x :: r => .dict (dctN (tabD n (x :: r))) :: tabN n r
end LawP
set_option Elab.async false
set_option linter.all false
set_option maxRecDepth 100000
set_option maxHeartbeats 4000000
namespace LawP
open PySem PySem.Spec PyProof.Rows L2 VL
/-! M23: words in the order of texts, and their counts -/
end LawP
set_option Elab.async false
set_option linter.all false
set_option maxRecDepth 100000
set_option maxHeartbeats 4000000
namespace LawP
open PySem PySem.Spec PyProof.Rows L2 VL
end LawP
set_option Elab.async false
set_option linter.all false
set_option maxRecDepth 100000
set_option maxHeartbeats 4000000
namespace LawP
open PySem PySem.Spec PyProof.Rows L2 VL
end LawP
set_option Elab.async false
set_option linter.all false
set_option maxRecDepth 100000
set_option maxHeartbeats 4000000
namespace LawP
open PySem PySem.Spec PyProof.Rows L2 VL
/-! ### whole numbers within bounds -/
def isInt (p : PyData) (lo hi : Int) : Bool := match p with
  | .int i => decide (lo ≤ i) && decide (i ≤ hi)
  | _ => false
@[simp] def S_is_integer : SV
  | [.py p, .py (.int lo), .py (.int hi)], Q, _ => Q (.py (.bool (isInt p lo hi)))
  | _, _, _ => False
/-! ### counts and their words -/
/-- the first wrong place, b the count before -/
def badC : Int → Nat → List PyData → Option Nat
  | _, _, [] => none
  | b, k, .int c :: ps => if b ≤ c ∧ c ≤ k then badC c (k + 1) ps else some k
  | _, k, _ :: _ => some k
def wordP : Int → Nat → List PyData → List Nat
  | b, k, [] => List.replicate ((k : Int) - b).toNat 115
  | b, k, .int c :: ps => List.replicate (c - b).toNat 115 ++ 97 :: wordP c (k + 1) ps
  | _, _, _ :: _ => []
@[simp] def S_word_with : SV
  | [.py (.tuple ps)], Q, _ => ps.length ≤ 40 ∧ badC 0 0 ps = none ∧ Q (.py (.str (mkS (wordP 0 0 ps))))
  | [.py (.list ps)], Q, _ => ps.length ≤ 40 ∧ badC 0 0 ps = none ∧ Q (.py (.str (mkS (wordP 0 0 ps))))
  | _, _, _ => False
@[simp] def wfQ (ps : List PyData) (Q : D → Prop) (E : Er → Prop) : Prop := if 1 ≤ ps.length ∧ ps.length ≤ 40 then (match badC 0 0 ps with | none => Q (.py (.str (mkS (wordP 0 0 ps)))) | some k => E ⟨"BadCount", [("index", .int (k : Nat))]⟩) else E ⟨"TooLarge", [("limit", .int 40)]⟩
@[simp] def S_word_from : SV
  | [.py (.tuple ps)], Q, E => wfQ ps Q E
  | _, _, _ => False
end LawP
set_option Elab.async false
set_option linter.all false
set_option maxRecDepth 100000
set_option maxHeartbeats 4000000
namespace LawP
open PySem PySem.Spec PyProof.Rows L2 VL
@[simp] def S_h_written : SV := fun ds Q _ => ∃ cs : List Nat, ds = [.py (.list (cs.map pN))] ∧ cs.length ≤ 1000 ∧ (∀ c ∈ cs, c ≤ 1000) ∧ Q (.py (.str (mkS (wordC cs.length 0 cs))))
@[simp] def S_h_mixed (r : Addr) : SV := fun ds Q _ => ∃ n : Nat, ds = [.raw (.ref r), .py (.int (n : Nat))] ∧ n ≤ 1000 ∧ ∀ ms : List Nat, ms.Perm (List.range n) → Q (.py (tN ms))
@[simp] def S_h_order (r : Addr) : SV := fun ds Q _ => ∃ row : List Int, ds = [.raw (.ref r), .py (tI row)] ∧ row ≠ [] ∧ row.length ≤ 40 ∧ ∀ ms : List Nat, ms.Perm (List.range row.length) → Q (.py (tN ms))
/-! ### the table -/
def bndL (row : List Int) (ms : List Nat) : List (Nat × Nat) := (List.range row.length).map fun k => (loS row ms k, hiS row ms k)
def tabF (row : List Int) (ms : List Nat) : List (Str × PyData) := if possB row ms = true then [("lows", tN (csLo row ms)), ("highs", tN (csHi row ms)), ("numbers", .list (tabN row.length (bndL row ms)))] else [("lows", .tuple []), ("highs", .tuple []), ("numbers", .list [])]
@[simp] def S_Table_init : SI := fun ds Q E => ∃ (row : List Int) (p : PyData), ds = [.py (tI row), .py p] ∧ row ≠ [] ∧ row.length ≤ 40 ∧ (∀ ms, p = tN ms → ms.Perm (List.range row.length) → Q (tabF row ms)) ∧ (ordB row.length p = false → E ⟨"NoOrder", []⟩)
def wordS (n : Nat) (cs : List Nat) : PyData := .str (mkS (wordC n 0 cs))
@[simp] def S_earliest : SV := fun ds Q E => ∃ (row : List Int) (p : PyData), ds = [.py (tI row), .py p] ∧ row ≠ [] ∧ row.length ≤ 40 ∧ (∀ ms, p = tN ms → ms.Perm (List.range row.length) → Q (.py (if possB row ms = true then wordS row.length (csHi row ms) else .none))) ∧ (ordB row.length p = false → E ⟨"NoOrder", []⟩)
@[simp] def S_latest : SV := fun ds Q E => ∃ (row : List Int) (p : PyData), ds = [.py (tI row), .py p] ∧ row ≠ [] ∧ row.length ≤ 40 ∧ (∀ ms, p = tN ms → ms.Perm (List.range row.length) → Q (.py (if possB row ms = true then wordS row.length (csLo row ms) else .none))) ∧ (ordB row.length p = false → E ⟨"NoOrder", []⟩)
end LawP
set_option Elab.async false
set_option linter.all false
set_option maxRecDepth 100000
set_option maxHeartbeats 4000000
namespace LawP
open PySem PySem.Spec PyProof.Rows L2 VL
/-! M24: words one step from a word -/
/-! ### sound words -/
theorem good_count {n : Nat} : ∀ {w : List Nat} {a s : Nat}, goodW n a s w → a + w.count 97 = n ∧ s + w.count 115 = n
  | [], a, s, ⟨h1, h2⟩ => ⟨by simpa using h1, by simpa using h2⟩
  | c :: w, a, s, h => by
    rcases h with ⟨rfl, _, h⟩ | ⟨rfl, _, h⟩
    · have := good_count h
      simp; omega
    · have := good_count h
      simp; omega
/-! ### letters changed in their places -/
end LawP
set_option Elab.async false
set_option linter.all false
set_option maxRecDepth 100000
set_option maxHeartbeats 4000000
namespace LawP
open PySem PySem.Spec PyProof.Rows L2 VL
@[simp] def S_law_groups_right : SV := fun ds Q _ => ∃ (row : List Int) (a : Nat) (sv ws : List Nat), ds = [.py (tI row), .py (tN sv), .py (tN ws)] ∧ row.length ≤ 40 ∧ a ≤ row.length ∧ LInv row a sv ws ∧ Q (.py (.bool true))
theorem l_law_groups_right : ∀ ds Q E, S_law_groups_right ds Q E → t_law_groups_right (envOf 10 ds) (fin Q E) := by
  rintro ds Q E ⟨row, a, sv, ws, rfl, hr, ha, L, q⟩
  simp [t_law_groups_right, -forGo, -lcGo]
  have hlen : sv.length + ws.length = a := by simpa using L.perm.length_eq
  have hmem : ∀ x ∈ sv ++ ws, x < a := fun x hx => List.mem_range.mp (L.perm.mem_iff.mp hx)
  refine ⟨by omega, row, allI_map row, by omega, fun ks _ hm => ?_⟩
  refine for_enc' PyData.int (fun _ ρ => ∃ x y z u, ρ = [.shr (.py (tI row)), .shr (.py (tN sv)), .shr (.py (tN ws)), .shr (.py (tN (sv ++ ws))), x, y, z, u, .un, .un]) ⟨.un, .un, .un, .un, by simp [tI, tN, List.map_append]⟩ (fun k g ρ hg iv nx ct hn => ?_) (fun ρ iv => ?_)
  · obtain ⟨x, y, z, u, rfl⟩ := iv
    have rx : ∀ x, x ∈ sv ++ ws → ∃ v, row[x]? = some v := fun x hx => ⟨row[x]'(by have := hmem x hx; omega), List.getElem?_eq_getElem _⟩
    simp [-lcGo]
    have e1 : List.map (D.py ∘ pN) sv ++ List.map (D.py ∘ pN) ws = (sv ++ ws).map (D.py ∘ pN) := (List.map_append).symm
    try rw [e1]
    refine lc_encF' pN (fun x => row[x]? == some g) pN (fun t x hx k k1 k2 => ?_) (by simp; omega) ?_
    · obtain ⟨v, hv⟩ := rx x (List.mem_of_getElem? hx)
      simp [hv] at k1 k2
      simp [lcStep]
      refine ⟨_, atI_map hv, ?_⟩
      by_cases c : v = g <;> simp [c] at k1 k2 ⊢ <;> assumption
    · have pm := L.members g
      have pl := L.places g
      have lF : ((sv ++ ws).filter fun x => row[x]? == some g).length ≤ 40 := Nat.le_trans (List.length_filter_le _ _) (by simp; omega)
      generalize (sv ++ ws).filter (fun x => row[x]? == some g) = F at pm lF ⊢
      simp [-lcGo]
      refine lc_encF' pN (fun x => row[x]? == some g) (fun x => pN (ws.idxOf x)) (fun t x hx k k1 k2 => ?_) (by omega) ?_
      · have hw := List.mem_of_getElem? hx
        obtain ⟨v, hv⟩ := rx x (List.mem_append_right _ hw)
        simp [hv] at k1 k2
        simp [lcStep]
        refine ⟨_, atI_map hv, ?_⟩
        by_cases c : v = g
        · simp [c, plain_pN, depth_pN] at k1 ⊢
          exact ⟨rfl, _, ix_pN hw, k1⟩
        · simp [c] at k2 ⊢
          exact k2
      · have lP : (ws.filter fun x => row[x]? == some g).length ≤ 40 := Nat.le_trans (List.length_filter_le _ _) (by omega)
        rw [show (ws.filter fun x => row[x]? == some g).map (fun x => pN (ws.idxOf x)) = ((ws.filter fun x => row[x]? == some g).map fun x => ws.idxOf x).map pN by rw [List.map_map]; rfl]
        have lM : ((ws.filter fun x => row[x]? == some g).map fun x => ws.idxOf x).length ≤ 40 := by simpa using lP
        generalize (ws.filter fun x => row[x]? == some g).map (fun x => ws.idxOf x) = P at pl lM ⊢
        simp [-lcGo]
        refine ⟨by omega, ?_⟩
        rw [rangeP_pN, List.map_map]
        refine lc_encF' (L := List.range P.length) pN (fun _ => false) pN (fun t x hx k k1 k2 => ?_) (by rw [List.length_range]; omega) ?_
        · obtain ⟨rfl, hx⟩ := range_get hx
          obtain ⟨v, hv⟩ : ∃ v, P[x]? = some v := ⟨P[x]'hx, List.getElem?_eq_getElem _⟩
          obtain ⟨z0, h0, ez⟩ := pl x v hv
          simp [lcStep]
          have h0' : atI (P.map pN) 0 = some (pN z0) := atI_map (k := 0) h0
          refine ⟨_, atI_map hv, _, h0', ?_⟩
          have e : (v : Int) = (z0 : Int) + (x : Int) := by omega
          simp [pN, e]
          exact k2 rfl
        · have es : F.map (fun n : Nat => (n : Int)) = sortI (F.map fun n : Nat => (n : Int)) := sortI_eq (.refl _) (List.pairwise_map.mpr (pm.imp fun h => by omega))
          simp
          refine ⟨_, allI_pN F, ?_⟩
          rw [← es]
          have e2 : List.map PyData.int (F.map fun n : Nat => (n : Int)) = F.map pN := by rw [List.map_map]; rfl
          have go := (hn _ ⟨.shr (.py (.int g)), .shr (.py (.list (F.map pN))), .shr (.py (.list (P.map pN))), .shr (.py (.list [])), rfl⟩).1
          have ef : (List.range P.length).filter (fun _ => false) = [] := by simp
          rw [e2, ef]
          simp only [tI, tN, List.map_append] at go
          have self : ((PyData.list (F.map pN)).eqv (.list (F.map pN))) = true := PySem.SeqAt.eqv_refl_plain _ (plain_pN F)
          cases F with
          | nil => simpa using go
          | cons f F =>
            have p0 : (PyData.list ((f :: F).map pN)).plain = true := plain_pN (f :: F)
            have d0 : (PyData.list ((f :: F).map pN)).depth ≤ 60 := by have := depth_pN (f :: F); simp only [PyData.depth]; omega
            refine ⟨p0, p0, .inl d0, ?_⟩
            rw [self]
            simpa using go
  · obtain ⟨x, y, z, u, rfl⟩ := iv
    simpa using q
theorem wErr_ok {n : Nat} {w : List Nat} (h : okP n 0 0 w) : wErr n (.str (mkS w)) = .none := wErr_none.mpr h
theorem run_ok {row : List Int} {w : List Nat} {Q : D → Prop} {E : Er → Prop} (hr : row.length ≤ 1000) (hl : w.length ≤ 100000) (ok : okP row.length 0 0 w) (q : Q (.py (runP row w))) : S_run [.py (.tuple (row.map PyData.int)), .py (.str (mkS w))] Q E := by
  refine ⟨row, _, rfl, hr, fun z e => ?_, fun w' e _ => ?_, fun e => absurd (wErr_ok ok) e⟩
  · injection e with e; subst e; simpa using hl
  · injection e with e
    have := mkS_inj.mp e
    subst this
    exact q
theorem es_ok {row : List Int} {w : List Nat} (hr : row.length ≤ 1000) (hl : w.length ≤ 100000) (ok : okP row.length 0 0 w) :
    S_each_step [.py (.tuple (row.map PyData.int)), .py (.str (mkS w))] (fun i d => ((stepsL row 0 [] w).map stepP)[i]? = some d) (fun i => i = ((stepsL row 0 [] w).map stepP).length) (fun _ => False) := by
  refine ⟨row, _, rfl, hr, fun z e => ?_, .inl ⟨w, rfl, ok, fun _ _ h => h, ?_⟩⟩
  · injection e with e; subst e; simpa using hl
  · rw [List.length_map, stepsL_len row w 0 0 [] ok rfl]
theorem groups_ok {row : List Int} {a : Nat} {sv ws : List Nat} {Q : D → Prop} {E : Er → Prop} (hr : row.length ≤ 40) (ha : a ≤ row.length) (L : LInv row a sv ws) (q : Q (.py (.bool true))) : S_law_groups_right [.py (.tuple (row.map PyData.int)), .py (.tuple (sv.map pN)), .py (.tuple (ws.map pN))] Q E := ⟨row, a, sv, ws, rfl, hr, ha, L, q⟩
theorem ne_same {p : PyData} {Q : D → Prop} (hp : p.plain = true) (hd : p.depth ≤ 60) (q : Q (.py (.bool false))) : gNe (.py p) (.py p) Q := by
  have e := PySem.SeqAt.eqv_refl_plain p hp
  have go : p.plain = true ∧ p.plain = true ∧ (p.depth ≤ 60 ∨ p.depth ≤ 60) ∧ Q (.py (.bool !p.eqv p)) := ⟨hp, hp, .inl hd, by rw [e]; exact q⟩
  cases p with
  | tuple xs => cases xs with
    | nil => exact q
    | cons x xs => exact go
  | list xs => cases xs with
    | nil => exact q
    | cons x xs => exact go
  | _ => exact go
theorem ite_both {c : Prop} [Decidable c] {X R : Prop} (h : c → R → X) (r : R) : if c then X else R := by
  split
  · rename_i hc; exact h hc r
  · exact r
theorem tN_plain (ws : List Nat) : (PyData.tuple (ws.map pN)).plain = true := plain_pN ws
theorem lN_plain (ws : List Nat) : (PyData.list (ws.map pN)).plain = true := plain_pN ws
theorem tN_depth (ws : List Nat) : (PyData.tuple (ws.map pN)).depth ≤ 60 := by have := depth_pN ws; simp only [PyData.depth]; omega
theorem lN_depth (ws : List Nat) : (PyData.list (ws.map pN)).depth ≤ 60 := by have := depth_pN ws; simp only [PyData.depth]; omega
theorem steps_plain (L : List (Nat × Nat × List Nat)) : PyData.plainAll (L.map stepP) = true := by
  induction L with
  | nil => rfl
  | cons x L ih => simp [ih, stepP, plain_pN]; rfl
theorem steps_depth (L : List (Nat × Nat × List Nat)) : PyData.depthAll (L.map stepP) ≤ 10 := by
  induction L with
  | nil => simp
  | cons x L ih =>
    have : (stepP x).depth ≤ 10 := by have := depth_pN x.2.2; simp [stepP, PyData.depth, pN] at *; omega
    rw [List.map_cons, depthAll_cons]; omega
theorem l_law (r : Addr) : t_law (S_law_drawn r) (S_law_word r) (svTake r) S_run S_law_groups_right S_each_step S_mates (envBag 13 1 r) (fin isTrue' noE) := by
  have e0 : envBag 13 1 r = [.un, .shr (.raw (.ref r)), .un, .un, .un, .un, .un, .un, .un, .un, .un, .un, .un] := rfl
  rw [e0]
  simp only [t_law, sSeq, sFor, iR1, vCons, vC, vNil, asR1]
  refine ⟨by decide, for_enc (encR 0) (fun _ ρ => ∃ a b c d e f g h i j, ρ = [a, .shr (.raw (.ref r)), b, c, d, e, f, g, h, i, j, .un, .un]) ⟨_, _, _, _, _, _, _, _, _, _, rfl⟩ (fun i x ρ hx iv nx ct hn => ?_) (fun ρ iv => ?_)⟩
  · obtain ⟨a, b, c, d, e, f, g, h, i, j, rfl⟩ := iv
    obtain ⟨rfl, hx⟩ := range_get hx
    have hd : ∃ m : Int, atI [PyData.int 40, PyData.int 12] ((x : Int) % 2) = some (.int m) ∧ 1 ≤ m ∧ m ≤ 40 := by
      have : (x : Int) % 2 = 0 ∨ (x : Int) % 2 = 1 := by omega
      rcases this with e | e <;> rw [e]
      · exact ⟨40, rfl, by omega, by omega⟩
      · exact ⟨12, rfl, by omega, by omega⟩
    obtain ⟨m, hm, m0, m1⟩ := hd
    simp [-forGo, -lcGo, hm, -S_law_word, -S_run, -S_law_groups_right, -S_each_step, -S_mates]
    refine ⟨m0, m1, fun gs g0 g1 g2 y y0 y1 => ⟨rfl, by omega, by omega, y0, y1, fun w hw => ?_⟩⟩
    have lw : w.length = 2 * gs.length := by simpa using hw.len
    have gl : gs.length ≤ 40 := by omega
    have ow : okP gs.length 0 0 w := by simpa using okP_good hw
    simp [-forGo, -lcGo, -S_run, -S_law_groups_right, -S_each_step, -S_mates, -vLcZ]
    refine ⟨by omega, by omega, fun z z0 z1 => ⟨by omega, ?_⟩⟩
    obtain ⟨kk, rfl⟩ := Int.eq_ofNat_of_zero_le z0
    have hkk : kk ≤ w.length := by omega
    rw [cutL_take _ z0, Int.toNat_natCast]
    have ok := okP_take kk ow
    have lk : (w.take kk).length = kk := by rw [List.length_take]; omega
    obtain ⟨L, hc⟩ := line_inv ok
    obtain ⟨L1, hc1⟩ := line_inv ow
    obtain ⟨n1, n2⟩ := good_count (show goodW gs.length 0 0 w from (by simpa using hw : HistW gs.length w))
    have hw0 : waitL (stepsL gs 0 [] w) = [] := by
      have := L1.perm.length_eq
      rw [List.length_append, List.length_range] at this
      exact List.length_eq_zero_iff.mp (by omega)
    have pre := served_prefix (stepsL gs 0 [] w) kk
    have st := stepsL_take (row := gs) (ws := []) kk ow rfl
    have lA : (stepsL gs 0 [] w).length = w.length := stepsL_len gs w 0 0 [] ow rfl
    have lB : (stepsL gs 0 [] (w.take kk)).length = kk := (stepsL_len gs _ 0 0 [] ok rfl).trans lk
    have ca := (okP_le ok).2
    have es1 := es_ok (row := gs) (by omega) (by omega) ok
    have es2 := es_ok (row := gs) (by omega) (by omega) ow
    refine run_ok (by omega) (by omega) ok ?_
    simp only [runP]
    generalize hB : stepsL gs 0 [] (w.take kk) = B at *
    generalize hA : stepsL gs 0 [] w = A at *
    subst st
    generalize hsv : servedL (A.take kk) = sv at *
    generalize hws : waitL (A.take kk) = ws at *
    generalize hSV : servedL A = SV' at *
    simp [-forGo, -lcGo, -S_run, -S_law_groups_right, -S_each_step, -S_mates, -vLcZ]
    refine run_ok (by omega) (by omega) ow ?_
    rw [runP, hA, hw0, hSV]
    simp [-forGo, -lcGo, -S_run, -S_law_groups_right, -S_each_step, -S_mates, -vLcZ]
    have kc {α : Type} (xs : List α) : cutL xs none (some (kk : Int)) = xs.take kk := cutL_take xs z0
    have e1 : cutL (SV'.map pN) none (some (sv.length : Int)) = sv.map pN := by rw [cutL_take _ (by omega), Int.toNat_natCast, ← List.map_take, pre]
    rw [e1]
    refine ne_same (tN_plain sv) (tN_depth sv) ?_
    have hL := L.perm.length_eq
    rw [List.length_append, List.length_range] at hL
    simp only [kc]
    have e2 : List.map pN sv ++ List.map pN ws = (sv ++ ws).map pN := List.map_append.symm
    refine ⟨trivial, by omega, by rw [hc], by omega, _, by rw [e2]; exact allI_pN _, by omega, by omega, ?_⟩
    have e3 : (sortI ((sv ++ ws).map fun n : Nat => (n : Int))).map PyData.int = (List.range ((w.take kk).count 97)).map pN := by
      have := sortI_eq (ns := (sv ++ ws).map fun n : Nat => (n : Int)) (ms := (List.range ((w.take kk).count 97)).map fun n : Nat => (n : Int)) (L.perm.symm.map _) (List.pairwise_map.mpr (List.pairwise_lt_range.imp fun h => by omega))
      rw [← this, List.map_map]; rfl
    rw [e3, rangeP_pN]
    refine ne_same (lN_plain _) (lN_depth _) ⟨rfl, groups_ok gl (by omega) L ⟨rfl, by omega, .inl ⟨_, es1, lc_encM stepP stepP (fun t z hz k hk => ?_) ?_ ?_⟩⟩⟩
    · simpa [lcStep] using hk
    · rw [lB]; omega
    have lS : ((A.take kk).map stepP).length = kk := by rw [List.length_map, lB]
    refine lc_encF stepP (fun z => z.1 == 115) (fun z => pN z.2.1) (fun t z hz k k1 k2 => ?_) (by omega) ?_
    · simp [lcStep, stepP]
      simp at k1 k2
      by_cases c : z.1 = 115
      · simpa [c] using k1 c
      · simpa [c] using k2 c
    have e4 : ((A.take kk).filter fun z => z.1 == 115).map (fun z => pN z.2.1) = sv.map pN := by rw [← hsv]; unfold servedL; rw [List.map_map]; rfl
    rw [e4]
    refine ne_same (lN_plain _) (lN_depth _) ⟨rfl, ?_⟩
    dsimp only
    rw [lS]
    refine ⟨rfl, rfl, .inl (by simp [PyData.depth]), ?_⟩
    rw [show (!(PyData.int (kk : Int)).eqv (.int (kk : Int))) = false by simp]
    refine ⟨rfl, ?_⟩
    refine ite_both (fun hne R => ?_) ?_
    · have hne : A.take kk ≠ [] := fun e => by rw [e] at hne; simp at hne
      obtain ⟨T, z, eT⟩ : ∃ T z, A.take kk = T ++ [z] := ⟨_, _, (List.dropLast_concat_getLast hne).symm⟩
      have ez : z.2.2 = ws := by rw [← hws, eT, waitL_snoc]
      have e5 : atI ((A.take kk).map stepP) (-1) = some (stepP z) := by rw [eT, List.map_append]; exact atI_last _ _
      refine ⟨_, e5, _, rfl, ?_⟩
      rw [ez]
      exact ne_same (tN_plain _) (tN_depth _) ⟨rfl, R⟩
    refine .inl ⟨_, es2, lc_encM stepP stepP (fun t z hz k hk => ?_) ?_ ?_⟩
    · simpa [lcStep] using hk
    · rw [lA]; omega
    show gNe (.py (.list (cutL (A.map stepP) none (some (kk : Int))))) _ _
    rw [kc, ← List.map_take]
    refine ne_same (steps_plain _) (by have := steps_depth (A.take kk); simp only [PyData.depth]; omega) ⟨rfl, ?_⟩
    have wl : ∀ p ∈ ws, p < gs.length := fun p hp => by
      have := List.mem_range.mp (L.perm.mem_iff.mp (List.mem_append_right sv hp))
      omega
    have mt : ∀ p ∈ ws, atI ((matesL gs).map oN) (p : Int) = some (oN (mateOf gs p)) := fun p hp => by
      rw [matesL_map]
      exact atI_map (List.getElem?_range (wl p hp))
    have inw : ∀ p, ((ws.map pN).any fun y => PyData.eqv y (oN (mateOf gs p))) = (match mateOf gs p with | some m => decide (m ∈ ws) | none => false) := fun p => by
      rw [Bool.eq_iff_iff, List.any_eq_true]
      have := ex_pN ws (mateOf gs p)
      constructor
      · rintro ⟨y, hy, e⟩
        obtain ⟨q, hq, rfl⟩ := List.mem_map.mp hy
        obtain ⟨m, em, hm⟩ := this.mp ⟨q, hq, e⟩
        rw [em]; simpa using hm
      · intro h
        cases em : mateOf gs p with
        | none => rw [em] at h; cases h
        | some m =>
          rw [em] at h
          obtain ⟨q, hq, e⟩ := this.mpr ⟨m, em, by simpa using h⟩
          exact ⟨_, List.mem_map_of_mem hq, by rw [em] at e; exact e⟩
    refine lc_encF' (L := ws) pN (fun p => match mateOf gs p with | some m => decide (m ∈ ws) | none => false) pN (fun t z hz k k1 k2 => ?_) (by omega) ?_
    · have hz := List.mem_of_getElem? hz
      rw [← inw z] at k1 k2
      simp [lcStep, -List.any_map]
      refine ⟨by omega, _, mt z hz, ?_⟩
      have fin : (if ((ws.map pN).any fun y => PyData.eqv y (oN (mateOf gs z))) = true then k (some (pN z)) else k none) := by
        split
        · rename_i c; exact k1 c
        · rename_i c; exact k2 (by simpa using c)
      have hd := oN_depth (mateOf gs z)
      have hp := oN_plain (mateOf gs z)
      cases hm : mateOf gs z <;> rw [hm] at fin hd hp <;> exact ⟨hp, plain_pN _, .inl (by rw [hd]; omega), fin⟩
    · have lf : (ws.filter fun p => match mateOf gs p with | some m => decide (m ∈ ws) | none => false).length ≤ ws.length := List.length_filter_le _ _
      have hF : ∀ p ∈ ws.filter fun p => match mateOf gs p with | some m => decide (m ∈ ws) | none => false, p ∈ ws ∧ ∃ m, mateOf gs p = some m ∧ m ∈ ws := fun p hp => by
        obtain ⟨h1, h2⟩ := List.mem_filter.mp hp
        refine ⟨h1, ?_⟩
        cases em : mateOf gs p with
        | none => rw [em] at h2; cases h2
        | some m => rw [em] at h2; exact ⟨m, rfl, by simpa using h2⟩
      generalize ws.filter (fun p => match mateOf gs p with | some m => decide (m ∈ ws) | none => false) = F at *
      refine lc_encF (L := F) pN (fun _ => false) pN (fun t z hz k k1 k2 => ?_) (by omega) ?_
      · obtain ⟨hz, m, em, hm⟩ := hF z (List.mem_of_getElem? hz)
        have hj := List.idxOf_lt_length_of_mem hm
        have hn1 := L.adj (ws.idxOf m) m z (List.getElem?_eq_some_iff.mpr ⟨hj, List.getElem_idxOf hj⟩) hz em
        have hix := idx_getZ L.qi.nd hn1
        have hat : atI (ws.map pN) ((ws.idxOf m : Nat) : Int) = some (pN m) := atI_map (List.getElem?_eq_some_iff.mpr ⟨hj, List.getElem_idxOf hj⟩)
        simp [lcStep]
        refine ⟨plain_pN _, rfl, .inl (by simp [pN, PyData.depth]), _, ix_pN hz, _, (by rw [hix]; simpa using hat), by omega, _, mt z hz, ?_⟩
        rw [em]
        refine ⟨rfl, rfl, .inl (Nat.zero_le _), ?_⟩
        rw [show (!PyData.eqv (pN m) (oN (some m))) = false by simp [pN, oN]]
        exact k2 rfl
      · rw [show F.filter (fun _ => false) = [] from List.filter_eq_nil_iff.mpr (fun _ _ => Bool.false_ne_true)]
        exact ⟨rfl, (hn _ ⟨_, _, _, _, _, _, _, _, _, _, rfl⟩).1⟩
  · obtain ⟨a, b, c, d, e, f, g, h, i, j, rfl⟩ := iv
    simp
end LawP
set_option Elab.async false
set_option linter.all false
set_option maxRecDepth 100000
set_option maxHeartbeats 4000000
namespace LawP
open PySem PySem.Spec PyProof.Rows L2 VL
abbrev topS (i : Nat) : Stmt := PySem.Challenge.pw_matesline_k09_whole_words_go_on.main.body.getD i (.Pass ⟨0, 0, 0, 0⟩)
section
variable {P : Program} {w : World} {K : PySem.W.Frag} {mg : Str → Option Value} {base : Heap} {b : Bg} {f : Addr} {fd : FuncData}
abbrev s_BadWord : Stmt := clsDef (topS 2) 0
theorem sc_BadWord : FnScope ["self", "error"] ["self", "error"] (defScope s_BadWord) := ⟨rfl, rfl, rfl, by decide +kernel, rfl, by decide +kernel, by decide +kernel⟩
theorem wi_BadWord {fa : Addr} (F : Fun K "__init__" "BadWord.__init__" s_BadWord fa fd) : FnOk P w K mg base (L2.CX P w) 1 fa fd ["self", "error"] (spInit K "error") := ok_init F sc_BadWord rfl rfl rfl (by decide) (by decide)
abbrev s_law_drawn : Stmt := topS 17
abbrev N_law_drawn : List Str := ["_law_bag", "_law_most", "_law_many", "_law_way", "_law_kinds", "_law_names", "_law_k"]
theorem sc_law_drawn : FnScope N_law_drawn ["_law_bag", "_law_most"] (defScope s_law_drawn) := ⟨rfl, rfl, rfl, by decide +kernel, rfl, by decide +kernel, by decide +kernel⟩
theorem w_law_drawn {S : SV} {S_law_take : SV} {S_law_pick : SV} (F : Fun K "_law_drawn" "_law_drawn" s_law_drawn f fd) (F_law_take : Cal P w K mg base b 1 "_law_take" ["_law_bag", "_law_many"] S_law_take) (F_law_pick : Cal P w K mg base b 2 "_law_pick" ["_law_bag", "_law_items"] S_law_pick) (n_range : mg "range" = none) (n_tuple : mg "tuple" = none) (hlen : ∀ ds Q E, S ds Q E → ds.length = 2)
    (law : ∀ ds Q E, S ds Q E → t_law_drawn S_law_take S_law_pick (envOf 7 ds) (fin Q E)) : FnOk P w K mg base (L2.CX P w) 3 f fd ["_law_bag", "_law_most"] (spV b S) := by
  refine fnV F sc_law_drawn hlen (by decide) (fun cdv A outer s H E hr tk => ?_) law
  have hu := hr.units
  exact (vs_cons (vs_par2 (i := 2) (j := 3) rfl sc_law_drawn.nd rfl rfl (by decide) rfl rfl (vm_sh (ve_add (VE.toX ve_int) (VE.toX (ve_cal F_law_take hr tk (by rfl) (va_cons (ve_var (pv 0)) (va_cons (ve_var (pv 1)) va_nil))))) (vm_sh (ve_cal F_law_take hr tk (by rfl) (va_cons (ve_var (pv 0)) (va_cons ve_int va_nil))) vm_nil)) (by rfl))
      (vs_cons (vs_asg (i := 4) sc_law_drawn.nd rfl (.inr rfl) (ve_ix (VN.toX (vn_lst (va_cons ve_int (va_cons ve_int (va_cons (ve_add (VE.toX ve_int) (VE.toX (ve_fdiv (vx_var (pv 2)) (VE.toX ve_int)))) (va_cons (ve_var (pv 2)) (va_cons ve_int (va_cons ve_int va_nil)))))))) (vx_var (pv 3))))
      (vs_cons (vs_asg (i := 5) sc_law_drawn.nd rfl (.inr rfl) (VN.toE (vn_lc (own := [("_law_k", 6)]) rfl sc_law_drawn.nd (vib_range1 (by rfl) n_range (vxs_cons (vx_var (pv 4)) vxs_nil)) (blkOk_by (N := N_law_drawn) (sc := defScope s_law_drawn) (by decide +kernel)) (by decide) (fun _ _ _ _ _ => (vg_name (i := 6) sc_law_drawn.nd rfl (.inl rfl))) (fun _ _ _ _ _ => vts_nil) (fun _ _ _ _ _ => (ve_cal F_law_pick hr takes0 (by rfl) (va_cons (ve_var (pv 0)) (va_cons (VN.toE (vn_lst (va_cons (ve_var (pv 6)) (va_cons (ve_sub (VE.toX (ve_pow (VE.toX ve_int) (VE.toX ve_int))) (vx_var (pv 6))) (va_cons (ve_add (VE.toX (ve_mulA (VE.toX ve_int) (vx_var (pv 6)))) (VE.toX (ve_cal F_law_take hr takes0 (by rfl) (va_cons (ve_var (pv 0)) (va_cons ve_int va_nil))))) va_nil))))) va_nil)))))))
      (vs_cons (vs_if (vt_eq hu (vx_var (pv 3)) (VE.toX ve_int))
      (vs_one (vs_ret (ve_tupleC (by rfl) n_tuple (vxs_cons (VN.toX (vn_lc (own := [("_law_k", 6)]) rfl sc_law_drawn.nd (vib_range1 (by rfl) n_range (vxs_cons (vx_var (pv 2)) vxs_nil)) (blkOk_by (N := N_law_drawn) (sc := defScope s_law_drawn) (by decide +kernel)) (by decide) (fun _ _ _ _ _ => (vg_name (i := 6) sc_law_drawn.nd rfl (.inl rfl))) (fun _ _ _ _ _ => vts_nil) (fun _ _ _ _ _ => (ve_ix (vx_var (pv 5)) (VE.toX (ve_mod (VE.toX (ve_fdiv (vx_var (pv 6)) (VE.toX ve_int))) (vx_var (pv 4)))))))) vxs_nil))))
      vs_nil)
      (vs_one (vs_ret (ve_tupleC (by rfl) n_tuple (vxs_cons (VN.toX (vn_lc (own := [("_law_k", 6)]) rfl sc_law_drawn.nd (vib_range1 (by rfl) n_range (vxs_cons (vx_var (pv 2)) vxs_nil)) (blkOk_by (N := N_law_drawn) (sc := defScope s_law_drawn) (by decide +kernel)) (by decide) (fun _ _ _ _ _ => (vg_name (i := 6) sc_law_drawn.nd rfl (.inl rfl))) (fun _ _ _ _ _ => vts_nil) (fun _ _ _ _ _ => (ve_ix (vx_var (pv 5)) (VE.toX (ve_cal F_law_take hr takes0 (by rfl) (va_cons (ve_var (pv 0)) (va_cons (ve_var (pv 4)) va_nil)))))))) vxs_nil))))))))
abbrev s_law_word : Stmt := topS 18
abbrev N_law_word : List Str := ["_law_bag", "_law_many", "_law_way", "_law_letters", "_law_here", "_law_left", "_law_serves"]
theorem sc_law_word : FnScope N_law_word ["_law_bag", "_law_many", "_law_way"] (defScope s_law_word) := ⟨rfl, rfl, rfl, by decide +kernel, rfl, by decide +kernel, by decide +kernel⟩
theorem w_law_word {S : SV} {S_law_take : SV} (F : Fun K "_law_word" "_law_word" s_law_word f fd) (F_law_take : Cal P w K mg base b 1 "_law_take" ["_law_bag", "_law_many"] S_law_take) (n_int : mg "int" = none) (hlen : ∀ ds Q E, S ds Q E → ds.length = 3)
    (law : ∀ ds Q E, S ds Q E → t_law_word S_law_take (envOf 7 ds) (fin Q E)) : FnOk P w K mg base (L2.CX P w) 2 f fd ["_law_bag", "_law_many", "_law_way"] (spV b S) := by
  refine fnV F sc_law_word hlen (by decide) (fun cdv A outer s H E hr tk => ?_) law
  have hu := hr.units
  exact (vs_cons (vs_par3 (i := 3) (j := 4) (k := 5) rfl sc_law_word.nd rfl rfl rfl (by decide) (by decide) (by decide) rfl rfl rfl (vm_nw (vn_lst va_nil) (vm_sh ve_int (vm_sh (ve_var (pv 1)) vm_nil))) (by rfl))
      (vs_cons (vs_while (passes_of rfl) (vt_gt (VE.toX (ve_add (vx_var (pv 5)) (vx_var (pv 4)))) (VE.toX ve_int))
      (vs_cons (vs_asg (i := 6) sc_law_word.nd rfl (.inl rfl) (ve_ix (VN.toX (vn_lst (va_cons (ve_cal F_law_take hr tk (by rfl) (va_cons (ve_var (pv 0)) (va_cons ve_int va_nil))) (va_cons ve_int (va_cons ve_int (va_cons (ve_intC (by rfl) n_int (vxs_cons (VE.toX (ve_gt (VE.toX (ve_cal F_law_take hr tk (by rfl) (va_cons (ve_var (pv 0)) (va_cons ve_int va_nil)))) (VE.toX ve_int))) vxs_nil)) (va_cons (ve_intC (by rfl) n_int (vxs_cons (VE.toX (ve_gt (vx_var (pv 4)) (VE.toX ve_int))) vxs_nil)) va_nil))))))) (vx_var (pv 2))))
      (vs_one (vs_if (VWe.pt (vw_or (vt_eq hu (vx_var (pv 5)) (VE.toX ve_int)) (vw_or1 (VWe.pt (vw_and (vt_gt (vx_var (pv 4)) (VE.toX ve_int)) (vw_and1 (vt_eq hu (vx_var (pv 6)) (VE.toX ve_int))))))))
      (vs_cons (vs_app (pv 3) (va_cons ve_str va_nil))
      (vs_one (vs_asg (i := 4) sc_law_word.nd rfl (.inl rfl) (ve_sub (vx_var (pv 4)) (VE.toX ve_int)))))
      (vs_cons (vs_app (pv 3) (va_cons ve_str va_nil))
      (vs_one (vs_par2 (i := 4) (j := 5) rfl sc_law_word.nd rfl rfl (by decide) rfl rfl (vm_sh (ve_add (vx_var (pv 4)) (VE.toX ve_int)) (vm_sh (ve_sub (vx_var (pv 5)) (VE.toX ve_int)) vm_nil)) (by rfl))))))))
      (vs_one (vs_ret (ve_mth mx_join (VE.toX ve_str) (vxs_cons (vx_var (pv 3)) vxs_nil))))))
abbrev s_word_error : Stmt := topS 7
abbrev N_word_error : List Str := ["row", "value", "wrong", "arrivals", "services", "at", "letter"]
theorem sc_word_error : FnScope N_word_error ["row", "value"] (defScope s_word_error) := ⟨rfl, rfl, rfl, by decide +kernel, rfl, by decide +kernel, by decide +kernel⟩
theorem w_word_error {S : SV} (F : Fun K "word_error" "word_error" s_word_error f fd) (c_ARRIVAL : ∃ t, mg "ARRIVAL" = some (.str "a" t)) (c_SERVICE : ∃ t, mg "SERVICE" = some (.str "s" t)) (n_isinstance : mg "isinstance" = none) (n_str : mg "str" = none) (n_enumerate : mg "enumerate" = none) (n_len : mg "len" = none) (hlen : ∀ ds Q E, S ds Q E → ds.length = 2)
    (law : ∀ ds Q E, S ds Q E → t_word_error (envOf 7 ds) (fin Q E)) : FnOk P w K mg base (L2.CX P w) 1 f fd ["row", "value"] (spV b S) := by
  refine fnV F sc_word_error hlen (by decide) (fun cdv A outer s H E hr tk => ?_) law
  have hu := hr.units
  exact (vs_cons (vs_if (vt_not (vt_val (VE.toX (ve_isi (by rfl) n_isinstance (vxs_cons (vx_var (pv 1)) (vxs_cons (VE.toX (ve_tyStr (by rfl) n_str)) vxs_nil))))))
      (vs_one (vs_ret (ve_tup (va_cons ve_non (va_cons ve_str va_nil)))))
      vs_nil)
      (vs_cons (vs_setLcE (i := 2) (own := [("at", 5), ("letter", 6)]) rfl sc_word_error.nd rfl rfl (by rfl) (vib_enum (by rfl) n_enumerate (vxs_cons (vx_var (pv 1)) vxs_nil)) (blkOk_by (N := N_word_error) (sc := defScope s_word_error) (by decide +kernel)) (by decide) (fun _ _ _ _ _ => (vg_tup rfl (vgs_cons (vg_name (i := 5) sc_word_error.nd rfl (.inl rfl)) (vgs_cons (vg_name (i := 6) sc_word_error.nd rfl (.inl rfl)) vgs_nil)))) (fun _ _ _ _ _ => (vts_one (vt_notIn hu (vx_var (pv 6)) (VE.toX (ve_tup (va_cons (ve_gstr (by rfl) c_ARRIVAL) (va_cons (ve_gstr (by rfl) c_SERVICE) va_nil))))))) (fun _ _ _ _ _ => (ve_var (pv 5))))
      (vs_cons (vs_if (vt_ne hu (vx_var (pv 2)) (VN.toX (vn_lst va_nil)))
      (vs_one (vs_ret (ve_tup (va_cons (ve_ix (vx_var (pv 2)) (VE.toX ve_int)) (va_cons ve_str va_nil)))))
      vs_nil)
      (vs_cons (vs_parT (is := [3, 4]) rfl (pgs_cons (pg_name (i := 3) sc_word_error.nd rfl (.inl rfl)) (pgs_cons (pg_name (i := 4) sc_word_error.nd rfl (.inl rfl)) pgs_nil)) (vm_sh ve_int (vm_sh ve_int vm_nil)))
      (vs_cons (vs_for (passes_of rfl) rfl (vi_enum (by rfl) n_enumerate (va_cons (ve_var (pv 1)) va_nil)) (vg_tup rfl (vgs_cons (vg_name (i := 5) sc_word_error.nd rfl (.inl rfl)) (vgs_cons (vg_name (i := 6) sc_word_error.nd rfl (.inl rfl)) vgs_nil)))
      (vs_one (vs_if (vt_eq hu (vx_var (pv 6)) (VE.toX (ve_gstr (by rfl) c_ARRIVAL)))
      (vs_cons (vs_if (vt_eq hu (vx_var (pv 3)) (VE.toX (ve_len (by rfl) n_len (vxs_cons (vx_var (pv 0)) vxs_nil))))
      (vs_one (vs_ret (ve_tup (va_cons (ve_var (pv 5)) (va_cons ve_str va_nil)))))
      vs_nil)
      (vs_one (vs_augAdd (i := 3) sc_word_error.nd rfl (.inl rfl) ve_int)))
      (vs_cons (vs_if (vt_eq hu (vx_var (pv 4)) (vx_var (pv 3)))
      (vs_one (vs_ret (ve_tup (va_cons (ve_var (pv 5)) (va_cons ve_str va_nil)))))
      vs_nil)
      (vs_one (vs_augAdd (i := 4) sc_word_error.nd rfl (.inl rfl) ve_int))))))
      (vs_one (vs_ret ve_non)))))))
abbrev s_check_word : Stmt := topS 10
abbrev N_check_word : List Str := ["row", "value", "error"]
theorem sc_check_word : FnScope N_check_word ["row", "value"] (defScope s_check_word) := ⟨rfl, rfl, rfl, by decide +kernel, rfl, by decide +kernel, by decide +kernel⟩
theorem w_check_word {S : SV} {S_word_error : SV} (F : Fun K "check_word" "check_word" s_check_word f fd) (F_word_error : Cal P w K mg base b 1 "word_error" ["row", "value"] S_word_error) (M_BadWord : Mk1 P w K mg base b "BadWord" "error") (hlen : ∀ ds Q E, S ds Q E → ds.length = 2)
    (law : ∀ ds Q E, S ds Q E → t_check_word S_word_error (envOf 3 ds) (fin Q E)) : FnOk P w K mg base (L2.CX P w) 3 f fd ["row", "value"] (spV b S) := by
  refine fnV F sc_check_word hlen (by decide) (fun cdv A outer s H E hr tk => ?_) law
  exact (vs_cons (vs_asg (i := 2) sc_check_word.nd rfl (.inl rfl) (ve_cal F_word_error hr tk (by rfl) (va_cons (ve_var (pv 0)) (va_cons (ve_var (pv 1)) va_nil))))
      (vs_one (vs_if (vt_notN (vx_var (pv 2)) (VE.toX ve_non))
      (vs_one (vs_raise1 M_BadWord hr rfl tk (by rfl) (ve_var (pv 2))))
      vs_nil)))
abbrev s_mates : Stmt := topS 6
abbrev N_mates : List Str := ["row", "found", "last", "person", "group"]
theorem sc_mates : FnScope N_mates ["row"] (defScope s_mates) := ⟨rfl, rfl, rfl, by decide +kernel, rfl, by decide +kernel, by decide +kernel⟩
theorem w_mates {S : SV} (F : Fun K "mates" "mates" s_mates f fd) (n_enumerate : mg "enumerate" = none) (n_tuple : mg "tuple" = none) (hlen : ∀ ds Q E, S ds Q E → ds.length = 1)
    (law : ∀ ds Q E, S ds Q E → t_mates (envOf 5 ds) (fin Q E)) : FnOk P w K mg base (L2.CX P w) 1 f fd ["row"] (spV b S) := by
  refine fnV F sc_mates hlen (by decide) (fun cdv A outer s H E hr tk => ?_) law
  exact (vs_cons (vs_par2 (i := 1) (j := 2) rfl sc_mates.nd rfl rfl (by decide) rfl rfl (vm_nw (vn_lst va_nil) (vm_nw vn_dict0 vm_nil)) (by rfl))
      (vs_cons (vs_for (passes_of rfl) rfl (vi_enum (by rfl) n_enumerate (va_cons (ve_var (pv 0)) va_nil)) (vg_tup rfl (vgs_cons (vg_name (i := 3) sc_mates.nd rfl (.inl rfl)) (vgs_cons (vg_name (i := 4) sc_mates.nd rfl (.inl rfl)) vgs_nil)))
      (vs_cons (vs_app (pv 1) (va_cons (ve_dget2 (hu_of hr) (vx_var (pv 2)) (ve_var (pv 4)) ve_non ⟨rfl, rfl, rfl, rfl⟩) va_nil))
      (vs_one (vs_dputO (hu_of hr) (pv 2) (ve_var (pv 4)) (ve_var (pv 3))))))
      (vs_one (vs_ret (ve_tupleC (by rfl) n_tuple (vxs_cons (vx_var (pv 1)) vxs_nil))))))
abbrev s_queue_with : Stmt := topS 8
abbrev N_queue_with : List Str := ["waiting", "person", "mate", "at"]
theorem sc_queue_with : FnScope N_queue_with ["waiting", "person", "mate"] (defScope s_queue_with) := ⟨rfl, rfl, rfl, by decide +kernel, rfl, by decide +kernel, by decide +kernel⟩
theorem w_queue_with {S : SV} (F : Fun K "queue_with" "queue_with" s_queue_with f fd) (n_len : mg "len" = none) (hlen : ∀ ds Q E, S ds Q E → ds.length = 3)
    (law : ∀ ds Q E, S ds Q E → t_queue_with (envOf 4 ds) (fin Q E)) : FnOk P w K mg base (L2.CX P w) 1 f fd ["waiting", "person", "mate"] (spV b S) := by
  refine fnV F sc_queue_with hlen (by decide) (fun cdv A outer s H E hr tk => ?_) law
  have hu := hr.units
  exact (vs_cons (vs_asg (i := 3) sc_queue_with.nd rfl (.inl rfl) (ve_if (vt_in hu (vx_var (pv 2)) (vx_var (pv 0))) (ve_add (VE.toX (ve_mth (mx_index (hu65 hr)) (vx_var (pv 0)) (vxs_cons (vx_var (pv 2)) vxs_nil))) (VE.toX ve_int)) (ve_len (by rfl) n_len (vxs_cons (vx_var (pv 0)) vxs_nil))))
      (vs_one (vs_ret (ve_add (VE.toX (ve_add (VE.toX (ve_sl (vx_var (pv 0)) vo_no (vo_at (vx_var (pv 3))))) (VE.toX (ve_tup (va_cons (ve_var (pv 1)) va_nil))))) (VE.toX (ve_sl (vx_var (pv 0)) (vo_at (vx_var (pv 3))) vo_no))))))
abbrev s_steps_of : Stmt := topS 9
abbrev N_steps_of : List Str := ["row", "word", "found", "waiting", "arrived", "known", "letter", "person"]
theorem sc_steps_of : FnScope N_steps_of ["row", "word"] (defScope s_steps_of) := ⟨rfl, rfl, rfl, by decide +kernel, rfl, by decide +kernel, by decide +kernel⟩
theorem w_steps_of {S : SV} {S_mates : SV} {S_queue_with : SV} (F : Fun K "steps_of" "steps_of" s_steps_of f fd) (F_mates : Cal P w K mg base b 1 "mates" ["row"] S_mates) (F_queue_with : Cal P w K mg base b 1 "queue_with" ["waiting", "person", "mate"] S_queue_with) (c_ARRIVAL : ∃ t, mg "ARRIVAL" = some (.str "a" t)) (hlen : ∀ ds Q E, S ds Q E → ds.length = 2)
    (law : ∀ ds Q E, S ds Q E → t_steps_of S_mates S_queue_with (envOf 8 ds) (fin Q E)) : FnOk P w K mg base (L2.CX P w) 2 f fd ["row", "word"] (spV b S) := by
  refine fnV F sc_steps_of hlen (by decide) (fun cdv A outer s H E hr tk => ?_) law
  have hu := hr.units
  exact (vs_cons (vs_parT (is := [2, 3, 4, 5]) rfl (pgs_cons (pg_name (i := 2) sc_steps_of.nd rfl (.inl rfl)) (pgs_cons (pg_name (i := 3) sc_steps_of.nd rfl (.inl rfl)) (pgs_cons (pg_name (i := 4) sc_steps_of.nd rfl (.inl rfl)) (pgs_cons (pg_name (i := 5) sc_steps_of.nd rfl (.inl rfl)) pgs_nil)))) (vm_nw (vn_lst va_nil) (vm_sh (ve_tup va_nil) (vm_sh ve_int (vm_sh (ve_cal F_mates hr tk (by rfl) (va_cons (ve_var (pv 0)) va_nil)) vm_nil)))))
      (vs_cons (vs_for (passes_of rfl) rfl (vi_src (ve_var (pv 1))) (vg_name (i := 6) sc_steps_of.nd rfl (.inl rfl))
      (vs_cons (vs_if (vt_eq hu (vx_var (pv 6)) (VE.toX (ve_gstr (by rfl) c_ARRIVAL)))
      (vs_cons (vs_par2 (i := 7) (j := 4) rfl sc_steps_of.nd rfl rfl (by decide) rfl rfl (vm_sh (ve_var (pv 4)) (vm_sh (ve_add (vx_var (pv 4)) (VE.toX ve_int)) vm_nil)) (by rfl))
      (vs_one (vs_asg (i := 3) sc_steps_of.nd rfl (.inl rfl) (ve_cal F_queue_with hr tk (by rfl) (va_cons (ve_var (pv 3)) (va_cons (ve_var (pv 7)) (va_cons (ve_ix (vx_var (pv 5)) (vx_var (pv 7))) va_nil)))))))
      (vs_one (vs_par2 (i := 7) (j := 3) rfl sc_steps_of.nd rfl rfl (by decide) rfl rfl (vm_sh (ve_ix (vx_var (pv 3)) (VE.toX ve_int)) (vm_sh (ve_sl (vx_var (pv 3)) (vo_at (VE.toX ve_int)) vo_no) vm_nil)) (by rfl))))
      (vs_one (vs_app (pv 2) (va_cons (ve_tup (va_cons (ve_var (pv 6)) (va_cons (ve_var (pv 7)) (va_cons (ve_var (pv 3)) va_nil)))) va_nil)))))
      (vs_one (vs_frz 2 (vs_ret (ve_var (pv 2)))))))
abbrev s_run : Stmt := topS 11
abbrev N_run : List Str := ["row", "word", "steps", "served", "letter", "person", "waiting"]
theorem sc_run : FnScope N_run ["row", "word"] (defScope s_run) := ⟨rfl, rfl, rfl, by decide +kernel, rfl, by decide +kernel, by decide +kernel⟩
theorem w_run {S : SV} {S_check_word : SV} {S_steps_of : SV} (F : Fun K "run" "run" s_run f fd) (F_check_word : Cal P w K mg base b 3 "check_word" ["row", "value"] S_check_word) (F_steps_of : Cal P w K mg base b 2 "steps_of" ["row", "word"] S_steps_of) (c_SERVICE : ∃ t, mg "SERVICE" = some (.str "s" t)) (n_tuple : mg "tuple" = none) (hlen : ∀ ds Q E, S ds Q E → ds.length = 2)
    (law : ∀ ds Q E, S ds Q E → t_run S_check_word S_steps_of (envOf 7 ds) (fin Q E)) : FnOk P w K mg base (L2.CX P w) 4 f fd ["row", "word"] (spV b S) := by
  refine fnV F sc_run hlen (by decide) (fun cdv A outer s H E hr tk => ?_) law
  have hu := hr.units
  exact (vs_cons (vs_expr (ve_cal F_check_word hr tk (by rfl) (va_cons (ve_var (pv 0)) (va_cons (ve_var (pv 1)) va_nil))))
      (vs_cons (vs_asg (i := 2) sc_run.nd rfl (.inl rfl) (ve_cal F_steps_of hr tk (by rfl) (va_cons (ve_var (pv 0)) (va_cons (ve_var (pv 1)) va_nil))))
      (vs_cons (vs_setLcE (i := 3) (own := [("letter", 4), ("person", 5), ("waiting", 6)]) rfl sc_run.nd rfl rfl (by rfl) (vib_src (vx_var (pv 2))) (blkOk_by (N := N_run) (sc := defScope s_run) (by decide +kernel)) (by decide) (fun _ _ _ _ _ => (vg_tup rfl (vgs_cons (vg_name (i := 4) sc_run.nd rfl (.inl rfl)) (vgs_cons (vg_name (i := 5) sc_run.nd rfl (.inl rfl)) (vgs_cons (vg_name (i := 6) sc_run.nd rfl (.inl rfl)) vgs_nil))))) (fun _ _ _ _ _ => (vts_one (vt_eq hu (vx_var (pv 4)) (VE.toX (ve_gstr (by rfl) c_SERVICE))))) (fun _ _ _ _ _ => (ve_var (pv 5))))
      (vs_one (vs_ret (ve_tup (va_cons (ve_tupleC (by rfl) n_tuple (vxs_cons (vx_var (pv 3)) vxs_nil)) (va_cons (ve_if (vt_ne hu (vx_var (pv 2)) (VN.toX (vn_lst va_nil))) (ve_ix (VE.toX (ve_ix (vx_var (pv 2)) (VE.toX (ve_neg (VE.toX ve_int))))) (VE.toX ve_int)) (ve_tup va_nil)) va_nil))))))))
abbrev s_law_groups_right : Stmt := topS 19
abbrev N_law_groups_right : List Str := ["_law_row", "_law_served", "_law_waiting", "_law_line", "_law_crew", "_law_members", "_law_places", "_law_apart", "_law_person", "_law_k"]
theorem sc_law_groups_right : FnScope N_law_groups_right ["_law_row", "_law_served", "_law_waiting"] (defScope s_law_groups_right) := ⟨rfl, rfl, rfl, by decide +kernel, rfl, by decide +kernel, by decide +kernel⟩
theorem w_law_groups_right {S : SV} (F : Fun K "_law_groups_right" "_law_groups_right" s_law_groups_right f fd) (n_sorted : mg "sorted" = none) (n_set : mg "set" = none) (n_range : mg "range" = none) (n_len : mg "len" = none) (hlen : ∀ ds Q E, S ds Q E → ds.length = 3)
    (law : ∀ ds Q E, S ds Q E → t_law_groups_right (envOf 10 ds) (fin Q E)) : FnOk P w K mg base (L2.CX P w) 1 f fd ["_law_row", "_law_served", "_law_waiting"] (spV b S) := by
  refine fnV F sc_law_groups_right hlen (by decide) (fun cdv A outer s H E hr tk => ?_) law
  have hu := hr.units
  exact (vs_cons (vs_asg (i := 3) sc_law_groups_right.nd rfl (.inl rfl) (ve_add (vx_var (pv 1)) (vx_var (pv 2))))
      (vs_cons (vs_for (passes_of rfl) rfl (vi_src (ve_sortSet rfl (by rfl) n_sorted (by rfl) n_set (vx_var (pv 0)))) (vg_name (i := 4) sc_law_groups_right.nd rfl (.inr rfl))
      (vs_cons (vs_setLcE (i := 5) (own := [("_law_person", 8)]) rfl sc_law_groups_right.nd rfl rfl (by rfl) (vib_src (vx_var (pv 3))) (blkOk_by (N := N_law_groups_right) (sc := defScope s_law_groups_right) (by decide +kernel)) (by decide) (fun _ _ _ _ _ => (vg_name (i := 8) sc_law_groups_right.nd rfl (.inl rfl))) (fun _ _ _ _ _ => (vts_one (vt_eq hu (VE.toX (ve_ix (vx_var (pv 0)) (vx_var (pv 8)))) (vx_var (pv 4))))) (fun _ _ _ _ _ => (ve_var (pv 8))))
      (vs_cons (vs_asg (i := 6) sc_law_groups_right.nd rfl (.inr rfl) (VN.toE (vn_lc (own := [("_law_person", 8)]) rfl sc_law_groups_right.nd (vib_src (vx_var (pv 2))) (blkOk_by (N := N_law_groups_right) (sc := defScope s_law_groups_right) (by decide +kernel)) (by decide) (fun _ _ _ _ _ => (vg_name (i := 8) sc_law_groups_right.nd rfl (.inl rfl))) (fun _ _ _ _ _ => (vts_one (vt_eq hu (VE.toX (ve_ix (vx_var (pv 0)) (vx_var (pv 8)))) (vx_var (pv 4))))) (fun _ _ _ _ _ => (ve_mth (mx_index (hu65 hr)) (vx_var (pv 2)) (vxs_cons (vx_var (pv 8)) vxs_nil))))))
      (vs_cons (vs_setLcE (i := 7) (own := [("_law_k", 9)]) rfl sc_law_groups_right.nd rfl rfl (by rfl) (vib_range1 (by rfl) n_range (vxs_cons (VE.toX (ve_len (by rfl) n_len (vxs_cons (vx_var (pv 6)) vxs_nil))) vxs_nil)) (blkOk_by (N := N_law_groups_right) (sc := defScope s_law_groups_right) (by decide +kernel)) (by decide) (fun _ _ _ _ _ => (vg_name (i := 9) sc_law_groups_right.nd rfl (.inl rfl))) (fun _ _ _ _ _ => (vts_one (vt_ne hu (VE.toX (ve_ix (vx_var (pv 6)) (vx_var (pv 9)))) (VE.toX (ve_add (VE.toX (ve_ix (vx_var (pv 6)) (VE.toX ve_int))) (vx_var (pv 9))))))) (fun _ _ _ _ _ => (ve_var (pv 9))))
      (vs_one (vs_if (VWe.pt (vw_or (vt_ne hu (vx_var (pv 5)) (VN.toX (vn_sortedC (by rfl) n_sorted (vxs_cons (vx_var (pv 5)) vxs_nil)))) (vw_or1 (vt_ne hu (vx_var (pv 7)) (VN.toX (vn_lst va_nil))))))
      (vs_one (vs_ret ve_bl))
      vs_nil))))))
      (vs_one (vs_ret ve_bl))))
abbrev s_each_step : Stmt := topS 12
abbrev N_each_step : List Str := ["row", "word"]
theorem sc_each_step : GScope N_each_step ["row", "word"] (defScope s_each_step) := ⟨rfl, rfl, rfl, by decide +kernel, rfl, by decide +kernel, by decide +kernel⟩
theorem w_each_step {S : SZ} {S_check_word : SV} {S_steps_of : SV} (F : Fun K "each_step" "each_step" s_each_step f fd) (F_check_word : Cal P w K mg base b 3 "check_word" ["row", "value"] S_check_word) (F_steps_of : Cal P w K mg base b 2 "steps_of" ["row", "word"] S_steps_of) (hlen : ∀ ds Y Q E, S ds Y Q E → ds.length = 2)
    (law : ∀ ds Y Q E, S ds Y Q E → t_each_step S_check_word S_steps_of (envOf 2 ds) 0 (finZ Y Q E)) : GFnZ P w K mg base b 4 f fd ["row", "word"] S := by
  refine fnZ F sc_each_step (fun _ => rfl) hlen (by decide) (fun cdv A outer n0 E pn a gi T J Y Q hr => ?_) law
  exact (vz_cons (vz_ps (fun _ _ _ _ => (vs_expr (ve_cal F_check_word hr takes_gcn (by rfl) (va_cons (ve_var (pv 0)) (va_cons (ve_var (pv 1)) va_nil))))))
      (vz_cons (vz_yieldFrom (fun _ _ _ _ => (ve_cal F_steps_of hr takes_gcn (by rfl) (va_cons (ve_var (pv 0)) (va_cons (ve_var (pv 1)) va_nil)))) hr.hd)
      vz_nil))
abbrev s_law : Stmt := topS 20
abbrev N_law : List Str := ["_law_script", "_law_bag", "_law_turn", "_law_row", "_law_word_here", "_law_cut", "_law_served", "_law_waiting", "_law_whole", "_law_steps", "_law_near", "_law_step", "_law_person"]
theorem sc_law : FnScope N_law ["_law_script"] (defScope s_law) := ⟨rfl, rfl, rfl, by decide +kernel, rfl, by decide +kernel, by decide +kernel⟩
theorem w_law {S_law_drawn : SV} {S_law_word : SV} {S_law_take : SV} {S_run : SV} {S_law_groups_right : SV} {S_each_step : SZ} {S_mates : SV} (F_law_drawn : Cal P w K mg base b 3 "_law_drawn" ["_law_bag", "_law_most"] S_law_drawn) (F_law_word : Cal P w K mg base b 2 "_law_word" ["_law_bag", "_law_many", "_law_way"] S_law_word) (F_law_take : Cal P w K mg base b 1 "_law_take" ["_law_bag", "_law_many"] S_law_take) (F_run : Cal P w K mg base b 4 "run" ["row", "word"] S_run) (F_law_groups_right : Cal P w K mg base b 1 "_law_groups_right" ["_law_row", "_law_served", "_law_waiting"] S_law_groups_right) (F_each_step : CalZ P w K mg base b 4 "each_step" ["row", "word"] S_each_step) (F_mates : Cal P w K mg base b 1 "mates" ["row"] S_mates) (n_range : mg "range" = none) (n_len : mg "len" = none) (n_sorted : mg "sorted" = none) (n_list : mg "list" = none) (NST : ∀ n, n ∈ (["BadWord"] : List Str) → NoSt K b n) (cdv : Value) (A : Around) (outer : List Env) (s : Shared) (H : Hp) (E : XK) (hr : Room 5 (A.deeper (envOfC "law" (defScope s_law) s.heap.objs.size f cdv))) (hgd : (A.deeper (envOfC "law" (defScope s_law) s.heap.objs.size f cdv)).guards = some []) (tk : Takes (cxOf (L2.CX P w) P w K mg base N_law "law" (defScope s_law) f cdv A outer s H E) (WF E)) : VSs (cxOf (L2.CX P w) P w K mg base N_law "law" (defScope s_law) f cdv A outer s H E) b (WF E) (defBody s_law).tail (t_law S_law_drawn S_law_word S_law_take S_run S_law_groups_right S_each_step S_mates) := by
  have hu := hr.units
  exact (vs_cons (vs_for (passes_of rfl) rfl (vi_range1 (by rfl) n_range (vxs_cons (VE.toX ve_int) vxs_nil)) (vg_name (i := 2) sc_law.nd rfl (.inl rfl))
      (vs_cons (vs_asg (i := 3) sc_law.nd rfl (.inr rfl) (ve_cal F_law_drawn hr tk (by rfl) (va_cons (ve_var (pv 1)) (va_cons (ve_ix (VN.toX (vn_lst (va_cons ve_int (va_cons ve_int va_nil)))) (VE.toX (ve_mod (vx_var (pv 2)) (VE.toX ve_int)))) va_nil))))
      (vs_cons (vs_asg (i := 4) sc_law.nd rfl (.inl rfl) (ve_cal F_law_word hr tk (by rfl) (va_cons (ve_var (pv 1)) (va_cons (ve_len (by rfl) n_len (vxs_cons (vx_var (pv 3)) vxs_nil)) (va_cons (ve_cal F_law_take hr tk (by rfl) (va_cons (ve_var (pv 1)) (va_cons ve_int va_nil))) va_nil)))))
      (vs_cons (vs_asg (i := 5) sc_law.nd rfl (.inl rfl) (ve_cal F_law_take hr tk (by rfl) (va_cons (ve_var (pv 1)) (va_cons (ve_add (VE.toX (ve_len (by rfl) n_len (vxs_cons (vx_var (pv 4)) vxs_nil))) (VE.toX ve_int)) va_nil))))
      (vs_cons (vs_asgT (ve_cal F_run hr tk (by rfl) (va_cons (ve_var (pv 3)) (va_cons (ve_sl (vx_var (pv 4)) vo_no (vo_at (vx_var (pv 5)))) va_nil))) (vg_tup rfl (vgs_cons (vg_name (i := 6) sc_law.nd rfl (.inl rfl)) (vgs_cons (vg_name (i := 7) sc_law.nd rfl (.inr rfl)) vgs_nil))))
      (vs_cons (vs_asg (i := 8) sc_law.nd rfl (.inl rfl) (ve_cal F_run hr tk (by rfl) (va_cons (ve_var (pv 3)) (va_cons (ve_var (pv 4)) va_nil))))
      (vs_cons (vs_if (VWe.pt (vw_or (vt_ne hu (VE.toX (ve_sl (VE.toX (ve_ix (vx_var (pv 8)) (VE.toX ve_int))) vo_no (vo_at (VE.toX (ve_len (by rfl) n_len (vxs_cons (vx_var (pv 6)) vxs_nil)))))) (vx_var (pv 6))) (vw_or (vt_ne hu (VE.toX (ve_ix (vx_var (pv 8)) (VE.toX ve_int))) (VE.toX (ve_tup va_nil))) (vw_or1 (vt_ne hu (VE.toX (ve_len (by rfl) n_len (vxs_cons (vx_var (pv 6)) vxs_nil))) (VE.toX (ve_mth mx_cnt (VE.toX (ve_sl (vx_var (pv 4)) vo_no (vo_at (vx_var (pv 5))))) (vxs_cons (VE.toX ve_str) vxs_nil))))))))
      (vs_one (vs_ret ve_bl))
      vs_nil)
      (vs_cons (vs_if (vt_ne hu (VN.toX (vn_sortedC (by rfl) n_sorted (vxs_cons (VE.toX (ve_add (vx_var (pv 6)) (vx_var (pv 7)))) vxs_nil))) (VN.toX (vn_listRg rfl (by rfl) n_list (by rfl) n_range (VE.toX (ve_mth mx_cnt (VE.toX (ve_sl (vx_var (pv 4)) vo_no (vo_at (vx_var (pv 5))))) (vxs_cons (VE.toX ve_str) vxs_nil))))))
      (vs_one (vs_ret ve_bl))
      vs_nil)
      (vs_cons (vs_if (vt_not (vt_val (VE.toX (ve_cal F_law_groups_right hr tk (by rfl) (va_cons (ve_var (pv 3)) (va_cons (ve_var (pv 6)) (va_cons (ve_var (pv 7)) va_nil)))))))
      (vs_one (vs_ret ve_bl))
      vs_nil)
      (vs_cons (vs_setLcZE (i := 9) (ns := (fun n => n ∈ (["BadWord"] : List Str))) (own := [("_law_step", 11)]) rfl rfl rfl sc_law.nd rfl rfl (blkOk_by (N := N_law) (sc := defScope s_law) (by decide +kernel)) (by decide +kernel) (by decide) (mk_call F_each_step hr (by rfl) (va_cons (ve_var (pv 3)) (va_cons (ve_sl (vx_var (pv 4)) vo_no (vo_at (vx_var (pv 5)))) va_nil))) NST hr tk (by rfl) (fun _ _ _ _ _ => (vg_name (i := 11) sc_law.nd rfl (.inl rfl))) (fun _ _ _ _ _ => vts_nil) (fun _ _ _ _ _ => (ve_var (pv 11))))
      (vs_cons (vs_if (VWe.pt (vw_or (vt_ne hu (VN.toX (vn_lc (own := [("_law_step", 11)]) rfl sc_law.nd (vib_src (vx_var (pv 9))) (blkOk_by (N := N_law) (sc := defScope s_law) (by decide +kernel)) (by decide) (fun _ _ _ _ _ => (vg_name (i := 11) sc_law.nd rfl (.inl rfl))) (fun _ _ _ _ _ => (vts_one (vt_eq hu (VE.toX (ve_ix (vx_var (pv 11)) (VE.toX ve_int))) (VE.toX ve_str)))) (fun _ _ _ _ _ => (ve_ix (vx_var (pv 11)) (VE.toX ve_int))))) (VN.toX (vn_listC (by rfl) n_list (vxs_cons (vx_var (pv 6)) vxs_nil)))) (vw_or1 (vt_ne hu (VE.toX (ve_len (by rfl) n_len (vxs_cons (vx_var (pv 9)) vxs_nil))) (vx_var (pv 5))))))
      (vs_one (vs_ret ve_bl))
      vs_nil)
      (vs_cons (vs_if (VWe.pt (vw_or (VWe.pt (vw_and (vt_ne hu (vx_var (pv 9)) (VN.toX (vn_lst va_nil))) (vw_and1 (vt_ne hu (VE.toX (ve_ix (VE.toX (ve_ix (vx_var (pv 9)) (VE.toX (ve_neg (VE.toX ve_int))))) (VE.toX ve_int))) (vx_var (pv 7)))))) (vw_or1 (vt_ne hu (VE.toX (ve_sl (VN.toX (vn_lcZ (ns := (fun n => n ∈ (["BadWord"] : List Str))) (own := [("_law_step", 11)]) rfl rfl rfl sc_law.nd (blkOk_by (N := N_law) (sc := defScope s_law) (by decide +kernel)) (by decide +kernel) (by decide) (mk_call F_each_step hr (by rfl) (va_cons (ve_var (pv 3)) (va_cons (ve_var (pv 4)) va_nil))) NST hr tk (fun _ _ _ _ _ => (vg_name (i := 11) sc_law.nd rfl (.inl rfl))) (fun _ _ _ _ _ => vts_nil) (fun _ _ _ _ _ => (ve_var (pv 11))))) vo_no (vo_at (vx_var (pv 5))))) (vx_var (pv 9))))))
      (vs_one (vs_ret ve_bl))
      vs_nil)
      (vs_cons (vs_setLcE (i := 10) (own := [("_law_person", 12)]) rfl sc_law.nd rfl rfl (by rfl) (vib_src (vx_var (pv 7))) (blkOk_by (N := N_law) (sc := defScope s_law) (by decide +kernel)) (by decide) (fun _ _ _ _ _ => (vg_name (i := 12) sc_law.nd rfl (.inl rfl))) (fun _ _ _ _ _ => (vts_one (vt_in hu (VE.toX (ve_ix (VE.toX (ve_cal F_mates hr takes0 (by rfl) (va_cons (ve_var (pv 3)) va_nil))) (vx_var (pv 12)))) (vx_var (pv 7))))) (fun _ _ _ _ _ => (ve_var (pv 12))))
      (vs_one (vs_if (vt_ne hu (VN.toX (vn_lc (own := [("_law_person", 12)]) rfl sc_law.nd (vib_src (vx_var (pv 10))) (blkOk_by (N := N_law) (sc := defScope s_law) (by decide +kernel)) (by decide) (fun _ _ _ _ _ => (vg_name (i := 12) sc_law.nd rfl (.inl rfl))) (fun _ _ _ _ _ => (vts_one (vt_ne hu (VE.toX (ve_ix (vx_var (pv 7)) (VE.toX (ve_sub (VE.toX (ve_mth (mx_index (hu65 hr)) (vx_var (pv 7)) (vxs_cons (vx_var (pv 12)) vxs_nil))) (VE.toX ve_int))))) (VE.toX (ve_ix (VE.toX (ve_cal F_mates hr takes0 (by rfl) (va_cons (ve_var (pv 3)) va_nil))) (vx_var (pv 12))))))) (fun _ _ _ _ _ => (ve_var (pv 12))))) (VN.toX (vn_lst va_nil)))
      (vs_one (vs_ret ve_bl))
      vs_nil)))))))))))))))
      (vs_one (vs_ret ve_bl)))
end
end LawP
set_option Elab.async false
set_option linter.all false
set_option maxRecDepth 100000
set_option maxHeartbeats 4000000
namespace LawP
open PySem PySem.Spec PyProof.Rows L2 VL
abbrev sOpened : Stmt := topS 14
abbrev sTake : Stmt := topS 15
abbrev sPick : Stmt := topS 16
theorem scOpened : FnScope ["_law_script", "_law_cells", "_law_cell"] ["_law_script"] (defScope sOpened) := ⟨rfl, rfl, rfl, by decide +kernel, rfl, by decide +kernel, by decide +kernel⟩
theorem scTake : FnScope ["_law_bag", "_law_many", "_law_rest", "_law_drawn_here", "_law_cells", "_law_seed"] ["_law_bag", "_law_many"] (defScope sTake) := ⟨rfl, rfl, rfl, by decide +kernel, rfl, by decide +kernel, by decide +kernel⟩
theorem scPick : FnScope ["_law_bag", "_law_items"] ["_law_bag", "_law_items"] (defScope sPick) := ⟨rfl, rfl, rfl, by decide +kernel, rfl, by decide +kernel, by decide +kernel⟩
section
variable {P : Program} {w : World} {K : PySem.W.Frag} {mg : Str → Option Value} {base : Heap} {f f2 : Addr} {fd fd2 : FuncData}
theorem ok_take {k : Nat} (F : Fun K "_law_take" "_law_take" sTake f fd) (ml : mg "len" = none) : FnOk P w K mg base (L2.CX P w) (k + 1) f fd ["_law_bag", "_law_many"] spTake := by
  refine F.okX scTake (fun vs H Q E h => ?_) (fun cdv A outer s H vs Q E hr h => ?_)
  · obtain ⟨r, l1, l2, gs, ds, n, m, rfl, _⟩ := h
    rfl
  · have hu := hr.units
    have h1 := hu_of hr
    refine ⟨_, pss_cons (ps_while (passes_of rfl) (pt_cmpR (op_neP hu) (pe_dget h1 (pv 0) pe_str (fun _ _ => rfl)) (pe_lst pa_nil) (nomark _))
        (pss_cons (ps_set (i := 2) scTake.nd rfl (.inl rfl) (pe_bm PySem.F.plainAttrs_list PySem.F.slot_list_pop PySem.F.type_list_pop mt_popAt (pe_dget h1 (pv 0) pe_str (fun _ _ => rfl)) (pa_cons pe_int pa_nil)))
          (pss_one (ps_if (pt_cmpR op_gt (pv 2) pe_int (nomark _))
            (pss_cons (ps_expr (pe_bm PySem.F.plainAttrs_list PySem.F.slot_list_insert PySem.F.type_list_insert mt_insert (pe_dget h1 (pv 0) pe_str (fun _ _ => rfl)) (pa_cons pe_int (pa_cons (pe_op op_fdivB (pv 2) (pv 1)) pa_nil))))
              (pss_one (ps_ret (pe_op op_mod (pv 2) (pv 1))))) pss_nil))))
      (pss_cons (ps_par (i := 3) (j := 4) rfl scTake.nd rfl rfl (by decide) rfl rfl (pa_cons (pe_dget h1 (pv 0) pe_str (fun _ _ => rfl)) (pa_cons (pe_dget h1 (pv 0) pe_str (fun _ _ => rfl)) pa_nil)) (by rfl))
      (pss_cons (ps_dput h1 (pv 0) pe_str (pe_op op_add (pv 3) pe_int) (by rfl))
      (pss_cons (ps_set (i := 5) scTake.nd rfl (.inl rfl) (pe_op op_add (pe_op op_mod (pe_ix ix_list (pv 4) (pe_op op_mod (pv 3) (pe_callB call_len_seq (by rfl) ml PySem.boot_len (pa_cons (pv 4) pa_nil))) (fun _ _ => rfl)) pe_int) (pe_op op_mul pe_int (pe_op op_add (pv 3) pe_int))))
      (pss_cons (ps_set (i := 5) scTake.nd rfl (.inl rfl) (pe_op op_mod (pe_op op_mul (pe_op op_mod (pv 5) pe_int) (pe_op op_add (pe_op op_mod (pv 5) pe_int) pe_int)) pe_int))
      (pss_cons (ps_set (i := 5) scTake.nd rfl (.inl rfl) (pe_op op_mod (pe_op op_mul (pe_op op_mod (pe_op op_add (pe_op op_mul (pv 5) (pv 5)) (pe_op op_mul pe_int (pv 3))) pe_int) pe_int) pe_int))
      (pss_one (ps_ret (pe_op op_mod (pe_op op_fdivB (pv 5) pe_int) (pv 1))))))))), ?_⟩
    obtain ⟨r, l1, l2, gs, ds, n, m, rfl, hb, m0, m1, q⟩ := h
    refine ⟨fun k σ H' => ∃ x2 gs', k = List.length gs' ∧ σ = [some (.ref r), some (.int m), x2, none, none, none] ∧ KeepB r l1 l2 H H' ∧ bagAt r l1 l2 gs' ds n H', ⟨_, none, gs, rfl, rfl, .refl, hb⟩, ?_⟩
    rintro k σ H1 ⟨x2, gs', rfl, rfl, kp, b1⟩
    have e1 : ∀ {p : Addr} {o : HO}, H1 p = none → bagAt r l1 l2 gs' ds n (upd H1 p o) := fun {p o} hp => ⟨by rw [upd_ne (ne_of_none b1.1 hp)]; exact b1.1, by rw [upd_ne (ne_of_none b1.2.1 hp)]; exact b1.2.1, by rw [upd_ne (ne_of_none b1.2.2.1 hp)]; exact b1.2.2.1, b1.2.2.2⟩
    refine ⟨.ref r, rfl, r, .ref l1, rfl, DGet.k (k := kG) b1.1, Nat.zero_le _, fun p hp => ?_⟩
    have b2 := e1 (o := .lst []) hp
    have kp2 : KeepB r l1 l2 H (upd H1 p (.lst [])) := kp.upd (.inr (.inr (.inr hp)))
    refine ⟨.list (gs'.map PyData.int), .list [], .lst b2.2.1 not_false (.of_ints _), .lst upd_same not_false .nil, (by simp only [PyData.plain]; exact plain_ints gs'), rfl, .inr (by decide), _, rfl, ?_⟩
    generalize upd H1 p (.lst []) = H2 at b2 kp2
    cases gs' with
    | cons g gs' =>
      refine ⟨fun σ H' => ∃ m', m' < (g :: gs').length ∧ ∃ x2 gs'', m' = List.length gs'' ∧ σ = [some (.ref r), some (.int m), x2, none, none, none] ∧ KeepB r l1 l2 H H' ∧ bagAt r l1 l2 gs'' ds n H', fun σ' H' h => h, ?_⟩
      -- rest = bag['great'].pop(0)
      refine ⟨.ref r, rfl, r, .ref l1, rfl, DGet.k (k := kG) b2.1, .inl ⟨rfl, _, SqL.of b2.2.1⟩, ?_⟩
      refine ⟨l1, (g :: gs').map V.int, 0, 0, .int g, rfl, rfl, b2.2.1, by decide, by decide, by simp [seqIndex?], rfl, ?_⟩
      have b3 : bagAt r l1 l2 gs' ds n (upd H2 l1 (.lst (gs'.map V.int))) := ⟨by rw [upd_ne b2.rl1]; exact b2.1, upd_same, by rw [upd_ne (Ne.symm b2.2.2.2.2.2)]; exact b2.2.2.1, Nat.le_of_succ_le b2.2.2.2.1, b2.2.2.2.2⟩
      have kp3 : KeepB r l1 l2 H (upd H2 l1 (.lst (gs'.map V.int))) := kp2.upd (.inr (.inl rfl))
      have e3 : ((g :: gs').map V.int).eraseIdx 0 = gs'.map V.int := rfl
      rw [e3]
      generalize upd H2 l1 (.lst (gs'.map V.int)) = H3 at b3 kp3
      -- if rest > 0
      refine ⟨.int g, rfl, g, 0, rfl, rfl, _, rfl, ite2 (fun c => ?_) (fun c => ?_)⟩
      · refine ⟨.ref r, rfl, r, .ref l1, rfl, DGet.k (k := kG) b3.1, .inl ⟨rfl, _, SqL.of b3.2.1⟩, .int g, rfl, .int m, rfl, g, m, rfl, rfl, ⟨by omega, by omega⟩, ?_⟩
        have hl : gs'.length < sizeLine := Nat.lt_of_le_of_lt b3.2.2.2.1 (by decide)
        refine ⟨l1, _, 0, _, rfl, rfl, b3.2.1, by rw [List.length_map]; exact hl, Int.le_refl _, by decide, ?_⟩
        have b4 : bagAt r l1 l2 (g.fdiv m :: gs') ds n (upd H3 l1 (.lst ((g.fdiv m :: gs').map V.int))) := ⟨by rw [upd_ne b3.rl1]; exact b3.1, upd_same, by rw [upd_ne (Ne.symm b3.2.2.2.2.2)]; exact b3.2.2.1, b2.2.2.2.1, b3.2.2.2.2⟩
        exact ⟨.int g, rfl, .int m, rfl, g, m, rfl, rfl, m0, q _ _ _ _ (kp3.upd (.inr (.inl rfl))) b4 (Int.emod_nonneg _ (by omega)) (Int.emod_lt_of_pos _ m0)⟩
      · exact ⟨gs'.length, Nat.lt_succ_self _, some (.int g), gs', rfl, rfl, kp3, b3⟩
    | nil =>
      -- here, cells = bag['drawn'], bag['cells']
      refine ⟨.ref r, rfl, r, .int n, rfl, DGet.k (k := kN) b2.1, .ref r, rfl, r, .ref l2, rfl, DGet.k (k := kC) b2.1, _, _, rfl, ?_⟩
      -- bag['drawn'] = here + 1
      refine ⟨.int n, rfl, n, 1, rfl, rfl, .ref r, rfl, r, _, rfl, DPut.k (k := kN) b2.1 (show 3 < sizeLine by decide), ?_⟩
      have b3 : bagAt r l1 l2 [] ds (n + 1) (upd H2 r (.dK [(kG, .ref l1), (kC, .ref l2), (kN, .int (n + 1))])) := ⟨upd_same, by rw [upd_ne b2.rl1.symm]; exact b2.2.1, by rw [upd_ne b2.rl2.symm]; exact b2.2.2.1, b2.2.2.2⟩
      have kp3 : KeepB r l1 l2 H (upd H2 r (.dK [(kG, .ref l1), (kC, .ref l2), (kN, .int (n + 1))])) := kp2.upd (.inl rfl)
      have e3 : putK [(kG, V.ref l1), (kC, .ref l2), (kN, .int n)] kN (.int (n + 1)) = [(kG, .ref l1), (kC, .ref l2), (kN, .int (n + 1))] := rfl
      rw [e3]
      generalize upd H2 r (.dK [(kG, .ref l1), (kC, .ref l2), (kN, .int (n + 1))]) = H3 at b3 kp3
      have dl : 0 < ds.length := List.length_pos_iff.mpr b3.2.2.2.2.1
      have hL : SqL K H3 l2 (ds.map V.int) := SqL.of b3.2.2.1
      have i0 : 0 ≤ n % ((ds.map V.int).length : Int) := Int.emod_nonneg _ (by rw [List.length_map]; omega)
      have i1 : n % ((ds.map V.int).length : Int) < (ds.map V.int).length := Int.emod_lt_of_pos _ (by rw [List.length_map]; omega)
      obtain ⟨j, ej⟩ : ∃ j : Nat, n % ((ds.map V.int).length : Int) = (j : Int) := ⟨_, (Int.toNat_of_nonneg i0).symm⟩
      have hj : j < ds.length := by rw [ej, List.length_map] at i1; omega
      refine ⟨.ref l2, rfl, .int n, rfl, .ref l2, rfl, l2, _, rfl, .inl hL, n, _, rfl, rfl, (by show (0 : Int) < ((ds.map V.int).length : Int); rw [List.length_map]; omega), l2, _, _, .int ds[j], rfl, rfl, hL, ?_, ?_⟩
      · rw [ej]
        exact atI_nat (by rw [List.getElem?_map, List.getElem?_eq_getElem hj]; rfl)
      -- the first seed
      refine ⟨ds[j], 3037000493, rfl, rfl, (show (0 : Int) < 3037000493 by decide), .int n, rfl, n, 1, rfl, rfl, 2862933555, n + 1, rfl, rfl, .inl ⟨by decide, by decide⟩, _, _, rfl, rfl, ?_⟩
      dsimp only
      generalize ds[j] % 3037000493 + 2862933555 * (n + 1) = s0
      -- the second
      have w1 : ∀ x : Int, 0 ≤ x % 3037000493 ∧ x % 3037000493 < 3037000493 := fun x => ⟨Int.emod_nonneg _ (by decide), Int.emod_lt_of_pos _ (by decide)⟩
      refine ⟨.int s0, rfl, s0, 3037000493, rfl, rfl, (show (0 : Int) < 3037000493 by decide), .int s0, rfl, s0, 65521, rfl, rfl, (show (0 : Int) < 65521 by decide), _, 7, rfl, rfl, _, _, rfl, rfl, .inl ⟨by have := w1 s0; omega, by have := w1 s0; omega⟩, _, 3037000493, rfl, rfl, (show (0 : Int) < 3037000493 by decide), ?_⟩
      dsimp only
      generalize hs1 : s0 % 3037000493 * (s0 % 65521 + 7) % 3037000493 = s1
      have w2 : 0 ≤ s1 ∧ s1 < 3037000493 := by rw [← hs1]; exact w1 _
      -- the third
      refine ⟨.int s1, rfl, .int s1, rfl, s1, s1, rfl, rfl, .inl ⟨by omega, by omega⟩, .int n, rfl, 30517, n, rfl, rfl, .inl ⟨by decide, by decide⟩, _, _, rfl, rfl, _, 3037000493, rfl, rfl, (show (0 : Int) < 3037000493 by decide), _, 1013904223, rfl, rfl, .inr ⟨by decide, by decide⟩, _, 3037000493, rfl, rfl, (show (0 : Int) < 3037000493 by decide), ?_⟩
      dsimp only
      generalize (s1 * s1 + 30517 * n) % 3037000493 * 1013904223 % 3037000493 = s2
      refine ⟨.int s2, rfl, s2, 8, rfl, rfl, ⟨by decide, by decide⟩, .int m, rfl, _, m, rfl, rfl, m0, q _ _ _ _ kp3 b3 (Int.emod_nonneg _ (by omega)) (Int.emod_lt_of_pos _ m0)⟩
theorem ok_opened {k : Nat} (F : Fun K "_law_opened" "_law_opened" sOpened f fd) (ma : mg "abs" = none) (mi : mg "int" = none) : FnOk P w K mg base (L2.CX P w) (k + 1) f fd ["_law_script"] (spOpened K) := by
  refine F.okX scOpened (fun vs H Q E h => ?_) (fun cdv A outer s H vs Q E hr h => ?_)
  · obtain ⟨a, ns, rfl, _⟩ := h
    rfl
  · have hu := hr.units
    have h1 := hu_of hr
    refine ⟨_, pss_cons (ps_setLc (i := 1) (own := [("_law_cell", 2)]) rfl scOpened.nd rfl rfl (by rfl) (pi_list (pe_slice sl_list (pv 0) po_none (po_some pe_int))) (blkOk_by (N := ["_law_script", "_law_cells", "_law_cell"]) (sc := defScope sOpened) (by decide +kernel))
        (fun _ _ _ _ _ => pg_name (i := 2) scOpened.nd rfl (.inl rfl)) (fun _ _ _ _ _ => pts_nil) (fun _ _ _ _ _ => pe_callB call_abs (by rfl) ma boot_abs (pa_cons (pv 2) pa_nil)))
      (pss_one (ps_ret (pe_disp (pps_cons pe_str (vn_lc (b := bg0) (W := noW) (own := [("_law_cell", 2)]) rfl scOpened.nd (vib_src (vx_var (pv 1))) (blkOk_by (N := ["_law_script", "_law_cells", "_law_cell"]) (sc := defScope sOpened) (by decide +kernel)) (by decide)
          (fun _ _ _ _ _ => vg_name (i := 2) scOpened.nd rfl (.inl rfl)) (fun _ _ _ _ _ => vts_one (vt_ge (vx_var (pv 2)) (VE.toX (ve_pow (VE.toX ve_int) (VE.toX ve_int))))) (fun _ _ _ _ _ => ve_var (pv 2)))
        (pps_cons pe_str (pe_op op_cat (pv 1) (pe_op op_rep (pe_lst (pa_cons pe_int pa_nil)) (pe_callTy call_int1 (by rfl) mi PySem.Pv.boot_int (pa_cons (pe_cmpR (op_eqP hu) (pv 1) (pe_lst pa_nil) (nomark _)) pa_nil))))
        (pps_cons pe_str pe_int pps_nil))) rfl rfl (by simp) (by decide)))), ?_⟩
    obtain ⟨a, ns, rfl, hS, hl, q⟩ := h
    -- the cells
    refine ⟨.ref a, rfl, 61, rfl, a, _, rfl, hS, fun p hp => ?_⟩
    obtain ⟨ms, ems, hms⟩ := cut_ints ns none (some 61)
    rw [ems]
    refine ⟨p, rfl, ⟨_, SqL.of upd_same⟩, fun D hD => ?_⟩
    have hz : ms.length ≤ 1000 := by omega
    have keep : ∀ {H1 H2 : Hp} {b : Addr} {o : HO}, (∀ c o, H1 c = some o → H2 c = some o) → H2 b = none → ∀ c o', H1 c = some o' → upd H2 b o c = some o' := fun {H1 H2 b o} k hn c o' e => by rw [upd_ne (ne_of_none (k c o' e) hn)]; exact k c o' e
    refine lc_list (xs := ms.map V.int) (fun i H' => (∀ c o, H c = some o → H' c = some o) ∧ H' p = some (.lst (ms.map V.int)) ∧ H D = none ∧ D ≠ p ∧ H' D = some (.lst (((ms.take i).map absI).map V.int))) ?_ (fun i H' _ h => SqL.of h.2.1) ?_ ?_
    · have np : D ≠ p := fun e => by rw [e, upd_same] at hD; cases hD
      refine ⟨keep (keep (fun _ _ e => e) hp) hD, by rw [upd_ne np.symm]; exact upd_same, ?_, np, by rw [upd_same]; rfl⟩
      rw [upd_ne np] at hD
      exact hD
    · intro i x H' hx ⟨k, e2, np, npp, e3⟩
      rw [List.getElem?_map] at hx
      cases em : ms[i]? with
      | none => rw [em] at hx; cases hx
      | some m =>
        rw [em] at hx
        cases hx
        have hi : i < ms.length := (List.getElem?_eq_some_iff.mp em).1
        have nd : ∀ c o, H c = some o → c ≠ D := fun c o e z => by rw [z, np] at e; cases e
        refine ⟨rfl, ?_⟩
        unfold tYes
        dsimp only
        rw [if_pos rfl]
        refine ⟨.int m, rfl, m, rfl, _, e3, ?_, fun c o e => ?_, ?_, np, npp, ?_⟩
        · rw [List.length_map, List.length_map, List.length_take]
          exact Nat.lt_of_le_of_lt (show min i ms.length ≤ 1000 by omega) (by decide)
        · rw [upd_ne (nd c o e)]
          exact k c o e
        · rw [upd_ne npp.symm]
          exact e2
        · rw [upd_same, List.take_add_one, em]
          simp
    · intro H1 ⟨k, e2, np, npp, e3⟩
      rw [List.length_map, List.take_length] at e3
      have hcs : (ms.map absI).length ≤ 63 := by rw [List.length_map]; omega
      generalize ms.map absI = cs at e3 hcs
      -- the dict: its lists
      refine fun r hr => ?_
      have nr : ∀ c o, H c = some o → c ≠ r := fun c o e z => by
        have := k c o e
        rw [z, hr] at this; cases this
      have hD1 : (upd H1 r (.dK [])) D = some (.lst (cs.map V.int)) := by rw [upd_ne (ne_of_none e3 hr)]; exact e3
      have k1 : ∀ c o, H c = some o → (upd H1 r (.dK [])) c = some o := keep k hr
      have Hr0 : H r = none := by
        cases e : H r with
        | none => rfl
        | some o => rw [k r o e] at hr; cases hr
      have hr1 : (upd H1 r (.dK [])) r = some (.dK []) := upd_same
      generalize upd H1 r (.dK []) = H2 at hD1 k1 hr1
      refine ⟨nz, nz, [.un, .shr (.py (.list (cs.map PyData.int))), .un], fun d => d = .py (.list ((bigs (10 ^ 18) cs).map PyData.int)), noE, VOk.plain rfl ?_, ⟨?_, _, .inl rfl, ?_⟩, fun v H3 d x3 g3 ⟨l1, e4, n1, ow⟩ ed => ?_, fun _ _ _ _ _ _ _ h => h⟩
      · intro i s hs
        match i, hs with
        | 0, hs => cases hs; exact .inl rfl
        | 1, hs => cases hs; exact .inr ⟨_, .ref D, rfl, rfl, Rq.lst hD1 not_false (.of_ints cs)⟩
        | 2, hs => cases hs; exact .inl rfl
      · intro i hi d e
        rw [List.mem_singleton.mp hi] at e
        cases e
      · refine bigs_go (k := 10 ^ 18) ?_ (fun ρ c Q E e q => ⟨_, .inl e, ⟨by decide, by decide, by decide⟩, _, rfl, q⟩) (fun ρ d Q E e q => ⟨d, e, q⟩) cs [] (by simp; omega) rfl
        show 2 < 3
        decide
      subst e4 ed
      obtain ⟨xs1, hl1, rq1⟩ := ow
      have ex1 := rq1.ints
      subst ex1
      have x3' : ∀ c o, H2 c = some o → H3 c = some o := fun c o e => x3 c o e not_false
      have D3 := x3' _ _ hD1
      have r3 := x3' _ _ hr1
      have nl1 : H2 l1 = none := n1
      -- the second list
      refine ⟨.ref D, rfl, Nat.succ_le_of_lt (by decide), fun p1 hp1 => ?_⟩
      refine ⟨.ref D, rfl, Nat.zero_le _, fun p2 hp2 => ?_⟩
      have k4 : ∀ c o, H3 c = some o → upd H3 p1 (.lst [.int 73]) c = some o := keep (fun _ _ e => e) hp1
      have k5 : ∀ c o, H3 c = some o → upd (upd H3 p1 (.lst [.int 73])) p2 (.lst []) c = some o := keep k4 hp2
      have p12 : p1 ≠ p2 := fun e => by rw [e, upd_same] at hp2; cases hp2
      have g1 : upd (upd H3 p1 (.lst [.int 73])) p2 (.lst []) p1 = some (.lst [.int 73]) := by rw [upd_ne p12]; exact upd_same
      refine ⟨.list (cs.map PyData.int), .list [], .lst (k5 _ _ D3) not_false (.of_ints cs), .lst upd_same not_false .nil, by simp only [PyData.plain]; exact plain_ints cs, rfl, .inr (by decide), .inr ⟨_, rfl, ?_⟩⟩
      have nD1 : D ≠ p1 := ne_of_none D3 hp1
      generalize hH4 : upd (upd H3 p1 (.lst [.int 73])) p2 (.lst []) = H4 at k5 g1
      refine ⟨p1, _, [.int 73], rfl, rfl, g1, ?_, ?_, ?_, fun p3 hp3 => ?_⟩
      · split <;> decide
      · split <;> decide
      · split <;> decide
      have n13 : p1 ≠ p3 := ne_of_none g1 hp3
      have nD3 : D ≠ p3 := ne_of_none (k5 _ _ D3) hp3
      refine ⟨D, p3, cs.map V.int, _, rfl, rfl, by rw [upd_ne nD3]; exact k5 _ _ D3, upd_same, ?_, fun l2 hl2 => ?_⟩
      · rw [List.length_map]
        have z : ∀ m : Nat, m ≤ 200 → m ≤ sizeLine := fun m h => Nat.le_trans h (by decide)
        refine z _ ?_
        split
        · show cs.length + 1 ≤ 200
          omega
        · show cs.length + 0 ≤ 200
          omega
      -- the end
      have k6 : ∀ c o, H3 c = some o → upd (upd H4 p3 (.lst (List.replicate (if (PyData.list (cs.map PyData.int)).eqv (.list []) = true then (1 : Int) else 0).toNat [V.int 73]).flatten)) l2 (.lst (cs.map V.int ++ (List.replicate (if (PyData.list (cs.map PyData.int)).eqv (.list []) = true then (1 : Int) else 0).toNat [V.int 73]).flatten)) c = some o := keep (keep k5 hp3) hl2
      obtain ⟨es, he, hne⟩ : ∃ es : List Int, cs.map V.int ++ (List.replicate (if (PyData.list (cs.map PyData.int)).eqv (.list []) = true then (1 : Int) else 0).toNat [V.int 73]).flatten = es.map V.int ∧ es ≠ [] := by
        cases cs with
        | nil => exact ⟨[73], rfl, by simp⟩
        | cons c cs => exact ⟨c :: cs, by show _ ++ [] = _; rw [List.append_nil], by simp⟩
      rw [he] at k6 ⊢
      generalize hH5 : upd (upd H4 p3 (.lst (List.replicate (if (PyData.list (cs.map PyData.int)).eqv (.list []) = true then (1 : Int) else 0).toNat [V.int 73]).flatten)) l2 (.lst (es.map V.int)) = H5 at k6
      have e5 : H5 l2 = some (.lst (es.map V.int)) := by rw [← hH5]; exact upd_same
      have nl12 : l1 ≠ l2 := ne_of_none (k5 _ _ hl1) (by
        cases e : H4 l2 with
        | none => rfl
        | some o =>
          have : (upd H4 p3 (.lst (List.replicate (if (PyData.list (cs.map PyData.int)).eqv (.list []) = true then (1 : Int) else 0).toNat [V.int 73]).flatten)) l2 ≠ none := by
            by_cases q : l2 = p3
            · rw [q, upd_same]; simp
            · rw [upd_ne q, e]; simp
          exact absurd hl2 this)
      have r5 := k6 _ _ r3
      have nz5 : ∀ c o, H c = some o → H5 c = some o := fun c o e => k6 c o (x3' c o (k1 c o e))
      have back : ∀ c, H5 c = none → H c = none := fun c e => by
        cases q : H c with
        | none => rfl
        | some o => rw [nz5 c o q] at e; cases e
      have o1 : H l1 = none := by
        cases q : H l1 with
        | none => rfl
        | some o => rw [k1 l1 o q] at nl1; cases nl1
      have o2 : H l2 = none := by
        cases q : H l2 with
        | none => rfl
        | some o =>
          have := k5 l2 o (x3' l2 o (k1 l2 o q))
          have e' : (upd H4 p3 (.lst (List.replicate (if (PyData.list (cs.map PyData.int)).eqv (.list []) = true then (1 : Int) else 0).toNat [V.int 73]).flatten)) l2 = some o := keep (fun _ _ e => e) hp3 l2 o this
          rw [hl2] at e'; cases e'
      refine ⟨r5, [(kG, .ref l1), (kC, .ref l2), (kN, .int 0)], rfl, (show 3 ≤ 15 by decide), ?_⟩
      have em : mergeK ([] : List (Key × V)) [(kG, .ref l1), (kC, .ref l2), (kN, .int 0)] = [(kG, .ref l1), (kC, .ref l2), (kN, .int 0)] := rfl
      rw [em]
      have nr1 : l1 ≠ r := fun e => by rw [e] at hl1; rw [r3] at hl1; cases hl1
      have nr2 : l2 ≠ r := fun e => by rw [e] at e5; rw [r5] at e5; cases e5
      refine q r l1 l2 (bigs (10 ^ 18) cs) es 0 _ (fun c o e => ?_) Hr0 o1 o2 ⟨upd_same, by rw [upd_ne nr1]; exact k6 _ _ hl1, by rw [upd_ne nr2]; exact e5, ?_, hne, nl12⟩
      · rw [upd_ne (nr c o e)]
        exact nz5 c o e
      · exact Nat.le_trans (List.length_filter_le _ _) hcs
theorem ok_pick {k : Nat} {cls : Str → Addr} {r l1 l2 : Addr} (F : Fun K "_law_pick" "_law_pick" sPick f fd) (FT : FnOk P w K mg base (L2.CX P w) k f2 fd2 ["_law_bag", "_law_many"] (spV (bagB cls r l1 l2) (svTake r))) (gT : mg "_law_take" = some (.ref f2)) (kT : PySem.W.keepIn K (.ref f2) = true) (bT : Binds K fd2 ["_law_bag", "_law_many"] []) (ml : mg "len" = none) :
    FnOk P w K mg base (L2.CX P w) (k + 1) f fd ["_law_bag", "_law_items"] (spV (bagB cls r l1 l2) (svPick r)) := by
  refine fnV F scPick (fun ds Q E h => by obtain ⟨p, xs, e, _⟩ := svPick_ex h; rw [e]; rfl) (by decide) (fun cdv A outer s H E hr tk => vs_one (vs_ret (ve_ix (vx_var (pv 1)) (VE.toX (ve_call FT hr tk (by rfl) gT kT bT (va_cons (ve_var (pv 0)) (va_cons (ve_len (by rfl) ml (vxs_cons (vx_var (pv 1)) vxs_nil)) va_nil))))))) ?_
  intro ds Q E hh
  obtain ⟨p, xs, rfl, hp, hne, hl, q⟩ := svPick_ex hh
  have hpos : 0 < xs.length := List.length_pos_iff.mpr hne
  have at_ : ∀ x : Int, 0 ≤ x → x < xs.length → ∃ d, atI xs x = some d ∧ d ∈ xs := fun x x0 x1 => by
    obtain ⟨j, rfl⟩ := Int.eq_ofNat_of_zero_le x0
    have hj : j < xs.length := by omega
    exact ⟨xs[j], atI_nat (List.getElem?_eq_getElem hj), List.getElem_mem hj⟩
  rcases hp with rfl | rfl | ⟨z, rfl, hz, rfl⟩
  · refine ⟨_, .inl rfl, _, rfl, _, .inl rfl, rfl, by omega, by omega, fun x x0 x1 => ?_⟩
    obtain ⟨d, e, m⟩ := at_ x x0 x1
    exact ⟨d, e, q d m⟩
  · refine ⟨_, .inl rfl, _, rfl, _, .inl rfl, rfl, by omega, by omega, fun x x0 x1 => ?_⟩
    obtain ⟨d, e, m⟩ := at_ x x0 x1
    exact ⟨d, e, q d m⟩
  · have el : (signsD z).length = z.length := by unfold signsD; rw [List.length_map, Array.length_toList]; rfl
    refine ⟨_, .inl rfl, _, rfl, _, .inl rfl, hz, rfl, by omega, by omega, fun x x0 x1 => ?_⟩
    obtain ⟨j, rfl⟩ := Int.eq_ofNat_of_zero_le x0
    have hj : j < z.cps.toList.length := by rw [Array.length_toList]; have : (j : Int) < z.cps.size := x1; omega
    refine ⟨hz, z.cps.toList[j], atI_nat (List.getElem?_eq_getElem hj), q _ ?_⟩
    unfold signsD
    exact List.mem_map.mpr ⟨_, List.getElem_mem hj, rfl⟩
end
end LawP
set_option Elab.async false
set_option linter.all false
set_option maxRecDepth 100000
set_option maxHeartbeats 4000000
namespace LawP
open PySem PySem.Spec PyProof.Rows L2 VL
theorem all_mk {l : PySem.W.OpenLaw} {w : World} {K : PySem.W.Frag} {h : Heap} {mg : Str → Option Value} {fa : Addr} (X : K.In h) (G : h.Ns mainGlobals mg) (hfa : mg "law" = some (.ref fa))
    (d14 : DefK K "_law_opened" (topS 14)) (d15 : DefK K "_law_take" (topS 15)) (d16 : DefK K "_law_pick" (topS 16)) (d17 : DefK K "_law_drawn" (topS 17)) (d18 : DefK K "_law_word" (topS 18)) (d7 : DefK K "word_error" (topS 7)) (d10 : DefK K "check_word" (topS 10)) (d6 : DefK K "mates" (topS 6)) (d8 : DefK K "queue_with" (topS 8)) (d9 : DefK K "steps_of" (topS 9)) (d11 : DefK K "run" (topS 11)) (d19 : DefK K "_law_groups_right" (topS 19)) (d12 : DefK K "each_step" (topS 12)) (d20 : DefK K "law" (topS 20))
    {t0 : Tok} (m0 : PySem.W.nsIn K mainGlobals "ARRIVAL" = some (some (.str "a" t0))) {t1 : Tok} (m1 : PySem.W.nsIn K mainGlobals "SERVICE" = some (some (.str "s" t1)))
    (z_range : PySem.W.nsIn K mainGlobals "range" = some none) (z_tuple : PySem.W.nsIn K mainGlobals "tuple" = some none) (z_int : PySem.W.nsIn K mainGlobals "int" = some none) (z_isinstance : PySem.W.nsIn K mainGlobals "isinstance" = some none) (z_str : PySem.W.nsIn K mainGlobals "str" = some none) (z_enumerate : PySem.W.nsIn K mainGlobals "enumerate" = some none) (z_len : PySem.W.nsIn K mainGlobals "len" = some none) (z_sorted : PySem.W.nsIn K mainGlobals "sorted" = some none) (z_set : PySem.W.nsIn K mainGlobals "set" = some none) (z_list : PySem.W.nsIn K mainGlobals "list" = some none) (z_abs : PySem.W.nsIn K mainGlobals "abs" = some none) (R_BadWord : Rai1 K "BadWord" "BadWord.__init__" "error" s_BadWord) (ST_BadWord : NoStK K "BadWord") :
    ∃ fd : FuncData, (∀ (s : Shared) (v : Value), BindsTo s fd ⟨[v], []⟩ [("_law_script", v)]) ∧ ∀ base : Heap, K.In base → base.Ns mainGlobals mg → FnG l.prog w K mg base 6 fa fd ["_law_script"] (spLaw K) := by
  obtain ⟨f20, oc, kV, doc, pm, cdv, ct, od, an, osl, a, ql, qc, qp⟩ := d20.ex
  have e := hfa.symm.trans (PySem.W.mg_of X G a)
  cases e
  have y_range := PySem.W.mg_none_of X G z_range
  have y_tuple := PySem.W.mg_none_of X G z_tuple
  have y_int := PySem.W.mg_none_of X G z_int
  have y_isinstance := PySem.W.mg_none_of X G z_isinstance
  have y_str := PySem.W.mg_none_of X G z_str
  have y_enumerate := PySem.W.mg_none_of X G z_enumerate
  have y_len := PySem.W.mg_none_of X G z_len
  have y_sorted := PySem.W.mg_none_of X G z_sorted
  have y_set := PySem.W.mg_none_of X G z_set
  have y_list := PySem.W.mg_none_of X G z_list
  have y_abs := PySem.W.mg_none_of X G z_abs
  have c0 := PySem.W.mg_of X G m0
  have c1 := PySem.W.mg_of X G m1
  obtain ⟨f14, v14, F14, g14, p14, e14⟩ := d14.use X G
  have B14 := F14.binds (ps := ["_law_script"]) fun _ _ _ _ _ _ us hl => match us, hl with | [_], _ => rfl
  obtain ⟨f15, v15, F15, g15, p15, e15⟩ := d15.use X G
  have B15 := F15.binds (ps := ["_law_bag", "_law_many"]) fun _ _ _ _ _ _ us hl => match us, hl with | [_, _], _ => rfl
  obtain ⟨f16, v16, F16, g16, p16, e16⟩ := d16.use X G
  have B16 := F16.binds (ps := ["_law_bag", "_law_items"]) fun _ _ _ _ _ _ us hl => match us, hl with | [_, _], _ => rfl
  obtain ⟨f17, v17, F17, g17, p17, e17⟩ := d17.use X G
  have B17 := F17.binds (ps := ["_law_bag", "_law_most"]) fun _ _ _ _ _ _ us hl => match us, hl with | [_, _], _ => rfl
  obtain ⟨f18, v18, F18, g18, p18, e18⟩ := d18.use X G
  have B18 := F18.binds (ps := ["_law_bag", "_law_many", "_law_way"]) fun _ _ _ _ _ _ us hl => match us, hl with | [_, _, _], _ => rfl
  obtain ⟨f7, v7, F7, g7, p7, e7⟩ := d7.use X G
  have B7 := F7.binds (ps := ["row", "value"]) fun _ _ _ _ _ _ us hl => match us, hl with | [_, _], _ => rfl
  obtain ⟨f10, v10, F10, g10, p10, e10⟩ := d10.use X G
  have B10 := F10.binds (ps := ["row", "value"]) fun _ _ _ _ _ _ us hl => match us, hl with | [_, _], _ => rfl
  obtain ⟨f6, v6, F6, g6, p6, e6⟩ := d6.use X G
  have B6 := F6.binds (ps := ["row"]) fun _ _ _ _ _ _ us hl => match us, hl with | [_], _ => rfl
  obtain ⟨f8, v8, F8, g8, p8, e8⟩ := d8.use X G
  have B8 := F8.binds (ps := ["waiting", "person", "mate"]) fun _ _ _ _ _ _ us hl => match us, hl with | [_, _, _], _ => rfl
  obtain ⟨f9, v9, F9, g9, p9, e9⟩ := d9.use X G
  have B9 := F9.binds (ps := ["row", "word"]) fun _ _ _ _ _ _ us hl => match us, hl with | [_, _], _ => rfl
  obtain ⟨f11, v11, F11, g11, p11, e11⟩ := d11.use X G
  have B11 := F11.binds (ps := ["row", "word"]) fun _ _ _ _ _ _ us hl => match us, hl with | [_, _], _ => rfl
  obtain ⟨f19, v19, F19, g19, p19, e19⟩ := d19.use X G
  have B19 := F19.binds (ps := ["_law_row", "_law_served", "_law_waiting"]) fun _ _ _ _ _ _ us hl => match us, hl with | [_, _, _], _ => rfl
  obtain ⟨f12, v12, F12, g12, p12, e12⟩ := d12.use X G
  have B12 := F12.binds (ps := ["row", "word"]) fun _ _ _ _ _ _ us hl => match us, hl with | [_, _], _ => rfl
  obtain ⟨C_BadWord, R_BadWord⟩ := R_BadWord.ex
  have k_BadWord : (clsOf [("BadWord", C_BadWord)] fa) "BadWord" = C_BadWord := clsOf_hd
  refine ⟨PySem.W.fnOf "law" "law" (defArgs (topS 20)) (defBody (topS 20)) (defScope (topS 20)) .none kV doc pm an cdv ct, fun s v => .of_eq rfl, fun base _ _ => ?_⟩
  have O15 : FnOk l.prog w K mg base (L2.CX l.prog w) 1 f15 v15 ["_law_bag", "_law_many"] spTake := ok_take F15 y_len
  have O14 : FnOk l.prog w K mg base (L2.CX l.prog w) 1 f14 v14 ["_law_script"] (spOpened K) := ok_opened (k := 0) F14 y_abs y_int
  refine lawV (cls := (clsOf [("BadWord", C_BadWord)] fa)) (i := 1) (k := 5) (t := fun r => t_law (S_law_drawn r) (S_law_word r) (svTake r) S_run S_law_groups_right S_each_step S_mates) (fun_mk (st := topS 20) ql qc qp) sc_law rfl O14 g14 p14 B14 (by omega) rfl rfl (by first | exact .inl rfl | exact .inr rfl) rfl rfl (fun r l1 l2 cdv A outer s H E hr hgd tk => ?_) l_law
  have RI_BadWord : RaiI K ((bagB (clsOf [("BadWord", C_BadWord)] fa) r l1 l2).cls "BadWord") "BadWord" "BadWord.__init__" "error" s_BadWord := by
    show RaiI K ((clsOf [("BadWord", C_BadWord)] fa) "BadWord") _ _ _ _
    rw [k_BadWord]; exact R_BadWord
  have RB_BadWord := RI_BadWord.b
  obtain ⟨M_BadWord⟩ := RI_BadWord.mk1 (P := l.prog) (w := w) (base := base) (prm := "error") X G (fun fa fd F => wi_BadWord F) (fun _ _ _ _ _ _ us hl => match us, hl with | [_, _], _ => rfl)
  have EB : ∀ n ∈ (["BadWord"] : List Str), RaiB K ((bagB (clsOf [("BadWord", C_BadWord)] fa) r l1 l2).cls n) n := fun n hn => by
    simp only [List.mem_cons, List.not_mem_nil, or_false] at hn
    rcases hn with rfl
    · exact RB_BadWord
  have EC : ∀ n ∈ (["BadWord"] : List Str), ErrC K ((bagB (clsOf [("BadWord", C_BadWord)] fa) r l1 l2).cls n) := fun n hn => (EB n hn).ec
  have NST : ∀ n, n ∈ (["BadWord"] : List Str) → NoSt K (bagB (clsOf [("BadWord", C_BadWord)] fa) r l1 l2) n := fun n hn => by
    simp only [List.mem_cons, List.not_mem_nil, or_false] at hn
    rcases hn with rfl
    · exact noSt_of ST_BadWord RB_BadWord
  have T15 := take_v (cls := (clsOf [("BadWord", C_BadWord)] fa)) (r := r) (l1 := l1) (l2 := l2) O15
  have C15 : Cal l.prog w K mg base (bagB (clsOf [("BadWord", C_BadWord)] fa) r l1 l2) 1 "_law_take" ["_law_bag", "_law_many"] (svTake r) := ⟨f15, v15, T15, g15, p15, B15⟩
  have C16 : Cal l.prog w K mg base (bagB (clsOf [("BadWord", C_BadWord)] fa) r l1 l2) 2 "_law_pick" ["_law_bag", "_law_items"] (svPick r) := ⟨f16, v16, ok_pick F16 T15 g15 p15 B15 y_len, g16, p16, B16⟩
  have C17 : Cal l.prog w K mg base (bagB (clsOf [("BadWord", C_BadWord)] fa) r l1 l2) 3 "_law_drawn" ["_law_bag", "_law_most"] (S_law_drawn r) := ⟨f17, v17, w_law_drawn F17 C15 C16 y_range y_tuple (fun ds Q E h => by first | (simp only [S_law_drawn] at h; split at h <;> first | rfl | exact h.elim) | (obtain ⟨rfl, _⟩ := h; rfl) | (obtain ⟨_, rfl, _⟩ := h; rfl) | (obtain ⟨_, _, rfl, _⟩ := h; rfl) | (obtain ⟨_, _, _, rfl, _⟩ := h; rfl) | (obtain ⟨_, _, _, _, rfl, _⟩ := h; rfl) | (obtain ⟨_, _, _, _, _, rfl, _⟩ := h; rfl) | (obtain ⟨_, _, _, _, _, _, rfl, _⟩ := h; rfl)) (l_law_drawn r), g17, p17, B17⟩
  have C18 : Cal l.prog w K mg base (bagB (clsOf [("BadWord", C_BadWord)] fa) r l1 l2) 2 "_law_word" ["_law_bag", "_law_many", "_law_way"] (S_law_word r) := ⟨f18, v18, w_law_word F18 C15 y_int (fun ds Q E h => by first | (simp only [S_law_word] at h; split at h <;> first | rfl | exact h.elim) | (obtain ⟨rfl, _⟩ := h; rfl) | (obtain ⟨_, rfl, _⟩ := h; rfl) | (obtain ⟨_, _, rfl, _⟩ := h; rfl) | (obtain ⟨_, _, _, rfl, _⟩ := h; rfl) | (obtain ⟨_, _, _, _, rfl, _⟩ := h; rfl) | (obtain ⟨_, _, _, _, _, rfl, _⟩ := h; rfl) | (obtain ⟨_, _, _, _, _, _, rfl, _⟩ := h; rfl)) (l_law_word r), g18, p18, B18⟩
  have C7 : Cal l.prog w K mg base (bagB (clsOf [("BadWord", C_BadWord)] fa) r l1 l2) 1 "word_error" ["row", "value"] S_word_error := ⟨f7, v7, w_word_error F7 ⟨_, c0⟩ ⟨_, c1⟩ y_isinstance y_str y_enumerate y_len (fun ds Q E h => by first | (simp only [S_word_error] at h; split at h <;> first | rfl | exact h.elim) | (obtain ⟨rfl, _⟩ := h; rfl) | (obtain ⟨_, rfl, _⟩ := h; rfl) | (obtain ⟨_, _, rfl, _⟩ := h; rfl) | (obtain ⟨_, _, _, rfl, _⟩ := h; rfl) | (obtain ⟨_, _, _, _, rfl, _⟩ := h; rfl) | (obtain ⟨_, _, _, _, _, rfl, _⟩ := h; rfl) | (obtain ⟨_, _, _, _, _, _, rfl, _⟩ := h; rfl)) l_word_error, g7, p7, B7⟩
  have C10 : Cal l.prog w K mg base (bagB (clsOf [("BadWord", C_BadWord)] fa) r l1 l2) 3 "check_word" ["row", "value"] S_check_word := ⟨f10, v10, w_check_word F10 C7 M_BadWord (fun ds Q E h => by first | (simp only [S_check_word] at h; split at h <;> first | rfl | exact h.elim) | (obtain ⟨rfl, _⟩ := h; rfl) | (obtain ⟨_, rfl, _⟩ := h; rfl) | (obtain ⟨_, _, rfl, _⟩ := h; rfl) | (obtain ⟨_, _, _, rfl, _⟩ := h; rfl) | (obtain ⟨_, _, _, _, rfl, _⟩ := h; rfl) | (obtain ⟨_, _, _, _, _, rfl, _⟩ := h; rfl) | (obtain ⟨_, _, _, _, _, _, rfl, _⟩ := h; rfl)) l_check_word, g10, p10, B10⟩
  have C6 : Cal l.prog w K mg base (bagB (clsOf [("BadWord", C_BadWord)] fa) r l1 l2) 1 "mates" ["row"] S_mates := ⟨f6, v6, w_mates F6 y_enumerate y_tuple (fun ds Q E h => by first | (simp only [S_mates] at h; split at h <;> first | rfl | exact h.elim) | (obtain ⟨rfl, _⟩ := h; rfl) | (obtain ⟨_, rfl, _⟩ := h; rfl) | (obtain ⟨_, _, rfl, _⟩ := h; rfl) | (obtain ⟨_, _, _, rfl, _⟩ := h; rfl) | (obtain ⟨_, _, _, _, rfl, _⟩ := h; rfl) | (obtain ⟨_, _, _, _, _, rfl, _⟩ := h; rfl) | (obtain ⟨_, _, _, _, _, _, rfl, _⟩ := h; rfl)) l_mates, g6, p6, B6⟩
  have C8 : Cal l.prog w K mg base (bagB (clsOf [("BadWord", C_BadWord)] fa) r l1 l2) 1 "queue_with" ["waiting", "person", "mate"] S_queue_with := ⟨f8, v8, w_queue_with F8 y_len (fun ds Q E h => by first | (simp only [S_queue_with] at h; split at h <;> first | rfl | exact h.elim) | (obtain ⟨rfl, _⟩ := h; rfl) | (obtain ⟨_, rfl, _⟩ := h; rfl) | (obtain ⟨_, _, rfl, _⟩ := h; rfl) | (obtain ⟨_, _, _, rfl, _⟩ := h; rfl) | (obtain ⟨_, _, _, _, rfl, _⟩ := h; rfl) | (obtain ⟨_, _, _, _, _, rfl, _⟩ := h; rfl) | (obtain ⟨_, _, _, _, _, _, rfl, _⟩ := h; rfl)) l_queue_with, g8, p8, B8⟩
  have C9 : Cal l.prog w K mg base (bagB (clsOf [("BadWord", C_BadWord)] fa) r l1 l2) 2 "steps_of" ["row", "word"] S_steps_of := ⟨f9, v9, w_steps_of F9 C6 C8 ⟨_, c0⟩ (fun ds Q E h => by first | (simp only [S_steps_of] at h; split at h <;> first | rfl | exact h.elim) | (obtain ⟨rfl, _⟩ := h; rfl) | (obtain ⟨_, rfl, _⟩ := h; rfl) | (obtain ⟨_, _, rfl, _⟩ := h; rfl) | (obtain ⟨_, _, _, rfl, _⟩ := h; rfl) | (obtain ⟨_, _, _, _, rfl, _⟩ := h; rfl) | (obtain ⟨_, _, _, _, _, rfl, _⟩ := h; rfl) | (obtain ⟨_, _, _, _, _, _, rfl, _⟩ := h; rfl)) l_steps_of, g9, p9, B9⟩
  have C11 : Cal l.prog w K mg base (bagB (clsOf [("BadWord", C_BadWord)] fa) r l1 l2) 4 "run" ["row", "word"] S_run := ⟨f11, v11, w_run F11 C10 C9 ⟨_, c1⟩ y_tuple (fun ds Q E h => by first | (simp only [S_run] at h; split at h <;> first | rfl | exact h.elim) | (obtain ⟨rfl, _⟩ := h; rfl) | (obtain ⟨_, rfl, _⟩ := h; rfl) | (obtain ⟨_, _, rfl, _⟩ := h; rfl) | (obtain ⟨_, _, _, rfl, _⟩ := h; rfl) | (obtain ⟨_, _, _, _, rfl, _⟩ := h; rfl) | (obtain ⟨_, _, _, _, _, rfl, _⟩ := h; rfl) | (obtain ⟨_, _, _, _, _, _, rfl, _⟩ := h; rfl)) l_run, g11, p11, B11⟩
  have C19 : Cal l.prog w K mg base (bagB (clsOf [("BadWord", C_BadWord)] fa) r l1 l2) 1 "_law_groups_right" ["_law_row", "_law_served", "_law_waiting"] S_law_groups_right := ⟨f19, v19, w_law_groups_right F19 y_sorted y_set y_range y_len (fun ds Q E h => by first | (simp only [S_law_groups_right] at h; split at h <;> first | rfl | exact h.elim) | (obtain ⟨rfl, _⟩ := h; rfl) | (obtain ⟨_, rfl, _⟩ := h; rfl) | (obtain ⟨_, _, rfl, _⟩ := h; rfl) | (obtain ⟨_, _, _, rfl, _⟩ := h; rfl) | (obtain ⟨_, _, _, _, rfl, _⟩ := h; rfl) | (obtain ⟨_, _, _, _, _, rfl, _⟩ := h; rfl) | (obtain ⟨_, _, _, _, _, _, rfl, _⟩ := h; rfl)) l_law_groups_right, g19, p19, B19⟩
  have C12 : CalZ l.prog w K mg base (bagB (clsOf [("BadWord", C_BadWord)] fa) r l1 l2) 4 "each_step" ["row", "word"] S_each_step := ⟨f12, v12, w_each_step F12 C10 C9 (fun ds Y Q E h => by first | (simp only [S_each_step] at h; split at h <;> first | rfl | exact h.elim) | (obtain ⟨rfl, _⟩ := h; rfl) | (obtain ⟨_, rfl, _⟩ := h; rfl) | (obtain ⟨_, _, rfl, _⟩ := h; rfl) | (obtain ⟨_, _, _, rfl, _⟩ := h; rfl) | (obtain ⟨_, _, _, _, rfl, _⟩ := h; rfl) | (obtain ⟨_, _, _, _, _, rfl, _⟩ := h; rfl)) l_each_step, g12, p12, B12⟩
  exact w_law C17 C18 C15 C11 C19 C12 C6 y_range y_len y_sorted y_list NST cdv A outer s H E hr hgd tk
end LawP
set_option linter.all false
set_option maxRecDepth 100000
set_option maxHeartbeats 0
open PySem PySem.W PyProof.Rows in
theorem PySem.Challenge.cw_matesline_k09_whole_words_go_on_holds : PySem.Challenge.rw_matesline_k09_whole_words_go_on.Holds := by
  w_on; o_law; k_head; (case hw => w_witness2)
  k_fill
  refine VL.walkG (l := PySem.Challenge.rw_matesline_k09_whole_words_go_on) (n := 63) (k := 6) (x := "_law_script") (sp := fun w => VL.spLaw _) rfl (by decide) rfl ⟨rfl, by decide, by decide⟩ (fun w h Y => PySem.W.kIn_of Y) ?F (fun _ _ a ns hl _ hS => ⟨a, ns, rfl, hS, hl, fun _ => rfl⟩)
  case F =>
    intro w mg fa h KX G hmg
    refine' LawP.all_mk KX G hmg ?d14 ?d15 ?d16 ?d17 ?d18 ?d7 ?d10 ?d6 ?d8 ?d9 ?d11 ?d19 ?d12 ?d20 ?m0 ?m1 ?z0 ?z1 ?z2 ?z3 ?z4 ?z5 ?z6 ?z7 ?z8 ?z9 ?z10 ?r0 ?st0
    (case d14 => refine' VL.defK ?a ?l ?c ?k; (case a => k_is); (case l => k_is); (case c => k_is); (case k => k_is))
    (case d15 => refine' VL.defK ?a ?l ?c ?k; (case a => k_is); (case l => k_is); (case c => k_is); (case k => k_is))
    (case d16 => refine' VL.defK ?a ?l ?c ?k; (case a => k_is); (case l => k_is); (case c => k_is); (case k => k_is))
    (case d17 => refine' VL.defK ?a ?l ?c ?k; (case a => k_is); (case l => k_is); (case c => k_is); (case k => k_is))
    (case d18 => refine' VL.defK ?a ?l ?c ?k; (case a => k_is); (case l => k_is); (case c => k_is); (case k => k_is))
    (case d7 => refine' VL.defK ?a ?l ?c ?k; (case a => k_is); (case l => k_is); (case c => k_is); (case k => k_is))
    (case d10 => refine' VL.defK ?a ?l ?c ?k; (case a => k_is); (case l => k_is); (case c => k_is); (case k => k_is))
    (case d6 => refine' VL.defK ?a ?l ?c ?k; (case a => k_is); (case l => k_is); (case c => k_is); (case k => k_is))
    (case d8 => refine' VL.defK ?a ?l ?c ?k; (case a => k_is); (case l => k_is); (case c => k_is); (case k => k_is))
    (case d9 => refine' VL.defK ?a ?l ?c ?k; (case a => k_is); (case l => k_is); (case c => k_is); (case k => k_is))
    (case d11 => refine' VL.defK ?a ?l ?c ?k; (case a => k_is); (case l => k_is); (case c => k_is); (case k => k_is))
    (case d19 => refine' VL.defK ?a ?l ?c ?k; (case a => k_is); (case l => k_is); (case c => k_is); (case k => k_is))
    (case d12 => refine' VL.defK ?a ?l ?c ?k; (case a => k_is); (case l => k_is); (case c => k_is); (case k => k_is))
    (case d20 => refine' VL.defK ?a ?l ?c ?k; (case a => k_is); (case l => k_is); (case c => k_is); (case k => k_is))
    (case m0 => k_is)
    (case m1 => k_is)
    (case z0 => k_is)
    (case z1 => k_is)
    (case z2 => k_is)
    (case z3 => k_is)
    (case z4 => k_is)
    (case z5 => k_is)
    (case z6 => k_is)
    (case z7 => k_is)
    (case z8 => k_is)
    (case z9 => k_is)
    (case z10 => k_is)
    (case r0 => refine' VL.rai1 (VL.raiB ?a1 ?a2 ?a3 ?a4 ?a5 ?b1 ?b2 ?b3 ?b4 ?b5 ?b6 ?b7 ?b8) ?c1 ?c2 ?c3 ?c4 ?d1 ?d2 ?d3 ?d4 ?d5; (case a1 => k_is); (case a2 => k_is); (case a3 => k_is); (case a4 => k_is); (case a5 => k_is); (case b1 => k_is); (case b2 => k_is); (case b3 => k_is); (case b4 => k_is); (case b5 => k_is); (case b6 => k_is); (case b7 => k_is); (case b8 => k_is); (case c1 => k_is); (case c2 => decide +kernel); (case c3 => k_is); (case c4 => k_is); (case d1 => k_is); (case d2 => k_is); (case d3 => k_is); (case d4 => k_is); (case d5 => k_is))
    (case st0 => refine' VL.noStK ?a1 ?a2; (case a1 => k_is); (case a2 => k_is))
