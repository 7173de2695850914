import PyProof.Rows.All
import PySem.Challenge.RW_matesline_k01_limits_and_errors
import HandS.ForMost
import HandS.ForExc
import HandS.TupAny
import HandS.TupMul
import HandS.More
import HandS.Style
import HandS.IsInst
import HandS.Deep
import KE.DataEq
import HandS.RaiseMore
import KE.KIndexOf
import PyProof.SeqIndex
import PyProof.EqAt
import HandS.Iter
import HandS.Zip
import HandS.Rev
import KE.GoesMore
import KE.GoesEnum
import HandS.Comp
import HandS.WordsExc
import HandS.ExcOwn
import PyProof.ReprReads
import PyProof.ReprRoads
import HandS.Ends
import HandS.Dict
import KE.KRevSl
import HandS.AnyAll
import HandS.Text
import PyProof.ReprLen
import PyProof.Rows.ReprOcc
import HandS.StrMore
import HandS.Strs
import HandS.SetFor
import HandS.Steps
import HandS.ExcInit
import HandS.ExcField
import HandS.ExcIs
import HandS.Small
import KE.KIsAll
import HandS.Star
import HandS.SortInts
import HandS.TupSets
import HandS.Conv
import HandS.SortRule
import PyProof.ListStr
import HandS.Flow
import HandS.Lambda
import HandS.EndTab
import KE.KNest
import HandS.EndOwn
import HandS.HotCalls
import HandS.Defaults
import HandS.CallSlots
import HandS.Replace
import KE.DataMinMax
import HandS.NoneIn
import PyProof.EqKinds
import KE.KEqDict
import PyProof.Rows.SortShellAny
import KE.KDictZip
import KE.KItemsList
import HandS.ListItems
import KE.KDictList
import HandS.Keys
import Flt.Ops
import PyProof.FString5
import HandS.SetTxt0
import KE.SortKeyed
import KE.SortData
import HandS.GenList
import HandS.GenOver
import PyProof.LongRange
import PyProof.NeKinds
import HandS.Property
import HandS.ClsMeth
import HandS.FStr
import HandS.SlotsOwn
import KE.KCallOwn
import HandS.Finally
import HandS.Nested
import KE.KSuper
import HandS.TryOnly
import HandS.ExcValue
set_option Elab.async false
set_option linter.all false
set_option maxRecDepth 100000
set_option maxHeartbeats 4000000
namespace VL
open PySem PySem.Spec PyProof.Rows L2
/-! ## tuples whose very object is known (so that it has no dict of its own) -/
abbrev tob (its : List Value) : Obj := { cls := .type "tuple", data := .seq its.toArray }
/-- a held tuple -/
abbrev HO.th (o : Obj) (xs : List V) : HO := .frz o (.tup xs)
theorem th_ok {P : Program} {w : World} {H : Hp} {h : Heap} {a : Addr} {xs : List V} {its : List Value} (hz : xs.length ≤ sizeLine) (r : Vals xs its) (e : h.get? a = some (tob its)) : ObjOk P w H h a (HO.th (tob its) xs) :=
  ⟨e, hz, its, r, ⟨_, e, rfl, _, rfl⟩⟩
theorem SqT.th {K : PySem.W.Frag} {H : Hp} {a : Addr} {o : Obj} {xs : List V} (h : H a = some (HO.th o xs)) : SqT K H a xs := .inl (.inr ⟨o, h⟩)
/-- what is wanted of a new tuple -/
abbrev NewT (H : Hp) (xs : List V) (Q : VK) : Prop := ∀ (p : Addr) (o : Obj), H p = none → o.dict = none → Q (.ref p) (upd H p (HO.th o xs))
section
variable {X : Cx} {e : Expr} {es : List Expr} {te : TE} {t : TA} {pos : Pos} {pins : List (Addr × Obj)} {σ : L2.St} {H : Hp} {s : Shared} {Q : VK}
theorem new_th {xs : List V} {its : List Value} {tk : Nat} (I : Inv X pins σ H s) (hz : xs.length ≤ sizeLine) (r : Vals xs its) (q : NewT H xs Q) : EP X pins σ Q (.ref s.heap.objs.size) { s with heap := s.heap.push (tob its), toks := tk } :=
  ⟨.ref s.heap.objs.size, upd H s.heap.objs.size (HO.th (tob its) xs), I.laid (t' := tk) (fun _ _ e => Heap.get?_push_of_some _ e) (Nat.le_refl _) (th_ok hz r (Heap.get?_push_size _ rfl)), rfl, q _ _ (I.hok.fresh (Nat.le_refl _)) rfl⟩
def tTupF (t : TA) : TE := fun σ H Q => t σ H fun xs H1 => xs.length ≤ sizeLine ∧ NewT H1 xs Q
theorem pe_tupF {x1} (h : PA X es t) : PE X (.Tuple es x1 pos) (tTupF t) := by
  refine ⟨fun pins s σ H Q I hq => wpAny_Tuple_spliced (thn (h.run pos pins s σ H _ I hq) ?_)⟩
  rintro us s1 ⟨xs, H1, I1, r, z, q⟩
  exact ⟨Nat.le_trans (Nat.le_of_eq r.length.symm) z, new_th (tk := s1.toks) I1 z r q⟩
def rCatF (K : PySem.W.Frag) : R2 := fun x y H Q => ∃ a c xs ys, x = .ref a ∧ y = .ref c ∧ SqT K H a xs ∧ SqT K H c ys ∧ xs.length + ys.length ≤ sizeLine ∧
  (xs = [] → Q (.ref c) H) ∧ (xs ≠ [] → ys = [] → Q (.ref a) H) ∧ (xs ≠ [] → ys ≠ [] → NewT H (xs ++ ys) Q)
theorem op_catF : OpR X (binaryOp .Add) (rCatF X.K) := by
  intro pins s σ H x y v u Q I rx ry ⟨a, c, xs, ys, ex, ey, ha, hc, hz, q0, q1, q2⟩
  subst ex ey
  obtain rfl : v = .ref a := rx
  obtain rfl : u = .ref c := ry
  obtain ⟨i1, r1, p1, _⟩ := I.tuple ha
  obtain ⟨i2, r2, p2, _⟩ := I.tuple hc
  cases xs with
  | nil =>
    cases r1
    exact cat_tup0 p1 p2 ⟨.ref c, H, I, rfl, q0 rfl⟩
  | cons x0 xr =>
    have hx : x0 :: xr ≠ [] := by simp
    refine HT.cat_tup p1 p2 (fun z => hx (r1.nil_iff.mp z)) (fun z => ⟨.ref a, H, I, rfl, q1 hx (r2.nil_iff.mp z)⟩) (fun z => ?_) (by have h1 := r1.length; have h2 := r2.length; omega)
    exact new_th (tk := s.toks) I (by rw [List.length_append]; exact hz) (r1.append r2) (q2 hx fun w => z (r2.nil_iff.mpr w))
end
end VL
set_option Elab.async false
set_option linter.all false
set_option maxRecDepth 100000
set_option maxHeartbeats 4000000
namespace VL
open PySem PySem.Spec PyProof.Rows L2
/-- things that no rule here writes -/
def still : HO → Prop
  | .ext φ => ∃ (h : Heap) (a : Addr) (o : Obj) (vs : Array Value), φ h ∧ h.get? a = some o ∧ o.data = .fields vs ∧ ∀ c, c ≠ a → h.get? c = none
  | .frz _ (.lst _) => True
  | _ => False
/-- any other thing, by what is true of it at its address -/
structure Abs where
  R : (Addr → Prop) → Hp → Addr → Prop
  at_ : ∀ {Z H a}, R Z H a → ∃ o, H a = some o
  noext : ∀ {Z H a}, R Z H a → ∀ o : HO, still o → H a ≠ some o
  mono : ∀ {Z Z' : Addr → Prop} {H H' : Hp} {a : Addr}, (∀ a, Z' a → Z a ∨ H a = none) → (∀ a o, H a = some o → ¬ Z a → H' a = some o) → (∀ o, H a = some o → H' a = some o) → R Z H a → R Z' H' a
/-- what a field of an object that changes may be worth: plain data, a tuple of objects of a class, another object -/
inductive FV where
  | py (p : PyData)
  | tps (n : Str) (L : List (List (Str × PyData)))
  | adr (a : Addr)
/-- any claim about a value that later steps keep -/
structure Clm where
  R : (Str → Addr) → (Addr → Prop) → Hp → V → Prop
  mono : ∀ {cls : Str → Addr} {Z Z' : Addr → Prop} {H H' : Hp} {v : V}, (∀ a, Z' a → Z a ∨ H a = none) → (∀ a o, H a = some o → ¬ Z a → H' a = some o) → R cls Z H v → R cls Z' H' v
/-- what a value is worth: plain data, an own object of plain data that stands still, a value as it is -/
inductive D where
  | py (p : PyData)
  | obj (a : Addr) (n : Str) (fs : List (Str × PyData))
  | raw (v : V)
  | err (a : Addr) (d : Option Addr) (n : Str) (fs : List (Str × PyData))
  | abs (A : Abs)
  | tps (n : Str) (L : List (List (Str × PyData)))
  | rob (a : Addr) (n : Str) (fs : List (Str × FV))
  | cls (n : Str)
  | clm (C : Clm)
@[simp] def kD : Key → PyData
  | .inl i => .int i
  | .inr x => .str x
mutual
/-- v is worth d in H; nothing that it reaches lies in Z -/
inductive Rq (Z : Addr → Prop) (H : Hp) : V → PyData → Prop
  | non : Rq Z H .non .none
  | bl (k : Bool) : Rq Z H (.bl k) (.bool k)
  | int (i : Int) : Rq Z H (.int i) (.int i)
  | str (x : Str) : Rq Z H (.str x) (.str x)
  | lst {a : Addr} {xs : List V} {ds : List PyData} : H a = some (.lst xs) → ¬ Z a → Rqs Z H xs ds → Rq Z H (.ref a) (.list ds)
  | tup {a : Addr} {o : Obj} {xs : List V} {ds : List PyData} : H a = some (HO.th o xs) → o.dict = none → ¬ Z a → Rqs Z H xs ds → Rq Z H (.ref a) (.tuple ds)
  | dct {a : Addr} {kvs : List (Key × V)} {ds : List (PyData × PyData)} : H a = some (.dK kvs) → ¬ Z a → Rqk Z H kvs ds → Rq Z H (.ref a) (.dict ds)
inductive Rqs (Z : Addr → Prop) (H : Hp) : List V → List PyData → Prop
  | nil : Rqs Z H [] []
  | cons {v : V} {d : PyData} {vs : List V} {ds : List PyData} : Rq Z H v d → Rqs Z H vs ds → Rqs Z H (v :: vs) (d :: ds)
inductive Rqk (Z : Addr → Prop) (H : Hp) : List (Key × V) → List (PyData × PyData) → Prop
  | nil : Rqk Z H [] []
  | cons {k : Key} {v : V} {d : PyData} {vs : List (Key × V)} {ds : List (PyData × PyData)} : Rq Z H v d → Rqk Z H vs ds → Rqk Z H ((k, v) :: vs) ((kD k, d) :: ds)
end
section
variable {Z Z' : Addr → Prop} {H H' : Hp}
mutual
theorem Rq.mono (hz : ∀ a, Z' a → Z a ∨ H a = none) (hs : ∀ a o, H a = some o → ¬ Z a → H' a = some o) : ∀ {v : V} {d : PyData}, Rq Z H v d → Rq Z' H' v d
  | _, _, .non => .non
  | _, _, .bl k => .bl k
  | _, _, .int i => .int i
  | _, _, .str x => .str x
  | _, _, .lst e n r => .lst (hs _ _ e n) (fun z => (hz _ z).elim n fun q => by rw [e] at q; cases q) (Rqs.mono hz hs r)
  | _, _, .tup e d n r => .tup (hs _ _ e n) d (fun z => (hz _ z).elim n fun q => by rw [e] at q; cases q) (Rqs.mono hz hs r)
  | _, _, .dct e n r => .dct (hs _ _ e n) (fun z => (hz _ z).elim n fun q => by rw [e] at q; cases q) (Rqk.mono hz hs r)
theorem Rqs.mono (hz : ∀ a, Z' a → Z a ∨ H a = none) (hs : ∀ a o, H a = some o → ¬ Z a → H' a = some o) : ∀ {v : List V} {d : List PyData}, Rqs Z H v d → Rqs Z' H' v d
  | _, _, .nil => .nil
  | _, _, .cons r t => .cons (Rq.mono hz hs r) (Rqs.mono hz hs t)
theorem Rqk.mono (hz : ∀ a, Z' a → Z a ∨ H a = none) (hs : ∀ a o, H a = some o → ¬ Z a → H' a = some o) : ∀ {v : List (Key × V)} {d : List (PyData × PyData)}, Rqk Z H v d → Rqk Z' H' v d
  | _, _, .nil => .nil
  | _, _, .cons r t => .cons (Rq.mono hz hs r) (Rqk.mono hz hs t)
end
theorem Rqs.length : ∀ {v : List V} {d : List PyData}, Rqs Z H v d → v.length = d.length
  | _, _, .nil => rfl
  | _, _, .cons _ t => congrArg (· + 1) (Rqs.length t)
theorem Rqk.length : ∀ {v : List (Key × V)} {d : List (PyData × PyData)}, Rqk Z H v d → v.length = d.length
  | _, _, .nil => rfl
  | _, _, .cons _ t => congrArg (· + 1) (Rqk.length t)
theorem Rqs.append : ∀ {v w : List V} {d e : List PyData}, Rqs Z H v d → Rqs Z H w e → Rqs Z H (v ++ w) (d ++ e)
  | _, _, _, _, .nil, s => s
  | _, _, _, _, .cons r t, s => .cons r (Rqs.append t s)
theorem Rqs.get : ∀ {v : List V} {d : List PyData} {i : Nat} {x : PyData}, Rqs Z H v d → d[i]? = some x → ∃ u, v[i]? = some u ∧ Rq Z H u x
  | _, _, _, _, .nil, e => by simp at e
  | _, _, 0, _, .cons r _, e => by simp at e; subst e; exact ⟨_, rfl, r⟩
  | _, _, i + 1, x, .cons _ t, e => by
    obtain ⟨u, h1, h2⟩ := Rqs.get (i := i) (x := x) t (by simpa using e)
    exact ⟨u, by simpa using h1, h2⟩
/-- ints are ints -/
theorem Rqs.ints : ∀ {v : List V} {ns : List Int}, Rqs Z H v (ns.map PyData.int) → v = ns.map V.int
  | _, [], .nil => rfl
  | _, n :: ns, .cons r t => by
    cases r
    rw [List.map_cons, Rqs.ints t]
theorem Rqs.of_ints : ∀ (ns : List Int), Rqs Z H (ns.map V.int) (ns.map PyData.int)
  | [] => .nil
  | n :: ns => .cons (.int n) (Rqs.of_ints ns)
end
/-- what surrounds the code: the classes' addresses, what others may change (B) while G stands -/
structure Bg where
  cls : Str → Addr
  B : Addr → Prop
  G : Hp → Prop
  loc : ∀ H H' : Hp, (∀ a, B a → H' a = H a) → (∀ a o, still o → H a = some o → H' a = some o) → G H → G H'
  dom : ∀ (H : Hp) (a : Addr), G H → B a → H a ≠ none
/-- an error: its class's name, its fields -/
structure Er where
  n : Str
  fs : List (Str × PyData)
/-- fields -/
inductive Rqf (Z : Addr → Prop) (H : Hp) : List (Str × V) → List (Str × PyData) → Prop
  | nil : Rqf Z H [] []
  | cons {k : Str} {v : V} {d : PyData} {vs : List (Str × V)} {ds : List (Str × PyData)} : Rq Z H v d → Rqf Z H vs ds → Rqf Z H ((k, v) :: vs) ((k, d) :: ds)
section
variable {Z Z' : Addr → Prop} {H H' : Hp}
theorem Rqf.mono (hz : ∀ a, Z' a → Z a ∨ H a = none) (hs : ∀ a o, H a = some o → ¬ Z a → H' a = some o) : ∀ {v : List (Str × V)} {d : List (Str × PyData)}, Rqf Z H v d → Rqf Z' H' v d
  | _, _, .nil => .nil
  | _, _, .cons r t => .cons (r.mono hz hs) (Rqf.mono hz hs t)
theorem Rqf.look : ∀ {v : List (Str × V)} {d : List (Str × PyData)} {f : Str} {x : PyData}, Rqf Z H v d → d.lookup f = some x → ∃ u, v.lookup f = some u ∧ Rq Z H u x
  | _, _, _, _, .nil, e => by simp at e
  | _, _, f, x, .cons (k := k) r t, e => by
    rw [List.lookup_cons] at e
    rw [List.lookup_cons]
    cases h : f == k with
    | true => rw [h] at e; cases e; exact ⟨_, rfl, r⟩
    | false => rw [h] at e; exact Rqf.look t e
end
/-- objects of the class at C, by their fields -/
inductive Rqo (C : Addr) (Z : Addr → Prop) (H : Hp) : List V → List (List (Str × PyData)) → Prop
  | nil : Rqo C Z H [] []
  | cons {a dx : Addr} {xs : List (Str × V)} {fs : List (Str × PyData)} {vs : List V} {L : List (List (Str × PyData))} : H a = some (.ins C dx xs) → ¬ Z a → Rqf Z H xs fs → Rqo C Z H vs L → Rqo C Z H (.ref a :: vs) (fs :: L)
/-- a tuple of such objects -/
def RpT (cls : Str → Addr) (Z : Addr → Prop) (H : Hp) (v : V) (n : Str) (L : List (List (Str × PyData))) : Prop := ∃ c o xs, v = .ref c ∧ H c = some (HO.th o xs) ∧ o.dict = none ∧ ¬ Z c ∧ Rqo (cls n) Z H xs L
/-- a field's value is worth it -/
def RFv (cls : Str → Addr) (Z : Addr → Prop) (H : Hp) (v : V) : FV → Prop
  | .py p => Rq Z H v p
  | .tps n L => RpT cls Z H v n L
  | .adr a => v = .ref a
inductive RFs (cls : Str → Addr) (Z : Addr → Prop) (H : Hp) : List (Str × V) → List (Str × FV) → Prop
  | nil : RFs cls Z H [] []
  | cons {k : Str} {v : V} {d : FV} {vs : List (Str × V)} {ds : List (Str × FV)} : RFv cls Z H v d → RFs cls Z H vs ds → RFs cls Z H ((k, v) :: vs) ((k, d) :: ds)
section
variable {cls : Str → Addr} {C : Addr} {Z Z' : Addr → Prop} {H H' : Hp}
theorem Rqo.mono (hz : ∀ a, Z' a → Z a ∨ H a = none) (hs : ∀ a o, H a = some o → ¬ Z a → H' a = some o) : ∀ {v : List V} {L : List (List (Str × PyData))}, Rqo C Z H v L → Rqo C Z' H' v L
  | _, _, .nil => .nil
  | _, _, .cons e n r t => .cons (hs _ _ e n) (fun z => (hz _ z).elim n fun q => by rw [e] at q; cases q) (r.mono hz hs) (Rqo.mono hz hs t)
theorem RpT.mono (hz : ∀ a, Z' a → Z a ∨ H a = none) (hs : ∀ a o, H a = some o → ¬ Z a → H' a = some o) {v : V} {n : Str} {L : List (List (Str × PyData))} (r : RpT cls Z H v n L) : RpT cls Z' H' v n L := by
  obtain ⟨c, o, xs, ev, e, d, nz, q⟩ := r
  exact ⟨c, o, xs, ev, hs _ _ e nz, d, fun z => (hz _ z).elim nz (fun q => by rw [e] at q; cases q), q.mono hz hs⟩
theorem RFv.mono (hz : ∀ a, Z' a → Z a ∨ H a = none) (hs : ∀ a o, H a = some o → ¬ Z a → H' a = some o) {v : V} {d : FV} (r : RFv cls Z H v d) : RFv cls Z' H' v d := by
  cases d with
  | py p => exact Rq.mono hz hs r
  | tps n L => exact RpT.mono hz hs r
  | adr a => exact r
theorem RFs.mono (hz : ∀ a, Z' a → Z a ∨ H a = none) (hs : ∀ a o, H a = some o → ¬ Z a → H' a = some o) : ∀ {v : List (Str × V)} {d : List (Str × FV)}, RFs cls Z H v d → RFs cls Z' H' v d
  | _, _, .nil => .nil
  | _, _, .cons r t => .cons (r.mono hz hs) (RFs.mono hz hs t)
end
/-- v is worth d -/
def Rp (b : Bg) (Z : Addr → Prop) (H : Hp) (v : V) : D → Prop
  | .py p => Rq Z H v p
  | .obj a n fs => ∃ dx xs, v = .ref a ∧ H a = some (.ins (b.cls n) dx xs) ∧ ¬ Z a ∧ Rqf Z H xs fs
  | .abs A => ∃ a, v = .ref a ∧ ¬ Z a ∧ A.R Z H a
  | .tps n L => RpT b.cls Z H v n L
  | .rob a n fs => ∃ dx xs, v = .ref a ∧ H a = some (.ins (b.cls n) dx xs) ∧ ¬ Z a ∧ RFs b.cls Z H xs fs
  | .cls n => v = .ref (b.cls n)
  | .clm C => C.R b.cls Z H v
  | .raw u => v = u
  | .err a d _ fs => v = .ref a ∧ ((d = none ∧ fs = []) ∨ ∃ dd xs, d = some dd ∧ H dd = some (.xd xs) ∧ ¬ Z dd ∧ Rqf Z H xs fs)
inductive Rps (b : Bg) (Z : Addr → Prop) (H : Hp) : List V → List D → Prop
  | nil : Rps b Z H [] []
  | cons {v : V} {d : D} {vs : List V} {ds : List D} : Rp b Z H v d → Rps b Z H vs ds → Rps b Z H (v :: vs) (d :: ds)
section
variable {b : Bg} {Z Z' : Addr → Prop} {H H' : Hp}
theorem Rp.mono (hz : ∀ a, Z' a → Z a ∨ H a = none) (hs : ∀ a o, H a = some o → ¬ Z a → H' a = some o) {v : V} {d : D} (r : Rp b Z H v d) : Rp b Z' H' v d := by
  cases d with
  | py p => exact Rq.mono hz hs r
  | abs A =>
    obtain ⟨a, e, nz, q⟩ := r
    obtain ⟨o, h⟩ := A.at_ q
    exact ⟨a, e, fun z => (hz _ z).elim nz (fun q => by rw [h] at q; cases q), A.mono hz hs (fun o h => hs _ _ h nz) q⟩
  | obj a n fs =>
    obtain ⟨dx, xs, e, h, nz, q⟩ := r
    exact ⟨dx, xs, e, hs _ _ h nz, fun z => (hz _ z).elim nz (fun q => by rw [h] at q; cases q), q.mono hz hs⟩
  | tps n L => exact RpT.mono hz hs r
  | rob a n fs =>
    obtain ⟨dx, xs, e, h, nz, q⟩ := r
    exact ⟨dx, xs, e, hs _ _ h nz, fun z => (hz _ z).elim nz (fun q => by rw [h] at q; cases q), q.mono hz hs⟩
  | cls n => exact r
  | clm C => exact C.mono hz hs r
  | raw u => exact r
  | err a d n fs =>
    obtain ⟨e, r⟩ := r
    refine ⟨e, r.imp id ?_⟩
    rintro ⟨dd, xs, e1, h, nz, q⟩
    exact ⟨dd, xs, e1, hs _ _ h nz, fun z => (hz _ z).elim nz (fun q => by rw [h] at q; cases q), q.mono hz hs⟩
theorem Rps.mono (hz : ∀ a, Z' a → Z a ∨ H a = none) (hs : ∀ a o, H a = some o → ¬ Z a → H' a = some o) : ∀ {v : List V} {d : List D}, Rps b Z H v d → Rps b Z' H' v d
  | _, _, .nil => .nil
  | _, _, .cons r t => .cons (r.mono hz hs) (Rps.mono hz hs t)
theorem Rps.length : ∀ {v : List V} {d : List D}, Rps b Z H v d → v.length = d.length
  | _, _, .nil => rfl
  | _, _, .cons _ t => congrArg (· + 1) (Rps.length t)
theorem Rps.pys : ∀ {v : List V} {d : List PyData}, Rps b Z H v (d.map D.py) → Rqs Z H v d
  | _, [], .nil => .nil
  | _, x :: d, .cons r t => .cons r (Rps.pys t)
end
/-- an owned object: it lies in Z itself, its items do not -/
def Ow (b : Bg) (Z : Addr → Prop) (H : Hp) (a : Addr) : D → Prop
  | .py (.list ds) => ∃ xs, H a = some (.lst xs) ∧ Rqs Z H xs ds
  | .py (.dict ds) => ∃ kvs, H a = some (.dK kvs) ∧ Rqk Z H kvs ds
  | .obj c n fs => a = c ∧ ∃ dx xs, H a = some (.ins (b.cls n) dx xs) ∧ Rqf Z H xs fs
  | .rob c n fs => a = c ∧ ∃ dx xs, H a = some (.ins (b.cls n) dx xs) ∧ RFs b.cls Z H xs fs
  | .abs A => A.R Z H a
  | _ => False
section
variable {b : Bg} {Z Z' : Addr → Prop} {H H' : Hp} {a : Addr} {d : D}
theorem Ow.at (h : Ow b Z H a d) : ∃ o, H a = some o := by
  cases d with
  | py p =>
    cases p with
    | list ds => obtain ⟨xs, e, _⟩ := h; exact ⟨_, e⟩
    | dict ds => obtain ⟨xs, e, _⟩ := h; exact ⟨_, e⟩
    | _ => exact False.elim h
  | obj c n fs => obtain ⟨_, dx, xs, e, _⟩ := h; exact ⟨_, e⟩
  | rob c n fs => obtain ⟨_, dx, xs, e, _⟩ := h; exact ⟨_, e⟩
  | tps n L => exact False.elim h
  | cls n => exact False.elim h
  | clm C => exact False.elim h
  | abs A => exact A.at_ h
  | raw u => exact False.elim h
  | err _ _ _ _ => exact False.elim h
theorem Ow.mono (hz : ∀ a, Z' a → Z a ∨ H a = none) (hs : ∀ a o, H a = some o → ¬ Z a → H' a = some o) (ha : ∀ o, H a = some o → H' a = some o) (h : Ow b Z H a d) : Ow b Z' H' a d := by
  cases d with
  | py p =>
    cases p with
    | list ds => obtain ⟨xs, e, r⟩ := h; exact ⟨xs, ha _ e, r.mono hz hs⟩
    | dict ds => obtain ⟨xs, e, r⟩ := h; exact ⟨xs, ha _ e, r.mono hz hs⟩
    | _ => exact False.elim h
  | obj c n fs => obtain ⟨ec, dx, xs, e, r⟩ := h; exact ⟨ec, dx, xs, ha _ e, r.mono hz hs⟩
  | rob c n fs => obtain ⟨ec, dx, xs, e, r⟩ := h; exact ⟨ec, dx, xs, ha _ e, r.mono hz hs⟩
  | tps n L => exact False.elim h
  | cls n => exact False.elim h
  | clm C => exact False.elim h
  | abs A => exact A.mono hz hs ha h
  | raw u => exact False.elim h
  | err _ _ _ _ => exact False.elim h
/-- given away -/
theorem Ow.rp (hz : ∀ a, Z' a → Z a) (na : ¬ Z' a) (h : Ow b Z H a d) : Rp b Z' H (.ref a) d := by
  have hm : ∀ a, Z' a → Z a ∨ H a = none := fun a z => .inl (hz a z)
  cases d with
  | py p =>
    cases p with
    | list ds => obtain ⟨xs, e, r⟩ := h; exact Rq.lst e na (r.mono hm fun _ _ e _ => e)
    | dict ds => obtain ⟨xs, e, r⟩ := h; exact Rq.dct e na (r.mono hm fun _ _ e _ => e)
    | _ => exact False.elim h
  | obj c n fs => obtain ⟨ec, dx, xs, e, r⟩ := h; subst ec; exact ⟨dx, xs, rfl, e, na, r.mono hm fun _ _ e _ => e⟩
  | rob c n fs => obtain ⟨ec, dx, xs, e, r⟩ := h; subst ec; exact ⟨dx, xs, rfl, e, na, r.mono hm fun _ _ e _ => e⟩
  | tps n L => exact False.elim h
  | cls n => exact False.elim h
  | clm C => exact False.elim h
  | abs A => exact ⟨a, rfl, na, A.mono hm (fun _ _ e _ => e) (fun _ e => e) h⟩
  | raw u => exact False.elim h
  | err _ _ _ _ => exact False.elim h
end
end VL
set_option Elab.async false
set_option linter.all false
set_option maxRecDepth 100000
set_option maxHeartbeats 4000000
namespace VL
open PySem PySem.Spec PyProof.Rows L2
/-- a name's slot: nothing known, a shared value, an object that nobody else holds -/
inductive Slot where
  | un | shr (d : D) | own (d : D)
abbrev VEnv := List Slot
/-- all that stood and may not be changed by others stands -/
def Ex (b : Bg) (H H' : Hp) : Prop := ∀ a o, H a = some o → ¬ b.B a → H' a = some o
section
variable {b : Bg} {H H1 H2 : Hp}
theorem Ex.refl : Ex b H H := fun _ _ e _ => e
theorem Ex.trans (x : Ex b H H1) (y : Ex b H1 H2) : Ex b H H2 := fun a o e n => y a o (x a o e n) n
theorem Ex.new {a : Addr} {o : HO} (h : H a = none) : Ex b H (upd H a o) := fun c u e _ => by
  rw [upd_ne (ne_of_none e h)]
  exact e
theorem Bg.new {a : Addr} {o : HO} (g : b.G H) (h : H a = none) : b.G (upd H a o) :=
  b.loc H _ (fun c hc => upd_ne fun e => b.dom H c g hc (by rw [e]; exact h)) (fun c o _ e => by rw [upd_ne (ne_of_none e h)]; exact e) g
end
/-- the names' values and what they own. Zo: what the callers own, and B; Z: all that is owned now -/
structure VOk (b : Bg) (Zo Z : Addr → Prop) (σ : L2.St) (H : Hp) (ρ : VEnv) : Prop where
  g : b.G H
  zb : ∀ a, b.B a → Zo a
  zo : ∀ a, Zo a → Z a
  dom : ∀ a, Z a → H a ≠ none
  zi : ∀ a, Z a → Zo a ∨ ∃ (i : Nat) (d : D), ρ[i]? = some (.own d) ∧ σ[i]? = some (some (.ref a))
  own : ∀ (i : Nat) (d : D), ρ[i]? = some (.own d) → ∃ a, σ[i]? = some (some (.ref a)) ∧ Z a ∧ ¬ Zo a ∧ Ow b Z H a d
  inj : ∀ (i j : Nat) (d e : D) (a : Addr), ρ[i]? = some (.own d) → ρ[j]? = some (.own e) → σ[i]? = some (some (.ref a)) → σ[j]? = some (some (.ref a)) → i = j
  shr : ∀ (i : Nat) (d : D), ρ[i]? = some (.shr d) → ∃ v, σ[i]? = some (some v) ∧ Rp b Z H v d
  len : ρ.length = σ.length
section
variable {b : Bg} {Zo Z : Addr → Prop} {σ : L2.St} {H H' : Hp} {ρ : VEnv}
theorem VOk.nb (v : VOk b Zo Z σ H ρ) {a : Addr} (h : ¬ Z a) : ¬ b.B a := fun z => h (v.zo _ (v.zb _ z))
theorem VOk.fresh (v : VOk b Zo Z σ H ρ) {a : Addr} (h : H a = none) : ¬ Z a := fun z => v.dom a z h
theorem VOk.keep (v : VOk b Zo Z σ H ρ) (x : Ex b H H') : ∀ a o, H a = some o → ¬ Z a → H' a = some o := fun a o e n => x a o e (v.nb n)
theorem VOk.rp (v : VOk b Zo Z σ H ρ) (x : Ex b H H') {u : V} {d : D} (r : Rp b Z H u d) : Rp b Z H' u d := r.mono (fun a z => .inl z) (v.keep x)
theorem VOk.rq (v : VOk b Zo Z σ H ρ) (x : Ex b H H') {u : V} {d : PyData} (r : Rq Z H u d) : Rq Z H' u d := r.mono (fun a z => .inl z) (v.keep x)
theorem VOk.rqs (v : VOk b Zo Z σ H ρ) (x : Ex b H H') {u : List V} {d : List PyData} (r : Rqs Z H u d) : Rqs Z H' u d := r.mono (fun a z => .inl z) (v.keep x)
/-- behind an expression -/
theorem VOk.ex (v : VOk b Zo Z σ H ρ) (x : Ex b H H') (g : b.G H') : VOk b Zo Z σ H' ρ where
  g := g
  zb := v.zb
  zo := v.zo
  dom := fun a z => by
    by_cases hb : b.B a
    · exact b.dom H' a g hb
    · cases e : H a with
      | none => exact absurd e (v.dom a z)
      | some o => rw [x a o e hb]; simp
  zi := v.zi
  own := fun i d e => by
    obtain ⟨a, h1, h2, h3, h4⟩ := v.own i d e
    exact ⟨a, h1, h2, h3, h4.mono (fun _ z => .inl z) (v.keep x) fun o q => x a o q fun z => h3 (v.zb a z)⟩
  inj := v.inj
  shr := fun i d e => by
    obtain ⟨u, h1, h2⟩ := v.shr i d e
    exact ⟨u, h1, v.rp x h2⟩
  len := v.len
end
/-! ### readings -/
abbrev VT := VEnv → (D → Prop) → (Er → Prop) → Prop
abbrev VB := VEnv → (Bool → Prop) → (Er → Prop) → Prop
abbrev VA := VEnv → (List D → Prop) → (Er → Prop) → Prop
/-- an error as it lies: its class, its own dict -/
def ErRp (b : Bg) (Z : Addr → Prop) (H : Hp) (c : Value) (d : Option Addr) (er : Er) : Prop :=
  c = .ref (b.cls er.n) ∧ ((d = none ∧ er.fs = []) ∨ ∃ a xs, d = some a ∧ H a = some (.xd xs) ∧ ¬ Z a ∧ Rqf Z H xs er.fs)
/-- a borrowed value: it may be an owned object itself -/
def Rb (b : Bg) (Z : Addr → Prop) (H : Hp) (v : V) (d : D) : Prop := Rp b Z H v d ∨ ∃ a, v = .ref a ∧ ¬ b.B a ∧ Z a ∧ Ow b Z H a d
/-- a new object that nobody holds -/
def Rn (b : Bg) (Z : Addr → Prop) (H0 H : Hp) (v : V) (d : D) : Prop := ∃ a, v = .ref a ∧ H0 a = none ∧ Ow b (fun c => Z c ∨ c = a) H a d
/-- how a reading over values is one over the heap -/
def LE (b : Bg) (W : WX) (R : (Addr → Prop) → Hp → Hp → V → D → Prop) (t : VT) : TE := fun σ H Q => ∃ Zo Z ρ Qd Ed, VOk b Zo Z σ H ρ ∧ t ρ Qd Ed ∧
  (∀ v H' d, Ex b H H' → b.G H' → R Z H H' v d → Qd d → Q v H') ∧ ∀ c x H' er, Ex b H H' → b.G H' → ErRp b Z H' c x er → Ed er → W c x σ H'
def LB (b : Bg) (W : WX) (t : VB) : TT := fun σ H Q => ∃ Zo Z ρ Qd Ed, VOk b Zo Z σ H ρ ∧ t ρ Qd Ed ∧
  (∀ k H', Ex b H H' → b.G H' → Qd k → Q k H') ∧ ∀ c x H' er, Ex b H H' → b.G H' → ErRp b Z H' c x er → Ed er → W c x σ H'
def LA (b : Bg) (W : WX) (t : VA) : TA := fun σ H Q => ∃ Zo Z ρ Qd Ed, VOk b Zo Z σ H ρ ∧ t ρ Qd Ed ∧
  (∀ v H' d, Ex b H H' → b.G H' → Rps b Z H' v d → Qd d → Q v H') ∧ ∀ c x H' er, Ex b H H' → b.G H' → ErRp b Z H' c x er → Ed er → W c x σ H'
/-- an expression: its value; borrowed; new -/
def VE (X : Cx) (b : Bg) (W : WX) (e : Expr) (t : VT) : Prop := PE X e (LE b W (fun Z _ H v d => Rp b Z H v d) t)
def VX (X : Cx) (b : Bg) (W : WX) (e : Expr) (t : VT) : Prop := PE X e (LE b W (fun Z _ H v d => Rb b Z H v d) t)
def VN (X : Cx) (b : Bg) (W : WX) (e : Expr) (t : VT) : Prop := PE X e (LE b W (fun Z H0 H v d => Rn b Z H0 H v d) t)
def VTe (X : Cx) (b : Bg) (W : WX) (e : Expr) (t : VB) : Prop := PT X e (LB b W t)
def VAs (X : Cx) (b : Bg) (W : WX) (es : List Expr) (t : VA) : Prop := PA X es (LA b W t)
theorem pe_mono {X : Cx} {e : Expr} {t t' : TE} (h : PE X e t) (m : ∀ σ H Q, t' σ H Q → t σ H Q) : PE X e t' :=
  ⟨fun pins s σ H Q I q => h.run pins s σ H Q I (m σ H Q q)⟩
theorem pt_mono {X : Cx} {e : Expr} {t t' : TT} (h : PT X e t) (m : ∀ σ H Q, t' σ H Q → t σ H Q) : PT X e t' :=
  ⟨fun pins s σ H Q I q => h.run pins s σ H Q I (m σ H Q q)⟩
theorem pa_mono {X : Cx} {e : List Expr} {t t' : TA} (h : PA X e t) (m : ∀ σ H Q, t' σ H Q → t σ H Q) : PA X e t' :=
  ⟨fun pos pins s σ H Q I q => h.run pos pins s σ H Q I (m σ H Q q)⟩
theorem ps_mono {X : Cx} {e : Stmt} {t t' : TS} (h : PS X e t) (m : ∀ D σ H, t' D σ H → t D σ H) : PS X e t' :=
  ⟨fun pins s σ H D I q => h.run pins s σ H D I (m D σ H q)⟩
theorem pss_mono {X : Cx} {e : List Stmt} {t t' : TS} (h : PSs X e t) (m : ∀ D σ H, t' D σ H → t D σ H) : PSs X e t' :=
  ⟨fun pins s σ H D I q => h.run pins s σ H D I (m D σ H q)⟩
section
variable {X : Cx} {b : Bg} {W : WX} {e e1 e2 : Expr} {es : List Expr} {t t1 t2 : VT} {pos : Pos}
theorem VE.toX (h : VE X b W e t) : VX X b W e t := pe_mono h fun σ H Q ⟨Zo, Z, ρ, Qd, Ed, v, q, l, m⟩ => ⟨Zo, Z, ρ, Qd, Ed, v, q, fun u H' d x g r => l u H' d x g (.inl r), m⟩
theorem VN.toE (h : VN X b W e t) : VE X b W e t := pe_mono h fun σ H Q ⟨Zo, Z, ρ, Qd, Ed, v, q, l, m⟩ => ⟨Zo, Z, ρ, Qd, Ed, v, q, fun u H' d x g ⟨a, e, n, o⟩ => by
  subst e
  exact l _ H' d x g (o.rp (fun _ z => .inl z) (v.fresh n)), m⟩
theorem VN.toX (h : VN X b W e t) : VX X b W e t := VE.toX (VN.toE h)
/-! ### names, constants -/
@[simp] def vVar (i : Nat) : VT := fun ρ Q _ => ∃ d, ρ[i]? = some (.shr d) ∧ Q d
@[simp] def vBor (i : Nat) : VT := fun ρ Q _ => ∃ d, (ρ[i]? = some (.shr d) ∨ ρ[i]? = some (.own d)) ∧ Q d
@[simp] def vC (d : D) : VT := fun _ Q _ => Q d
theorem ve_var {i : Nat} (h : PE X e (tVar i)) : VE X b W e (vVar i) := pe_mono h fun σ H Q ⟨Zo, Z, ρ, Qd, Ed, v, ⟨d, e, q⟩, l, _⟩ => by
  obtain ⟨u, h1, h2⟩ := v.shr i d e
  exact ⟨u, h1, l u H d Ex.refl v.g h2 q⟩
theorem vx_var {i : Nat} (h : PE X e (tVar i)) : VX X b W e (vBor i) := pe_mono h fun σ H Q ⟨Zo, Z, ρ, Qd, Ed, v, ⟨d, e, q⟩, l, _⟩ => by
  rcases e with e | e
  · obtain ⟨u, h1, h2⟩ := v.shr i d e
    exact ⟨u, h1, l u H d Ex.refl v.g (.inl h2) q⟩
  · obtain ⟨a, h1, h2, h3, h4⟩ := v.own i d e
    exact ⟨.ref a, h1, l _ H d Ex.refl v.g (.inr ⟨a, rfl, fun z => h3 (v.zb a z), h2, h4⟩) q⟩
theorem ve_const {v : V} {p : PyData} (h : PE X e (tC v)) (r : ∀ (Z : Addr → Prop) (H : Hp), Rq Z H v p) : VE X b W e (vC (.py p)) :=
  pe_mono h fun σ H Q ⟨Zo, Z, ρ, Qd, Ed, v, q, l, _⟩ => l _ H (.py p) Ex.refl v.g (r Z H) q
theorem ve_int {i : Int} {j} : VE X b W (.Constant (.int i) j pos) (vC (.py (.int i))) := ve_const pe_int fun _ _ => .int i
theorem ve_bl {k : Bool} {j} : VE X b W (.Constant (.bool k) j pos) (vC (.py (.bool k))) := ve_const pe_bl fun _ _ => .bl k
theorem ve_non {j} : VE X b W (.Constant .none j pos) (vC (.py .none)) := ve_const pe_non fun _ _ => .non
theorem ve_str {x : Str} {j} : VE X b W (.Constant (.str x) j pos) (vC (.py (.str x))) := ve_const pe_str fun _ _ => .str x
/-! ### argument lists, displays -/
@[simp] def vNil : VA := fun _ Q _ => Q []
@[simp] def vCons (t : VT) (u : VA) : VA := fun ρ Q E => t ρ (fun d => u ρ (fun ds => Q (d :: ds)) E) E
theorem va_nil : VAs X b W [] vNil := pa_mono pa_nil fun σ H Q ⟨Zo, Z, ρ, Qd, Ed, v, q, l, _⟩ => l [] H [] Ex.refl v.g .nil q
theorem va_cons {u : VA} (h : VE X b W e t) (k : VAs X b W es u) (hs : starEach (e :: es) X.env = (false, eval e X.env) :: starEach es X.env := by rfl) : VAs X b W (e :: es) (vCons t u) :=
  pa_mono (pa_cons h k hs) fun σ H Q ⟨Zo, Z, ρ, Qd, Ed, v, q, l, m⟩ => ⟨Zo, Z, ρ, _, Ed, v, q, fun x H1 d x1 g1 r1 q1 =>
    ⟨Zo, Z, ρ, _, Ed, v.ex x1 g1, q1, fun xs H2 ds x2 g2 r2 q2 => l (x :: xs) H2 (d :: ds) (x1.trans x2) g2 (.cons ((v.ex x1 g1).rp x2 r1) r2) q2, fun c y H2 er x2 g2 r2 q2 => m c y H2 er (x1.trans x2) g2 r2 q2⟩, m⟩
@[simp] def pys : List D → Option (List PyData)
  | [] => some []
  | .py p :: ds => (pys ds).map (p :: ·)
  | _ :: _ => none
theorem pys_of : ∀ {ds : List D} {ps : List PyData}, pys ds = some ps → ds = ps.map D.py
  | [], ps, h => by cases h; rfl
  | .py p :: ds, ps, h => by
    cases e : pys ds with
    | none => rw [pys, e] at h; cases h
    | some qs => rw [pys, e] at h; cases h; rw [List.map_cons, ← pys_of e]
  | .obj _ _ _ :: _, _, h => by cases h
  | .abs _ :: _, _, h => by cases h
  | .tps _ _ :: _, _, h => by cases h
  | .cls _ :: _, _, h => by cases h
  | .clm _ :: _, _, h => by cases h
  | .rob _ _ _ :: _, _, h => by cases h
  | .raw _ :: _, _, h => by cases h
  | .err _ _ _ _ :: _, _, h => by cases h
theorem Rqs.up' {Z : Addr → Prop} {H : Hp} {a : Addr} {o : HO} {v : List V} {ds : List PyData} (r : Rqs Z H v ds) (h : H a = none) : Rqs (fun c => Z c ∨ c = a) (upd H a o) v ds :=
  r.mono (fun c z => z.imp id fun e => by rw [e]; exact h) fun c u e _ => by
    rw [upd_ne (ne_of_none e h)]
    exact e
/-- a tuple, a list of written items -/
@[simp] def vTup (u : VA) : VT := fun ρ Q E => u ρ (fun ds => ∃ ps, pys ds = some ps ∧ ps.length ≤ sizeLine ∧ Q (.py (.tuple ps))) E
@[simp] def vLst (u : VA) : VT := fun ρ Q E => u ρ (fun ds => ∃ ps, pys ds = some ps ∧ ps.length ≤ sizeLine ∧ Q (.py (.list ps))) E
theorem Rps.pyL {Z : Addr → Prop} {H : Hp} {v : List V} {ds : List D} {ps : List PyData} (r : Rps b Z H v ds) (e : VL.pys ds = some ps) : Rqs Z H v ps := by
  rw [pys_of e] at r
  exact r.pys
theorem up {Z : Addr → Prop} {H : Hp} {a : Addr} {o : HO} (h : H a = none) : ∀ c u, H c = some u → ¬ Z c → upd H a o c = some u := fun c u e _ => by
  rw [upd_ne (ne_of_none e h)]
  exact e
theorem Rqs.up {Z : Addr → Prop} {H : Hp} {a : Addr} {o : HO} {v : List V} {ds : List PyData} (r : Rqs Z H v ds) (h : H a = none) : Rqs Z (upd H a o) v ds := r.mono (fun _ z => .inl z) (VL.up h)
theorem ve_tup {u : VA} {x1} (k : VAs X b W es u) : VE X b W (.Tuple es x1 pos) (vTup u) :=
  pe_mono (pe_tupF k) fun σ H Q ⟨Zo, Z, ρ, Qd, Ed, v, q, l, m⟩ => ⟨Zo, Z, ρ, _, Ed, v, q, fun xs H1 ds x1 g1 r1 ⟨ps, e, hl, q1⟩ => by
    have r2 := r1.pyL e
    refine ⟨by rw [r2.length]; exact hl, fun p o hp ho => l _ _ _ (x1.trans (Ex.new hp)) (Bg.new g1 hp) ?_ q1⟩
    exact Rq.tup upd_same ho ((v.ex x1 g1).fresh hp) (r2.up hp), m⟩
theorem vn_lst {u : VA} (k : VAs X b W es u) : VN X b W (.List es pos) (vLst u) :=
  pe_mono (pe_lst k) fun σ H Q ⟨Zo, Z, ρ, Qd, Ed, v, q, l, m⟩ => ⟨Zo, Z, ρ, _, Ed, v, q, fun xs H1 ds x1 g1 r1 ⟨ps, e, hl, q1⟩ => (by
    have r2 := r1.pyL e
    refine ⟨by rw [r2.length]; exact hl, fun p hp => l _ _ (.py (.list ps)) (x1.trans (Ex.new hp)) (Bg.new g1 hp) ⟨p, rfl, ?_, xs, upd_same, r2.up' hp⟩ q1⟩
    cases e : H p with
    | none => rfl
    | some o =>
      by_cases hb : b.B p
      · exact absurd hp (b.dom _ _ g1 hb)
      · rw [x1 p o e hb] at hp; cases hp), m⟩
end
end VL
set_option Elab.async false
set_option linter.all false
set_option maxRecDepth 100000
set_option maxHeartbeats 4000000
namespace VL
open PySem PySem.Spec PyProof.Rows L2
/-! ### what a borrowed value is -/
section
variable {b : Bg} {Z : Addr → Prop} {H : Hp} {v : V}
theorem Rb.list {ds : List PyData} (r : Rb b Z H v (.py (.list ds))) : ∃ a xs, v = .ref a ∧ H a = some (.lst xs) ∧ Rqs Z H xs ds := by
  rcases r with r | ⟨a, e, _, _, xs, h, q⟩
  · cases r with
    | lst e n q => exact ⟨_, _, rfl, e, q⟩
  · exact ⟨a, xs, e, h, q⟩
theorem Rb.dict {ds : List (PyData × PyData)} (r : Rb b Z H v (.py (.dict ds))) : ∃ a xs, v = .ref a ∧ H a = some (.dK xs) ∧ Rqk Z H xs ds := by
  rcases r with r | ⟨a, e, _, _, xs, h, q⟩
  · cases r with
    | dct e n q => exact ⟨_, _, rfl, e, q⟩
  · exact ⟨a, xs, e, h, q⟩
theorem Rb.tuple {ds : List PyData} (r : Rb b Z H v (.py (.tuple ds))) : ∃ a o xs, v = .ref a ∧ H a = some (HO.th o xs) ∧ o.dict = none ∧ ¬ Z a ∧ Rqs Z H xs ds := by
  rcases r with r | ⟨a, e, _, _, q⟩
  · cases r with
    | tup e d n q => exact ⟨_, _, _, rfl, e, d, n, q⟩
  · exact q.elim
theorem Rb.int {i : Int} (r : Rb b Z H v (.py (.int i))) : v = .int i := by
  rcases r with r | ⟨a, e, _, _, q⟩
  · cases r; rfl
  · exact q.elim
theorem Rb.str {i : Str} (r : Rb b Z H v (.py (.str i))) : v = .str i := by
  rcases r with r | ⟨a, e, _, _, q⟩
  · cases r; rfl
  · exact q.elim
theorem Rb.bool {i : Bool} (r : Rb b Z H v (.py (.bool i))) : v = .bl i := by
  rcases r with r | ⟨a, e, _, _, q⟩
  · cases r; rfl
  · exact q.elim
theorem Rb.ex {H' : Hp} (hk : ∀ a o, H a = some o → ¬ Z a → H' a = some o) (x : Ex b H H') {d : D} (r : Rb b Z H v d) : Rb b Z H' v d := by
  rcases r with r | ⟨a, e, nb, z, q⟩
  · exact .inl (r.mono (fun _ z => .inl z) hk)
  · exact .inr ⟨a, e, nb, z, q.mono (fun _ z => .inl z) hk fun o h => x a o h nb⟩
end
/-- the ground of a rule by values: G stands, B lies in Z, Z is there -/
structure Gd (b : Bg) (Z : Addr → Prop) (H : Hp) : Prop where
  g : b.G H
  zb : ∀ a, b.B a → Z a
  dom : ∀ a, Z a → H a ≠ none
theorem VOk.gd {b : Bg} {Zo Z : Addr → Prop} {σ : L2.St} {H : Hp} {ρ : VEnv} (v : VOk b Zo Z σ H ρ) : Gd b Z H := ⟨v.g, fun a z => v.zo a (v.zb a z), v.dom⟩
section
variable {b : Bg} {Z : Addr → Prop} {H : Hp}
theorem Gd.fresh (g : Gd b Z H) {a : Addr} (h : H a = none) : ¬ Z a := fun z => g.dom a z h
theorem Gd.new (g : Gd b Z H) {a : Addr} {o : HO} (h : H a = none) : b.G (upd H a o) := Bg.new g.g h
end
/-- a rule by the heap's values serves a reading g over values; R: what comes of it -/
def OpD (b : Bg) (R : (Addr → Prop) → Hp → Hp → V → D → Prop) (r : R2) (g : D → D → (D → Prop) → Prop) : Prop :=
  ∀ (Z : Addr → Prop) (H : Hp) (x y : V) (dx dy : D) (Q : VK) (Qd : D → Prop), Gd b Z H → Rb b Z H x dx → Rb b Z H y dy → g dx dy Qd →
    (∀ v H' d, Ex b H H' → b.G H' → R Z H H' v d → Qd d → Q v H') → r x y H Q
abbrev RE (b : Bg) : (Addr → Prop) → Hp → Hp → V → D → Prop := fun Z _ H v d => Rp b Z H v d
abbrev RN (b : Bg) : (Addr → Prop) → Hp → Hp → V → D → Prop := fun Z H0 H v d => Rn b Z H0 H v d
@[simp] def vBin (g : D → D → (D → Prop) → Prop) (ta tb : VT) : VT := fun ρ Q E => ta ρ (fun x => tb ρ (fun y => g x y Q) E) E
@[simp] def vUn (g : D → (D → Prop) → Prop) (ta : VT) : VT := fun ρ Q E => ta ρ (fun x => g x Q) E
section
variable {X : Cx} {b : Bg} {W : WX} {e e1 e2 e3 : Expr} {es : List Expr} {t t1 t2 t3 : VT} {pos : Pos} {r : R2} {g : D → D → (D → Prop) → Prop}
/-- the core of all rules of two values -/
theorem core2 {R : (Addr → Prop) → Hp → Hp → V → D → Prop} (hR : ∀ Z H H1 H2 v d, b.G H1 → Ex b H H1 → R Z H1 H2 v d → R Z H H2 v d) (hd : OpD b R r g) :
    ∀ σ H Q, LE b W R (vBin g t1 t2) σ H Q → tOp r (LE b W (fun Z _ H v d => Rb b Z H v d) t1) (LE b W (fun Z _ H v d => Rb b Z H v d) t2) σ H Q :=
  fun σ H Q ⟨Zo, Z, ρ, Qd, Ed, v, q, l, m⟩ => ⟨Zo, Z, ρ, _, Ed, v, q, fun x H1 d x1 g1 r1 q1 =>
    ⟨Zo, Z, ρ, _, Ed, v.ex x1 g1, q1, fun y H2 d2 x2 g2 r2 q2 =>
      hd Z H2 x y d d2 Q Qd ((v.ex x1 g1).ex x2 g2).gd (r1.ex ((v.ex x1 g1).keep x2) x2) r2 q2 fun u H3 d3 x3 g3 r3 q3 => l u H3 d3 ((x1.trans x2).trans x3) g3 (hR _ _ _ _ _ _ g2 (x1.trans x2) r3) q3,
      fun c z H2 er x2 g2 r2 q2 => m c z H2 er (x1.trans x2) g2 r2 q2⟩, m⟩
theorem hRE : ∀ (Z : Addr → Prop) (H H1 H2 : Hp) (v : V) (d : D), b.G H1 → Ex b H H1 → RE b Z H1 H2 v d → RE b Z H H2 v d := fun _ _ _ _ _ _ _ _ r => r
theorem ve_op {op : Operator} (ho : OpR X (binaryOp op) r) (hd : OpD b (RE b) r g) (h1 : VX X b W e1 t1) (h2 : VX X b W e2 t2) : VE X b W (.BinOp e1 op e2 pos) (vBin g t1 t2) :=
  pe_mono (pe_op ho h1 h2) (core2 hRE hd)
theorem ve_cmp {op : CmpOp} (ho : OpR X (compareOp op) r) (hd : OpD b (RE b) r g) (h1 : VX X b W e1 t1) (h2 : VX X b W e2 t2) (hm : behindInMarks op e2 = false) : VE X b W (.Compare e1 [op] [e2] pos) (vBin g t1 t2) :=
  pe_mono (pe_cmpR ho h1 h2 hm) (core2 hRE hd)
/-- a value that is a bool, as a test -/
@[simp] def vTst (t : VT) : VB := fun ρ Q E => t ρ (fun d => ∃ k, d = .py (.bool k) ∧ Q k) E
theorem core2t (hd : OpD b (RE b) r g) : ∀ σ H Q, LB b W (vTst (vBin g t1 t2)) σ H Q → tTest (tOp r (LE b W (fun Z _ H v d => Rb b Z H v d) t1) (LE b W (fun Z _ H v d => Rb b Z H v d) t2)) σ H Q :=
  fun σ H Q ⟨Zo, Z, ρ, Qd, Ed, v, q, l, m⟩ => core2 (t1 := t1) (t2 := t2) hRE hd σ H _ ⟨Zo, Z, ρ, _, Ed, v, q, fun x H1 d x1 g1 r1 ⟨k, e, q1⟩ => ⟨k, by
    subst e
    exact Rb.bool (b := b) (.inl r1), l k H1 x1 g1 q1⟩, m⟩
theorem vt_cmp {op : CmpOp} (ho : OpR X (compareOp op) r) (hd : OpD b (RE b) r g) (h1 : VX X b W e1 t1) (h2 : VX X b W e2 t2) (hm : behindInMarks op e2 = false) : VTe X b W (.Compare e1 [op] [e2] pos) (vTst (vBin g t1 t2)) :=
  pt_mono (pt_cmpR ho h1 h2 hm) (core2t hd)
/-- any expression whose value is a bool, as a test -/
theorem vt_val (h : VX X b W e t) (he : ∀ whole, isTrue e X.env whole = (do let v ← whole; standAt e.pos; holding [v] (truthy v)) := by intro _; rfl) : VTe X b W e (vTst t) :=
  pt_mono (pt_val h he) fun σ H Q ⟨Zo, Z, ρ, Qd, Ed, v, q, l, m⟩ => ⟨Zo, Z, ρ, _, Ed, v, q, fun x H1 d x1 g1 r1 ⟨k, e, q1⟩ => ⟨k, by
    subst e
    exact r1.bool, l k H1 x1 g1 q1⟩, m⟩
/-! ### arithmetic -/
@[simp] def gAdd : D → D → (D → Prop) → Prop
  | .py (.int i), .py (.int j), Q => Q (.py (.int (i + j)))
  | .py (.str x), .py (.str y), Q => x.length + y.length ≤ sizeLine ∧ Q (.py (.str (x ++ y)))
  | .py (.list x), .py (.list y), Q => x.length + y.length ≤ sizeLine ∧ Q (.py (.list (x ++ y)))
  | .py (.tuple x), .py (.tuple y), Q => x.length + y.length ≤ sizeLine ∧ Q (.py (.tuple (x ++ y)))
  | _, _, _ => False
@[simp] def gCat : D → D → (D → Prop) → Prop
  | .py (.list x), .py (.list y), Q => x.length + y.length ≤ sizeLine ∧ Q (.py (.list (x ++ y)))
  | _, _, _ => False
theorem rn_catL : OpD b (RN b) rCat gCat := by
  intro Z H x y dx dy Q Qd gd rx ry h k
  match dx, dy, h, rx, ry with
  | .py (.list xs), .py (.list ys), ⟨hl, h⟩, rx, ry =>
    obtain ⟨a, us, rfl, ha, qa⟩ := rx.list
    obtain ⟨c, ws, rfl, hc, qc⟩ := ry.list
    refine ⟨a, c, us, ws, rfl, rfl, ha, hc, by rw [qa.length, qc.length]; exact hl, fun p hp => k _ _ (.py (.list (xs ++ ys))) (Ex.new hp) (gd.new hp) ⟨p, rfl, hp, _, upd_same, (qa.append qc).up' hp⟩ h⟩
theorem OpD.toE {r : R2} {g : D → D → (D → Prop) → Prop} (h : OpD b (RN b) r g) : OpD b (RE b) r g := fun Z H x y dx dy Q Qd gd rx ry q k =>
  h Z H x y dx dy Q Qd gd rx ry q fun v H' d x1 g1 ⟨a, e, n, o⟩ q1 => k v H' d x1 g1 (by subst e; exact o.rp (fun _ z => .inl z) (gd.fresh n)) q1
theorem rd_add : OpD b (RE b) (fun x y H Q => rI0 (fun i j => .int (i + j)) x y H Q ∨ (fun x y H Q => (∃ i j, x = .str i ∧ y = .str j ∧ i.length + j.length ≤ sizeLine ∧ Q (.str (i ++ j)) H) ∨ (fun x y H Q => rCat x y H Q ∨ rCatF X.K x y H Q) x y H Q) x y H Q) gAdd := by
  intro Z H x y dx dy Q Qd gd rx ry h k
  match dx, dy, h, rx, ry with
  | .py (.int i), .py (.int j), h, rx, ry =>
    rw [rx.int, ry.int]
    exact .inl ⟨i, j, rfl, rfl, k _ H (.py (.int (i + j))) Ex.refl gd.g (.int _) h⟩
  | .py (.str i), .py (.str j), ⟨hl, h⟩, rx, ry =>
    rw [rx.str, ry.str]
    exact .inr (.inl ⟨i, j, rfl, rfl, hl, k _ H (.py (.str (i ++ j))) Ex.refl gd.g (.str _) h⟩)
  | .py (.list xs), .py (.list ys), h, rx, ry =>
    exact .inr (.inr (.inl (OpD.toE rn_catL Z H x y (.py (.list xs)) (.py (.list ys)) Q Qd gd rx ry h k)))
  | .py (.tuple xs), .py (.tuple ys), ⟨hl, h⟩, rx, ry =>
    obtain ⟨a, oa, us, rfl, ha, da, na, qa⟩ := rx.tuple
    obtain ⟨c, oc, ws, rfl, hc, dc, nc, qc⟩ := ry.tuple
    refine .inr (.inr (.inr ⟨a, c, us, ws, rfl, rfl, SqT.th ha, SqT.th hc, by rw [qa.length, qc.length]; exact hl, fun e => ?_, fun _ e => ?_, fun _ _ p o hp ho => ?_⟩))
    · subst e
      cases qa
      exact k _ H (.py (.tuple ys)) Ex.refl gd.g (.tup hc dc nc qc) h
    · subst e
      cases qc
      rw [List.append_nil] at h
      exact k _ H (.py (.tuple xs)) Ex.refl gd.g (.tup ha da na qa) h
    · exact k _ _ (.py (.tuple (xs ++ ys))) (Ex.new hp) (gd.new hp) (.tup upd_same ho (gd.fresh hp) ((qa.append qc).up hp)) h
theorem ve_add (h1 : VX X b W e1 t1) (h2 : VX X b W e2 t2) : VE X b W (.BinOp e1 .Add e2 pos) (vBin gAdd t1 t2) := ve_op (OpR.or op_add (OpR.or op_add_str (OpR.or op_cat op_catF))) rd_add h1 h2
/-- ints in, under C; a plain value out -/
@[simp] def gI (C : Int → Int → Prop) (f : Int → Int → PyData) : D → D → (D → Prop) → Prop
  | .py (.int i), .py (.int j), Q => C i j ∧ Q (.py (f i j))
  | _, _, _ => False
theorem rd_I {C : Int → Int → Prop} {f : Int → Int → V} {f' : Int → Int → PyData} (hf : ∀ (Z : Addr → Prop) (H : Hp) i j, Rq Z H (f i j) (f' i j)) : OpD b (RE b) (rI C f) (gI C f') := by
  intro Z H x y dx dy Q Qd gd rx ry h k
  match dx, dy, h, rx, ry with
  | .py (.int i), .py (.int j), ⟨hc, h⟩, rx, ry =>
    rw [rx.int, ry.int]
    exact ⟨i, j, rfl, rfl, hc, k _ H (.py (f' i j)) Ex.refl gd.g (hf Z H i j) h⟩
/-- .. without a condition -/
@[simp] def gI0 (f : Int → Int → PyData) : D → D → (D → Prop) → Prop
  | .py (.int i), .py (.int j), Q => Q (.py (f i j))
  | _, _, _ => False
theorem rd_I0 {f : Int → Int → V} {f' : Int → Int → PyData} (hf : ∀ (Z : Addr → Prop) (H : Hp) i j, Rq Z H (f i j) (f' i j)) : OpD b (RE b) (rI0 f) (gI0 f') := by
  intro Z H x y dx dy Q Qd gd rx ry h k
  match dx, dy, h, rx, ry with
  | .py (.int i), .py (.int j), h, rx, ry =>
    rw [rx.int, ry.int]
    exact ⟨i, j, rfl, rfl, k _ H (.py (f' i j)) Ex.refl gd.g (hf Z H i j) h⟩
abbrev gPow := gI CPow fun i j => .int (i ^ j.toNat)
abbrev gGe := gI0 fun i j => .bool (decide (j ≤ i))
theorem ve_pow (h1 : VX X b W e1 t1) (h2 : VX X b W e2 t2) : VE X b W (.BinOp e1 .Pow e2 pos) (vBin gPow t1 t2) := ve_op op_pow (rd_I fun _ _ _ _ => .int _) h1 h2
theorem vt_ge (h1 : VX X b W e1 t1) (h2 : VX X b W e2 t2) : VTe X b W (.Compare e1 [.GtE] [e2] pos) (vTst (vBin gGe t1 t2)) := vt_cmp op_ge (rd_I0 fun _ _ _ _ => .bl _) h1 h2 (nobehind _ (by decide) (by decide))
end
end VL
set_option Elab.async false
set_option linter.all false
set_option maxRecDepth 100000
set_option maxHeartbeats 4000000
namespace VL
open PySem PySem.Spec PyProof.Rows L2
abbrev nz : Addr → Prop := fun _ => False
section
variable {X : Cx} {pins : List (Addr × Obj)} {σ : L2.St} {H : Hp} {s : Shared} {Z : Addr → Prop}
theorem keys_read {h : Heap} {P : Program} {w : World} : ∀ {es : List DictEntry} {kvs : List (Key × V)} {vs : List (Key × Value)}, KV kvs vs → Pairs (mixKind P w) es vs →
    ReadsAll h (es.map (·.key)) (kvs.map fun p => kD p.1) [] ∧ Vals (kvs.map (·.2)) (es.map (·.val))
  | _, _, _, .nil, .nil => ⟨.nil, .nil⟩
  | _, _, _, .cons (a := p) (b := q) r t, .cons (e := e) hk hv hp => by
    obtain ⟨i1, i2⟩ := keys_read (h := h) t hp
    obtain ⟨p1, p2⟩ := p
    obtain ⟨q1, q2⟩ := q
    obtain ⟨e1, e2⟩ := r
    have e1' : p1 = q1 := e1
    subst e1'
    refine ⟨?_, .cons (show L2.RelV p2 e.val by rw [hv]; exact e2) i2⟩
    have hk' : keyIs p1 e.key = true := hk
    rcases keyIs_shape hk' with ⟨i, u, a1, a2⟩ | ⟨x, u, a1, a2⟩
    · subst a1
      rw [List.map_cons, List.map_cons, a2]
      exact ReadsAll.cons (as := []) (Reads.int i u) i1
    · subst a1
      rw [List.map_cons, List.map_cons, a2]
      exact ReadsAll.cons (as := []) (Reads.str x u) i1
mutual
theorem Rq.reads (I : Inv X pins σ H s) : ∀ {v : V} {d : PyData}, Rq Z H v d → ∀ u, RelV v u → ∃ as, Reads s.heap u d as ∧ ∀ a ∈ as, H a ≠ none
  | _, _, .non, _, r => by cases r; exact ⟨_, Reads.none, fun _ h => nomatch h⟩
  | _, _, .bl k, _, r => by cases r; exact ⟨_, Reads.bool k, fun _ h => nomatch h⟩
  | _, _, .int i, _, r => by obtain ⟨t, rfl⟩ := r; exact ⟨_, Reads.int i t, fun _ h => nomatch h⟩
  | _, _, .str x, _, r => by obtain ⟨t, rfl⟩ := r; exact ⟨_, Reads.str x t, fun _ h => nomatch h⟩
  | _, _, .lst (a := a) e n q, _, r => by
    cases r
    obtain ⟨its, rv, ⟨o, m, ho, hc, _, hd⟩, _⟩ := I.list (SqL.of e)
    obtain ⟨as, h1, h2⟩ := Rqs.reads I q _ rv
    refine ⟨_, Reads.list ho hc hd h1, fun b hb => ?_⟩
    rcases List.mem_cons.mp hb with rfl | hb
    · rw [e]; simp
    · exact h2 b hb
  | _, _, .tup (a := a) e _ n q, _, r => by
    cases r
    obtain ⟨its, rv, ⟨o, ho, hc, m, hd⟩, _⟩ := I.tuple (SqT.th e)
    obtain ⟨as, h1, h2⟩ := Rqs.reads I q _ rv
    exact ⟨_, Reads.tuple ho hc hd h1, h2⟩
  | _, _, .dct (a := a) (kvs := kvs) (ds := ds) e n q, _, r => by
    cases r
    obtain ⟨_, _, vs, kv, o, es, ep, ho, he, hd, _, hp, _⟩ := dk_of I.hok e
    obtain ⟨k1, k2⟩ := keys_read (h := s.heap) kv hp
    obtain ⟨bs, h1, h2, h3⟩ := Rqk.reads I q _ k2
    rw [h3] at k1
    refine ⟨_, Reads.dict ho he.1 hd k1 h1, fun b hb => ?_⟩
    rcases List.mem_append.mp hb with hb | hb
    · rw [List.mem_singleton.mp hb, e]; simp
    · exact h2 b hb
theorem Rqs.reads (I : Inv X pins σ H s) : ∀ {v : List V} {d : List PyData}, Rqs Z H v d → ∀ u, Vals v u → ∃ as, ReadsAll s.heap u d as ∧ ∀ a ∈ as, H a ≠ none
  | _, _, .nil, _, r => by cases r; exact ⟨_, ReadsAll.nil, fun _ h => nomatch h⟩
  | _, _, .cons q t, _, r => by
    cases r with
    | cons r rr =>
      obtain ⟨as, h1, h2⟩ := Rq.reads I q _ r
      obtain ⟨bs, h3, h4⟩ := Rqs.reads I t _ rr
      exact ⟨_, ReadsAll.cons h1 h3, fun a ha => (List.mem_append.mp ha).elim (h2 a) (h4 a)⟩
theorem Rqk.reads (I : Inv X pins σ H s) : ∀ {v : List (Key × V)} {d : List (PyData × PyData)}, Rqk Z H v d → ∀ u, Vals (v.map (·.2)) u → ∃ as, ReadsAll s.heap u (d.map (·.2)) as ∧ (∀ a ∈ as, H a ≠ none) ∧ v.map (fun p => kD p.1) = d.map (·.1)
  | _, _, .nil, _, r => by cases r; exact ⟨_, ReadsAll.nil, fun _ h => (nomatch h), rfl⟩
  | _, _, .cons q t, _, r => by
    cases r with
    | cons r rr =>
      obtain ⟨as, h1, h2⟩ := Rq.reads I q _ r
      obtain ⟨bs, h3, h4, h5⟩ := Rqk.reads I t _ rr
      exact ⟨_, ReadsAll.cons h1 h3, fun a ha => (List.mem_append.mp ha).elim (h2 a) (h4 a), by rw [List.map_cons, List.map_cons, h5]⟩
end
end
/-- a borrowed plain value, as data -/
theorem Rb.q {b : Bg} {Z : Addr → Prop} {H : Hp} {v : V} {p : PyData} (r : Rb b Z H v (.py p)) : Rq nz H v p := by
  rcases r with r | ⟨a, e, _, _, q⟩
  · exact Rq.mono (fun _ z => z.elim) (fun _ _ e _ => e) r
  · subst e
    exact Ow.rp (b := b) (d := .py p) (Z' := nz) (fun _ z => z.elim) (fun z => z) q
/-! ### ==, in -/
section
variable {X : Cx}
def rEqP : R2 := fun x y H Q => ∃ p q, Rq nz H x p ∧ Rq nz H y q ∧ p.plain = true ∧ q.plain = true ∧ (p.depth ≤ 60 ∨ q.depth ≤ 60) ∧ Q (.bl (p.eqv q)) H
def rNeP : R2 := fun x y H Q => ∃ p q, Rq nz H x p ∧ Rq nz H y q ∧ p.plain = true ∧ q.plain = true ∧ (p.depth ≤ 60 ∨ q.depth ≤ 60) ∧ Q (.bl (!p.eqv q)) H
theorem op_eqP (hu : X.A.units + 64 < cLine) : OpR X (compareOp .Eq) rEqP := by
  intro pins s σ H x y v u Q I rx ry ⟨p, q, hp, hq, p1, q1, hd, h⟩
  obtain ⟨as, r1, _⟩ := hp.reads I _ rx
  obtain ⟨bs, r2, _⟩ := hq.reads I _ ry
  exact SeqAt.eq_plain r1 r2 p1 q1 (by omega) ⟨.bl _, H, I, rfl, h⟩
theorem op_neP (hu : X.A.units + 64 < cLine) : OpR X (compareOp .NotEq) rNeP := by
  intro pins s σ H x y v u Q I rx ry ⟨p, q, hp, hq, p1, q1, hd, h⟩
  obtain ⟨as, r1, _⟩ := hp.reads I _ rx
  obtain ⟨bs, r2, _⟩ := hq.reads I _ ry
  exact SeqAt.ne_plain r1 r2 p1 q1 (by omega) ⟨.bl _, H, I, rfl, h⟩
end
/-- p == q, whatever plain data they are -/
@[simp] def gEq : D → D → (D → Prop) → Prop
  | .py (.tuple xs), .py (.tuple []), Q => Q (.py (.bool xs.isEmpty))
  | .py (.list xs), .py (.list []), Q => Q (.py (.bool xs.isEmpty))
  | .py p, .py q, Q => p.plain = true ∧ q.plain = true ∧ (p.depth ≤ 60 ∨ q.depth ≤ 60) ∧ Q (.py (.bool (p.eqv q)))
  | _, _, _ => False
@[simp] def gNe : D → D → (D → Prop) → Prop
  | .py (.tuple xs), .py (.tuple []), Q => Q (.py (.bool (!xs.isEmpty)))
  | .py (.list xs), .py (.list []), Q => Q (.py (.bool (!xs.isEmpty)))
  | .py p, .py q, Q => p.plain = true ∧ q.plain = true ∧ (p.depth ≤ 60 ∨ q.depth ≤ 60) ∧ Q (.py (.bool (!p.eqv q)))
  | _, _, _ => False
/-- x in c, c a list, a tuple, a text -/
@[simp] def gIn (neg : Bool) : D → D → (D → Prop) → Prop
  | .py (.str x), .py (.str y), Q => Q (.py (.bool (neg ^^ Txt.contains y x)))
  | .py p, .py (.list q), Q => p.plain = true ∧ PyData.plainAll q = true ∧ (p.depth ≤ 60 ∨ PyData.depthAll q ≤ 60) ∧ Q (.py (.bool (neg ^^ q.any fun y => PyData.eqv y p)))
  | .py p, .py (.tuple q), Q => p.plain = true ∧ PyData.plainAll q = true ∧ (p.depth ≤ 60 ∨ PyData.depthAll q ≤ 60) ∧ Q (.py (.bool (neg ^^ q.any fun y => PyData.eqv y p)))
  | _, _, _ => False
section
variable {X : Cx} {b : Bg} {W : WX} {e e1 e2 e3 : Expr} {es : List Expr} {t t1 t2 t3 : VT} {pos : Pos} {r : R2} {g : D → D → (D → Prop) → Prop}
/-- beside an empty one: no item is looked at -/
def rZ (K : PySem.W.Frag) (f : Bool → Bool) : R2 := fun x y H Q => ∃ a c xs, x = .ref a ∧ y = .ref c ∧ ((SqL K H a xs ∧ SqL K H c []) ∨ (SqT K H a xs ∧ SqT K H c [])) ∧ Q (.bl (f xs.isEmpty)) H
theorem op_eqZ (hu : X.A.units + 64 < cLine) : OpR X (compareOp .Eq) (rZ X.K id) := by
  intro pins s σ H x y v u Q I rx ry ⟨a, c, xs, ex, ey, hh, q⟩
  subst ex ey
  obtain rfl : v = .ref a := rx
  obtain rfl : u = .ref c := ry
  rcases hh with ⟨h1, h2⟩ | ⟨h1, h2⟩
  · obtain ⟨its, r, p, _⟩ := I.list h1
    obtain ⟨its2, r2, p2, _⟩ := I.list h2
    cases r2
    cases r with
    | nil => exact SeqAt.eq_listAt (e := fun _ => true) p.isList p2.isList rfl (by omega) (fun j h => absurd h (Nat.not_lt_zero j)) ⟨.bl _, H, I, rfl, q⟩
    | cons r rs => exact SeqAt.eq_list_lengthsAt p.isList p2.isList rfl (by omega) ⟨.bl _, H, I, rfl, q⟩
  · obtain ⟨its, r, p, _⟩ := I.tuple h1
    obtain ⟨its2, r2, p2, _⟩ := I.tuple h2
    cases r2
    refine SeqAt.eq_tupleAt (e := fun _ => true) p p2 (by omega) (fun j h1 h2 => absurd h2 (Nat.not_lt_zero j)) ⟨.bl _, H, I, ?_, q⟩
    cases r <;> simp [L2.RelV]
theorem op_neZ (hu : X.A.units + 64 < cLine) : OpR X (compareOp .NotEq) (rZ X.K not) := by
  intro pins s σ H x y v u Q I rx ry ⟨a, c, xs, ex, ey, hh, q⟩
  subst ex ey
  obtain rfl : v = .ref a := rx
  obtain rfl : u = .ref c := ry
  rcases hh with ⟨h1, h2⟩ | ⟨h1, h2⟩
  · obtain ⟨its, r, p, _⟩ := I.list h1
    obtain ⟨its2, r2, p2, _⟩ := I.list h2
    cases r2
    cases r with
    | nil => exact SeqAt.RcNeAt.lists (e := fun _ => true) p.isList p2.isList rfl (by omega) (fun j h => absurd h (Nat.not_lt_zero j)) _ _ _ _ ⟨.bl _, H, I, rfl, q⟩
    | cons r rs => exact SeqAt.RcNeAt.lists_lengths p.isList p2.isList rfl (by omega) _ _ _ _ ⟨.bl _, H, I, rfl, q⟩
  · obtain ⟨its, r, p, _⟩ := I.tuple h1
    obtain ⟨its2, r2, p2, _⟩ := I.tuple h2
    cases r2
    refine SeqAt.RcNeAt.tuples (e := fun _ => true) p p2 (by omega) (fun j h1 h2 => absurd h2 (Nat.not_lt_zero j)) _ _ _ _ ⟨.bl _, H, I, ?_, q⟩
    cases r <;> simp [L2.RelV]
theorem rz_of {f : Bool → Bool} {K : PySem.W.Frag} {Z : Addr → Prop} {H : Hp} {x y : V} {Q : VK} {Qd : D → Prop} {xs : List PyData} (gd : Gd b Z H) (h : Qd (.py (.bool (f xs.isEmpty)))) (k : ∀ v H' d, Ex b H H' → b.G H' → RE b Z H H' v d → Qd d → Q v H') :
    (Rb b Z H x (.py (.list xs)) → Rb b Z H y (.py (.list [])) → rZ K f x y H Q) ∧ (Rb b Z H x (.py (.tuple xs)) → Rb b Z H y (.py (.tuple [])) → rZ K f x y H Q) := by
  have ee : ∀ {us : List V}, Rqs Z H us xs → xs.isEmpty = us.isEmpty := fun q => by cases q <;> rfl
  refine ⟨fun rx ry => ?_, fun rx ry => ?_⟩
  · obtain ⟨a, us, rfl, ha, qa⟩ := rx.list
    obtain ⟨c, ws, rfl, hc, qc⟩ := ry.list
    cases qc
    exact ⟨a, c, us, rfl, rfl, .inl ⟨SqL.of ha, SqL.of hc⟩, k _ H (.py (.bool _)) Ex.refl gd.g (by rw [← ee qa]; exact .bl _) h⟩
  · obtain ⟨a, oa, us, rfl, ha, _, _, qa⟩ := rx.tuple
    obtain ⟨c, oc, ws, rfl, hc, _, _, qc⟩ := ry.tuple
    cases qc
    exact ⟨a, c, us, rfl, rfl, .inr ⟨SqT.th ha, SqT.th hc⟩, k _ H (.py (.bool _)) Ex.refl gd.g (by rw [← ee qa]; exact .bl _) h⟩
theorem rd_eq : OpD b (RE b) (fun x y H Q => rEqP x y H Q ∨ rZ X.K id x y H Q) gEq := by
  intro Z H x y dx dy Q Qd gd rx ry h k
  unfold gEq at h
  split at h
  · exact .inr ((rz_of (f := id) gd h k).2 rx ry)
  · exact .inr ((rz_of (f := id) gd h k).1 rx ry)
  · obtain ⟨h1, h2, h3, h⟩ := h
    exact .inl ⟨_, _, rx.q, ry.q, h1, h2, h3, k _ H (.py (.bool _)) Ex.refl gd.g (.bl _) h⟩
  · exact h.elim
theorem rd_ne : OpD b (RE b) (fun x y H Q => rNeP x y H Q ∨ rZ X.K not x y H Q) gNe := by
  intro Z H x y dx dy Q Qd gd rx ry h k
  unfold gNe at h
  split at h
  · exact .inr ((rz_of (f := not) gd h k).2 rx ry)
  · exact .inr ((rz_of (f := not) gd h k).1 rx ry)
  · obtain ⟨h1, h2, h3, h⟩ := h
    exact .inl ⟨_, _, rx.q, ry.q, h1, h2, h3, k _ H (.py (.bool _)) Ex.refl gd.g (.bl _) h⟩
  · exact h.elim
theorem ve_eq (hu : X.A.units + 64 < cLine) (h1 : VX X b W e1 t1) (h2 : VX X b W e2 t2) : VE X b W (.Compare e1 [.Eq] [e2] pos) (vBin gEq t1 t2) := ve_cmp (OpR.or (op_eqP hu) (op_eqZ hu)) rd_eq h1 h2 (nobehind _ (by decide) (by decide))
theorem vt_ne (hu : X.A.units + 64 < cLine) (h1 : VX X b W e1 t1) (h2 : VX X b W e2 t2) : VTe X b W (.Compare e1 [.NotEq] [e2] pos) (vTst (vBin gNe t1 t2)) := vt_cmp (OpR.or (op_neP hu) (op_neZ hu)) rd_ne h1 h2 (nobehind _ (by decide) (by decide))
/-! ### is None -/
@[simp] def isNn : PyData → Bool
  | .none => true
  | _ => false
@[simp] def gIsN (neg : Bool) : D → D → (D → Prop) → Prop
  | .py p, .py .none, Q => Q (.py (.bool (neg ^^ isNn p)))
  | .raw v, .py .none, Q => Q (.py (.bool (neg ^^ decide (v = V.non))))
  | .obj _ _ _, .py .none, Q => Q (.py (.bool neg))
  | _, _, _ => False
/-! ### chains, and, or, not, if -/
@[simp] def vChain (g g' : D → D → (D → Prop) → Prop) (ta tb tc : VT) : VT := fun ρ Q E => ta ρ (fun x => tb ρ (fun y => g x y fun z => ∃ k, z = .py (.bool k) ∧ if k = true then tc ρ (fun w => g' y w Q) E else Q (.py (.bool false))) E) E
@[simp] def vAnd (ta tb : VT) : VT := fun ρ Q E => ta ρ (fun x => ∃ k, x = .py (.bool k) ∧ if k = true then tb ρ Q E else Q (.py (.bool false))) E
@[simp] def vOr (ta tb : VT) : VT := fun ρ Q E => ta ρ (fun x => ∃ k, x = .py (.bool k) ∧ if k = true then Q (.py (.bool true)) else tb ρ Q E) E
@[simp] def vNot (ta : VT) : VT := fun ρ Q E => ta ρ (fun x => ∃ k, x = .py (.bool k) ∧ Q (.py (.bool (!k)))) E
theorem ve_one {op} (h : VE X b W e t) : VE X b W (.BoolOp op [e] pos) t := pe_one h
theorem ve_and (h1 : VX X b W e1 t1) (h2 : VE X b W (.BoolOp .And (e2 :: es) pos) t2) : VE X b W (.BoolOp .And (e1 :: e2 :: es) pos) (vAnd t1 t2) :=
  pe_mono (pe_and h1 h2) fun σ H Q ⟨Zo, Z, ρ, Qd, Ed, v, q, l, m⟩ => ⟨Zo, Z, ρ, _, Ed, v, q, fun x H1 d x1 g1 r1 ⟨k, e, q1⟩ => by
    subst e
    refine ⟨k, r1.bool, ?_⟩
    cases k with
    | false => exact l _ H1 (.py (.bool false)) x1 g1 (Rq.bl false) q1
    | true => exact ⟨Zo, Z, ρ, _, Ed, v.ex x1 g1, q1, fun y H2 d2 x2 g2 r2 q2 => l y H2 d2 (x1.trans x2) g2 r2 q2, fun c z H2 er x2 g2 r2 q2 => m c z H2 er (x1.trans x2) g2 r2 q2⟩, m⟩
@[simp] def vIf (c : VB) (ta tb : VT) : VT := fun ρ Q E => c ρ (fun k => if k = true then ta ρ Q E else tb ρ Q E) E
/-! ### tests -/
@[simp] def wAnd (t u : VB) : VB := fun ρ Q E => t ρ (fun c => if c = true then u ρ Q E else Q false) E
@[simp] def wOr (t u : VB) : VB := fun ρ Q E => t ρ (fun c => if c = true then Q true else u ρ Q E) E
@[simp] def wNot (t : VB) : VB := fun ρ Q E => t ρ (fun c => Q (!c)) E
/-- and, or: whatever their whole is -/
def VWe (X : Cx) (b : Bg) (W : WX) (e : Expr) (t : VB) : Prop := PW X e (LB b W t)
theorem pw_mono {e : Expr} {t t' : TT} (h : PW X e t) (m : ∀ σ H Q, t' σ H Q → t σ H Q) : PW X e t' := ⟨fun w pins s σ H Q I q => h.run w pins s σ H Q I (m σ H Q q)⟩
theorem VWe.pt {t : VB} (h : VWe X b W e t) : VTe X b W e t := PW.pt h
theorem lb_then {k : Bool} {u : VB} {Zo Z : Addr → Prop} {σ : L2.St} {H H1 : Hp} {ρ : VEnv} {Q : Bool → Hp → Prop} {Qd : Bool → Prop} {Ed : Er → Prop} (v : VOk b Zo Z σ H ρ) (l : ∀ k H', Ex b H H' → b.G H' → Qd k → Q k H') (m : ∀ c x H' er, Ex b H H' → b.G H' → ErRp b Z H' c x er → Ed er → W c x σ H')
    (x1 : Ex b H H1) (g1 : b.G H1) (q : u ρ Qd Ed) : LB b W u σ H1 Q :=
  ⟨Zo, Z, ρ, _, Ed, v.ex x1 g1, q, fun k H2 x2 g2 q2 => l k H2 (x1.trans x2) g2 q2, fun c z H2 er x2 g2 r2 q2 => m c z H2 er (x1.trans x2) g2 r2 q2⟩
theorem vw_or1 {t : VB} (h : VTe X b W e t) : VWe X b W (.BoolOp .Or [e] pos) t := pw_or1 h
theorem vw_or {t u : VB} (h1 : VTe X b W e1 t) (h2 : VWe X b W (.BoolOp .Or (e2 :: es) pos) u) : VWe X b W (.BoolOp .Or (e1 :: e2 :: es) pos) (wOr t u) :=
  pw_mono (pw_or h1 h2) fun σ H Q ⟨Zo, Z, ρ, Qd, Ed, v, q, l, m⟩ => ⟨Zo, Z, ρ, _, Ed, v, q, fun k H1 x1 g1 q1 => by
    cases k with
    | false => exact lb_then (k := true) v l m x1 g1 q1
    | true => exact l true H1 x1 g1 q1, m⟩
theorem vt_not {t : VB} (h1 : VTe X b W e1 t) : VTe X b W (.UnaryOp .Not e1 pos) (wNot t) :=
  pt_mono (pt_not h1) fun σ H Q ⟨Zo, Z, ρ, Qd, Ed, v, q, l, m⟩ => ⟨Zo, Z, ρ, _, Ed, v, q, fun k H1 x1 g1 q1 => l _ H1 x1 g1 q1, m⟩
end
end VL
set_option Elab.async false
set_option linter.all false
set_option maxRecDepth 100000
set_option maxHeartbeats 4000000
namespace VL
open PySem PySem.Spec PyProof.Rows L2
/-- a text by its signs -/
abbrev mkS (l : List Nat) : Str := ⟨l.toArray⟩
abbrev sl (x : Str) : List Nat := x.cps.toList
/-! ### many borrowed values -/
inductive Rbs (b : Bg) (Z : Addr → Prop) (H : Hp) : List V → List D → Prop
  | nil : Rbs b Z H [] []
  | cons {v : V} {d : D} {vs : List V} {ds : List D} : Rb b Z H v d → Rbs b Z H vs ds → Rbs b Z H (v :: vs) (d :: ds)
def LAX (b : Bg) (W : WX) (t : VA) : TA := fun σ H Q => ∃ Zo Z ρ Qd Ed, VOk b Zo Z σ H ρ ∧ t ρ Qd Ed ∧
  (∀ v H' d, Ex b H H' → b.G H' → Rbs b Z H' v d → Qd d → Q v H') ∧ ∀ c x H' er, Ex b H H' → b.G H' → ErRp b Z H' c x er → Ed er → W c x σ H'
def VXs (X : Cx) (b : Bg) (W : WX) (es : List Expr) (t : VA) : Prop := PA X es (LAX b W t)
/-- a rule of a list of values -/
def CalD (b : Bg) (R : (Addr → Prop) → Hp → Hp → V → D → Prop) (r : List V → Hp → VK → Prop) (g : List D → (D → Prop) → Prop) : Prop :=
  ∀ (Z : Addr → Prop) (H : Hp) (x : List V) (dx : List D) (Q : VK) (Qd : D → Prop), Gd b Z H → Rbs b Z H x dx → g dx Qd → (∀ v H' d, Ex b H H' → b.G H' → R Z H H' v d → Qd d → Q v H') → r x H Q
@[simp] def vCal (g : List D → (D → Prop) → Prop) (ta : VA) : VT := fun ρ Q E => ta ρ (fun ds => g ds Q) E
@[simp] def vMet (g : D → List D → (D → Prop) → Prop) (to : VT) (ta : VA) : VT := fun ρ Q E => to ρ (fun d => ta ρ (fun ds => g d ds Q) E) E
section
variable {X : Cx} {b : Bg} {W : WX} {e e1 e2 e3 : Expr} {es : List Expr} {t t1 t2 t3 : VT} {u : VA} {pos p : Pos} {r : List V → Hp → VK → Prop} {g : List D → (D → Prop) → Prop} {x : Str} {id T : String}
theorem vxs_nil : VXs X b W [] vNil := pa_mono pa_nil fun σ H Q ⟨Zo, Z, ρ, Qd, Ed, v, q, l, _⟩ => l [] H [] Ex.refl v.g .nil q
theorem vxs_cons (h : VX X b W e t) (k : VXs X b W es u) (hs : starEach (e :: es) X.env = (false, eval e X.env) :: starEach es X.env := by rfl) : VXs X b W (e :: es) (vCons t u) :=
  pa_mono (pa_cons h k hs) fun σ H Q ⟨Zo, Z, ρ, Qd, Ed, v, q, l, m⟩ => ⟨Zo, Z, ρ, _, Ed, v, q, fun x H1 d x1 g1 r1 q1 =>
    ⟨Zo, Z, ρ, _, Ed, v.ex x1 g1, q1, fun xs H2 ds x2 g2 r2 q2 => l (x :: xs) H2 (d :: ds) (x1.trans x2) g2 (.cons (r1.ex ((v.ex x1 g1).keep x2) x2) r2) q2, fun c y H2 er x2 g2 r2 q2 => m c y H2 er (x1.trans x2) g2 r2 q2⟩, m⟩
theorem coreC {R : (Addr → Prop) → Hp → Hp → V → D → Prop} (hR : ∀ Z H H1 H2 v d, b.G H1 → Ex b H H1 → R Z H1 H2 v d → R Z H H2 v d) (hd : CalD b R r g) : ∀ σ H Q, LE b W R (vCal g u) σ H Q → tCB r (LAX b W u) σ H Q :=
  fun σ H Q ⟨Zo, Z, ρ, Qd, Ed, v, q, l, m⟩ => ⟨Zo, Z, ρ, _, Ed, v, q, fun xs H1 ds x1 g1 r1 q1 => hd Z H1 xs ds Q Qd (v.ex x1 g1).gd r1 q1 fun w H2 d x2 g2 r2 q2 => l w H2 d (x1.trans x2) g2 (hR _ _ _ _ _ _ g1 x1 r2) q2, m⟩
theorem ve_callB (hc : CallR X (.builtin id) r) (hd : CalD b (RE b) r g) (hg : Gl X x) (hm : X.mg x = none) (hv : bootBuiltins x = some (.builtin id)) (ha : VXs X b W (e :: es) u) (hn : x ≠ "__name__" := by decide) (hdb : (x == ("__debug__" : Str)) = false := by decide)
    (he : starEach (e :: es) X.env = (false, eval e X.env) :: starEach es X.env := by rfl) (hpl : (backTo pos (starEach es X.env)).any (·.1) = false := by rfl) : VE X b W (.Call (.Name x p) (e :: es) [] pos) (vCal g u) :=
  pe_mono (pe_callB hc hg hm hv ha hn hdb he hpl) (coreC hRE hd)
/-! ### items -/
@[simp] def gIx : D → D → (D → Prop) → Prop
  | .py (.list xs), .py (.int i), Q => ∃ d, atI xs i = some d ∧ Q (.py d)
  | .py (.tuple xs), .py (.int i), Q => ∃ d, atI xs i = some d ∧ Q (.py d)
  | .py (.str z), .py (.int i), Q => z.length ≤ sizeLine ∧ ∃ c, atI z.cps.toList i = some c ∧ Q (.py (.str (mkS [c])))
  | _, _, _ => False
theorem Rqs.atI {Z : Addr → Prop} {H : Hp} {v : List V} {d : List PyData} {i : Int} {x : PyData} (r : Rqs Z H v d) (h : L2.atI d i = some x) : ∃ u, L2.atI v i = some u ∧ Rq Z H u x := by
  unfold L2.atI at h ⊢
  rw [r.length]
  cases e : ixN d.length i with
  | none => rw [e] at h; cases h
  | some j =>
    rw [e] at h
    exact r.get h
theorem rd_ix {K : PySem.W.Frag} : OpD b (RE b) (rIx K) gIx := by
  intro Z H x y dx dy Q Qd gd rx ry h k
  match dx, dy, h, rx, ry with
  | .py (.list xs), .py (.int i), ⟨d, e, h⟩, rx, ry =>
    obtain ⟨a, us, rfl, ha, qa⟩ := rx.list
    obtain ⟨w, e1, r1⟩ := qa.atI e
    exact .inl ⟨a, us, i, w, rfl, ry.int, SqL.of ha, e1, k w H (.py d) Ex.refl gd.g r1 h⟩
  | .py (.tuple xs), .py (.int i), ⟨d, e, h⟩, rx, ry =>
    obtain ⟨a, oa, us, rfl, ha, da, na, qa⟩ := rx.tuple
    obtain ⟨w, e1, r1⟩ := qa.atI e
    exact .inr (.inl ⟨a, us, i, w, rfl, ry.int, SqT.th ha, e1, k w H (.py d) Ex.refl gd.g r1 h⟩)
  | .py (.str z), .py (.int i), ⟨hl, c, e, h⟩, rx, ry =>
    exact .inr (.inr ⟨z, i, c, rx.str, ry.int, hl, e, k _ H (.py (.str (mkS [c]))) Ex.refl gd.g (.str _) h⟩)
theorem ve_ix (h1 : VX X b W e1 t1) (h2 : VX X b W e2 t2) (hs : PlainIx e2 := by exact fun _ _ => rfl) : VE X b W (.Subscript e1 e2 pos) (vBin gIx t1 t2) :=
  pe_mono (pe_ix ix_seq h1 h2 hs) (core2 hRE rd_ix)
/-! ### slices -/
def cutL {α : Type} (xs : List α) (lo hi : Option Int) : List α := (xs.drop (HT.sIx xs.length 0 lo)).take (HT.sIx xs.length xs.length hi - HT.sIx xs.length 0 lo)
abbrev VO := VEnv → (Option Int → Prop) → (Er → Prop) → Prop
@[simp] def oNo : VO := fun _ Q _ => Q none
@[simp] def oAt (t : VT) : VO := fun ρ Q E => t ρ (fun d => ∃ i, d = .py (.int i) ∧ Q (some i)) E
@[simp] def gSl : D → Option Int → Option Int → (D → Prop) → Prop
  | .py (.list xs), lo, hi, Q => Q (.py (.list (cutL xs lo hi)))
  | .py (.tuple xs), lo, hi, Q => Q (.py (.tuple (cutL xs lo hi)))
  | .py (.str z), lo, hi, Q => z.length ≤ sizeLine ∧ Q (.py (.str (mkS (cutL z.cps.toList lo hi))))
  | _, _, _, _ => False
@[simp] def gSlL : D → Option Int → Option Int → (D → Prop) → Prop
  | .py (.list xs), lo, hi, Q => Q (.py (.list (cutL xs lo hi)))
  | _, _, _, _ => False
@[simp] def vSl (g : D → Option Int → Option Int → (D → Prop) → Prop) (t : VT) (tl th : VO) : VT := fun ρ Q E => t ρ (fun x => tl ρ (fun lo => th ρ (fun hi => g x lo hi Q) E) E) E
end
end VL
set_option Elab.async false
set_option linter.all false
set_option maxRecDepth 100000
set_option maxHeartbeats 4000000
namespace VL
open PySem PySem.Spec PyProof.Rows L2
section
variable {X : Cx} {b : Bg} {W : WX} {e e1 e2 e3 o : Expr} {es : List Expr} {t t1 t2 t3 : VT} {u : VA} {pos p apos cpos : Pos} {x name : Str} {id T : String}
theorem Rbs.one {Z : Addr → Prop} {H : Hp} {v : List V} {d : D} (r : Rbs b Z H v [d]) : ∃ x, v = [x] ∧ Rb b Z H x d := by
  cases r with
  | cons r t => cases t; exact ⟨_, rfl, r⟩
/-! ### built-in functions -/
@[simp] def gLen : List D → (D → Prop) → Prop
  | [.py (.list xs)], Q => Q (.py (.int xs.length))
  | [.py (.tuple xs)], Q => Q (.py (.int xs.length))
  | [.py (.str z)], Q => z.length ≤ sizeLine ∧ Q (.py (.int z.length))
  | [.py (.dict xs)], Q => Q (.py (.int xs.length))
  | _, _ => False
def rLen (K : PySem.W.Frag) : List V → Hp → VK → Prop := fun xs H Q => (fun xs H Q => ∃ x n, xs = [x] ∧ LenV K x H n ∧ Q (.int n) H) xs H Q ∨ (fun xs H Q => ∃ a kvs, xs = [V.ref a] ∧ H a = some (.dK kvs) ∧ Q (.int kvs.length) H) xs H Q
theorem rd_len : CalD b (RE b) (rLen X.K) gLen := by
  intro Z H vs ds Q Qd gd rx h k
  match ds, h, rx with
  | [.py (.list xs)], h, rx =>
    obtain ⟨x, rfl, r⟩ := rx.one
    obtain ⟨a, us, rfl, ha, qa⟩ := r.list
    exact .inl ⟨_, us.length, rfl, .inl ⟨us, SqL.of ha, rfl⟩, k _ H (.py (.int us.length)) Ex.refl gd.g (.int _) (by rw [qa.length]; exact h)⟩
  | [.py (.tuple xs)], h, rx =>
    obtain ⟨x, rfl, r⟩ := rx.one
    obtain ⟨a, oa, us, rfl, ha, da, na, qa⟩ := r.tuple
    exact .inl ⟨_, us.length, rfl, .inr ⟨us, SqT.th ha, rfl⟩, k _ H (.py (.int us.length)) Ex.refl gd.g (.int _) (by rw [qa.length]; exact h)⟩
  | [.py (.str z)], ⟨hl, h⟩, rx =>
    obtain ⟨x, rfl, r⟩ := rx.one
    exact .inl ⟨_, z.length, rfl, (by rw [r.str]; exact ⟨hl, rfl⟩), k _ H (.py (.int z.length)) Ex.refl gd.g (.int _) h⟩
  | [.py (.dict xs)], h, rx =>
    obtain ⟨x, rfl, r⟩ := rx.one
    obtain ⟨a, us, rfl, ha, qa⟩ := r.dict
    exact .inr ⟨a, us, rfl, ha, k _ H (.py (.int us.length)) Ex.refl gd.g (.int _) (by rw [qa.length]; exact h)⟩
theorem ve_len (hg : Gl X "len") (hm : X.mg "len" = none) (ha : VXs X b W [e] u) (he : starEach [e] X.env = (false, eval e X.env) :: starEach [] X.env := by rfl) (hpl : (backTo pos (starEach [] X.env)).any (·.1) = false := by rfl) :
    VE X b W (.Call (.Name "len" p) [e] [] pos) (vCal gLen u) := ve_callB (CallR.or call_len call_lenD) rd_len hg hm PySem.boot_len ha (by decide) (by decide) he hpl
@[simp] def gAbs : List D → (D → Prop) → Prop
  | [.py (.int i)], Q => Q (.py (.int (if i < 0 then -i else i)))
  | _, _ => False
@[simp] def gInt : List D → (D → Prop) → Prop
  | [.py (.int i)], Q => Q (.py (.int i))
  | [.py (.bool k)], Q => Q (.py (.int (if k then 1 else 0)))
  | [.py (.str z)], Q => ∃ n, intText? z = some n ∧ z.length ≤ 640 ∧ Q (.py (.int n))
  | _, _ => False
@[simp] def gStr : List D → (D → Prop) → Prop
  | [.py (.int i)], Q => i.natAbs.log2 < 1920 ∧ Q (.py (.str (toString i)))
  | [.py (.str z)], Q => Q (.py (.str z))
  | _, _ => False
@[simp] def gBool : List D → (D → Prop) → Prop
  | [.py (.int i)], Q => Q (.py (.bool (i != 0)))
  | [.py (.bool k)], Q => Q (.py (.bool k))
  | _, _ => False
@[simp] def gTuple : List D → (D → Prop) → Prop
  | [.py (.list xs)], Q => Q (.py (.tuple xs))
  | [.py (.tuple xs)], Q => Q (.py (.tuple xs))
  | _, _ => False
@[simp] def gList : List D → (D → Prop) → Prop
  | [.py (.list xs)], Q => Q (.py (.list xs))
  | [.py (.tuple xs)], Q => Q (.py (.list xs))
  | _, _ => False
def allB : List PyData → Option (List Bool)
  | [] => some []
  | .bool k :: r => (allB r).map (k :: ·)
  | _ :: _ => none
def allI : List PyData → Option (List Int)
  | [] => some []
  | .int k :: r => (allI r).map (k :: ·)
  | _ :: _ => none
def allS : List PyData → Option (List Str)
  | [] => some []
  | .str k :: r => (allS r).map (k :: ·)
  | _ :: _ => none
@[simp] def gSum : List D → (D → Prop) → Prop
  | [.py (.list xs)], Q => ∃ ns, allI xs = some ns ∧ Q (.py (.int ns.sum))
  | _, _ => False
@[simp] def gAll : List D → (D → Prop) → Prop
  | [.py (.list xs)], Q => ∃ ns, allB xs = some ns ∧ Q (.py (.bool (ns.all fun k => k)))
  | _, _ => False
@[simp] def gAny : List D → (D → Prop) → Prop
  | [.py (.list xs)], Q => ∃ ns, allB xs = some ns ∧ Q (.py (.bool (ns.any fun k => k)))
  | _, _ => False
/-- the greatest, the least -/
def maxL : List Int → Int
  | [] => 0
  | [a] => a
  | a :: r => max a (maxL r)
def minL : List Int → Int
  | [] => 0
  | [a] => a
  | a :: r => min a (minL r)
@[simp] def gMax : List D → (D → Prop) → Prop
  | [.py (.list xs)], Q => ∃ ns, allI xs = some ns ∧ ns ≠ [] ∧ Q (.py (.int (maxL ns)))
  | [.py (.int i), .py (.int j)], Q => Q (.py (.int (max i j)))
  | _, _ => False
@[simp] def gMin : List D → (D → Prop) → Prop
  | [.py (.list xs)], Q => ∃ ns, allI xs = some ns ∧ ns ≠ [] ∧ Q (.py (.int (minL ns)))
  | [.py (.int i), .py (.int j)], Q => Q (.py (.int (min i j)))
  | _, _ => False
/-! ### isinstance of built-in kinds -/
/-- is data of that built-in class? -/
@[simp] def dInt : PyData → Bool
  | .int _ => true | .bool _ => true | _ => false
@[simp] def dBool : PyData → Bool
  | .bool _ => true | _ => false
@[simp] def dStr : PyData → Bool
  | .str _ => true | _ => false
@[simp] def dTuple : PyData → Bool
  | .tuple _ => true | _ => false
@[simp] def dList : PyData → Bool
  | .list _ => true | _ => false
def isK (T : String) (d : PyData) : Option Bool := if T = "int" then some (dInt d) else if T = "bool" then some (dBool d) else if T = "str" then some (dStr d) else if T = "tuple" then some (dTuple d) else if T = "list" then some (dList d) else none
@[simp] theorem isK_int (d : PyData) : isK "int" d = some (dInt d) := rfl
@[simp] theorem isK_bool (d : PyData) : isK "bool" d = some (dBool d) := rfl
@[simp] theorem isK_str (d : PyData) : isK "str" d = some (dStr d) := rfl
@[simp] theorem isK_tuple (d : PyData) : isK "tuple" d = some (dTuple d) := rfl
@[simp] theorem isK_list (d : PyData) : isK "list" d = some (dList d) := rfl
@[simp] def gIsi : List D → (D → Prop) → Prop
  | [.py d, .raw (.ty T)], Q => ∃ k, isK T d = some k ∧ Q (.py (.bool k))
  | _, _ => False
end
end VL
set_option Elab.async false
set_option linter.all false
set_option maxRecDepth 100000
set_option maxHeartbeats 4000000
namespace VL
open PySem PySem.Spec PyProof.Rows L2
/-- VOk in a running def: H0 the heap at its entry (or a loop's), M what may have been written since -/
structure FOk (b : Bg) (H0 : Hp) (M Zo Z : Addr → Prop) (σ : L2.St) (H : Hp) (ρ : VEnv) : Prop where
  v : VOk b Zo Z σ H ρ
  ext : ∀ a o, H0 a = some o → ¬ b.B a → ¬ M a → H a = some o
  fr : ∀ (i : Nat) (d : D) (a : Addr), ρ[i]? = some (.own d) → σ[i]? = some (some (.ref a)) → M a ∨ H0 a = none
/-- what a def may give back: a value, a new object that nobody else holds, a new list that begins with such an object -/
inductive Rt where
  | val (d : D)
  | nw (d : D)
  | nwL (d : D) (ds : List D)
def RtOk (b : Bg) (H0 : Hp) (M Zo Z : Addr → Prop) (H : Hp) (v : V) : Rt → Prop
  | .val d => Rp b Z H v d
  | .nw d => ∃ x, v = .ref x ∧ (M x ∨ H0 x = none) ∧ ¬ Zo x ∧ Ow b (fun c => Zo c ∨ c = x) H x d
  | .nwL d ds => ∃ l x ws, v = .ref l ∧ H l = some (.lst (.ref x :: ws)) ∧ (M l ∨ H0 l = none) ∧ ¬ Zo l ∧ l ≠ x ∧ (M x ∨ H0 x = none) ∧ ¬ Zo x ∧ Ow b (fun c => (Zo c ∨ c = x) ∨ c = l) H x d ∧ Rps b (fun c => (Zo c ∨ c = x) ∨ c = l) H ws ds
structure VEnds where
  nx : VEnv → Prop
  rt : D → Prop
  bk : VEnv → Prop
  ct : VEnv → Prop
  ex : VEnv → Er → Prop
  ro : VEnv → Rt → Prop := fun _ _ => False
abbrev VS := VEnv → VEnds → Prop
/-- what the ends of a reading mean over the heap -/
structure Lk (b : Bg) (W : WX) (H0 : Hp) (M Zo : Addr → Prop) (De : VEnds) (D : Ends) : Prop where
  nx : ∀ Z σ H ρ, FOk b H0 M Zo Z σ H ρ → De.nx ρ → D.nx σ H
  rt : ∀ v H d, (∀ a o, H0 a = some o → ¬ b.B a → ¬ M a → H a = some o) → b.G H → Rp b Zo H v d → De.rt d → D.rt v H
  bk : ∀ Z σ H ρ, FOk b H0 M Zo Z σ H ρ → De.bk ρ → D.bk σ H
  ct : ∀ Z σ H ρ, FOk b H0 M Zo Z σ H ρ → De.ct ρ → D.ct σ H
  ex : ∀ c x Z σ H ρ er, FOk b H0 M Zo Z σ H ρ → ErRp b Z H c x er → De.ex ρ er → W c x σ H
  ro : ∀ v Z σ H ρ r, FOk b H0 M Zo Z σ H ρ → RtOk b H0 M Zo Z H v r → De.ro ρ r → D.rt v H
def LS (b : Bg) (W : WX) (t : VS) : TS := fun D σ H => ∃ H0 M Zo Z ρ De, FOk b H0 M Zo Z σ H ρ ∧ t ρ De ∧ Lk b W H0 M Zo De D
def VSt (X : Cx) (b : Bg) (W : WX) (st : Stmt) (t : VS) : Prop := PS X st (LS b W t)
def VSs (X : Cx) (b : Bg) (W : WX) (st : List Stmt) (t : VS) : Prop := PSs X st (LS b W t)
section
variable {b : Bg} {W : WX} {H0 : Hp} {M Zo Z : Addr → Prop} {σ : L2.St} {H H' : Hp} {ρ : VEnv} {De : VEnds} {Dn : Ends}
theorem FOk.ex (f : FOk b H0 M Zo Z σ H ρ) (x : Ex b H H') (g : b.G H') : FOk b H0 M Zo Z σ H' ρ := ⟨f.v.ex x g, fun a o e nb nm => x a o (f.ext a o e nb nm) nb, f.fr⟩
/-- the error link of an expression -/
theorem Lk.er (l : Lk b W H0 M Zo De Dn) (f : FOk b H0 M Zo Z σ H ρ) : ∀ c x H' er, Ex b H H' → b.G H' → ErRp b Z H' c x er → De.ex ρ er → W c x σ H' := fun c x H' er x1 g1 r q => l.ex c x Z σ H' ρ er (f.ex x1 g1) r q
/-- the owned addresses but slot i's -/
def zBut (Zo : Addr → Prop) (σ : L2.St) (ρ : VEnv) (i : Nat) : Addr → Prop := fun a => Zo a ∨ ∃ (j : Nat) (e : D), j ≠ i ∧ ρ[j]? = some (.own e) ∧ σ[j]? = some (some (.ref a))
theorem VOk.but (v : VOk b Zo Z σ H ρ) (i : Nat) : ∀ a, zBut Zo σ ρ i a → Z a := fun a z => by
  rcases z with z | ⟨j, e, _, h1, h2⟩
  · exact v.zo a z
  · obtain ⟨c, h3, h4, _⟩ := v.own j e h1
    rw [h2] at h3; cases h3; exact h4
theorem FOk.set (f : FOk b H0 M Zo Z σ H ρ) {i : Nat} {u : V} {d : D} (hi : i < ρ.length) (r : Rp b Z H u d) : FOk b H0 M Zo (zBut Zo σ ρ i) (σ.set i (some u)) H (ρ.set i (.shr d)) := by
  have v := f.v
  have sub := v.but i
  have hiσ : i < σ.length := by rw [← v.len]; exact hi
  have ow : ∀ {j : Nat} {e : D}, (ρ.set i (.shr d))[j]? = some (.own e) → j ≠ i ∧ ρ[j]? = some (.own e) := fun {j e} h => by
    by_cases hj : j = i
    · subst hj
      rw [List.getElem?_set_self hi] at h; cases h
    · rw [List.getElem?_set_ne (Ne.symm hj)] at h
      exact ⟨hj, h⟩
  refine ⟨⟨v.g, v.zb, fun a z => .inl z, fun a z => v.dom a (sub a z), fun a z => ?_, fun j e h => ?_, fun j k e e2 a h1 h2 h3 h4 => ?_, fun j e h => ?_, by simpa using v.len⟩, f.ext, fun j e a h1 h2 => ?_⟩
  · rcases z with z | ⟨j, e, hj, h1, h2⟩
    · exact .inl z
    · exact .inr ⟨j, e, by rw [List.getElem?_set_ne (Ne.symm hj)]; exact h1, by rw [List.getElem?_set_ne (Ne.symm hj)]; exact h2⟩
  · obtain ⟨hj, h⟩ := ow h
    obtain ⟨a, h1, h2, h3, h4⟩ := v.own j e h
    exact ⟨a, by rw [List.getElem?_set_ne (Ne.symm hj)]; exact h1, .inr ⟨j, e, hj, h, h1⟩, h3, h4.mono (fun c z => .inl (sub c z)) (fun _ _ e _ => e) fun _ e => e⟩
  · obtain ⟨hj, h1⟩ := ow h1
    obtain ⟨hk, h2⟩ := ow h2
    rw [List.getElem?_set_ne (Ne.symm hj)] at h3
    rw [List.getElem?_set_ne (Ne.symm hk)] at h4
    exact v.inj j k e e2 a h1 h2 h3 h4
  · by_cases hj : j = i
    · subst hj
      rw [List.getElem?_set_self hi] at h; cases h
      exact ⟨u, List.getElem?_set_self hiσ, r.mono (fun c z => .inl (sub c z)) fun _ _ e _ => e⟩
    · rw [List.getElem?_set_ne (Ne.symm hj)] at h
      obtain ⟨w, h1, h2⟩ := v.shr j e h
      exact ⟨w, by rw [List.getElem?_set_ne (Ne.symm hj)]; exact h1, h2.mono (fun c z => .inl (sub c z)) fun _ _ e _ => e⟩
  · obtain ⟨hj, h1⟩ := ow h1
    rw [List.getElem?_set_ne (Ne.symm hj)] at h2
    exact f.fr j e a h1 h2
/-- slot i's object is shared from now on -/
@[simp] def frz (i : Nat) (ρ : VEnv) : VEnv := match ρ[i]? with
  | some (.own d) => ρ.set i (.shr d)
  | _ => ρ
/-- a value that may leave -/
theorem FOk.out (f : FOk b H0 M Zo Z σ H ρ) {u : V} {d : D} (r : Rp b Z H u d) : Rp b Zo H u d := r.mono (fun c z => .inl (f.v.zo c z)) fun _ _ e _ => e
end
/-! ### statements -/
section
variable {X : Cx} {b : Bg} {W : WX} {e e1 e2 : Expr} {st : Stmt} {sts : List Stmt} {t t1 t2 : VT} {u : VA} {g h : VS} {pos pos' : Pos} {i : Nat} {x : Str}
@[simp] def sNext : VS := fun ρ De => De.nx ρ
@[simp] def sSeq (g h : VS) : VS := fun ρ De => g ρ { De with nx := fun ρ' => h ρ' De }
theorem vs_nil : VSs X b W [] sNext := pss_mono pss_nil fun D σ H ⟨H0, M, Zo, Z, ρ, De, f, q, l⟩ => l.nx Z σ H ρ f q
theorem vs_cons (h1 : VSt X b W st g) (h2 : VSs X b W sts h) : VSs X b W (st :: sts) (sSeq g h) :=
  pss_mono (pss_cons h1 h2) fun D σ H ⟨H0, M, Zo, Z, ρ, De, f, q, l⟩ => ⟨H0, M, Zo, Z, ρ, _, f, q, ⟨fun Z' σ' H' ρ' f' q' => ⟨H0, M, Zo, Z', ρ', De, f', q', l⟩, l.rt, l.bk, l.ct, l.ex, l.ro⟩⟩
theorem vs_one (h1 : VSt X b W st g) : VSs X b W [st] g := pss_mono (pss_one h1) fun _ _ _ q => q
/-- from here on slot i's object may be shared -/
@[simp] def sFrz (i : Nat) (g : VS) : VS := fun ρ De => g (frz i ρ) De
@[simp] def sBrk : VS := fun ρ De => De.bk ρ
@[simp] def sCnt : VS := fun ρ De => De.ct ρ
/-- name = value -/
@[simp] def sSet (i : Nat) (t : VT) : VS := fun ρ De => i < ρ.length ∧ t ρ (fun d => De.nx (ρ.set i (.shr d))) (De.ex ρ)
@[simp] def sSetN (i : Nat) (t : VT) : VS := fun ρ De => i < ρ.length ∧ t ρ (fun d => De.nx (ρ.set i (.own d))) (De.ex ρ)
theorem vs_set {te : TE} (hp : PS X (.Assign [.Name x pos'] e pos) (tAsg te (gName i))) (hm : ∀ σ H Q, LE b W (RE b) t σ H Q → te σ H Q) : VSt X b W (.Assign [.Name x pos'] e pos) (sSet i t) :=
  ps_mono hp fun D σ H ⟨H0, M, Zo, Z, ρ, De, f, ⟨hi, q⟩, l⟩ => hm σ H _ ⟨Zo, Z, ρ, _, _, f.v, q, fun v H' d x g r q' => l.nx _ _ H' _ ((f.ex x g).set hi r) q', l.er f⟩
theorem vs_asg (hN : X.N.Nodup) (hi : X.N[i]? = some x) (hx : Loc X.env.scope x) (he : VE X b W e t) (hs : swapsWith e (some (.Name x pos')) pos.line X.env = pure false := by rfl)
    (hf : X.fn x = true ∨ X.env.scope.names.lookup x = some .local := by first | exact .inl rfl | exact .inr rfl | assumption) : VSt X b W (.Assign [.Name x pos'] e pos) (sSet i t) :=
  vs_set (ps_set hN hi hx he hs hf) fun _ _ _ q => q
@[simp] def sExpr (t : VT) : VS := fun ρ De => t ρ (fun _ => De.nx ρ) (De.ex ρ)
@[simp] def sRet (t : VT) : VS := fun ρ De => t ρ De.rt (De.ex ρ)
theorem vs_ret (he : VE X b W e t) : VSt X b W (.Return (some e) pos) (sRet t) :=
  ps_mono (ps_ret he) fun D σ H ⟨H0, M, Zo, Z, ρ, De, f, q, l⟩ => ⟨Zo, Z, ρ, _, _, f.v, q, fun v H' d x g r q' => l.rt v H' d (f.ex x g).ext g ((f.ex x g).out r) q', l.er f⟩
@[simp] def sRetN : VS := fun _ De => De.rt (.py .none)
@[simp] def sIf (c : VB) (g h : VS) : VS := fun ρ De => c ρ (fun k => if k = true then g ρ De else h ρ De) (De.ex ρ)
theorem vs_if {c : Expr} {tc : VB} {xs ys : List Stmt} (hc : VTe X b W c tc) (h1 : VSs X b W xs g) (h2 : VSs X b W ys h) : VSt X b W (.If c xs ys pos) (sIf tc g h) :=
  ps_mono (ps_if hc h1 h2) fun D σ H ⟨H0, M, Zo, Z, ρ, De, f, q, l⟩ => ⟨Zo, Z, ρ, _, _, f.v, q, fun k H' x g q' => by
    cases k with
    | true => exact ⟨H0, M, Zo, Z, ρ, De, f.ex x g, q', l⟩
    | false => exact ⟨H0, M, Zo, Z, ρ, De, f.ex x g, q', l⟩, l.er f⟩
/-- name op= value -/
@[simp] def sAug (i : Nat) (g : D → D → (D → Prop) → Prop) (t : VT) : VS := fun ρ De => ∃ d, ρ[i]? = some (.shr d) ∧ t ρ (fun y => g d y fun z => De.nx (ρ.set i (.shr z))) (De.ex ρ)
/-! ### loops -/
/-- what an iterator gives: the items, one a turn, while what stood at H outside of Y stands -/
structure Wk (b : Bg) (Y Z : Addr → Prop) (H : Hp) (J : It) (ds : List D) : Prop where
  go : ∀ (k : Nat) (d : D) (H2 : Hp), ds[k]? = some d → (∀ a o, H a = some o → ¬ Y a → H2 a = some o) → b.G H2 → J.go k H2 ∧ ∀ v H3, J.yld k H2 v H3 → Ex b H2 H3 ∧ b.G H3 ∧ ∀ Z2 : Addr → Prop, (∀ a, Z2 a → Z a ∨ H a = none) → (∀ a, Z2 a → H2 a ≠ none) → Rp b Z2 H3 v d
  stop : ∀ (k : Nat) (H2 : Hp), ds.length = k → (∀ a o, H a = some o → ¬ Y a → H2 a = some o) → J.stop k H2
abbrev VIt := VEnv → (List D → Prop) → (Er → Prop) → Prop
def LI (b : Bg) (W : WX) (Y : (Addr → Prop) → Addr → Prop) (t : VIt) : TI := fun σ H R => ∃ Zo Z ρ Qd Ed, VOk b Zo Z σ H ρ ∧ t ρ Qd Ed ∧
  (∀ J H' ds, Ex b H H' → b.G H' → Wk b (Y Z) Z H' J ds → Qd ds → R J H') ∧ ∀ c x H' er, Ex b H H' → b.G H' → ErRp b Z H' c x er → Ed er → W c x σ H'
/-- for a loop: what is owned may change; for a block: nothing but the zone -/
def VI (X : Cx) (b : Bg) (W : WX) (tg iter : Expr) (t : VIt) : Prop := PI X tg iter (LI b W (fun Z => Z) t)
def VIb (X : Cx) (b : Bg) (W : WX) (tg iter : Expr) (t : VIt) : Prop := PI X tg iter (LI b W (fun _ => b.B) t)
/-- a target -/
abbrev VTg := D → VEnv → (VEnv → Prop) → Prop
abbrev VTgs := List D → VEnv → (VEnv → Prop) → Prop
/-- the slots but those at js are as they were -/
structure Same (js : List Nat) (σ σ' : L2.St) (ρ ρ' : VEnv) : Prop where
  len : σ'.length = σ.length
  out : ∀ j, j ∉ js → σ'[j]? = σ[j]?
  env : ∀ j, j ∉ js → ρ'[j]? = ρ[j]?
theorem Same.refl {js : List Nat} {σ : L2.St} {ρ : VEnv} : Same js σ σ ρ ρ := ⟨rfl, fun _ _ => rfl, fun _ _ => rfl⟩
theorem Same.trans {js ks : List Nat} {σ σ1 σ2 : L2.St} {ρ ρ1 ρ2 : VEnv} (h : Same js σ σ1 ρ ρ1) (k : Same ks σ1 σ2 ρ1 ρ2) : Same (js ++ ks) σ σ2 ρ ρ2 :=
  ⟨k.len.trans h.len, fun j hj => (k.out j fun m => hj (List.mem_append_right _ m)).trans (h.out j fun m => hj (List.mem_append_left _ m)), fun j hj => (k.env j fun m => hj (List.mem_append_right _ m)).trans (h.env j fun m => hj (List.mem_append_left _ m))⟩
def LG (b : Bg) (js : List Nat) (t : VTg) : TG := fun v σ H Q => ∃ H0 M Zo Z ρ d Qd, FOk b H0 M Zo Z σ H ρ ∧ Rp b Z H v d ∧ t d ρ Qd ∧ ∀ Z' σ' ρ', (∀ a, Z' a → Z a) → Same js σ σ' ρ ρ' → FOk b H0 M Zo Z' σ' H ρ' → Qd ρ' → Q σ' H
def VG (X : Cx) (b : Bg) (tg : Expr) (js : List Nat) (t : VTg) : Prop := PG X tg (LG b js t)
theorem pg_mono {e : Expr} {t t' : TG} (h : PG X e t) (m : ∀ v σ H Q, t' v σ H Q → t v σ H Q) : PG X e t' := ⟨fun pins s σ H v u Q I r q => h.run pins s σ H v u Q I r (m v σ H Q q)⟩
@[simp] def tgName (i : Nat) : VTg := fun d ρ Q => i < ρ.length ∧ Q (ρ.set i (.shr d))
theorem vg_name (hN : X.N.Nodup) (hi : X.N[i]? = some x) (hx : Loc X.env.scope x) (hf : X.fn x = true ∨ X.env.scope.names.lookup x = some .local := by first | exact .inl rfl | exact .inr rfl | assumption) : VG X b (.Name x pos) [i] (tgName i) :=
  pg_mono (pg_name hN hi hx hf) fun v σ H Q ⟨H0, M, Zo, Z, ρ, d, Qd, f, r, ⟨hl, q⟩, k⟩ => k _ _ _ (f.v.but i) ⟨List.length_set .., fun j hj => List.getElem?_set_ne fun e => hj (by rw [e]; exact List.mem_singleton.mpr rfl), fun j hj => List.getElem?_set_ne fun e => hj (by rw [e]; exact List.mem_singleton.mpr rfl)⟩ (f.set hl r) q
/-- several targets -/
def LGs (b : Bg) (js : List Nat) (t : VTgs) : TGs := fun v σ H Q => ∃ H0 M Zo Z ρ d Qd, FOk b H0 M Zo Z σ H ρ ∧ Rps b Z H v d ∧ t d ρ Qd ∧ ∀ Z' σ' ρ', (∀ a, Z' a → Z a) → Same js σ σ' ρ ρ' → FOk b H0 M Zo Z' σ' H ρ' → Qd ρ' → Q σ' H
def VGs (X : Cx) (b : Bg) (tg : List Expr) (js : List Nat) (t : VTgs) : Prop := PGs X tg (LGs b js t)
theorem pgs_mono {e : List Expr} {t t' : TGs} (h : PGs X e t) (m : ∀ v σ H Q, t' v σ H Q → t v σ H Q) : PGs X e t' := ⟨fun pins s σ H v u Q I r q => h.run pins s σ H v u Q I r (m v σ H Q q)⟩
@[simp] def tgNil : VTgs
  | [], ρ, Q => Q ρ
  | _, _, _ => False
@[simp] def tgCons (t : VTg) (u : VTgs) : VTgs
  | d :: r, ρ, Q => t d ρ fun ρ' => u r ρ' Q
  | _, _, _ => False
theorem vgs_nil : VGs X b [] [] tgNil := pgs_mono pgs_nil fun v σ H Q ⟨H0, M, Zo, Z, ρ, d, Qd, f, r, q, k⟩ => by
  cases r with
  | nil => exact ⟨rfl, k Z σ ρ (fun _ z => z) .refl f q⟩
  | cons _ _ => exact False.elim q
theorem vgs_cons {tg : Expr} {tgs : List Expr} {js ks : List Nat} {t : VTg} {u : VTgs} (h1 : VG X b tg js t) (h2 : VGs X b tgs ks u)
    (hs : (assignEach (tg :: tgs) X.env).map (·.2) = assign tg X.env :: (assignEach tgs X.env).map (·.2) := by rfl) : VGs X b (tg :: tgs) (js ++ ks) (tgCons t u) :=
  pgs_mono (pgs_cons h1 h2 hs) fun v σ H Q ⟨H0, M, Zo, Z, ρ, d, Qd, f, r, q, k⟩ => by
    cases r with
    | nil => exact False.elim q
    | @cons _ d1 _ dr r1 rr => exact ⟨_, _, rfl, H0, M, Zo, Z, ρ, d1, _, f, r1, q, fun Z' σ' ρ' sub sm f' q' => ⟨H0, M, Zo, Z', ρ', dr, Qd, f', rr.mono (fun a z => .inl (sub a z)) (fun _ _ e _ => e), q', fun Z2 σ2 ρ2 sub2 sm2 f2 q2 => k Z2 σ2 ρ2 (fun a z => sub a (sub2 a z)) (sm.trans sm2) f2 q2⟩⟩
@[simp] def tgTup (n : Nat) (u : VTgs) : VTg
  | .py (.tuple ps), ρ, Q => ps.length = n ∧ u (ps.map D.py) ρ Q
  | _, _, _ => False
/-- target = value -/
@[simp] def sAsg (t : VT) (g : VTg) : VS := fun ρ De => t ρ (fun d => g d ρ De.nx) (De.ex ρ)
theorem vs_asgT {tg : Expr} {js : List Nat} {g : VTg} (he : VE X b W e t) (hg : VG X b tg js g) (hs : swapsWithSole [tg] e pos.line X.env = pure false := by rfl) (hw : swappedStores [tg] e X.env = pure none := by rfl)
    (h1 : (assignEach [tg] X.env).map (·.2) = [assign tg X.env] := by rfl) : VSt X b W (.Assign [tg] e pos) (sAsg t g) :=
  ps_mono (ps_asg he hg hs hw h1) fun D σ H ⟨H0, M, Zo, Z, ρ, De, f, q, l⟩ => ⟨Zo, Z, ρ, _, _, f.v, q, fun v H' d x g r q' =>
    ⟨H0, M, Zo, Z, ρ, d, _, f.ex x g, r, q', fun Z' σ' ρ' _ _ f' q2 => l.nx Z' σ' H' ρ' f' q2⟩, l.er f⟩
end
end VL
set_option Elab.async false
set_option linter.all false
set_option maxRecDepth 100000
set_option maxHeartbeats 4000000
namespace VL
open PySem PySem.Spec PyProof.Rows L2
/-! ### values some of which are new -/
inductive Rm (b : Bg) (Y : Addr → Prop) (H H' : Hp) : List V → List (Bool × D) → List Addr → Prop
  | nil : Rm b Y H H' [] [] []
  | sh {v : V} {d : D} {vs : List V} {ms : List (Bool × D)} {N : List Addr} : Rp b Y H' v d → Rm b Y H H' vs ms N → Rm b Y H H' (v :: vs) ((false, d) :: ms) N
  | nw {a : Addr} {d : D} {vs : List V} {ms : List (Bool × D)} {N : List Addr} : H a = none → a ∉ N → Ow b Y H' a d → Rm b Y H H' vs ms N → Rm b Y H H' (.ref a :: vs) ((true, d) :: ms) (a :: N)
abbrev VAm := VEnv → (List (Bool × D) → Prop) → (Er → Prop) → Prop
def LAm (b : Bg) (W : WX) (t : VAm) : TA := fun σ H Q => ∃ Zo Z ρ Qd Ed, VOk b Zo Z σ H ρ ∧ t ρ Qd Ed ∧
  (∀ vs H' ms N, Ex b H H' → b.G H' → Rm b (fun c => Z c ∨ c ∈ N) H H' vs ms N → Qd ms → Q vs H') ∧ ∀ c x H' er, Ex b H H' → b.G H' → ErRp b Z H' c x er → Ed er → W c x σ H'
def VMs (X : Cx) (b : Bg) (W : WX) (es : List Expr) (t : VAm) : Prop := PA X es (LAm b W t)
@[simp] def mNil : VAm := fun _ Q _ => Q []
@[simp] def mCons (k : Bool) (t : VT) (u : VAm) : VAm := fun ρ Q E => t ρ (fun d => u ρ (fun ds => Q ((k, d) :: ds)) E) E
section
variable {b : Bg} {Y Y' : Addr → Prop} {H H' H1 : Hp} {vs : List V} {ms : List (Bool × D)} {N : List Addr}
theorem Rm.sub (h : ∀ c, Y' c → Y c) : ∀ {vs : List V} {ms : List (Bool × D)} {N : List Addr}, Rm b Y H H' vs ms N → Rm b Y' H H' vs ms N
  | _, _, _, .nil => .nil
  | _, _, _, .sh r t => .sh (r.mono (fun c z => .inl (h c z)) fun _ _ e _ => e) (Rm.sub h t)
  | _, _, _, .nw hn hm o t => .nw hn hm (o.mono (fun c z => .inl (h c z)) (fun _ _ e _ => e) fun _ e => e) (Rm.sub h t)
theorem Rm.back (h : ∀ c, H1 c = none → H c = none) : ∀ {vs : List V} {ms : List (Bool × D)} {N : List Addr}, Rm b Y H1 H' vs ms N → Rm b Y H H' vs ms N
  | _, _, _, .nil => .nil
  | _, _, _, .sh r t => .sh r (Rm.back h t)
  | _, _, _, .nw hn hm o t => .nw (h _ hn) hm o (Rm.back h t)
theorem Rm.new : ∀ {vs : List V} {ms : List (Bool × D)} {N : List Addr}, Rm b Y H H' vs ms N → ∀ c ∈ N, H c = none ∧ H' c ≠ none
  | _, _, _, .nil, _, h => nomatch h
  | _, _, _, .sh _ t, c, h => Rm.new t c h
  | _, _, _, .nw hn _ o t, c, h => by
    rcases List.mem_cons.mp h with rfl | h
    · obtain ⟨u, e⟩ := o.at
      exact ⟨hn, by rw [e]; simp⟩
    · exact Rm.new t c h
theorem none_back (g : b.G H1) (x : Ex b H H1) (c : Addr) (h : H1 c = none) : H c = none := by
  cases q : H c with
  | none => rfl
  | some u =>
    by_cases hb : b.B c
    · exact absurd h (b.dom _ _ g hb)
    · rw [x c u q hb] at h; cases h
end
section
variable {b : Bg} {Zo Z : Addr → Prop} {σ : L2.St} {H H' : Hp} {ρ : VEnv}
/-- new addresses held apart by an outer one -/
theorem VOk.many (v : VOk b Zo Z σ H ρ) (x : Ex b H H') (g : b.G H') {N : List Addr} (hN : ∀ c ∈ N, H c = none ∧ H' c ≠ none) : VOk b (fun c => Zo c ∨ c ∈ N) (fun c => Z c ∨ c ∈ N) σ H' ρ := by
  have v' := v.ex x g
  have hz : ∀ c, (Z c ∨ c ∈ N) → Z c ∨ H c = none := fun c z => z.imp id fun m => (hN c m).1
  refine ⟨g, fun c z => .inl (v.zb c z), fun c z => z.imp (v.zo c) id, fun c z => z.elim (v'.dom c) fun m => (hN c m).2, fun c z => z.elim (fun z => (v.zi c z).imp .inl id) fun m => .inl (.inr m), fun i d e => ?_, v.inj, fun i d e => ?_, v.len⟩
  · obtain ⟨a, h1, h2, h3, h4⟩ := v.own i d e
    refine ⟨a, h1, .inl h2, fun z => z.elim h3 fun m => v.dom a h2 (hN a m).1, h4.mono hz (v.keep x) fun o q => x a o q fun z => h3 (v.zb a z)⟩
  · obtain ⟨u, h1, h2⟩ := v.shr i d e
    exact ⟨u, h1, h2.mono hz (v.keep x)⟩
end
section
variable {X : Cx} {b : Bg} {W : WX} {e e1 e2 : Expr} {es : List Expr} {t t1 t2 : VT} {u : VAm} {pos : Pos}
theorem vm_nil : VMs X b W [] mNil := pa_mono pa_nil fun σ H Q ⟨Zo, Z, ρ, Qd, Ed, v, q, l, _⟩ => l [] H [] [] Ex.refl v.g .nil q
theorem vm_sh (h : VE X b W e t) (k : VMs X b W es u) (hs : starEach (e :: es) X.env = (false, eval e X.env) :: starEach es X.env := by rfl) : VMs X b W (e :: es) (mCons false t u) :=
  pa_mono (pa_cons h k hs) fun σ H Q ⟨Zo, Z, ρ, Qd, Ed, v, q, l, m⟩ => ⟨Zo, Z, ρ, _, Ed, v, q, fun x H1 d x1 g1 r1 q1 =>
    ⟨Zo, Z, ρ, _, Ed, v.ex x1 g1, q1, fun xs H2 ms N x2 g2 r2 q2 => l (x :: xs) H2 ((false, d) :: ms) N (x1.trans x2) g2
        (.sh (r1.mono (fun c z => z.imp id fun m => (r2.new c m).1) ((v.ex x1 g1).keep x2)) (r2.back (none_back g1 x1))) q2,
      fun c y H2 er x2 g2 r2 q2 => m c y H2 er (x1.trans x2) g2 r2 q2⟩, m⟩
end
/-! ### a, b, .. = values -/
def setA : List Nat → List V → L2.St → L2.St
  | i :: is, v :: vs, σ => setA is vs (σ.set i (some v))
  | _, _, σ => σ
@[simp] def setE : List Nat → List (Bool × D) → VEnv → VEnv
  | i :: is, (k, d) :: ms, ρ => setE is ms (ρ.set i (if k = true then .own d else .shr d))
  | _, _, ρ => ρ
section
variable {b : Bg} {W : WX} {H0 : Hp} {M Zo Z : Addr → Prop} {σ : L2.St} {H H' : Hp} {ρ : VEnv} {De : VEnds} {Dn : Ends}
theorem FOk.many (f : FOk b H0 M Zo Z σ H ρ) (x : Ex b H H') (g : b.G H') {N : List Addr} (hN : ∀ c ∈ N, H c = none ∧ H' c ≠ none) : FOk b H0 M (fun c => Zo c ∨ c ∈ N) (fun c => Z c ∨ c ∈ N) σ H' ρ :=
  ⟨f.v.many x g hN, fun a o e nb nm => x a o (f.ext a o e nb nm) nb, f.fr⟩
/-- an address held apart becomes slot i's own -/
theorem FOk.adopt {a : Addr} {N : List Addr} {d : D} {i : Nat} (f : FOk b H0 M (fun c => Zo c ∨ c ∈ a :: N) Z σ H ρ) (hzb : ∀ c, b.B c → Zo c) (hN : a ∉ N) (hz : ¬ Zo a) (hf : M a ∨ H0 a = none) (hi : i < ρ.length) (o : Ow b Z H a d) :
    ∃ Z', FOk b H0 M (fun c => Zo c ∨ c ∈ N) Z' (σ.set i (some (.ref a))) H (ρ.set i (.own d)) ∧ ∀ c, Z' c → Z c := by
  have v := f.v
  have hiσ : i < σ.length := by rw [← v.len]; exact hi
  have hza : Z a := v.zo a (.inr List.mem_cons_self)
  have low : ∀ c, (Zo c ∨ c ∈ N) → (Zo c ∨ c ∈ a :: N) := fun c z => z.imp id (List.mem_cons_of_mem _)
  let Z' : Addr → Prop := fun c => (zBut (fun c => Zo c ∨ c ∈ N) σ ρ i c) ∨ c = a
  have sub : ∀ c, Z' c → Z c := fun c z => by
    rcases z with (z | ⟨j, e, _, h1, h2⟩) | rfl
    · exact v.zo c (low c z)
    · obtain ⟨c', h3, h4, _⟩ := v.own j e h1
      rw [h2] at h3; cases h3; exact h4
    · exact hza
  have na : ∀ (j : Nat) (e : D) (c : Addr), ρ[j]? = some (.own e) → σ[j]? = some (some (.ref c)) → c ≠ a := fun j e c h1 h2 q => by
    obtain ⟨c', h3, _, h4, _⟩ := v.own j e h1
    rw [h2] at h3; cases h3; rw [q] at h4
    exact h4 (.inr List.mem_cons_self)
  have ow : ∀ {j : Nat} {e : D}, (ρ.set i (.own d))[j]? = some (.own e) → (j = i ∧ e = d) ∨ (j ≠ i ∧ ρ[j]? = some (.own e)) := fun {j e} h => by
    by_cases hj : j = i
    · subst hj
      rw [List.getElem?_set_self hi] at h; cases h; exact .inl ⟨rfl, rfl⟩
    · rw [List.getElem?_set_ne (Ne.symm hj)] at h
      exact .inr ⟨hj, h⟩
  refine ⟨Z', ⟨⟨v.g, fun c z => .inl (hzb c z), fun c z => .inl (.inl z), fun c z => v.dom c (sub c z), fun c z => ?_, fun j e h => ?_, fun j k e e2 c h1 h2 h3 h4 => ?_, fun j e h => ?_, by simpa using v.len⟩, f.ext, fun j e c h1 h2 => ?_⟩, sub⟩
  · rcases z with (z | ⟨j, e, hj, h1, h2⟩) | rfl
    · exact .inl z
    · exact .inr ⟨j, e, by rw [List.getElem?_set_ne (Ne.symm hj)]; exact h1, by rw [List.getElem?_set_ne (Ne.symm hj)]; exact h2⟩
    · exact .inr ⟨i, d, List.getElem?_set_self hi, List.getElem?_set_self hiσ⟩
  · rcases ow h with ⟨q1, q2⟩ | ⟨hj, p1⟩
    · rw [q1, q2]
      exact ⟨a, List.getElem?_set_self hiσ, .inr rfl, fun z => z.elim hz hN, o.mono (fun c z => .inl (sub c z)) (fun _ _ e _ => e) fun _ e => e⟩
    · obtain ⟨c, h1, h2, h3, h4⟩ := v.own j e p1
      exact ⟨c, by rw [List.getElem?_set_ne (Ne.symm hj)]; exact h1, .inl (.inr ⟨j, e, hj, p1, h1⟩), fun z => h3 (low c z), h4.mono (fun c z => .inl (sub c z)) (fun _ _ e _ => e) fun _ e => e⟩
  · rcases ow h1 with ⟨q1, _⟩ | ⟨hj, p1⟩
    · rcases ow h2 with ⟨q2, _⟩ | ⟨hk, p2⟩
      · rw [q1, q2]
      · rw [q1, List.getElem?_set_self hiσ] at h3; cases h3
        rw [List.getElem?_set_ne (Ne.symm hk)] at h4
        exact absurd rfl (na k e2 _ p2 h4)
    · rw [List.getElem?_set_ne (Ne.symm hj)] at h3
      rcases ow h2 with ⟨q2, _⟩ | ⟨hk, p2⟩
      · rw [q2, List.getElem?_set_self hiσ] at h4; cases h4
        exact absurd rfl (na j e _ p1 h3)
      · rw [List.getElem?_set_ne (Ne.symm hk)] at h4
        exact v.inj j k e e2 c p1 p2 h3 h4
  · by_cases hj : j = i
    · rw [hj, List.getElem?_set_self hi] at h; cases h
    · rw [List.getElem?_set_ne (Ne.symm hj)] at h
      obtain ⟨w, h1, h2⟩ := v.shr j e h
      exact ⟨w, by rw [List.getElem?_set_ne (Ne.symm hj)]; exact h1, h2.mono (fun c z => .inl (sub c z)) fun _ _ e _ => e⟩
  · rcases ow h1 with ⟨q1, _⟩ | ⟨hj, p1⟩
    · rw [q1, List.getElem?_set_self hiσ] at h2; cases h2
      exact hf
    · rw [List.getElem?_set_ne (Ne.symm hj)] at h2
      exact f.fr j e c p1 h2
/-- all of them, one after another -/
theorem FOk.setAll (hb : ∀ c, b.B c → Zo c) : ∀ (is : List Nat) (vs : List V) (ms : List (Bool × D)) (N : List Addr) (Z : Addr → Prop) (σ : L2.St) (ρ : VEnv), FOk b H0 M (fun c => Zo c ∨ c ∈ N) Z σ H' ρ → Rm b Z H H' vs ms N → (∀ c ∈ N, ¬ Zo c ∧ (M c ∨ H0 c = none)) →
    ms.length = is.length → (∀ i ∈ is, i < ρ.length) → ∃ Z', FOk b H0 M Zo Z' (VL.setA is vs σ) H' (setE is ms ρ) := by
  intro is
  induction is with
  | nil =>
    intro vs ms N Z σ ρ f r hN hl hi
    cases r with
    | nil =>
      refine ⟨Z, ?_⟩
      have e : (fun c => Zo c ∨ c ∈ ([] : List Addr)) = Zo := by funext c; simp
      rw [e] at f
      exact f
    | sh _ _ => simp at hl
    | nw _ _ _ _ => simp at hl
  | cons i is ih =>
    intro vs ms N Z σ ρ f r hN hl hi
    cases r with
    | nil => simp at hl
    | sh r t =>
      have f1 := f.set (hi i List.mem_cons_self) r
      exact ih _ _ _ _ _ _ f1 (t.sub (f.v.but i)) hN (by simpa using hl) fun j hj => by rw [List.length_set]; exact hi j (List.mem_cons_of_mem _ hj)
    | nw hn hm o t =>
      obtain ⟨Z1, f1, sub⟩ := f.adopt hb hm (hN _ List.mem_cons_self).1 (hN _ List.mem_cons_self).2 (hi i List.mem_cons_self) o
      exact ih _ _ _ _ _ _ f1 (t.sub sub) (fun c hc => hN c (List.mem_cons_of_mem _ hc)) (by simpa using hl) fun j hj => by rw [List.length_set]; exact hi j (List.mem_cons_of_mem _ hj)
theorem FOk.par (f : FOk b H0 M Zo Z σ H ρ) {is : List Nat} {vs : List V} {ms : List (Bool × D)} {N : List Addr} (x : Ex b H H') (g : b.G H') (r : Rm b (fun c => Z c ∨ c ∈ N) H H' vs ms N) (hl : ms.length = is.length) (hi : ∀ i ∈ is, i < ρ.length) : ∃ Z', FOk b H0 M Zo Z' (VL.setA is vs σ) H' (setE is ms ρ) := by
  refine FOk.setAll f.v.zb is vs ms N _ σ ρ (f.many x g r.new) r (fun c hc => ⟨fun z => f.v.dom c (f.v.zo c z) (r.new c hc).1, ?_⟩) hl hi
  have hn := (r.new c hc).1
  cases q : H0 c with
  | none => exact .inr rfl
  | some u =>
    by_cases hb : b.B c
    · exact absurd hn (b.dom _ _ f.v.g hb)
    · by_cases hm : M c
      · exact .inl hm
      · have := f.ext c u q hb hm
        rw [hn] at this; cases this
end
section
variable {X : Cx} {b : Bg} {W : WX} {e e1 e2 e3 : Expr} {es : List Expr} {t t1 t2 : VT} {u : VAm} {pos : Pos}
@[simp] def sPar (is : List Nat) (u : VAm) : VS := fun ρ De => (∀ i ∈ is, i < ρ.length) ∧ u ρ (fun ms => ms.length = is.length ∧ De.nx (setE is ms ρ)) (De.ex ρ)
theorem Rm.len {Y : Addr → Prop} {H H' : Hp} : ∀ {vs : List V} {ms : List (Bool × D)} {N : List Addr}, Rm b Y H H' vs ms N → vs.length = ms.length
  | _, _, _, .nil => rfl
  | _, _, _, .sh _ t => congrArg (· + 1) (Rm.len t)
  | _, _, _, .nw _ _ _ t => congrArg (· + 1) (Rm.len t)
theorem vs_par3 {i j k : Nat} {x y z : Str} {px py pz pt : Pos} {kt k2 pt2} (hc : X.calm = true) (hN : X.N.Nodup) (hi : X.N[i]? = some x) (hj : X.N[j]? = some y) (hk : X.N[k]? = some z) (hij : i ≠ j) (hik : i ≠ k) (hjk : j ≠ k)
    (hx : X.env.scope.names.lookup x = some .local) (hy : X.env.scope.names.lookup y = some .local) (hz : X.env.scope.names.lookup z = some .local) (ha : VMs X b W [e1, e2, e3] u)
    (hw : swappedStores [.Tuple [.Name x px, .Name y py, .Name z pz] kt pt] (.Tuple [e1, e2, e3] k2 pt2) X.env = pure (some [x, y, z]))
    (hs : swapsWithSole [.Tuple [.Name x px, .Name y py, .Name z pz] kt pt] (.Tuple [e1, e2, e3] k2 pt2) pos.line X.env = pure false := by rfl) :
    VSt X b W (.Assign [.Tuple [.Name x px, .Name y py, .Name z pz] kt pt] (.Tuple [e1, e2, e3] k2 pt2) pos) (sPar [i, j, k] u) :=
  ps_mono (ps_par3 hc hN hi hj hk hij hik hjk hx hy hz ha hw hs) fun D σ H ⟨H0, M, Zo, Z, ρ, De, f, ⟨hl, q⟩, l⟩ => ⟨Zo, Z, ρ, _, _, f.v, q, fun vs H' ms N x g r ⟨hm, q'⟩ => by
    obtain ⟨Z', f'⟩ := f.par (is := [i, j, k]) x g r hm hl
    match vs, r.len.trans hm with
    | [v, w, y], _ => exact ⟨v, w, y, rfl, l.nx Z' _ H' _ f' q'⟩, l.er f⟩
end
end VL
set_option Elab.async false
set_option linter.all false
set_option maxRecDepth 100000
set_option maxHeartbeats 4000000
namespace VL
open PySem PySem.Spec PyProof.Rows L2
/-! ### sources: a list, a tuple, a text -/
inductive Kd where
  | l (a : Addr) | t (a : Addr) | s (x : Str) (k : Tok)
def Kd.val : Kd → Value
  | .l a => .ref a | .t a => .ref a | .s x k => .str x k
def Kd.obj : Kd → Obj
  | .l a => { cls := .type "list_iterator", data := .fields #[.ref a, .int 0 0] }
  | .t a => { cls := .type "tuple_iterator", data := .fields #[.ref a, .int 0 0] }
  | .s x k => { cls := .type (strIterType x), data := .fields #[.str x k, .int 0 0] }
/-- the walker at it stands at item i -/
def Kd.At : Kd → Addr → Nat → Heap → Prop
  | .l a, it, i, h => h.IsListIter it a i
  | .t a, it, i, h => h.IsTupleIter it a i
  | .s x k, it, i, h => h.IsStrIter it (strIterType x) x k i
def Kd.ad : Kd → List Addr
  | .l a => [a] | .t a => [a] | .s _ _ => []
def signs (x : Str) : List V := x.cps.toList.map fun c => V.str (mkS [c])
def Kd.gives (K : PySem.W.Frag) (H : Hp) : Kd → List V → Prop
  | .l a, xs => SqL K H a xs
  | .t a, xs => SqT K H a xs
  | .s x _, xs => xs = signs x
theorem Kd.begins {X : Cx} {pins : List (Addr × Obj)} {σ : L2.St} {H : Hp} {s : Shared} (I : Inv X pins σ H s) {k : Kd} {xs : List V} (g : k.gives X.K H xs) : ∃ Hs, Begins k.val k.obj Hs ∧ Hs s.heap ∧ ∀ b ∈ k.ad, b < s.heap.objs.size := by
  cases k with
  | l a =>
    obtain ⟨its, _, p, _⟩ := I.list g
    exact ⟨_, begins_list a its.toArray, p.isList, fun b hb => by rw [List.mem_singleton.mp hb]; exact p.lt⟩
  | t a =>
    obtain ⟨its, _, p, _⟩ := I.tuple g
    obtain ⟨o, ho, _⟩ := id p
    exact ⟨_, begins_tuple a its.toArray, p, fun b hb => by rw [List.mem_singleton.mp hb]; exact Heap.lt_size ho⟩
  | s x t => exact ⟨_, begins_text x t, trivial, fun b hb => by cases hb⟩
theorem Kd.start {k : Kd} {it : Addr} {h : Heap} (e : h.get? it = some k.obj) : k.At it 0 h := by
  cases k with
  | l a => exact ⟨_, e, rfl, rfl⟩
  | t a => exact ⟨_, e, rfl, rfl⟩
  | s x t => exact ⟨_, e, rfl, rfl⟩
theorem Kd.At.at {k : Kd} {it : Addr} {i : Nat} {h h' : Heap} (st : k.At it i h) (e : ∀ o, h.get? it = some o → h'.get? it = some o) : k.At it i h' := by
  cases k with
  | l a => exact Heap.IsListIter.at st e
  | t a => exact Heap.IsTupleIter.at st e
  | s x t => obtain ⟨o, ho, r⟩ := st; exact ⟨o, e o ho, r⟩
theorem Kd.At.rec' {k : Kd} {it : Addr} {i : Nat} {h : Heap} (st : k.At it i h) : ∃ o vs, h.get? it = some o ∧ o.data = .fields vs := by
  cases k with
  | l a => obtain ⟨o, ho, _, hd⟩ := st; exact ⟨o, _, ho, hd⟩
  | t a => obtain ⟨o, ho, _, hd⟩ := st; exact ⟨o, _, ho, hd⟩
  | s x t => obtain ⟨o, ho, _, hd⟩ := st; exact ⟨o, _, ho, hd⟩
theorem signs_get {x : Str} {i : Nat} {c : Nat} (h : x.cps[i]? = some c) : (signs x)[i]? = some (V.str (mkS [c])) := by
  unfold signs
  rw [List.getElem?_map, Array.getElem?_toList, h]
  rfl
theorem vals_at : ∀ {xs : List V} {its : List Value} {i : Nat} {u : Value}, Vals xs its → its[i]? = some u → ∃ y, xs[i]? = some y ∧ RelV y u
  | _, _, _, _, .nil, e => by simp at e
  | _, _, 0, _, .cons r _, e => by simp at e; subst e; exact ⟨_, rfl, r⟩
  | _, _, i + 1, _, .cons _ t, e => by
    obtain ⟨y, h1, h2⟩ := vals_at (i := i) t (by simpa using e)
    exact ⟨y, by simpa using h1, h2⟩
/-- what a source draws -/
theorem Kd.draws {X : Cx} {pins : List (Addr × Obj)} {σ : L2.St} {H : Hp} {s : Shared} (I : Inv X pins σ H s) (hc : X.calm = true) {k : Kd} {xs : List V} (g : k.gives X.K H xs) (it : Addr) (hne : it ∉ k.ad) :
    ∃ (P : Nat → Value → Prop) (St : Nat → Heap → Prop), Draws X.prog X.w X.A.in1 it (it :: k.ad) xs.length P St ∧ (∀ i, k.At it i s.heap → St i s.heap) ∧ (∀ i h, St i h → k.At it i h) ∧ ∀ i v, P i v → ∃ y, xs[i]? = some y ∧ RelV y v := by
  have hh : X.A.in1.handled = none := I.ok.hd hc
  cases k with
  | l a =>
    obtain ⟨its, r, p, _⟩ := I.list g
    have hn : a ≠ it := fun e => hne (by rw [e]; exact List.mem_singleton.mpr rfl)
    have D := Draws.list (prog := X.prog) (w := X.w) (A := X.A.in1) hh it a hn its.toArray
    rw [List.size_toArray, ← r.length] at D
    exact ⟨_, _, D, fun i st => ⟨st, p.isList⟩, fun i h st => st.1, fun i v hv => vals_at r (by simpa using hv)⟩
  | t a =>
    obtain ⟨its, r, p, _⟩ := I.tuple g
    have hn : a ≠ it := fun e => hne (by rw [e]; exact List.mem_singleton.mpr rfl)
    have D := Draws.tuple (prog := X.prog) (w := X.w) (A := X.A.in1) hh it a hn its.toArray
    rw [List.size_toArray, ← r.length] at D
    exact ⟨_, _, D, fun i st => ⟨st, p⟩, fun i h st => st.1, fun i v hv => vals_at r (by simpa using hv)⟩
  | s x t =>
    obtain rfl : xs = signs x := g
    have D := Draws.text (prog := X.prog) (w := X.w) (A := X.A.in1) hh it x t
    have e : (signs x).length = x.cps.size := by unfold signs; simp
    rw [← e] at D
    refine ⟨_, _, D, fun i st => st, fun i h st => st, fun i v hv => ?_⟩
    obtain ⟨c, u, h1, rfl⟩ := hv
    exact ⟨_, signs_get h1, u, rfl⟩
theorem Kd.gives_inj {X : Cx} {pins : List (Addr × Obj)} {σ : L2.St} {H : Hp} {s : Shared} (I : Inv X pins σ H s) {k : Kd} {xs ys : List V} (g : k.gives X.K H xs) (g' : k.gives X.K H ys) : xs = ys := by
  cases k with
  | l a => exact I.list_inj g g'
  | t a => exact I.tuple_inj g g'
  | s x t => exact g.trans g'.symm
/-! ### a walk over a source -/
/-- what a walk of items gives -/
def Itk (K : PySem.W.Frag) (k : Kd) : It :=
  ⟨fun i H => ∃ xs x, k.gives K H xs ∧ xs[i]? = some x, fun i H x H' => H' = H ∧ ∀ xs, k.gives K H xs → xs[i]? = some x, fun i H => ∃ xs, k.gives K H xs ∧ xs.length ≤ i⟩
theorem Turn.imp {P : Program} {w : World} {K : PySem.W.Frag} {tg : Expr} {J J' : It} {fp : List Addr} {it : Addr} {tn : Nat → Heap → Prop} (T : Turn P w K tg J fp it tn) (h1 : ∀ i H, J'.go i H → J.go i H) (h2 : ∀ i H x H', J'.go i H → J.yld i H x H' → J'.yld i H x H') (h3 : ∀ i H, J'.stop i H → J.stop i H) : Turn P w K tg J' fp it tn where
  mem := T.mem
  obj := T.obj
  keep := T.keep
  item := fun X hP hw hK hc i pins s σ H E I hf st hg => thn (T.item X hP hw hK hc i pins s σ H E I hf st (h1 i H hg)) fun r s1 ⟨u, hr, q⟩ => ⟨u, hr, thn q fun _ s2 ⟨x, H', I', rx, y, st', f'⟩ => ⟨x, H', I', rx, h2 i H x H' hg y, st', f'⟩⟩
  done := fun X hP hw hK hc i pins s σ H E I hf st hg => T.done X hP hw hK hc i pins s σ H E I hf st (h3 i H hg)
  self := T.self
theorem turn_kd {P : Program} {w : World} {K : PySem.W.Frag} {tg : Expr} (k : Kd) (it : Addr) : Turn P w K tg (Itk K k) [it] it (fun i h => k.At it i h) := by
  cases k with
  | l a => exact Turn.imp (turn_list a it) (fun i H ⟨xs, x, h⟩ => ⟨xs, x, h⟩) (fun i H x H' _ h => h) fun i H h => h
  | t a => exact Turn.imp (turn_tuple a it) (fun i H ⟨xs, x, h⟩ => ⟨xs, x, h⟩) (fun i H x H' _ h => h) fun i H h => h
  | s x t =>
    have e : (signs x).length = x.cps.size := by unfold signs; simp
    refine Turn.imp (turn_str it x t (strIterType x) (by unfold strIterType; split <;> simp)) (fun i H ⟨xs, y, h, hy⟩ => ?_) (fun i H y H' _ h => ?_) fun i H ⟨xs, h, hl⟩ => ?_
    · obtain rfl : xs = signs x := h
      obtain ⟨hlt, _⟩ := List.getElem?_eq_some_iff.mp hy
      rw [e] at hlt
      exact hlt
    · obtain ⟨h1, c, hcx, hy⟩ := h
      refine ⟨h1, fun xs h => ?_⟩
      obtain rfl : xs = signs x := h
      rw [hy]
      exact signs_get hcx
    · obtain rfl : xs = signs x := h
      rw [e] at hl
      exact hl
/-- a source's value -/
inductive Src (K : PySem.W.Frag) (H : Hp) : V → List V → (Kd → Prop) → Prop
  | l {a : Addr} {xs : List V} : SqL K H a xs → Src K H (.ref a) xs fun k => k = .l a
  | t {a : Addr} {xs : List V} : SqT K H a xs → Src K H (.ref a) xs fun k => k = .t a
  | s {x : Str} : Src K H (.str x) (signs x) fun k => ∃ t, k = .s x t
theorem Src.kd {K : PySem.W.Frag} {H : Hp} {v : V} {xs : List V} {C : Kd → Prop} (h : Src K H v xs C) {u : Value} (r : RelV v u) : ∃ k, C k ∧ k.val = u ∧ k.gives K H xs := by
  cases h with
  | l h => cases r; exact ⟨_, rfl, rfl, h⟩
  | t h => cases r; exact ⟨_, rfl, rfl, h⟩
  | s => obtain ⟨t, rfl⟩ := r; exact ⟨_, ⟨t, rfl⟩, rfl, rfl⟩
section
variable {X : Cx} {tg e e2 e3 : Expr} {p pos : Pos}
def iSrc (K : PySem.W.Frag) (te : TE) : TI := fun σ H R => te σ H fun x H1 => ∃ xs C, Src K H1 x xs C ∧ ∀ k, C k → R (Itk K k) H1
theorem pi_src {te : TE} (he : PE X e te) : PI X tg e (iSrc X.K te) := by
  refine ⟨fun pins s σ H R I h => ?_⟩
  refine thn (he.run pins s σ H _ I h) fun v s1 ⟨y, H1, I1, r1, xs, C, sx, q⟩ => ?_
  obtain ⟨k, hk, rfl, g⟩ := sx.kd r1
  obtain ⟨Hs, B, hs, _⟩ := k.begins I1 g
  exact B.iter _ _ _ _ _ _ hs (pi_one (tk := s1.toks) I1 _ (turn_kd k _) (Kd.start (Heap.get?_push_size _ B.free)) (q k hk))
end
/-! ### enumerate -/
def Iek (K : PySem.W.Frag) (k : Kd) : It :=
  ⟨fun i H => ∃ xs x, k.gives K H xs ∧ xs[i]? = some x, fun i H v H' => ∃ T o x, v = .ref T ∧ H T = none ∧ o.dict = none ∧ H' = upd H T (HO.th o [.int (i : Nat), x]) ∧ ∀ xs, k.gives K H xs → xs[i]? = some x, fun i H => ∃ xs, k.gives K H xs ∧ xs.length = i⟩
theorem lt_of_get {h : Heap} {b : Addr} {o : Obj} (e : h.get? b = some o) : b < h.objs.size := Heap.lt_size e
theorem turn_ek {P : Program} {w : World} {K : PySem.W.Frag} {elts : List Expr} {kk : Nat} {tpos : Pos} (k : Kd) {en it : Addr} (hne : en ≠ it) (h1 : en ∉ k.ad) (h2 : it ∉ k.ad) :
    Turn P w K (.Tuple elts kk tpos) (Iek K k) [en, it] en (fun i h => (∃ old, IsEnum h en it ((i : Nat) : Int) old) ∧ k.At it i h) where
  mem := List.mem_cons_self
  obj := fun i h ⟨⟨old, he⟩, hi⟩ b hb => by
    rcases List.mem_cons.mp hb with rfl | hb
    · exact ⟨_, he, nofun⟩
    · rw [List.mem_singleton.mp hb]
      obtain ⟨o, vs, ho, hd⟩ := hi.rec'
      exact ⟨o, ho, fun v q => by rw [hd] at q; cases q⟩
  keep := fun i h h' ⟨⟨old, he⟩, hi⟩ kp => ⟨⟨old, kp en List.mem_cons_self _ he⟩, hi.at fun o q => kp it (by simp) o q⟩
  item := by
    rintro X rfl rfl rfl hc i pins s σ H E I hf ⟨⟨old, he⟩, hi⟩ ⟨xs, x, g, hx⟩
    obtain ⟨Pd, St, D, s1, s2, s3⟩ := k.draws I hc g it h2
    have hlt : i < xs.length := (List.getElem?_eq_some_iff.mp hx).1
    have hel := lt_of_get he
    obtain ⟨oi, vi, hoi, _⟩ := hi.rec'
    have hil := lt_of_get hoi
    refine wpAny_pyNext_enum_itemD D he (s1 i hi) hlt hne (by simp [hne, h1]) fun u h' tk hP ho st' hT hsz hk => ?_
    obtain ⟨y, hy, ru⟩ := s3 i u hP
    obtain rfl : x = y := Option.some.inj (hx.symm.trans hy)
    refine ⟨_, rfl, wpAny_letOwnedTupleGo_enum (s := { s with heap := h', toks := tk + 1 }) ho fun h'' he' sb => ?_⟩
    have hT2 := (sb.2 s.heap.objs.size (Nat.ne_of_gt hel)).trans hT
    have new : ObjOk X.prog X.w (upd H s.heap.objs.size (HO.th (tob [.int i tk, u]) [.int (i : Nat), x])) h'' s.heap.objs.size (HO.th (tob [.int i tk, u]) [.int (i : Nat), x]) :=
      th_ok (by show 2 ≤ sizeLine; decide) (.cons ⟨_, rfl⟩ (.cons ru .nil)) hT2
    have I1 : Inv X pins σ (upd H s.heap.objs.size (HO.th (tob [.int i tk, u]) [.int (i : Nat), x])) { s with heap := h'', toks := tk + 1 } :=
      I.turnedNew (ch := [en, it]) (fun b ob hb q => by
        have n1 : b ≠ en := fun z => hb (by simp [z])
        have n2 : b ≠ it := fun z => hb (by simp [z])
        exact (sb.2 b n1).trans (hk b ob n1 n2 q)) hf (Nat.le_refl _) new
    refine ⟨.ref s.heap.objs.size, _, I1, rfl, ⟨_, _, x, rfl, I.hok.fresh (Nat.le_refl _), rfl, rfl, fun ys hy => by rw [k.gives_inj I hy g]; exact hx⟩, ⟨⟨u, ?_⟩, (s2 _ _ st').at fun o q => (sb.2 it (Ne.symm hne)).trans q⟩, fun b hb => ?_⟩
    · have e1 : ((i + 1 : Nat) : Int) = (i : Int) + 1 := by omega
      rw [e1]; exact he'
    · have hb' : b < s.heap.objs.size := by
        rcases List.mem_cons.mp hb with rfl | hb
        · exact hel
        · rw [List.mem_singleton.mp hb]; exact hil
      rw [upd_ne (Nat.ne_of_lt hb')]
      exact (hf b hb).1
  done := by
    rintro X rfl rfl rfl hc i pins s σ H E I hf ⟨⟨old, he⟩, hi⟩ ⟨xs, g, hl⟩
    obtain ⟨Pd, St, D, s1, s2, s3⟩ := k.draws I hc g it h2
    obtain ⟨f0, f1, f2, f3, f4, f5⟩ := hf it (by simp)
    subst hl
    exact wpAny_pyNext_enum_endD D he (s1 _ hi) fun h' eb => ⟨rfl, I.turned (t' := s.toks) (fun b o hb q => eb b o hb q) f0 f1 f3 f4 f5⟩
  self := fun A i s Q E ⟨⟨_, he⟩, _⟩ h => wpAny_pyIter_enum he h
theorem enum_meets1 {v : Value} {o : Obj} {Hs : Heap → Prop} (B : Begins v o Hs) :
    Meets (Builtin.«enumerate.__new__» ⟨[.type "enumerate", v], []⟩) (fun _ R s => Hs s.heap ∧
      R (.ok (.ret (.ref (s.heap.push o).objs.size))) { s with heap := (s.heap.push o).push { cls := .type "enumerate", data := .fields #[.none, .bool false, .ref s.heap.objs.size, rawInt 0, .none, .none] } }) :=
  .of_wp fun prog w A R s hh => by
    obtain ⟨hp, gn, dr, tk, os⟩ := s
    obtain ⟨hv, h⟩ := hh
    have hsub := sub_enumerate
    have itv : ∀ {A' : Around} {E : Value → Shared → Prop} {Q : Value → Shared → Prop}, Q (.ref hp.objs.size) ⟨hp.push o, gn, dr, tk, os⟩ → wpAny (model prog w) A' (pyIter v) Q E ⟨hp, gn, dr, tk, os⟩ :=
      fun q => B.iter prog w _ _ ⟨hp, gn, dr, tk, os⟩ _ hv q
    wp_walk using itv
    refine wpAny_stack_any fun fr => wpAny_pure ?_
    split
    · rename_i c0 _ _ _ _ _
      cases (c0 == Value.type "enumerate") <;> (wp_walk using itv; exact ⟨_, rfl, h⟩)
    · wp_walk using itv
      exact ⟨_, rfl, h⟩
section
variable {prog : Program} {w : World} {A : Around} {E : Value → Shared → Prop} {s : Shared}
theorem enum_one {v : Value} {o : Obj} {Hs : Heap → Prop} {Q : Value → Shared → Prop} (B : Begins v o Hs) (hv : Hs s.heap)
    (h : ∀ h', IsEnum h' (s.heap.objs.size + 1) s.heap.objs.size 0 .none → h'.get? s.heap.objs.size = some o → (∀ b ob, s.heap.get? b = some ob → h'.get? b = some ob) → Q (.ref (s.heap.objs.size + 1)) { s with heap := h' }) :
    wpAny (model prog w) A (call (.type "enumerate") [v]) Q E s := by
  refine callType_new F.called_enumerate (by decide) (F.typeCall_enumerate_1 _) (F.newCall_enumerate_1 _) (fun obj => F.args_object_init_2 obj _) F.entry_enumerate_new (enum_meets1 B) ⟨hv, ?_⟩
  have z1 : (s.heap.push o).objs.size = s.heap.objs.size + 1 := Heap.size_push ..
  have g1 := Heap.get?_push_size (s.heap.push o) (o := { cls := .type "enumerate", data := .fields #[.none, .bool false, .ref s.heap.objs.size, rawInt 0, .none, .none] }) rfl
  show _ ∧ _
  rw [z1] at g1 ⊢
  exact ⟨⟨_, g1, rfl⟩, h _ g1 (Heap.get?_push_of_some _ (Heap.get?_push_size _ B.free)) fun b ob e => Heap.get?_push_of_some _ (Heap.get?_push_of_some _ e)⟩
end
section
variable {X : Cx} {tg e e2 e3 : Expr} {elts : List Expr} {kk : Nat} {p pos tpos : Pos}
def iEnumS (K : PySem.W.Frag) (ta : TA) : TI := fun σ H R => ta σ H fun vs H1 => ∃ x xs C, vs = [x] ∧ Src K H1 x xs C ∧ ∀ k, C k → R (Iek K k) H1
theorem pi_enumS {ta : TA} (hg : Gl X "enumerate") (hm : X.mg "enumerate" = none) (ha : PA X [e] ta) (hs : starEach [e] X.env = [(false, eval e X.env)] := by rfl) : PI X (.Tuple elts kk tpos) (.Call (.Name "enumerate" p) [e] [] pos) (iEnumS X.K ta) := by
  refine ⟨fun pins s σ H R I h => ?_⟩
  refine Call_ (ld_blt I hg hm boot_enumerate (PyProof.Rows.callWith_type1 (thn (ha.run pos pins s σ H _ I h) fun us s1 ⟨vs, H1, I1, r1, x, xs, C, ev, sx, q⟩ => ?_) hs rfl))
  subst ev
  obtain ⟨u, rfl, ru⟩ := vals1 r1
  obtain ⟨k, hk, rfl, g⟩ := sx.kd ru
  obtain ⟨Hs, B, hst, hlt⟩ := k.begins I1 g
  refine enum_one B hst fun h' he hit kp => wpAny_pyIter_enum he ?_
  have old : ∀ b ∈ k.ad, b ≠ s1.heap.objs.size ∧ b ≠ s1.heap.objs.size + 1 := fun b hb => by
    have z : (b : Nat) < s1.heap.objs.size := hlt b hb
    exact ⟨Nat.ne_of_lt z, Nat.ne_of_lt (Nat.lt_succ_of_lt z)⟩
  refine ⟨s1.heap.objs.size + 1, [s1.heap.objs.size + 1, s1.heap.objs.size], _, _, H1, rfl, I1.kept (t' := s1.toks) kp, turn_ek k (Nat.succ_ne_self _) (fun hm => (old _ hm).2 rfl) (fun hm => (old _ hm).1 rfl), ⟨⟨.none, he⟩, Kd.start hit⟩, fun b hb => ?_, q k hk⟩
  have hle : s1.heap.objs.size ≤ b := by
    rcases List.mem_cons.mp hb with z | z
    · rw [z]; exact Nat.le_succ _
    · rw [List.mem_singleton.mp z]; exact Nat.le_refl _
  exact I1.fpOk hle (I1.hok.fresh hle)
end
end VL
set_option Elab.async false
set_option linter.all false
set_option maxRecDepth 100000
set_option maxHeartbeats 4000000
namespace VL
open PySem PySem.Spec PyProof.Rows L2
/-! ### zip of two, of three sources -/
section
variable {X : Cx} {tg e e2 e3 : Expr} {elts : List Expr} {kk : Nat} {p pos tpos : Pos}
theorem vals2 {a b : V} {us : List Value} (h : Vals [a, b] us) : ∃ u v, us = [u, v] ∧ RelV a u ∧ RelV b v := by
  cases h with
  | cons r t => cases t with
    | cons r2 t => cases t; exact ⟨_, _, rfl, r, r2⟩
end
end VL
set_option Elab.async false
set_option linter.all false
set_option maxRecDepth 100000
set_option maxHeartbeats 4000000
namespace VL
open PySem PySem.Spec PyProof.Rows L2
/-! ### the items of plain data -/
def signsD (x : Str) : List PyData := x.cps.toList.map fun c => PyData.str (mkS [c])
@[simp] def itemsOf : PyData → Option (List PyData)
  | .list xs => some xs
  | .tuple xs => some xs
  | .str x => some (signsD x)
  | _ => none
def enumP (xs : List PyData) : List PyData := xs.zipIdx.map fun p => .tuple [.int (p.2 : Nat), p.1]
def zip2P (xs ys : List PyData) : List PyData := (xs.zip ys).map fun p => .tuple [p.1, p.2]
def zip3P (xs ys zs : List PyData) : List PyData := (xs.zip (ys.zip zs)).map fun p => .tuple [p.1, p.2.1, p.2.2]
def rangeP (i : Int) (n : Nat) : List PyData := (List.range n).map fun k => .int (i + (k : Nat))
theorem rangeP_get {i : Int} {n k : Nat} {d : PyData} (h : (rangeP i n)[k]? = some d) : k < n ∧ d = .int (i + (k : Nat)) := by
  unfold rangeP at h
  rw [List.getElem?_map] at h
  by_cases hk : k < n
  · rw [List.getElem?_range hk] at h; cases h; exact ⟨hk, rfl⟩
  · rw [List.getElem?_eq_none (by simp; omega)] at h; cases h
/-! ### the walks, over data -/
section
variable {b : Bg} {Y Z : Addr → Prop} {H : Hp} {K : PySem.W.Frag}
theorem rqs_signs {x : Str} : Rqs Z H (signs x) (signsD x) := by
  unfold signs signsD
  induction x.cps.toList with
  | nil => exact .nil
  | cons c l ih => exact .cons (.str _) ih
/-- a source: what stands there, and stays -/
structure SrcD (K : PySem.W.Frag) (Y Z : Addr → Prop) (H : Hp) (v : V) (xs : List PyData) (vs : List V) (C : Kd → Prop) : Prop where
  src : Src K H v vs C
  rq : Rqs Z H vs xs
  stay : ∀ k, C k → ∀ H2 : Hp, (∀ a o, H a = some o → ¬ Y a → H2 a = some o) → k.gives K H2 vs
theorem srcD {v : V} {p : PyData} {xs : List PyData} (r : Rb b Z H v (.py p)) (hn : ∀ a, v = .ref a → ¬ Y a) (e : itemsOf p = some xs) : ∃ vs C, SrcD K Y Z H v xs vs C := by
  cases p with
  | list ds =>
    cases e
    obtain ⟨a, us, rfl, ha, q⟩ := r.list
    exact ⟨us, _, .l (SqL.of ha), q, fun k hk H2 h2 => by rw [hk]; exact SqL.of (h2 a _ ha (hn a rfl))⟩
  | tuple ds =>
    cases e
    obtain ⟨a, o, us, rfl, ha, ho, na, q⟩ := r.tuple
    exact ⟨us, _, .t (SqT.th ha), q, fun k hk H2 h2 => by rw [hk]; exact SqT.th (h2 a _ ha (hn a rfl))⟩
  | str x =>
    cases e
    have ev := r.str
    subst ev
    exact ⟨signs x, _, .s, rqs_signs, fun k hk H2 h2 => by obtain ⟨t, rfl⟩ := hk; rfl⟩
  | _ => cases e
/-- what a source has at k -/
theorem SrcD.at {v : V} {xs : List PyData} {vs : List V} {C : Kd → Prop} (s : SrcD K Y Z H v xs vs C) (hY : ∀ a, ¬ Z a → ¬ Y a) {k : Nat} {d : PyData} (h : xs[k]? = some d) {H2 : Hp} (h2 : ∀ a o, H a = some o → ¬ Y a → H2 a = some o) :
    ∃ x, vs[k]? = some x ∧ ∀ Z2 : Addr → Prop, (∀ a, Z2 a → Z a ∨ H a = none) → Rq Z2 H2 x d := by
  obtain ⟨x, hx, r⟩ := s.rq.get h
  exact ⟨x, hx, fun Z2 hz => r.mono hz fun a o e n => h2 a o e (hY a n)⟩
theorem wk_src {v : V} {xs : List PyData} {vs : List V} {C : Kd → Prop} (s : SrcD K Y Z H v xs vs C) (hY : ∀ a, ¬ Z a → ¬ Y a) {k : Kd} (hk : C k) : Wk b Y Z H (Itk K k) (xs.map D.py) where
  go := fun i d H2 hd h2 g => by
    rw [List.getElem?_map] at hd
    cases e : xs[i]? with
    | none => rw [e] at hd; cases hd
    | some p =>
      rw [e] at hd; cases hd
      obtain ⟨x, hx, r⟩ := s.at hY e h2
      have gv := s.stay k hk H2 h2
      refine ⟨⟨vs, x, gv, hx⟩, fun v H3 y => ?_⟩
      obtain ⟨eH, y⟩ := y
      subst eH
      have : x = v := Option.some.inj (hx.symm.trans (y vs gv))
      subst this
      exact ⟨Ex.refl, g, fun Z2 hz _ => r Z2 hz⟩
  stop := fun i H2 hl h2 => ⟨vs, s.stay k hk H2 h2, by rw [s.rq.length, ← hl, List.length_map]; exact Nat.le_refl _⟩
theorem wk_range {lo : Int} {n : Nat} : Wk b Y Z H (Itr lo n) ((rangeP lo n).map D.py) where
  go := fun i d H2 hd h2 g => by
    rw [List.getElem?_map] at hd
    cases e : (rangeP lo n)[i]? with
    | none => rw [e] at hd; cases hd
    | some p =>
      rw [e] at hd; cases hd
      obtain ⟨hlt, rfl⟩ := rangeP_get e
      refine ⟨hlt, fun v H3 y => ?_⟩
      obtain ⟨eH, y⟩ := y
      subst eH y
      exact ⟨Ex.refl, g, fun Z2 hz _ => .int _⟩
  stop := fun i H2 hl h2 => by
    have e : n = i := by rw [← hl]; simp [rangeP]
    rw [e]
    exact Nat.le_refl _
end
/-! ### iterators as judgements -/
@[simp] def asO {α : Type} : Option α → (α → Prop) → Prop
  | some a, Q => Q a
  | none, _ => False
theorem asO_ex {α : Type} : ∀ {o : Option α} {Q : α → Prop}, asO o Q → ∃ a, o = some a ∧ Q a
  | some a, _, h => ⟨a, rfl, h⟩
@[simp] def asS : D → (List D → Prop) → Prop
  | .py p, Q => asO (itemsOf p) fun xs => Q (xs.map D.py)
  | _, _ => False
@[simp] def asEn : List D → (List D → Prop) → Prop
  | [.py p], Q => asO (itemsOf p) fun xs => Q ((enumP xs).map D.py)
  | _, _ => False
@[simp] def asZ2 : List D → (List D → Prop) → Prop
  | [.py p, .py q], Q => asO (itemsOf p) fun xs => asO (itemsOf q) fun ys => Q ((zip2P xs ys).map D.py)
  | _, _ => False
@[simp] def asZ3 : List D → (List D → Prop) → Prop
  | [.py p, .py q, .py r], Q => asO (itemsOf p) fun xs => asO (itemsOf q) fun ys => asO (itemsOf r) fun zs => Q ((zip3P xs ys zs).map D.py)
  | _, _ => False
abbrev small62 (i : Int) : Prop := -(2 ^ 62) ≤ i ∧ i < 2 ^ 62
@[simp] theorem small62_nat (n : Nat) : small62 (n : Int) ↔ n < 4611686018427387904 := by unfold small62; omega
@[simp] def asR1 : List D → (List D → Prop) → Prop
  | [.py (.int i)], Q => small62 i ∧ Q ((rangeP 0 i.toNat).map D.py)
  | _, _ => False
@[simp] def asR2 : List D → (List D → Prop) → Prop
  | [.py (.int i), .py (.int j)], Q => (small62 i ∧ small62 j) ∧ Q ((rangeP i (j - i).toNat).map D.py)
  | _, _ => False
theorem asS_ex : ∀ {d : D} {Q : List D → Prop}, asS d Q → ∃ p xs, d = .py p ∧ itemsOf p = some xs ∧ Q (xs.map D.py)
  | .py p, _, h => let ⟨xs, e, q⟩ := asO_ex h; ⟨p, xs, rfl, e, q⟩
theorem asR1_ex : ∀ {d : List D} {Q : List D → Prop}, asR1 d Q → ∃ i, d = [.py (.int i)] ∧ small62 i ∧ Q ((rangeP 0 i.toNat).map D.py)
  | [.py (.int i)], _, h => ⟨i, rfl, h⟩
@[simp] def iS (t : VT) : VIt := fun ρ Q E => t ρ (fun d => asS d Q) E
@[simp] def iEn (t : VA) : VIt := fun ρ Q E => t ρ (fun d => asEn d Q) E
@[simp] def iZ2 (t : VA) : VIt := fun ρ Q E => t ρ (fun d => asZ2 d Q) E
@[simp] def iZ3 (t : VA) : VIt := fun ρ Q E => t ρ (fun d => asZ3 d Q) E
@[simp] def iR1 (t : VA) : VIt := fun ρ Q E => t ρ (fun d => asR1 d Q) E
@[simp] def iR2 (t : VA) : VIt := fun ρ Q E => t ρ (fun d => asR2 d Q) E
theorem pi_mono {X : Cx} {tg iter : Expr} {t t' : TI} (h : PI X tg iter t) (m : ∀ σ H R, t' σ H R → t σ H R) : PI X tg iter t' := ⟨fun pins s σ H R I q => h.run pins s σ H R I (m σ H R q)⟩
section
variable {X : Cx} {b : Bg} {W : WX} {tg e e1 e2 e3 : Expr} {elts : List Expr} {kk : Nat} {t t1 t2 t3 : VT} {p pos tpos : Pos}
theorem Rp.ref {Z : Addr → Prop} {H : Hp} {v : V} {p : PyData} (r : Rp b Z H v (.py p)) : ∀ a, v = .ref a → ¬ Z a := fun a e => by
  subst e
  cases r <;> assumption
theorem Rb.ref {Z : Addr → Prop} {H : Hp} {v : V} {p : PyData} (g : Gd b Z H) (r : Rb b Z H v (.py p)) : ∀ a, v = .ref a → ¬ b.B a := fun a e => by
  rcases r with r | ⟨c, e1, n, _⟩
  · exact fun z => Rp.ref r a e (g.zb a z)
  · rw [e] at e1; cases e1; exact n
theorem vib_src (h : VX X b W e t) : VIb X b W tg e (iS t) := pi_mono (pi_src h) fun σ H R ⟨Zo, Z, ρ, Qd, Ed, v, q, l, m⟩ =>
  ⟨Zo, Z, ρ, _, Ed, v, q, fun x H1 d x1 g1 r1 hh => by
    obtain ⟨p, xs, ed, ei, q1⟩ := asS_ex hh
    subst ed
    have gd := (v.ex x1 g1).gd
    obtain ⟨vs, C, s⟩ := srcD (K := X.K) (Y := b.B) r1 (Rb.ref gd r1) ei
    exact ⟨vs, C, s.src, fun k hk => l _ H1 _ x1 g1 (wk_src s (fun _ n z => n (gd.zb _ z)) hk) q1⟩, m⟩
theorem rbs1 {Z : Addr → Prop} {H : Hp} {v : List V} {d : D} (r : Rps b Z H v [d]) : ∃ x, v = [x] ∧ Rp b Z H x d := by
  cases r with
  | cons r t => cases t; exact ⟨_, rfl, r⟩
theorem rbs2 {Z : Addr → Prop} {H : Hp} {v : List V} {d d2 : D} (r : Rps b Z H v [d, d2]) : ∃ x y, v = [x, y] ∧ Rp b Z H x d ∧ Rp b Z H y d2 := by
  cases r with
  | cons r t => obtain ⟨y, rfl, r2⟩ := rbs1 t; exact ⟨_, y, rfl, r, r2⟩
variable {ta : VA}
theorem pi_rng1 {Yf : (Addr → Prop) → Addr → Prop} (hg : Gl X "range") (hm : X.mg "range" = none) (h : VXs X b W [e] ta) (hs : starEach [e] X.env = [(false, eval e X.env)] := by rfl) : PI X tg (.Call (.Name "range" p) [e] [] pos) (LI b W Yf (iR1 ta)) :=
  pi_mono (pi_range1 hg hm h hs) fun σ H R ⟨Zo, Z, ρ, Qd, Ed, v, q, l, m⟩ =>
    ⟨Zo, Z, ρ, _, Ed, v, q, fun x H1 d x1 g1 r1 hh => by
      obtain ⟨i, ed, ⟨i1, i2⟩, q1⟩ := asR1_ex hh
      subst ed
      obtain ⟨w, rfl, r2⟩ := Rbs.one r1
      exact ⟨i, by rw [r2.int], i1, i2, l _ H1 _ x1 g1 wk_range q1⟩, m⟩
theorem vib_range1 (hg : Gl X "range") (hm : X.mg "range" = none) (h : VXs X b W [e] ta) (hs : starEach [e] X.env = [(false, eval e X.env)] := by rfl) : VIb X b W tg (.Call (.Name "range" p) [e] [] pos) (iR1 ta) := pi_rng1 hg hm h hs
end
end VL
set_option Elab.async false
set_option linter.all false
set_option maxRecDepth 100000
set_option maxHeartbeats 4000000
namespace VL
open PySem PySem.Spec PyProof.Rows L2
/-! ### from a loop's start on -/
section
variable {b : Bg} {W : WX} {H0 : Hp} {M Zo Z Z' : Addr → Prop} {σ σ' : L2.St} {H H' : Hp} {ρ ρ' : VEnv} {De : VEnds} {Dn : Ends}
/-- what a loop may write: its def's own objects -/
abbrev Mo (Zo Z : Addr → Prop) : Addr → Prop := fun a => Z a ∧ ¬ Zo a
theorem VOk.here (v : VOk b Zo Z σ H ρ) : FOk b H (Mo Zo Z) Zo Z σ H ρ :=
  ⟨v, fun _ _ e _ _ => e, fun i d a h1 h2 => by
    obtain ⟨c, h3, h4, h5, _⟩ := v.own i d h1
    rw [h2] at h3; cases h3
    exact .inl ⟨h4, h5⟩⟩
theorem FOk.mine (f : FOk b H0 M Zo Z σ H ρ) {a : Addr} (h : Mo Zo Z a) : M a ∨ H0 a = none := by
  rcases f.v.zi a h.1 with z | ⟨i, d, h1, h2⟩
  · exact absurd z h.2
  · exact f.fr i d a h1 h2
theorem FOk.extBack (f : FOk b H0 M Zo Z σ H ρ) (x : ∀ a o, H a = some o → ¬ b.B a → ¬ Mo Zo Z a → H' a = some o) : ∀ a o, H0 a = some o → ¬ b.B a → ¬ M a → H' a = some o := fun a o e nb nm =>
  x a o (f.ext a o e nb nm) nb fun mo => by
    rcases f.mine mo with z | z
    · exact nm z
    · rw [e] at z; cases z
theorem FOk.back (f : FOk b H0 M Zo Z σ H ρ) (f' : FOk b H (Mo Zo Z) Zo Z' σ' H' ρ') : FOk b H0 M Zo Z' σ' H' ρ' :=
  ⟨f'.v, f.extBack f'.ext, fun i d a h1 h2 => by
    rcases f'.fr i d a h1 h2 with z | z
    · exact f.mine z
    · cases q : H0 a with
      | none => exact .inr rfl
      | some o =>
        by_cases hb : b.B a
        · exact absurd z (b.dom _ _ f.v.g hb)
        · by_cases hm : M a
          · exact .inl hm
          · rw [f.ext a o q hb hm] at z; cases z⟩
theorem FOk.frBack (f : FOk b H0 M Zo Z σ H ρ) {a : Addr} (h : Mo Zo Z a ∨ H a = none) : M a ∨ H0 a = none := by
  rcases h with z | z
  · exact f.mine z
  · cases q : H0 a with
    | none => exact .inr rfl
    | some o =>
      by_cases hb : b.B a
      · exact absurd z (b.dom _ _ f.v.g hb)
      · by_cases hm : M a
        · exact .inl hm
        · rw [f.ext a o q hb hm] at z; cases z
theorem FOk.rtBack (f : FOk b H0 M Zo Z σ H ρ) {H' : Hp} {Z' : Addr → Prop} {v : V} {r : Rt} (k : RtOk b H (Mo Zo Z) Zo Z' H' v r) : RtOk b H0 M Zo Z' H' v r := by
  cases r with
  | val d => exact k
  | nw d => obtain ⟨x, e, h, k⟩ := k; exact ⟨x, e, f.frBack h, k⟩
  | nwL d ds => obtain ⟨l, x, ws, e, h1, h2, h3, h4, h5, k⟩ := k; exact ⟨l, x, ws, e, h1, f.frBack h2, h3, h4, f.frBack h5, k⟩
theorem Lk.here (l : Lk b W H0 M Zo De Dn) (f : FOk b H0 M Zo Z σ H ρ) : Lk b W H (Mo Zo Z) Zo De Dn where
  nx := fun Z' σ' H' ρ' f' q => l.nx Z' σ' H' ρ' (f.back f') q
  rt := fun v H' d x g r q => l.rt v H' d (f.extBack x) g r q
  bk := fun Z' σ' H' ρ' f' q => l.bk Z' σ' H' ρ' (f.back f') q
  ct := fun Z' σ' H' ρ' f' q => l.ct Z' σ' H' ρ' (f.back f') q
  ex := fun c x Z' σ' H' ρ' er f' r q => l.ex c x Z' σ' H' ρ' er (f.back f') r q
  ro := fun v Z' σ' H' ρ' r f' k q => l.ro v Z' σ' H' ρ' r (f.back f') (f.rtBack k) q
/-- what is owned later was owned at the start, or is new -/
theorem FOk.young (f : FOk b H (Mo Zo Z) Zo Z' σ' H' ρ') (v : VOk b Zo Z σ H ρ) : ∀ a, Z' a → Z a ∨ H a = none := fun a z => by
  rcases f.v.zi a z with z | ⟨i, d, h1, h2⟩
  · exact .inl (v.zo a z)
  · exact (f.fr i d a h1 h2).imp (·.1) id
end
/-! ### for -/
@[simp] def forGo (g : VTg) (tb : VS) : List D → VEnv → VEnds → Prop
  | [], ρ, De => De.nx ρ
  | d :: ds, ρ, De => g d ρ fun ρ1 => tb ρ1 { De with nx := fun ρ2 => forGo g tb ds ρ2 De, ct := fun ρ2 => forGo g tb ds ρ2 De, bk := De.nx }
@[simp] def sFor (ti : VIt) (g : VTg) (tb : VS) : VS := fun ρ De => ti ρ (fun ds => forGo g tb ds ρ De) (De.ex ρ)
section
variable {X : Cx} {b : Bg} {W : WX} {tg iter : Expr} {body : List Stmt} {ti : VIt} {js : List Nat} {g : VTg} {tb : VS} {pos : Pos}
theorem vs_for (hp : PassesOwn (model X.prog X.w) X.A X.env X.xe) (hc : X.calm = true) (hi : VI X b W tg iter ti) (hg : VG X b tg js g) (hb : VSs X b W body tb)
    (hs : ∀ x, foldedSetIterable iter X.env x = pure x := by intro _; rfl) : VSt X b W (.For tg iter body [] pos) (sFor ti g tb) :=
  ps_mono (ps_for hp hc hi hg hb hs) fun Dn σ H ⟨H0, M, Zo, Z, ρ, De, f, q, l⟩ => ⟨Zo, Z, ρ, _, _, f.v, q, fun J H1 ds x1 g1 wk q1 => by
    have f1 := f.ex x1 g1
    have l1 := l.here f1
    have hZ : ∀ a, ¬ Z a → ¬ b.B a ∧ ¬ Mo Zo Z a := fun a n => ⟨fun z => n (f.v.zo _ (f.v.zb a z)), fun z => n z.1⟩
    refine ⟨fun i m σ' H' => m = ds.length - i ∧ i ≤ ds.length ∧ ∃ Z' ρ', FOk b H1 (Mo Zo Z) Zo Z' σ' H' ρ' ∧ forGo g tb (ds.drop i) ρ' De, ⟨ds.length, by simp, Nat.zero_le _, Z, ρ, f1.v.here, q1⟩, ?_⟩
    rintro i m σ' H' ⟨rfl, hi, Z', ρ', f', q'⟩
    have st : ∀ a o, H1 a = some o → ¬ Z a → H' a = some o := fun a o e n => f'.ext a o e (hZ a n).1 (hZ a n).2
    by_cases hlt : i < ds.length
    · rw [List.drop_eq_getElem_cons hlt] at q'
      obtain ⟨go, yl⟩ := wk.go i ds[i] H' (List.getElem?_eq_getElem hlt) st f'.v.g
      refine .inr ⟨go, fun σ2 H2 => ∃ Z2 ρ2, FOk b H1 (Mo Zo Z) Zo Z2 σ2 H2 ρ2 ∧ forGo g tb (ds.drop (i + 1)) ρ2 De, fun σ2 H2 h2 => ⟨ds.length - (i + 1), by omega, rfl, hlt, h2⟩, fun v H3 y => ?_⟩
      obtain ⟨x3, g3, r3⟩ := yl v H3 y
      refine ⟨H1, Mo Zo Z, Zo, Z', ρ', _, _, f'.ex x3 g3, r3 Z' (f'.young f1.v) f'.v.dom, q', fun Z4 σ4 ρ4 _ _ f4 q4 => ?_⟩
      exact ⟨H1, Mo Zo Z, Zo, Z4, ρ4, _, f4, q4, ⟨fun Z5 σ5 H5 ρ5 f5 q5 => ⟨Z5, ρ5, f5, q5⟩, l1.rt, fun Z5 σ5 H5 ρ5 f5 q5 => l1.nx Z5 σ5 H5 ρ5 f5 q5, fun Z5 σ5 H5 ρ5 f5 q5 => ⟨Z5, ρ5, f5, q5⟩, l1.ex, l1.ro⟩⟩
    · have e : ds.length = i := by omega
      rw [List.drop_eq_nil_of_le (by omega)] at q'
      exact .inl ⟨wk.stop i H' e st, l1.nx Z' σ' H' ρ' f' q'⟩, l.er f⟩
/-! ### while -/
end
/-! ### list comprehensions -/
abbrev noW : WX := fun _ _ _ _ => False
abbrev noE : Er → Prop := fun _ => False
@[simp] def wipeE (ρ : VEnv) : List Nat → VEnv
  | [] => ρ
  | v :: vs => (wipeE ρ vs).set v .un
@[simp] def wYes : VB := fun _ Q _ => Q true
@[simp] def lcGo (g : VTg) (tt : VB) (te : VT) (Q : D → Prop) : List D → List PyData → VEnv → Prop
  | [], acc, _ => Q (.py (.list acc))
  | d :: ds, acc, ρ => g d ρ fun ρ1 => tt ρ1 (fun k => if k = true then te ρ1 (fun y => ∃ p, y = .py p ∧ acc.length < sizeLine ∧ lcGo g tt te Q ds (acc ++ [p]) ρ) noE else lcGo g tt te Q ds acc ρ) noE
/-- no slot of these is owned -/
@[simp] def noOwn (ρ : VEnv) (vs : List Nat) : Prop := ∀ i ∈ vs, ∀ d, ρ[i]? ≠ some (.own d)
@[simp] def vLc (vs : List Nat) (ti : VIt) (g : VTg) (tt : VB) (te : VT) : VT := fun ρ Q E => noOwn ρ vs ∧ ti ρ (fun ds => lcGo g tt te Q ds [] (wipeE ρ vs)) E
theorem wipeE_len (ρ : VEnv) : ∀ vs : List Nat, (wipeE ρ vs).length = ρ.length
  | [] => rfl
  | v :: vs => by unfold wipeE; rw [List.length_set, wipeE_len ρ vs]
theorem wipeE_in {ρ : VEnv} {i : Nat} {s : Slot} : ∀ {vs : List Nat}, (wipeE ρ vs)[i]? = some s → (s = .un ∧ i ∈ vs) ∨ (ρ[i]? = some s ∧ i ∉ vs)
  | [], h => .inr ⟨h, by simp⟩
  | v :: vs, h => by
    unfold wipeE at h
    by_cases hi : v = i
    · subst hi
      by_cases hv : v < (wipeE ρ vs).length
      · rw [List.getElem?_set_self hv] at h; cases h; exact .inl ⟨rfl, List.mem_cons_self⟩
      · rw [List.getElem?_eq_none (by rw [List.length_set]; omega)] at h; cases h
    · rw [List.getElem?_set_ne hi] at h
      rcases wipeE_in h with ⟨h1, h2⟩ | ⟨h1, h2⟩
      · exact .inl ⟨h1, List.mem_cons_of_mem _ h2⟩
      · exact .inr ⟨h1, fun m => by
          rcases List.mem_cons.mp m with e | m
          · exact hi e.symm
          · exact h2 m⟩
theorem wipeE_out {ρ : VEnv} {i : Nat} {s : Slot} (h : ρ[i]? = some s) : ∀ {vs : List Nat}, i ∉ vs → (wipeE ρ vs)[i]? = some s
  | [], _ => h
  | v :: vs, hn => by
    unfold wipeE
    rw [List.getElem?_set_ne (fun e => hn (by rw [e]; exact List.mem_cons_self))]
    exact wipeE_out h fun m => hn (List.mem_cons_of_mem _ m)
theorem wipe_same {σ σ' : L2.St} {ρ ρ' : VEnv} {js : List Nat} (s : Same js σ σ' ρ ρ') : ∀ {vs : List Nat}, (∀ j ∈ js, j ∈ vs) → wipe σ' vs = wipe σ vs := fun {vs} h => by
  have wo : ∀ (τ : L2.St) (j : Nat) (vs : List Nat), j ∉ vs → (wipe τ vs)[j]? = τ[j]? := fun τ j vs => by
    induction vs with
    | nil => intro _; rfl
    | cons v vs ih =>
      intro hn
      show ((wipe τ vs).set v none)[j]? = _
      rw [List.getElem?_set_ne (fun e => hn (by rw [e]; exact List.mem_cons_self))]
      exact ih fun m => hn (List.mem_cons_of_mem _ m)
  have wi : ∀ (τ : L2.St) (j : Nat) (vs : List Nat), j ∈ vs → (wipe τ vs)[j]? = if j < τ.length then some none else none := fun τ j vs => by
    induction vs with
    | nil => intro h; cases h
    | cons v vs ih =>
      intro hm
      show ((wipe τ vs).set v none)[j]? = _
      by_cases e : v = j
      · subst e
        by_cases hl : v < τ.length
        · rw [List.getElem?_set_self (by rw [wipe_length]; exact hl), if_pos hl]
        · rw [List.getElem?_eq_none (by rw [List.length_set, wipe_length]; omega), if_neg hl]
      · rw [List.getElem?_set_ne e]
        exact ih ((List.mem_cons.mp hm).resolve_left fun q => e q.symm)
  apply List.ext_getElem?
  intro j
  by_cases hj : j ∈ vs
  · rw [wi σ' j vs hj, wi σ j vs hj, s.len]
  · rw [wo σ' j vs hj, wo σ j vs hj]
    exact s.out j fun m => hj (h j m)
theorem VOk.wiped {b : Bg} {Zo Z : Addr → Prop} {σ : L2.St} {H : Hp} {ρ : VEnv} (v : VOk b Zo Z σ H ρ) {vs : List Nat} (hn : noOwn ρ vs) : VOk b Zo Z (wipe σ vs) H (wipeE ρ vs) where
  g := v.g
  zb := v.zb
  zo := v.zo
  dom := v.dom
  zi := fun a z => by
    rcases v.zi a z with z | ⟨i, d, h1, h2⟩
    · exact .inl z
    · have hi : i ∉ vs := fun m => hn i m d h1
      exact .inr ⟨i, d, wipeE_out h1 hi, by rw [wipe_out hi]; exact h2⟩
  own := fun i d h => by
    rcases wipeE_in h with ⟨h1, _⟩ | ⟨h1, hi⟩
    · cases h1
    · obtain ⟨a, h2, h3⟩ := v.own i d h1
      exact ⟨a, by rw [wipe_out hi]; exact h2, h3⟩
  inj := fun i j d e a h1 h2 h3 h4 => by
    rcases wipeE_in h1 with ⟨q, _⟩ | ⟨h1, hi⟩
    · cases q
    · rcases wipeE_in h2 with ⟨q, _⟩ | ⟨h2, hj⟩
      · cases q
      · rw [wipe_out hi] at h3
        rw [wipe_out hj] at h4
        exact v.inj i j d e a h1 h2 h3 h4
  shr := fun i d h => by
    rcases wipeE_in h with ⟨h1, _⟩ | ⟨h1, hi⟩
    · cases h1
    · obtain ⟨u, h2, h3⟩ := v.shr i d h1
      exact ⟨u, by rw [wipe_out hi]; exact h2, h3⟩
  len := by rw [wipeE_len, wipe_length]; exact v.len
section
variable {b : Bg} {Z : Addr → Prop} {H : Hp} {a : Addr}
/-- one more address to be avoided: nothing that is known reaches a new one -/
theorem Rp.apart (ha : H a = none) {o : HO} {v : V} {d : D} (r : Rp b Z H v d) : Rp b (fun c => Z c ∨ c = a) (upd H a o) v d :=
  r.mono (fun c z => z.imp id fun e => by rw [e]; exact ha) fun c u e _ => by rw [upd_ne (ne_of_none e ha)]; exact e
theorem Ow.apart (ha : H a = none) {o : HO} {c : Addr} {d : D} (r : Ow b Z H c d) : Ow b (fun c => Z c ∨ c = a) (upd H a o) c d :=
  r.mono (fun c z => z.imp id fun e => by rw [e]; exact ha) (fun c u e _ => by rw [upd_ne (ne_of_none e ha)]; exact e) fun u e => by rw [upd_ne (ne_of_none e ha)]; exact e
theorem VOk.apart {Zo : Addr → Prop} {σ : L2.St} {ρ : VEnv} (v : VOk b Zo Z σ H ρ) (ha : H a = none) {o : HO} : VOk b (fun c => Zo c ∨ c = a) (fun c => Z c ∨ c = a) σ (upd H a o) ρ where
  g := Bg.new v.g ha
  zb := fun c z => .inl (v.zb c z)
  zo := fun c z => z.imp (v.zo c) id
  dom := fun c z => by
    by_cases e : c = a
    · rw [e, upd_same]; simp
    · rw [upd_ne e]; exact v.dom c (z.resolve_right e)
  zi := fun c z => z.elim (fun z => (v.zi c z).imp .inl id) fun e => .inl (.inr e)
  own := fun i d e => by
    obtain ⟨c, h1, h2, h3, h4⟩ := v.own i d e
    exact ⟨c, h1, .inl h2, fun z => z.elim h3 fun q => v.dom c h2 (by rw [q]; exact ha), h4.apart ha⟩
  inj := v.inj
  shr := fun i d e => by
    obtain ⟨u, h1, h2⟩ := v.shr i d e
    exact ⟨u, h1, h2.apart ha⟩
  len := v.len
/-- an object that is an outer one's is written: nothing here reaches it -/
theorem VOk.outer {Zo : Addr → Prop} {σ : L2.St} {ρ : VEnv} (v : VOk b Zo Z σ H ρ) (ha : Zo a) (nb : ¬ b.B a) (hx : ∀ o, still o → H a ≠ some o) {o : HO} : VOk b Zo Z σ (upd H a o) ρ := by
  have keep : ∀ c u, H c = some u → ¬ Z c → upd H a o c = some u := fun c u e n => by rw [upd_ne (fun q => n (by rw [q]; exact v.zo a ha))]; exact e
  refine ⟨b.loc H _ (fun c hc => upd_ne fun q => nb (by rw [← q]; exact hc)) (fun c o ho e => by rw [upd_ne (fun q => hx o ho (by rw [← q]; exact e))]; exact e) v.g, v.zb, v.zo, fun c z => ?_, v.zi, fun i d e => ?_, v.inj, fun i d e => ?_, v.len⟩
  · by_cases q : c = a
    · rw [q, upd_same]; simp
    · rw [upd_ne q]; exact v.dom c z
  · obtain ⟨c, h1, h2, h3, h4⟩ := v.own i d e
    exact ⟨c, h1, h2, h3, h4.mono (fun _ z => .inl z) keep fun u e => by rw [upd_ne (fun q => h3 (by rw [q]; exact ha))]; exact e⟩
  · obtain ⟨u, h1, h2⟩ := v.shr i d e
    exact ⟨u, h1, h2.mono (fun _ z => .inl z) keep⟩
end
section
variable {b : Bg} {W : WX} {ti : VIt} {js : List Nat} {g : VTg} {tt : VB} {te : VT} {vs : List Nat}
theorem lc_sound (hjs : ∀ j ∈ js, j ∈ vs) : ∀ σ H Q, LE b W (RN b) (vLc vs ti g tt te) σ H Q → tLc (LI b W (fun _ => b.B) ti) (LG b js g) (LB b noW tt) (LE b noW (RE b) te) vs σ H Q :=
  fun σ H Q ⟨Zo, Z, ρ, Qd, Ed, v, ⟨hno, q⟩, l, m⟩ => ⟨Zo, Z, ρ, _, _, v, q, fun J H1 ds x1 g1 wk q1 => by
    intro A hA
    have v1 := v.ex x1 g1
    have nzA : ¬ Z A := v1.fresh hA
    have nbA : ¬ b.B A := v1.nb nzA
    have hA0 : H A = none := none_back g1 x1 A hA
    have v2 := (v1.apart hA (o := .lst [])).wiped hno
    -- the invariant
    let Iv : Nat → Hp → Prop := fun i H' => ∃ xs acc, H' A = some (.lst xs) ∧ Rqs (fun c => Z c ∨ c = A) H' xs acc ∧ VOk b (fun c => Zo c ∨ c = A) (fun c => Z c ∨ c = A) (wipe σ vs) H' (wipeE ρ vs) ∧ (∀ a o, H1 a = some o → ¬ b.B a → H' a = some o) ∧ lcGo g tt te Qd (ds.drop i) acc (wipeE ρ vs)
    refine ⟨fun i m H' => m = ds.length - i ∧ i ≤ ds.length ∧ Iv i H', ⟨ds.length, by simp, Nat.zero_le _, [], [], upd_same, .nil, v2, fun a o e _ => by rw [upd_ne (ne_of_none e hA)]; exact e, q1⟩, ?_⟩
    rintro i m H' ⟨rfl, hi, xs, acc, hx, rx, v', st, q'⟩
    by_cases hlt : i < ds.length
    · rw [List.drop_eq_getElem_cons hlt] at q'
      obtain ⟨go, yl⟩ := wk.go i ds[i] H' (List.getElem?_eq_getElem hlt) st v'.g
      refine .inr ⟨go, Iv (i + 1), fun H2 h2 => ⟨ds.length - (i + 1), by omega, rfl, hlt, h2⟩, fun w H3 y => ?_⟩
      obtain ⟨x3, g3, r3⟩ := yl w H3 y
      have v3 := v'.ex x3 g3
      refine ⟨H3, fun _ => True, _, _, _, ds[i], _, ⟨v3, fun _ _ e _ _ => e, fun _ _ _ _ _ => .inl trivial⟩, r3 _ (fun a z => z.imp id fun e => by rw [e]; exact hA) v'.dom, q', fun Z4 σ4 ρ4 sub sm f4 q4 => ?_⟩
      have ww : wipe (wipe σ vs) vs = wipe σ vs := wipe_same (js := vs) (σ := σ) (ρ := ρ) (ρ' := ρ) ⟨by rw [wipe_length], fun j hj => wipe_out hj, fun _ _ => rfl⟩ fun j h => h
      refine ⟨(wipe_same sm hjs).trans ww, ?_⟩
      have st3 : ∀ a o, H1 a = some o → ¬ b.B a → H3 a = some o := fun a o e n => x3 a o (st a o e n) n
      have hx3 : H3 A = some (.lst xs) := x3 A _ hx nbA
      refine ⟨_, _, _, _, _, f4.v, q4, fun k H5 x5 g5 q5 => ?_, fun c z H5 er _ _ _ h => h.elim⟩
      have st5 : ∀ a o, H1 a = some o → ¬ b.B a → H5 a = some o := fun a o e n => x5 a o (st3 a o e n) n
      have hx5 : H5 A = some (.lst xs) := x5 A _ hx3 nbA
      have v5 := v3.ex x5 g5
      have rx5 : Rqs (fun c => Z c ∨ c = A) H5 xs acc := v3.rqs x5 (v'.rqs x3 rx)
      cases k with
      | false => exact ⟨xs, acc, hx5, rx5, v5, st5, q5⟩
      | true =>
        refine ⟨_, _, _, _, _, f4.v.ex x5 g5, q5, fun u H6 d6 x6 g6 r6 ⟨p, ep, hz, q6⟩ => ?_, fun c z H6 er _ _ _ h => h.elim⟩
        subst ep
        have hx6 : H6 A = some (.lst xs) := x6 A _ hx5 nbA
        have rx6 := v5.rqs x6 rx5
        have v6 := v5.ex x6 g6
        have zo4 : ∀ c, (Zo c ∨ c = A) → Z4 c := f4.v.zo
        have r7 : Rq (fun c => Z c ∨ c = A) H6 u p := by
          refine Rq.mono (fun c z => ?_) (fun _ _ e _ => e) r6
          -- what the block's names own is what the def owns
          rcases v'.zi c z with z' | ⟨j, dj, h1, h2⟩
          · exact .inl (zo4 c z')
          · rcases wipeE_in h1 with ⟨h1, _⟩ | ⟨h1, hj⟩
            · cases h1
            · have hj' : j ∉ js := fun m => hj (hjs j m)
              have e4 := sm.env j hj'
              rw [wipeE_out h1 hj] at e4
              obtain ⟨c', h3, h4, _⟩ := f4.v.own j dj e4
              rw [sm.out j hj', h2] at h3
              cases h3
              exact .inl h4
        refine ⟨xs, hx6, by rw [rx6.length]; exact hz, xs ++ [u], acc ++ [p], upd_same, ?_, v6.outer (.inr rfl) nbA (fun o ho z => by rw [hx6] at z; cases z; exact ho), fun a o e n => ?_, q6⟩
        · have mv : ∀ c o, H6 c = some o → ¬ (Z c ∨ c = A) → upd H6 A (.lst (xs ++ [u])) c = some o := fun c o e n => by rw [upd_ne (fun q => n (.inr q))]; exact e
          exact (rx6.mono (fun _ z => .inl z) mv).append (.cons (Rq.mono (fun _ z => .inl z) mv r7) .nil)
        · rw [upd_ne (ne_of_none e hA)]
          exact x6 a o (st5 a o e n) n
    · have e : ds.length = i := by omega
      rw [List.drop_eq_nil_of_le (by omega)] at q'
      refine .inl ⟨wk.stop i H' e st, ?_⟩
      have xx : Ex b H H' := fun a o e n => st a o (x1 a o e n) n
      exact l _ H' (.py (.list acc)) xx v'.g ⟨A, rfl, hA0, xs, hx, rx⟩ q', m⟩
end
section
variable {X : Cx} {b : Bg} {W : WX} {tg iter elt c : Expr} {ifs : List Expr} {scope : Scope} {own : List (Str × Nat)} {pos spos py : Pos} {ti : VIt} {js : List Nat} {g : VTg} {tt : VB} {te : VT} {i : Nat} {y : Str}
/-- a block's tests -/
def VTs (X : Cx) (b : Bg) (ifs : List Expr) (t : VB) : Prop := PTs X ifs (LB b noW t)
theorem pts_mono {t t' : TT} (h : PTs X ifs t) (m : ∀ σ H Q, t' σ H Q → t σ H Q) : PTs X ifs t' := ⟨fun pins s σ H Q I q => h.run pins s σ H Q I (m σ H Q q)⟩
theorem vts_nil : VTs X b [] wYes := pts_mono pts_nil fun σ H Q ⟨Zo, Z, ρ, Qd, Ed, v, q, l, _⟩ => l true H Ex.refl v.g q
theorem vts_one (h : VTe X b noW c tt) : VTs X b [c] tt := pts_one h
theorem vn_lc (hc : X.calm = true) (hN : X.N.Nodup) (hi : VIb X b W tg iter ti) (ok : BlkOk X.N X.env.scope scope own) (hjs : ∀ j ∈ js, j ∈ own.map (·.2))
    (hg : ∀ (s : Shared) (H : Hp) (C : Addr) (cl : List (Str × Addr)) (fp : List Addr), VG (X.blk s H scope (compEnvC scope cl C X.env) fp) b tg js g) (ht : ∀ (s : Shared) (H : Hp) (C : Addr) (cl : List (Str × Addr)) (fp : List Addr), VTs (X.blk s H scope (compEnvC scope cl C X.env) fp) b ifs tt)
    (he : ∀ (s : Shared) (H : Hp) (C : Addr) (cl : List (Str × Addr)) (fp : List Addr), VE (X.blk s H scope (compEnvC scope cl C X.env) fp) b noW elt te) (hs : ∀ x, foldedSetIterable iter X.env x = pure x := by intro _; rfl) :
    VN X b W (.ListComp elt [⟨tg, iter, ifs, 0⟩] scope pos) (vLc (own.map (·.2)) ti g tt te) :=
  pe_mono (pe_lc hc hN hi ok hg ht he hs) (lc_sound hjs)
end
end VL
set_option Elab.async false
set_option linter.all false
set_option maxRecDepth 100000
set_option maxHeartbeats 4000000
namespace VL
open PySem PySem.Spec PyProof.Rows L2
/-! ### what a def promises, by values -/
abbrev SV := List D → (D → Prop) → (Er → Prop) → Prop
def spV (b : Bg) (S : SV) : Sp := fun vs H Q E => ∃ Z ds Qd Ed, Gd b Z H ∧ Rps b Z H vs ds ∧ S ds Qd Ed ∧ (∀ v H' d, Ex b H H' → b.G H' → Rp b Z H' v d → Qd d → Q v H') ∧ ∀ c x H' er, Ex b H H' → b.G H' → ErRp b Z H' c x er → Ed er → E c x H'
/-- the ends of a def's body -/
@[simp] def fin (Q : D → Prop) (E : Er → Prop) : VEnds := { nx := fun _ => Q (.py .none), rt := Q, bk := fun _ => False, ct := fun _ => False, ex := fun _ => E }
/-- the names' values at the entry -/
@[simp] def envOf (n : Nat) (ds : List D) : VEnv := ds.map Slot.shr ++ List.replicate (n - ds.length) .un
theorem Rps.at {b : Bg} {Z : Addr → Prop} {H : Hp} : ∀ {vs : List V} {ds : List D} {i : Nat} {d : D}, Rps b Z H vs ds → ds[i]? = some d → ∃ v, vs[i]? = some v ∧ Rp b Z H v d
  | _, _, _, _, .nil, e => by simp at e
  | _, _, 0, _, .cons r _, e => by simp at e; subst e; exact ⟨_, rfl, r⟩
  | _, _, i + 1, _, .cons _ t, e => by
    obtain ⟨y, h1, h2⟩ := Rps.at (i := i) t (by simpa using e)
    exact ⟨y, by simpa using h1, h2⟩
theorem envOf_at {n i : Nat} {ds : List D} {s : Slot} (h : (envOf n ds)[i]? = some s) : s = .un ∨ ∃ d, s = .shr d ∧ ds[i]? = some d := by
  unfold envOf at h
  by_cases hi : i < ds.length
  · rw [List.getElem?_append_left (by simpa using hi), List.getElem?_map] at h
    cases e : ds[i]? with
    | none => rw [e] at h; cases h
    | some d => rw [e] at h; cases h; exact .inr ⟨d, rfl, rfl⟩
  · rw [List.getElem?_append_right (by simpa using hi), List.getElem?_replicate] at h
    split at h
    · cases h; exact .inl rfl
    · cases h
theorem VOk.entry {b : Bg} {Z : Addr → Prop} {H : Hp} {N : List Str} {vs : List V} {ds : List D} (g : Gd b Z H) (r : Rps b Z H vs ds) (hl : vs.length ≤ N.length) : VOk b Z Z (L2.start N vs) H (envOf N.length ds) where
  g := g.g
  zb := g.zb
  zo := fun _ z => z
  dom := g.dom
  zi := fun _ z => .inl z
  own := fun i d e => by
    rcases envOf_at e with h | ⟨d', h, _⟩ <;> cases h
  inj := fun i j d e a h1 _ _ _ => by
    rcases envOf_at h1 with h | ⟨d', h, _⟩ <;> cases h
  shr := fun i d e => by
    rcases envOf_at e with h | ⟨d', h, hd⟩
    · cases h
    · cases h
      obtain ⟨v, hv, rv⟩ := r.at hd
      refine ⟨v, ?_, rv⟩
      unfold L2.start
      have hi : i < vs.length := (List.getElem?_eq_some_iff.mp hv).1
      rw [List.getElem?_append_left (by simpa using hi), List.getElem?_map, hv]
      rfl
  len := by
    unfold envOf L2.start
    rw [List.length_append, List.length_map, List.length_replicate, List.length_append, List.length_map, List.length_replicate, ← r.length]
abbrev WF (E : XK) : WX := fun c d _ H => E c d H
section
variable {P : Program} {w : World} {K : PySem.W.Frag} {mg : Str → Option Value} {base : Heap} {b : Bg} {k : Nat} {x qual : Str} {st : Stmt} {f : Addr} {fd : FuncData} {N ps : List Str} {S : SV}
theorem fin_link {t : VS} {H : Hp} {vs : List V} {Q : VK} {E : XK} (hlaw : ∀ ds Q E, S ds Q E → t (envOf N.length ds) (fin Q E)) (hl : vs.length ≤ N.length) (h : spV b S vs H Q E) :
    LS b (WF E) t { nx := fun _ H' => Q .non H', rt := Q } (L2.start N vs) H := by
  obtain ⟨Z, ds, Qd, Ed, g, r, s, l, m⟩ := h
  have x : ∀ {H'}, (∀ a o, H a = some o → ¬ b.B a → ¬ False → H' a = some o) → Ex b H H' := fun h a o e n => h a o e n not_false
  refine ⟨H, fun _ => False, Z, Z, envOf N.length ds, fin Qd Ed, ⟨VOk.entry g r hl, fun _ _ e _ _ => e, fun i d a e _ => ?_⟩, hlaw ds Qd Ed s, ⟨fun Z' σ' H' ρ' f' q => l .non H' (.py .none) (x f'.ext) f'.v.g Rq.non q, fun v H' d x1 g1 r1 q => l v H' d (x x1) g1 r1 q, fun _ _ _ _ _ q => q.elim, fun _ _ _ _ _ q => q.elim, fun c y Z' σ' H' ρ' er f' r' q => m c y H' er (x f'.ext) f'.v.g ?_ q, fun _ _ _ _ _ _ _ _ q => q.elim⟩⟩
  · rcases envOf_at e with h | ⟨d', h, _⟩ <;> cases h
  · obtain ⟨h1, h2⟩ := r'
    refine ⟨h1, h2.imp id ?_⟩
    rintro ⟨a, xs, e1, e2, e3, e4⟩
    exact ⟨a, xs, e1, e2, fun z => e3 (f'.v.zo a z), e4.mono (fun c z => .inl (f'.v.zo c z)) fun _ _ e _ => e⟩
/-- a def of the text, by its body -/
theorem fnV (F : Fun K x qual st f fd) (Sc : FnScope N ps (defScope st)) {t : VS} (hlen : ∀ ds Q E, S ds Q E → ds.length = ps.length) (hps : ps.length ≤ N.length)
    (hbody : ∀ (cdv : Value) (A : Around) (outer : List Env) (s : Shared) (H : Hp) (E : XK), Room k (A.deeper (envOfC qual (defScope st) s.heap.objs.size f cdv)) →
      Takes (cxOf (L2.CX P w) P w K mg base N qual (defScope st) f cdv A outer s H E) (WF E) → VSs (cxOf (L2.CX P w) P w K mg base N qual (defScope st) f cdv A outer s H E) b (WF E) (defBody st) t)
    (hlaw : ∀ ds Q E, S ds Q E → t (envOf N.length ds) (fin Q E)) : FnOk P w K mg base (L2.CX P w) (k + 1) f fd ps (spV b S) := by
  have len : ∀ vs H Q E, spV b S vs H Q E → vs.length = ps.length := fun vs H Q E ⟨Z, ds, Qd, Ed, g, r, s, _⟩ => r.length.trans (hlen ds Qd Ed s)
  refine F.okX Sc len fun cdv A outer s H vs Q E hr h => ⟨_, hbody cdv A outer s H E hr (takes_of rfl rfl rfl rfl), fin_link hlaw (Nat.le_trans (Nat.le_of_eq (len _ _ _ _ h)) hps) h⟩
end
/-! ### calls -/
@[simp] def vCall (S : SV) (u : VA) : VT := fun ρ Q E => u ρ (fun ds => S ds Q E) E
section
variable {X : Cx} {b : Bg} {W : WX} {k : Nat} {f : Addr} {fd : FuncData} {ps : List Str} {S : SV} {x : Str} {e : Expr} {es : List Expr} {u : VA} {p pos : Pos}
theorem call_core {sp : Sp} {t : TA} (hu : t = LA b W u) (hs : sp = spV b S) : ∀ σ H Q, LE b W (RE b) (vCall S u) σ H Q → tCallS sp (WE W) t σ H Q := by
  subst hu hs
  exact fun σ H Q ⟨Zo, Z, ρ, Qd, Ed, v, q, l, m⟩ => ⟨Zo, Z, ρ, _, Ed, v, q, fun vs H1 ds x1 g1 r1 q1 => by
    have v1 := v.ex x1 g1
    exact ⟨Z, ds, Qd, Ed, v1.gd, r1, q1, fun y H2 d x2 g2 r2 q2 => l y H2 d (x1.trans x2) g2 r2 q2, fun c z H2 er x2 g2 r2 q2 => m c z H2 er (x1.trans x2) g2 r2 q2⟩, m⟩
theorem ve_call (F : FnOk X.prog X.w X.K X.mg X.base (L2.CX X.prog X.w) k f fd ps (spV b S)) (hr : Room k X.A) (tk : Takes X W) (hg : Gl X x) (hm : X.mg x = some (.ref f)) (hk : PySem.W.keepIn X.K (.ref f) = true) (hb : Binds X.K fd ps [])
    (ha : VAs X b W (e :: es) u) (hdb : (x == ("__debug__" : Str)) = false := by decide) (he : starEach (e :: es) X.env = (false, eval e X.env) :: starEach es X.env := by rfl) (hpl : (backTo pos (starEach es X.env)).any (·.1) = false := by rfl) :
    VE X b W (.Call (.Name x p) (e :: es) [] pos) (vCall S u) := pe_mono (pe_callS F hr hg hm hk hb (passAt tk) ha hdb he hpl) (call_core rfl rfl)
/-- a constant of the module -/
theorem ve_glob {v : V} {d : PyData} {uu : Value} (hg : Gl X x) (hm : X.mg x = some uu) (r : RelV v uu) (rd : ∀ (Z : Addr → Prop) (H : Hp), Rq Z H v d) (hd : (x == ("__debug__" : Str)) = false := by decide) : VE X b W (.Name x pos) (vC (.py d)) :=
  ve_const (pe_glob hg hm r hd) rd
end
end VL
set_option Elab.async false
set_option linter.all false
set_option maxRecDepth 100000
set_option maxHeartbeats 4000000
namespace VL
open PySem PySem.Spec PyProof.Rows L2
/-! ### repr of plain data (dicts among it: none of the tracked dicts is the modules' own) -/
section
variable {X : Cx} {pins : List (Addr × Obj)} {σ : L2.St} {H : Hp} {s : Shared} {Z : Addr → Prop}
/-- what is known of a value to be shown -/
structure Shw (P : Program) (w : World) (h : Heap) (u : Value) (d : PyData) : Prop where
  rd : ∃ as, Reads h u d as
  rk : d.showable = true → d.shown.length ≤ sizeLine → ∃ bs, ReadAtMost h d.depth bs ∧ ReprK P w bs h d.depth u d.shown
  top : d.showable = true → d.shown.length ≤ sizeLine → ∀ (A : Around) (E : Value → Shared → Prop) (s : Shared) (Q : Value → Shared → Prop), A.guards = some [] → A.units + (d.depth + 1) < cLine → (∀ b o, h.get? b = some o → s.heap.get? b = some o) →
    (∀ h' u tk, (∀ b o, s.heap.get? b = some o → h'.get? b = some o) → Q (.str d.shown u) { s with heap := h', toks := tk }) → wpAny (model P w) A (call (.builtin "repr") [u]) Q E s
structure ShwA (P : Program) (w : World) (h : Heap) (us : List Value) (ds : List PyData) : Prop where
  rd : ∃ as, ReadsAll h us ds as
  rk : PyData.showableAll ds = true → (∀ t ∈ PyData.shownAll ds, t.length ≤ sizeLine) → ∃ bs, ReadAtMost h (PyData.depthAll ds) bs ∧ ReprAllK P w bs h (PyData.depthAll ds) us (PyData.shownAll ds)
theorem ShwA.nil {P : Program} {w : World} {h : Heap} : ShwA P w h [] [] := ⟨⟨_, .nil⟩, fun _ _ => ⟨[], (fun _ m => nomatch m), by simp only [PyData.shownAll]; exact .nil⟩⟩
theorem ShwA.cons {P : Program} {w : World} {h : Heap} {u : Value} {d : PyData} {us : List Value} {ds : List PyData} (a : Shw P w h u d) (l : ShwA P w h us ds) : ShwA P w h (u :: us) (d :: ds) := by
  refine ⟨?_, fun hs hz => ?_⟩
  · obtain ⟨as, ra⟩ := a.rd
    obtain ⟨bs, rb⟩ := l.rd
    exact ⟨_, .cons ra rb⟩
  · simp only [PyData.showableAll, Bool.and_eq_true] at hs
    simp only [PyData.shownAll] at hz
    obtain ⟨b1, m1, k1⟩ := a.rk hs.1 (hz _ List.mem_cons_self)
    obtain ⟨b2, m2, k2⟩ := l.rk hs.2 fun t ht => hz t (List.mem_cons_of_mem _ ht)
    have e1 : d.depth ≤ max d.depth (PyData.depthAll ds) := Nat.le_max_left _ _
    have e2 : PyData.depthAll ds ≤ max d.depth (PyData.depthAll ds) := Nat.le_max_right _ _
    refine ⟨b1 ++ b2, ?_, ?_⟩
    · simp only [PyData.depthAll]
      exact (m1.mono e1).append (m2.mono e2)
    · simp only [PyData.depthAll, PyData.shownAll]
      exact .cons ((k1.more fun b hb => List.mem_append.mpr (.inl hb)).level_le e1) (k2.more_le (fun b hb => List.mem_append.mpr (.inr hb)) e2)
section
variable {P : Program} {w : World} {h : Heap} {a : Addr} {o : Obj} {n : Nat}
theorem Shw.list {us : List Value} {ds : List PyData} (h1 : h.get? a = some o) (h2 : o.cls = .type "list") (h3 : o.data = .seq us.toArray n) (l : ShwA P w h us ds) : Shw P w h (.ref a) (.list ds) := by
  obtain ⟨as, ra⟩ := l.rd
  have r : Reads h (.ref a) (.list ds) _ := .list h1 h2 h3 ra
  refine ⟨⟨_, r⟩, fun hs hz => ?_, fun hs hz A E s Q hg hu hk hQ => ?_⟩
  rotate_left
  · simp only [PyData.showable] at hs
    simp only [PyData.shown] at hz hQ
    simp only [PyData.depth] at hu
    obtain ⟨bs, mb, kb⟩ := l.rk hs fun t ht => Nat.le_trans (listText_mem_le ht) hz
    have na : a ∉ bs := not_mem_of_deeper r (by simp only [PyData.depth]; omega) mb
    refine call_repr_slot (T := "list") (by omega) ⟨o, hk _ _ h1, h2⟩ F.slot_list_repr.toG ?_
    cases us with
    | nil =>
      cases ra
      simp only [PyData.shownAll, listText_nil] at hQ
      exact call_list_repr_empty ⟨o, hk _ _ h1, h2⟩ (hk _ _ h1) h3 ⟨_, _, rfl, hQ s.heap _ _ fun _ _ e => e⟩
    | cons u us => exact call_list_reprK h1 h2 h3 na (by simpa using kb.length_eq) (fun i y e => kb.item i y (by simpa using e)) hg (fun b _ => Clear.nil b) (by show A.units + 1 + _ < cLine; omega) hk (fun h' u tk kp => ⟨_, _, rfl, hQ h' u tk kp⟩) hz
  simp only [PyData.showable] at hs
  simp only [PyData.shown] at hz
  obtain ⟨bs, mb, kb⟩ := l.rk hs fun t ht => Nat.le_trans (listText_mem_le ht) hz
  have na : a ∉ bs := not_mem_of_deeper r (by simp only [PyData.depth]; omega) mb
  refine ⟨a :: bs, ReadAtMost.cons r (by simp only [PyData.depth]; omega) mb, ?_⟩
  simp only [PyData.depth, PyData.shown]
  cases us with
  | nil =>
    cases ra
    simp only [PyData.shownAll, listText_nil]
    exact ReprK.listEmpty h1 h2 h3
  | cons u us => exact ReprK.list h1 h2 h3 na (by simpa using kb.length_eq) fun i y e => kb.item i y (by simpa using e)
theorem Shw.tuple {us : List Value} {ds : List PyData} (h1 : h.get? a = some o) (h2 : o.cls = .type "tuple") (h3 : o.data = .seq us.toArray n) (l : ShwA P w h us ds) : Shw P w h (.ref a) (.tuple ds) := by
  obtain ⟨as, ra⟩ := l.rd
  have r : Reads h (.ref a) (.tuple ds) _ := .tuple h1 h2 h3 ra
  refine ⟨⟨_, r⟩, fun hs hz => ?_, fun hs hz A E s Q hg hu hk hQ => ?_⟩
  rotate_left
  · simp only [PyData.showable] at hs
    simp only [PyData.shown] at hz hQ
    simp only [PyData.depth] at hu
    obtain ⟨bs, mb, kb⟩ := l.rk hs fun t ht => Nat.le_trans (tupleText_mem_le ht) hz
    refine call_repr_slot (T := "tuple") (by omega) ⟨o, hk _ _ h1, h2⟩ F.slot_tuple_repr ?_
    exact call_tuple_reprK h1 h2 h3 (not_mem_of_deeper r (by simp only [PyData.depth]; omega) mb) kb hg (fun b _ => Clear.nil b) (by show A.units + 1 + _ < cLine; omega) hk (fun h' u tk kp => ⟨_, _, rfl, hQ h' u tk kp⟩) hz
  simp only [PyData.showable] at hs
  simp only [PyData.shown] at hz
  obtain ⟨bs, mb, kb⟩ := l.rk hs fun t ht => Nat.le_trans (tupleText_mem_le ht) hz
  refine ⟨a :: bs, ReadAtMost.cons r (by simp only [PyData.depth]; omega) mb, ?_⟩
  simp only [PyData.depth, PyData.shown]
  exact ReprK.tuple h1 h2 h3 (not_mem_of_deeper r (by simp only [PyData.depth]; omega) mb) kb
theorem Shw.dict {es : Array DictEntry} {ds : List (PyData × PyData)} (h1 : h.get? a = some o) (h2 : o.cls = .type "dict") (h3 : o.data = .dict es n) (lo : (a == sysModules) = false) (lk : ShwA P w h (es.toList.map (·.key)) (ds.map (·.1))) (lv : ShwA P w h (es.toList.map (·.val)) (ds.map (·.2))) : Shw P w h (.ref a) (.dict ds) := by
  obtain ⟨as, ra⟩ := lk.rd
  obtain ⟨bs, rb⟩ := lv.rd
  have r : Reads h (.ref a) (.dict ds) _ := .dict h1 h2 h3 ra rb
  refine ⟨⟨_, r⟩, fun hs hz => ?_, fun hs hz A E s Q hg hu hk hQ => ?_⟩
  rotate_left
  · simp only [PyData.showable] at hs
    simp only [PyData.shown] at hz
    simp only [PyData.shown, PyData.shownKv_eq] at hQ
    simp only [PyData.depth] at hu
    obtain ⟨s1, s2⟩ := PyData.showableKv_split ds hs
    obtain ⟨b1, m1, k1⟩ := lk.rk s1 fun t ht => let ⟨p, hp, hl⟩ := PyData.shownKv_key_le ds t ht; Nat.le_trans hl (Nat.le_trans (dictText_mem_le hp) hz)
    obtain ⟨b2, m2, k2⟩ := lv.rk s2 fun t ht => let ⟨p, hp, hl⟩ := PyData.shownKv_val_le ds t ht; Nat.le_trans hl (Nat.le_trans (dictText_mem_le hp) hz)
    have m : ReadAtMost h (PyData.depthKv ds) (b1 ++ b2) := (m1.mono (PyData.depthAll_keys_le ds)).append (m2.mono (PyData.depthAll_vals_le ds))
    refine call_repr_slot (T := "dict") (by omega) ⟨o, hk _ _ h1, h2⟩ F.slot_dict_repr ?_
    exact call_dict_reprK h1 h2 h3 lo (not_mem_of_deeper r (by simp only [PyData.depth]; omega) m) (ReprEntriesK.of_two es.toList _ _ (k1.more_le (fun b hb => List.mem_append.mpr (.inl hb)) (PyData.depthAll_keys_le ds)) (k2.more_le (fun b hb => List.mem_append.mpr (.inr hb)) (PyData.depthAll_vals_le ds)))
      hg (fun b _ => Clear.nil b) (by show A.units + 1 + _ < cLine; omega) hk (fun h' u tk kp => ⟨_, _, rfl, hQ h' u tk kp⟩) (by rw [← PyData.shownKv_eq]; exact hz)
  simp only [PyData.showable] at hs
  simp only [PyData.shown] at hz
  obtain ⟨s1, s2⟩ := PyData.showableKv_split ds hs
  obtain ⟨b1, m1, k1⟩ := lk.rk s1 fun t ht => let ⟨p, hp, hl⟩ := PyData.shownKv_key_le ds t ht; Nat.le_trans hl (Nat.le_trans (dictText_mem_le hp) hz)
  obtain ⟨b2, m2, k2⟩ := lv.rk s2 fun t ht => let ⟨p, hp, hl⟩ := PyData.shownKv_val_le ds t ht; Nat.le_trans hl (Nat.le_trans (dictText_mem_le hp) hz)
  have m : ReadAtMost h (PyData.depthKv ds) (b1 ++ b2) := (m1.mono (PyData.depthAll_keys_le ds)).append (m2.mono (PyData.depthAll_vals_le ds))
  refine ⟨a :: (b1 ++ b2), ReadAtMost.cons r (by simp only [PyData.depth]; omega) m, ?_⟩
  simp only [PyData.depth, PyData.shown, PyData.shownKv_eq]
  exact ReprK.dict h1 h2 h3 lo (not_mem_of_deeper r (by simp only [PyData.depth]; omega) m) (ReprEntriesK.of_two es.toList _ _ (k1.more_le (fun b hb => List.mem_append.mpr (.inl hb)) (PyData.depthAll_keys_le ds)) (k2.more_le (fun b hb => List.mem_append.mpr (.inr hb)) (PyData.depthAll_vals_le ds)))
theorem Shw.leaf {u : Value} {d : PyData} {as : List Addr} (r : Reads h u d as) (k : d.showable = true → d.shown.length ≤ sizeLine → ReprIs P w u d.shown)
    (t : d.showable = true → d.shown.length ≤ sizeLine → ∀ (A : Around) (E : Value → Shared → Prop) (s : Shared) (Q : Value → Shared → Prop), Q (.str d.shown s.toks) { s with toks := s.toks + 1 } → wpAny (model P w) A (call (.builtin "repr") [u]) Q E s) : Shw P w h u d :=
  ⟨⟨_, r⟩, fun hs hz => ⟨[], (fun _ m => nomatch m), .of_is (k hs hz) _ _ _⟩, fun hs hz A E s Q _ _ _ hQ => t hs hz A E s Q (hQ s.heap _ _ fun _ _ e => e)⟩
theorem Shw.none : Shw P w h .none .none := .leaf .none (fun _ _ => ReprIs.none) fun _ _ A E s Q q => PySem.P.repr_of_none q
theorem Shw.bool (k : Bool) : Shw P w h (.bool k) (.bool k) := .leaf (.bool k) (fun _ _ => ReprIs.bool k) fun _ _ A E s Q q => PySem.P.repr_of_bool q
theorem Shw.int (i : Int) (t : Tok) : Shw P w h (.int i t) (.int i) := .leaf (.int i t) (fun hs _ => ReprIs.int t (by simpa [PyData.showable] using hs)) fun hs _ A E s Q q => PySem.P.repr_of_int (by simpa [PyData.showable] using hs) q
theorem Shw.str (x : Str) (t : Tok) : Shw P w h (.str x t) (.str x) := .leaf (.str x t) (fun _ hz => ReprIs.str x t (by simpa only [PyData.shown] using hz)) fun _ hz A E s Q q => PySem.P.repr_of_str (by simpa only [PyData.shown] using q) (by simpa only [PyData.shown] using hz)
end
theorem shwKeys {P : Program} {w : World} {h : Heap} : ∀ {es : List DictEntry} {kvs : List (Key × V)} {vs : List (Key × Value)}, KV kvs vs → Pairs (mixKind P w) es vs → ShwA P w h (es.map (·.key)) (kvs.map fun p => kD p.1) ∧ Vals (kvs.map (·.2)) (es.map (·.val))
  | _, _, _, .nil, .nil => ⟨.nil, .nil⟩
  | _, _, _, .cons (a := p) (b := q) r t, .cons (e := en) hk hv hp => by
    obtain ⟨l1, l2⟩ := shwKeys (h := h) t hp
    obtain ⟨p1, p2⟩ := p
    obtain ⟨q1, q2⟩ := q
    obtain ⟨r1, r2⟩ := r
    have r1' : p1 = q1 := r1
    subst r1'
    refine ⟨?_, .cons (show L2.RelV p2 en.val by rw [hv]; exact r2) l2⟩
    rw [List.map_cons, List.map_cons]
    have kk : keyIs p1 en.key = true := hk
    rcases keyIs_shape kk with ⟨i, u, a1, a2⟩ | ⟨x, u, a1, a2⟩
    · subst a1
      rw [a2]
      exact .cons (.int i u) l1
    · subst a1
      rw [a2]
      exact .cons (.str x u) l1
mutual
theorem Rq.shw (I : Inv X pins σ H s) : ∀ {v : V} {d : PyData}, Rq Z H v d → ∀ u, RelV v u → Shw X.prog X.w s.heap u d
  | _, _, .non, _, r => by cases r; exact .none
  | _, _, .bl k, _, r => by cases r; exact .bool k
  | _, _, .int i, _, r => by obtain ⟨t, rfl⟩ := r; exact .int i t
  | _, _, .str x, _, r => by obtain ⟨t, rfl⟩ := r; exact .str x t
  | _, _, .lst e _ q, _, r => by
    cases r
    obtain ⟨its, rv, ⟨o, m, ho, hc, _, hd⟩, _⟩ := I.list (SqL.of e)
    exact .list ho hc hd (Rqs.shw I q _ rv)
  | _, _, .tup e _ _ q, _, r => by
    cases r
    obtain ⟨its, rv, ⟨o, ho, hc, m, hd⟩, _⟩ := I.tuple (SqT.th e)
    exact .tuple ho hc hd (Rqs.shw I q _ rv)
  | _, _, .dct e _ q, _, r => by
    cases r
    obtain ⟨_, lo, vs, kv, o, es, ep, ho, he, hd, _, hp, _⟩ := dk_of I.hok e
    obtain ⟨k1, k2⟩ := shwKeys (P := X.prog) (w := X.w) (h := s.heap) kv hp
    obtain ⟨l2, l3⟩ := Rqk.shw I q _ k2
    rw [l3] at k1
    exact .dict ho he.1 hd lo k1 l2
theorem Rqs.shw (I : Inv X pins σ H s) : ∀ {v : List V} {d : List PyData}, Rqs Z H v d → ∀ u, Vals v u → ShwA X.prog X.w s.heap u d
  | _, _, .nil, _, r => by cases r; exact .nil
  | _, _, .cons q t, _, r => by
    cases r with
    | cons r rr => exact .cons (Rq.shw I q _ r) (Rqs.shw I t _ rr)
theorem Rqk.shw (I : Inv X pins σ H s) : ∀ {v : List (Key × V)} {d : List (PyData × PyData)}, Rqk Z H v d → ∀ u, Vals (v.map (·.2)) u → ShwA X.prog X.w s.heap u (d.map (·.2)) ∧ v.map (fun p => kD p.1) = d.map (·.1)
  | _, _, .nil, _, r => by cases r; exact ⟨.nil, rfl⟩
  | _, _, .cons q t, _, r => by
    cases r with
    | cons r rr =>
      obtain ⟨h1, h2⟩ := Rqk.shw I t _ rr
      exact ⟨.cons (Rq.shw I q _ r) h1, by rw [List.map_cons, List.map_cons, h2]⟩
end
end
section
variable {X : Cx} {b : Bg} {W : WX} {e : Expr} {u : VA} {p pos : Pos}
/-- data that repr can show here -/
structure ReprOk (d : PyData) : Prop where
  sh : d.showable = true
  len : d.shown.length ≤ sizeLine
  dep : d.depth ≤ 40
@[simp] def gRepr : List D → (D → Prop) → Prop
  | [.py d], Q => ReprOk d ∧ Q (.py (.str d.shown))
  | _, _ => False
def rRepr : List V → Hp → VK → Prop := fun xs H Q => ∃ v d, xs = [v] ∧ Rq nz H v d ∧ d.showable = true ∧ d.shown.length ≤ sizeLine ∧ d.depth ≤ 40 ∧ Q (.str d.shown) H
theorem call_repr (hu : X.A.units + 64 < cLine) (hg : X.A.guards = some []) : CallR X (.builtin "repr") rRepr := by
  intro pins s σ H xs us Q I r ⟨v, d, e, q, h1, h2, h3, k⟩
  subst e
  obtain ⟨u, rfl, ru⟩ := vals1 r
  refine (Rq.shw I q _ ru).top h1 h2 X.A X.xe s _ hg (by omega) (fun _ _ e => e) fun h' t tk kp => ⟨.str d.shown, H, I.kept (t' := tk) kp, ⟨t, rfl⟩, k⟩
theorem rd_repr : CalD b (RE b) rRepr gRepr := by
  intro Z H vs ds Q Qd gd rx h k
  match ds, h, rx with
  | [.py d], ⟨⟨h1, h2, h3⟩, h⟩, rx =>
    obtain ⟨x, rfl, r⟩ := rx.one
    exact ⟨x, d, rfl, r.q, h1, h2, h3, k _ H (.py (.str _)) Ex.refl gd.g (.str _) h⟩
theorem ve_repr (hu : X.A.units + 64 < cLine) (hgd : X.A.guards = some []) (hg : Gl X "repr") (hm : X.mg "repr" = none) (ha : VXs X b W [e] u) (he : starEach [e] X.env = (false, eval e X.env) :: starEach [] X.env := by rfl) (hpl : (backTo pos (starEach [] X.env)).any (·.1) = false := by rfl) :
    VE X b W (.Call (.Name "repr" p) [e] [] pos) (vCal gRepr u) := ve_callB (call_repr hu hgd) rd_repr hg hm (by decide +kernel) ha (by decide) (by decide) he hpl
end
end VL
set_option Elab.async false
set_option linter.all false
set_option maxRecDepth 100000
set_option maxHeartbeats 4000000
namespace VL
open PySem PySem.Spec PyProof.Rows L2
/-! ### the law itself: called where nothing is being shown -/
structure FnG (P : Program) (w : World) (K : PySem.W.Frag) (mg : Str → Option Value) (base : Heap) (k : Nat) (f : Addr) (fd : FuncData) (ps : List Str) (sp : Sp) : Prop where
  run : ∀ (A : Around) (outer : List Env) (s : Shared) (H : Hp) (args : Args) (us : List Value) (vs : List V) (Q : VK) (E : XK), Room k A → A.guards = some [] → Env0 P w K mg base A outer s H → BindsTo s fd args (ps.zip us) → Vals vs us → sp vs H Q E →
    codeAny (model P w) A (.call (.ref f) args) (CR (L2.CX P w) outer P w H s Q E) s
section
variable {P : Program} {w : World} {K : PySem.W.Frag} {mg : Str → Option Value} {base : Heap} {k : Nat} {x qual : Str} {st : Stmt} {f : Addr} {fd : FuncData} {N ps : List Str} {sp : Sp}
theorem fnG (F : Fun K x qual st f fd) (S : FnScope N ps (defScope st)) (len : ∀ vs H Q E, sp vs H Q E → vs.length = ps.length)
    (hbody : ∀ (cdv : Value) (A : Around) (outer : List Env) (s : Shared) (H : Hp) (vs : List V) (Q : VK) (E : XK), Room k (A.deeper (envOfC qual (defScope st) s.heap.objs.size f cdv)) → (A.deeper (envOfC qual (defScope st) s.heap.objs.size f cdv)).guards = some [] → sp vs H Q E →
      ∃ t, PSs (cxOf (L2.CX P w) P w K mg base N qual (defScope st) f cdv A outer s H E) (defBody st) t ∧ t { nx := fun _ H' => Q .non H', rt := Q } (L2.start N vs) H) : FnG P w K mg base (k + 1) f fd ps sp := by
  obtain ⟨oc, od, kV, doc, pm, an, cdv, ct, osl, rfl, lk, hcd⟩ := F.ex
  refine ⟨fun A outer s H args us vs Q E hr hgd e0 hb rv hsp => ?_⟩
  have nl : s.heap.NoLimit := e0.mod.nolimit.keeps fun b o e => (e0.bs b o e).1
  have kin : K.In s.heap := e0.mod.kin.keeps fun b o e => (e0.bs b o e).1
  have kinds : ∀ y ∈ ps.zip us, (defScope st).names.lookup y.1 = some .local ∨ ((defScope st).names.lookup y.1 = some .cell ∧ ((cellsFrom (s.heap.objs.size + 1) (defScope st).names []).lookup y.1).isSome = true) := fun ⟨n, v⟩ hy =>
    (S.par n (List.of_mem_zip hy).1).imp id fun q => ⟨q, PySem.W.cellsFrom_some _ _ _ (.inl q)⟩
  refine codeAny_call_function hr.depth (kin _ _ lk) rfl S.co S.gen rfl (PySem.W.codeRec_of kin hcd) (hb _ _ _ _ (wpAny_newFunctionEnv_cells S.kind kinds fun env he s1 ic => ?_))
  subst he
  refine ⟨nl.keeps ic.toInCall.keep, codeAny_func ?_⟩
  obtain ⟨t, ht, hq⟩ := hbody cdv A outer s H vs Q E (hr.deeper _) hgd hsp
  refine wpAny_mono (ht.run [] s1 (L2.start N vs) H _ (inv_start S hr.hd e0 (len _ _ _ _ hsp) rv ic) hq) (fun fl s' hs => ?_) fun e s' hs => hs
  cases fl with
  | ret u =>
    obtain ⟨v, σ', H', J, rv', q⟩ := hs
    exact ⟨v, H', J.os, J.bare, J.base, J.hok, rv', q⟩
  | next =>
    obtain ⟨σ', H', J, q⟩ := hs
    exact ⟨.non, H', J.os, J.bare, J.base, J.hok, rfl, q⟩
  | brk => exact hs.elim fun _ h => h.elim fun _ h => h.2.elim
  | cont => exact hs.elim fun _ h => h.elim fun _ h => h.2.elim
end
/-- at the heap behind the top -/
theorem lawG {P : Program} {w : World} {K : PySem.W.Frag} {mg mb : Str → Option Value} {k : Nat} {fa a : Addr} {fd : FuncData} {x : Str} {sp : Sp} {s0 : Shared} {vs : List Value} {ns : List Int}
    (KX : K.In s0.heap) (hns : s0.heap.Ns mainGlobals mg) (hb : s0.heap.Ns builtinsNs mb) (hbb : ∀ x : Str, x ≠ "__name__" → mb x = bootBuiltins x) (hlim : s0.heap.NoLimit) (hgens : s0.gens = #[])
    (ha : s0.heap.get? a = some { cls := .type "list", data := .seq vs.toArray }) (hi : IntsAre vs ns) (hl : ns.length ≤ sizeLine) (hr : Room k callerA)
    (F : ∀ base : Heap, K.In base → base.Ns mainGlobals mg → FnG P w K mg base k fa fd [x] sp) (hbind : ∀ (s : Shared) (u : Value), BindsTo s fd ⟨[u], []⟩ [(x, u)])
    (hsp : ∀ H : Hp, Only H → SqL K H a (ns.map V.int) → sp [.ref a] H (fun v _ => v = .bl true) fun _ _ _ => False) :
    codeAny (model P w) callerA (.call (.ref fa) ⟨[.ref a], []⟩) (fun r s' => r = .ok (.ret (.bool true)) ∧ OldK s0.heap s'.heap ∧ s'.os = s0.os ∧ AllBare s'.gens) s0 := by
  have rv := vals_ints hi
  -- whatever is tracked is the script
  have go : ∀ H : Hp, Only H → SqL K H a (ns.map V.int) → HOk P w H s0.heap → (∀ b, H b ≠ none → b = a) → (H a ≠ none → K.lookup a = none) →
      codeAny (model P w) callerA (.call (.ref fa) ⟨[.ref a], []⟩) (fun r s' => r = .ok (.ret (.bool true)) ∧ OldK s0.heap s'.heap ∧ s'.os = s0.os ∧ AllBare s'.gens) s0 := by
    intro H hO hS hok hA hK
    have only_a : ∀ {b : Addr} {u : HO}, H b = some u → b = a := fun {b u} q => hA b (by rw [q]; simp)
    have low : ∀ {b : Addr} {o : Obj}, s0.heap.get? b = some o → H b = none → (hidT s0.heap H).get? b = some o := fun e n => hidT_get e n
    have nsk : ∀ {b : Addr} {m : Str → Option Value}, s0.heap.Ns b m → (hidT s0.heap H).Ns b m := fun {b m} ⟨o, es, ep, e, d, r⟩ => ⟨o, es, ep, low e (by
      cases q : H b with
      | none => rfl
      | some u =>
        rw [only_a q, ha] at e
        cases e
        have d' : Data.seq vs.toArray _ = Data.dict es ep := d
        cases d'), d, r⟩
    have kb : K.In (hidT s0.heap H) := fun b o e => low (KX b o e) (by
      cases q : H b with
      | none => rfl
      | some u =>
        have eb := only_a q
        subst eb
        rw [hK (by rw [q]; simp)] at e
        cases e)
    obtain ⟨mc, c1, c2⟩ := hlim
    have env : Env0 P w K mg (hidT s0.heap H) callerA [] s0 H := ⟨rfl, ⟨kb, nsk hns, ⟨mb, nsk hb, hbb⟩, ⟨mc, nsk c1, c2⟩⟩, fun b o e => of_hidT e, Nat.le_of_eq (hidT_size _ _), trivial, (fun b m => nomatch (show b ∈ ([] : List Addr) from m)), hok, .of_eq hgens⟩
    refine codeAny_mono ((F _ kb (nsk hns)).run callerA [] s0 H ⟨[.ref a], []⟩ [.ref a] [.ref a] _ _ hr rfl env (hbind s0 (.ref a)) (.cons rfl .nil) (hsp H hO hS)) fun r s' h => ?_
    match r, h with
    | .error e, h => obtain ⟨_, _, _, _, _, _, _, _, _, _, _, _, z⟩ := h; exact z.elim
    | .ok .next, h => exact (show False from h).elim
    | .ok .brk, h => exact (show False from h).elim
    | .ok .cont, h => exact (show False from h).elim
    | .ok (.ret u), h =>
      obtain ⟨v, H', os, bare, un, hok', r', q⟩ := h
      have ev : v = .bl true := q
      subst ev
      obtain rfl : u = Value.bool true := r'
      refine ⟨rfl, OldK.of_keep fun b o e => ?_, os, bare⟩
      cases q : H b with
      | none => exact un.keep b o e q (fun z => nomatch (show b ∈ ([] : List Addr) from z)) (by simp)
      | some u =>
        rcases hO b with z | ⟨ob, xs, z⟩
        · rw [q] at z; cases z
        · obtain ⟨e1, _⟩ := hok b _ z
          obtain ⟨e2, _⟩ := hok' b _ (un.frzs b ob _ z)
          rw [e] at e1; cases e1
          exact e2
  cases hk : K.lookup a with
  | some o =>
    have e := KX a o hk
    rw [ha] at e
    cases e
    refine go (fun _ => none) (fun _ => .inl rfl) (.inr ⟨_, vs.toArray, _, hk, rfl, rfl, rfl, by rw [List.size_toArray, hi.length]; exact hl, by simpa using rv⟩) (fun b u z => nomatch (show (none : Option HO) = some u from z)) (fun b z => absurd rfl z) fun z => absurd rfl z
  | none =>
    have at1 : ∀ b, b ≠ a → (if b = a then some (HO.frz { cls := .type "list", data := .seq vs.toArray } (.lst (ns.map V.int))) else none) = none := fun b hb => if_neg hb
    refine go (fun b => if b = a then some (.frz { cls := .type "list", data := .seq vs.toArray } (.lst (ns.map V.int))) else none) (fun b => ?_) (.inl (.inr ⟨_, if_pos rfl⟩)) (fun b u z => ?_) (fun b z => Classical.byContradiction fun n => z (at1 b n)) fun _ => hk
    · by_cases hb : b = a
      · exact .inr ⟨_, _, if_pos hb⟩
      · exact .inl (at1 b hb)
    · by_cases hb : b = a
      · have z' := (if_pos hb).symm.trans z
        cases z'
        subst hb
        exact ⟨ha, by rw [List.length_map]; exact hl, vs, _, rv, ha⟩
      · have z' := (at1 b hb).symm.trans z
        cases z'
/-- the end -/
theorem walkG {l : PySem.W.OpenLaw} {n k : Nat} {q : Program} {loose : List Str} {XP : (Str → Option Value) → Heap → Prop} {YP : World → Heap → Prop} {d : DefRec} {K : Params → PySem.W.Frag} {sp : World → Sp} {x : Str}
    (hn : l.most = some n) (hn2 : n ≤ sizeLine) (hdf : d.params.defaults = []) (hr : Room k callerA) (hY : ∀ (w : World) (h : Heap), YP w h → (K w.params).In h)
    (F : ∀ (w : World) (mg : Str → Option Value) (fa : Addr) (h : Heap), (K w.params).In h → h.Ns mainGlobals mg → mg d.name = some (.ref fa) →
      ∃ fd : FuncData, (∀ (s : Shared) (u : Value), BindsTo s fd ⟨[u], []⟩ [(x, u)]) ∧ ∀ base : Heap, (K w.params).In base → base.Ns mainGlobals mg → FnG l.prog w (K w.params) mg base k fa fd [x] (sp w))
    (hsp : ∀ (w : World) (H : Hp) (a : Addr) (ns : List Int), ns.length ≤ n → Only H → SqL (K w.params) H a (ns.map V.int) → sp w [.ref a] H (fun v _ => v = .bl true) fun _ _ _ => False) :
    PySem.W.WalkO q loose XP YP l.row.toRowW d [] (fun f vs => PySem.call f vs) := by
  refine Att.attach_call hn hdf fun w s s0 mg mb fa o pm cd doc a vs ns G Y ho hd hcd hmg hobj hints hlen hg => ?_
  obtain ⟨fd, hb, hF⟩ := F w mg fa _ (hY w _ Y) G.T.g hmg
  exact lawG (hY w _ Y) G.T.g G.T.b G.T.builtins G.T.nolimit hg hobj hints (Nat.le_trans hlen hn2) hr hF hb fun H hO hS => hsp w H a ns hlen hO hS
end VL
set_option Elab.async false
set_option linter.all false
set_option maxRecDepth 100000
set_option maxHeartbeats 4000000
namespace VL
open PySem PySem.Spec PyProof.Rows L2
/-! ### // by a divisor below 2 ** 200 -/
def CDivB (i j : Int) : Prop := j ≠ 0 ∧ j.natAbs < 1606938044258990275541962092341162602522202993782792835301376
theorem op_fdivB {X : Cx} : OpR X (binaryOp .FloorDiv) (rI CDivB fun i j => .int (i.fdiv j)) := opI fun i j _ _ _ _ _ hc q => floordiv_int hc.1 q (.inl (PyProof.noPylong_of_log2 (by
  have h0 : j.natAbs ≠ 0 := by have := hc.1; omega
  have h := hc.2
  have h200 : j.natAbs.log2 < 200 := (Nat.log2_lt h0).mpr h
  omega)))
/-! ### a bag of drawn numbers: a dict with two lists, its own -/
abbrev kG : Key := .inr "great"
abbrev kC : Key := .inr "cells"
abbrev kN : Key := .inr "drawn"
def bagAt (r l1 l2 : Addr) (gs ds : List Int) (n : Int) (H : Hp) : Prop :=
  H r = some (.dK [(kG, .ref l1), (kC, .ref l2), (kN, .int n)]) ∧ H l1 = some (.lst (gs.map V.int)) ∧ H l2 = some (.lst (ds.map V.int)) ∧ gs.length ≤ 63 ∧ ds ≠ [] ∧ l1 ≠ l2
theorem bagAt.rl1 {r l1 l2 : Addr} {gs ds : List Int} {n : Int} {H : Hp} (h : bagAt r l1 l2 gs ds n H) : r ≠ l1 := fun e => by rw [e] at h; have h1 := h.1; rw [h.2.1] at h1; cases h1
theorem bagAt.rl2 {r l1 l2 : Addr} {gs ds : List Int} {n : Int} {H : Hp} (h : bagAt r l1 l2 gs ds n H) : r ≠ l2 := fun e => by rw [e] at h; have h1 := h.1; rw [h.2.2.1] at h1; cases h1
/-- the surroundings: the classes, the bag -/
def bagB (cls : Str → Addr) (r l1 l2 : Addr) : Bg where
  cls := cls
  B := fun a => a = r ∨ a = l1 ∨ a = l2
  G := fun H => ∃ gs ds n, bagAt r l1 l2 gs ds n H
  loc := fun H H' h _ ⟨gs, ds, n, h1, h2, h3, h4⟩ => ⟨gs, ds, n, by rw [h r (.inl rfl)]; exact h1, by rw [h l1 (.inr (.inl rfl))]; exact h2, by rw [h l2 (.inr (.inr rfl))]; exact h3, h4⟩
  dom := fun H a ⟨gs, ds, n, h1, h2, h3, _⟩ h => by
    rcases h with rfl | rfl | rfl
    · rw [h1]; simp
    · rw [h2]; simp
    · rw [h3]; simp
/-- at a call: nothing but the bag is changed -/
def KeepB (r l1 l2 : Addr) (H H' : Hp) : Prop := ∀ a o, H a = some o → a ≠ r → a ≠ l1 → a ≠ l2 → H' a = some o
theorem KeepB.ex {cls : Str → Addr} {r l1 l2 : Addr} {H H' : Hp} (k : KeepB r l1 l2 H H') : Ex (bagB cls r l1 l2) H H' := fun a o e n => k a o e (fun h => n (.inl h)) (fun h => n (.inr (.inl h))) fun h => n (.inr (.inr h))
theorem KeepB.refl {r l1 l2 : Addr} {H : Hp} : KeepB r l1 l2 H H := fun _ _ e _ _ _ => e
theorem KeepB.upd {r l1 l2 p : Addr} {H H1 : Hp} {o : HO} (h : KeepB r l1 l2 H H1) (hp : p = r ∨ p = l1 ∨ p = l2 ∨ H1 p = none) : KeepB r l1 l2 H (upd H1 p o) := fun a u e n1 n2 n3 => by
  have e1 := h a u e n1 n2 n3
  rw [upd_ne (fun q => by
    subst q
    rcases hp with q | q | q | q
    · exact n1 q
    · exact n2 q
    · exact n3 q
    · rw [q] at e1; cases e1)]
  exact e1
/-- what the def that draws one number promises: below many, in the heap -/
def spTake : Sp := fun vs H Q _ => ∃ r l1 l2 gs ds n, ∃ m : Int, vs = [.ref r, .int m] ∧ bagAt r l1 l2 gs ds n H ∧ 0 < m ∧ m < 1606938044258990275541962092341162602522202993782792835301376 ∧ ∀ H' gs' n' x, KeepB r l1 l2 H H' → bagAt r l1 l2 gs' ds n' H' → 0 ≤ x → x < m → Q (.int x) H'
/-- .. over values -/
@[simp] def svTake (r : Addr) : SV
  | [.raw v, .py (.int m)], Q, _ => v = .ref r ∧ 0 < m ∧ m < 1606938044258990275541962092341162602522202993782792835301376 ∧ ∀ x : Int, 0 ≤ x → x < m → Q (.py (.int x))
  | _, _, _ => False
theorem svTake_ex {r : Addr} : ∀ {ds : List D} {Q : D → Prop} {E : Er → Prop}, svTake r ds Q E → ∃ m : Int, ds = [.raw (.ref r), .py (.int m)] ∧ 0 < m ∧ m < 1606938044258990275541962092341162602522202993782792835301376 ∧ ∀ x : Int, 0 ≤ x → x < m → Q (.py (.int x))
  | [.raw v, .py (.int m)], _, _, ⟨e, h⟩ => ⟨m, by rw [e], h⟩
theorem take_v {P : Program} {w : World} {K : PySem.W.Frag} {mg : Str → Option Value} {base : Heap} {k : Nat} {f : Addr} {fd : FuncData} {ps : List Str} {CX : CXT} {cls : Str → Addr} {r l1 l2 : Addr} (h : FnOk P w K mg base CX k f fd ps spTake) : FnOk P w K mg base CX k f fd ps (spV (bagB cls r l1 l2) (svTake r)) :=
  h.imp fun vs H Q E ⟨Z, ds, Qd, Ed, g, rp, hh, l, _⟩ => by
    obtain ⟨m, ed, h1, h2, q⟩ := svTake_ex hh
    subst ed
    obtain ⟨x, y, rfl, rx, ry⟩ := rbs2 rp
    have ex : x = .ref r := rx
    have ey : y = .int m := Rb.int (b := bagB cls r l1 l2) (.inl ry)
    subst ex ey
    obtain ⟨gs, ds, n, hb⟩ := g.g
    exact ⟨r, l1, l2, gs, ds, n, m, rfl, hb, h1, h2, fun H' gs' n' x kp b' x0 x1 => l (.int x) H' (.py (.int x)) kp.ex ⟨gs', ds, n', b'⟩ (.int x) (q x x0 x1)⟩
def AllIn (xs : List PyData) (R : PyData → Prop) : Prop := ∀ y ∈ xs, R y
/-- an item of a list or tuple, by a drawn number -/
@[simp] def svPick (r : Addr) : SV
  | [.raw v, .py (.list xs)], Q, _ => v = .ref r ∧ xs ≠ [] ∧ xs.length < 1606938044258990275541962092341162602522202993782792835301376 ∧ AllIn xs fun y => Q (.py y)
  | [.raw v, .py (.tuple xs)], Q, _ => v = .ref r ∧ xs ≠ [] ∧ xs.length < 1606938044258990275541962092341162602522202993782792835301376 ∧ AllIn xs fun y => Q (.py y)
  | [.raw v, .py (.str z)], Q, _ => v = .ref r ∧ z.length ≤ sizeLine ∧ signsD z ≠ [] ∧ AllIn (signsD z) fun y => Q (.py y)
  | _, _, _ => False
theorem signsD_len (z : Str) : (signsD z).length = z.length := by unfold signsD; rw [List.length_map, Array.length_toList]; rfl
theorem svPick_ex {r : Addr} : ∀ {ds : List D} {Q : D → Prop} {E : Er → Prop}, svPick r ds Q E → ∃ p xs, ds = [.raw (.ref r), .py p] ∧ (p = .list xs ∨ p = .tuple xs ∨ ∃ z, p = .str z ∧ z.length ≤ sizeLine ∧ xs = signsD z) ∧ xs ≠ [] ∧ xs.length < 1606938044258990275541962092341162602522202993782792835301376 ∧ ∀ y, y ∈ xs → Q (.py y)
  | [.raw v, .py (.list xs)], _, _, ⟨e, h⟩ => ⟨_, xs, by rw [e], .inl rfl, h⟩
  | [.raw v, .py (.tuple xs)], _, _, ⟨e, h⟩ => ⟨_, xs, by rw [e], .inr (.inl rfl), h⟩
  | [.raw v, .py (.str z)], _, _, ⟨e, h1, h2, h3⟩ => ⟨_, _, by rw [e], .inr (.inr ⟨z, rfl, h1, rfl⟩), h2, by rw [signsD_len]; rw [sizeLine_eq] at h1; omega, h3⟩
/-- what the first def promises: a new bag -/
def spOpened (K : PySem.W.Frag) : Sp := fun vs H Q _ => ∃ (a : Addr) (ns : List Int), vs = [.ref a] ∧ SqL K H a (ns.map V.int) ∧ ns.length ≤ 63 ∧ ∀ r l1 l2 gs ds n H', (∀ c o, H c = some o → H' c = some o) → H r = none → H l1 = none → H l2 = none → bagAt r l1 l2 gs ds n H' → Q (.ref r) H'
end VL
namespace VL
open PySem
theorem plain_ints (l : List Int) : PyData.plainAll (l.map PyData.int) = true := by
  induction l with
  | nil => rfl
  | cons a l ih => simp [PyData.plainAll, PyData.plain, ih]
end VL
namespace VL
open PySem PySem.Spec PyProof.Rows L2
/-- no surroundings -/
def bg0 : Bg := ⟨fun _ => 0, fun _ => False, fun _ => True, fun _ _ _ _ _ => trivial, fun _ _ _ h => h.elim⟩
theorem VOk.plain {σ : L2.St} {H : Hp} {ρ : VEnv} (hl : ρ.length = σ.length) (h : ∀ (i : Nat) (s : Slot), ρ[i]? = some s → s = .un ∨ ∃ d v, s = .shr d ∧ σ[i]? = some (some v) ∧ Rp bg0 nz H v d) : VOk bg0 nz nz σ H ρ where
  g := trivial
  zb := fun _ z => z
  zo := fun _ z => z
  dom := fun _ z => z.elim
  zi := fun _ z => z.elim
  own := fun i d e => by rcases h i _ e with q | ⟨d', v, q, _⟩ <;> cases q
  inj := fun i j d e a h1 _ _ _ => by rcases h i _ h1 with q | ⟨d', v, q, _⟩ <;> cases q
  shr := fun i d e => by
    rcases h i _ e with q | ⟨d', v, q, h1, h2⟩
    · cases q
    · cases q; exact ⟨v, h1, h2⟩
  len := hl
theorem cut_ints (ns : List Int) (lo hi : Option Int) : ∃ ms : List Int, cutV (ns.map V.int) lo hi = ms.map V.int ∧ ms.length ≤ ns.length := by
  refine ⟨cutL ns lo hi, ?_, ?_⟩
  · unfold cutV cutL
    rw [List.length_map, List.map_take, List.map_drop]
  · unfold cutL
    rw [List.length_take, List.length_drop]
    omega
abbrev absI (i : Int) : Int := if i < 0 then -i else i
def bigs (k : Int) (cs : List Int) : List Int := cs.filter fun c => decide (k ≤ c)
theorem bigs_go {k : Int} {tt : VB} {te : VT} {ρ : VEnv} {Q : D → Prop} (h : 2 < ρ.length) (htt : ∀ (ρ : VEnv) (c : Int) (Q : Bool → Prop) (E : Er → Prop), ρ[2]? = some (.shr (.py (.int c))) → Q (decide (k ≤ c)) → tt ρ Q E)
    (hte : ∀ (ρ : VEnv) (d : D) (Q : D → Prop) (E : Er → Prop), ρ[2]? = some (.shr d) → Q d → te ρ Q E) : ∀ (cs acc : List Int), acc.length + cs.length ≤ 1000 → Q (.py (.list ((acc ++ bigs k cs).map PyData.int))) → lcGo (tgName 2) tt te Q ((cs.map PyData.int).map D.py) (acc.map PyData.int) ρ
  | [], acc, _, q => by rw [bigs, List.filter_nil, List.append_nil] at q; exact q
  | c :: cs, acc, hl, q => by
    refine ⟨h, htt _ c _ _ (List.getElem?_set_self h) (ite2 (fun hc => hte _ (.py (.int c)) _ _ (List.getElem?_set_self h) ⟨.int c, rfl, ?_, ?_⟩) fun hc => ?_)⟩
    · rw [List.length_map]
      rw [List.length_cons] at hl
      exact Nat.lt_of_le_of_lt (show acc.length ≤ 1000 by omega) (by decide)
    · have e : acc.map PyData.int ++ [PyData.int c] = (acc ++ [c]).map PyData.int := by simp
      rw [e]
      refine bigs_go h htt hte cs (acc ++ [c]) (by simp at hl ⊢; omega) ?_
      rw [bigs, List.filter_cons, if_pos hc] at q
      rw [List.append_assoc]
      exact q
    · refine bigs_go h htt hte cs acc (by simp at hl; omega) ?_
      rw [bigs, List.filter_cons, if_neg hc] at q
      exact q
end VL
set_option Elab.async false
set_option linter.all false
set_option maxRecDepth 100000
set_option maxHeartbeats 4000000
namespace VL
open PySem PySem.Spec PyProof.Rows L2
open Sem (wp)
/-! ### x[::-1] -/
section
variable {X : Cx} {b : Bg} {W : WX} {e e1 e2 st : Expr} {t t1 t2 : VT} {tl : VO} {p2 pos : Pos}
@[simp] def gBk : D → (D → Prop) → Prop
  | .py (.list xs), Q => Q (.py (.list xs.reverse))
  | .py (.tuple xs), Q => Q (.py (.tuple xs.reverse))
  | _, _ => False
@[simp] def vBk (t : VT) (tl : VO) : VT := fun ρ Q E => t ρ (fun x => tl ρ (fun k => k = some (-1) ∧ gBk x Q) E) E
/-! ### products, minus -/
@[simp] def gMul : D → D → (D → Prop) → Prop
  | .py (.int i), .py (.int j), Q => CMul i j ∧ Q (.py (.int (i * j)))
  | .py (.list xs), .py (.int k), Q => (-(2 ^ 63) ≤ k ∧ k < 2 ^ 63 ∧ xs.length * k.toNat ≤ sizeLine) ∧ Q (.py (.list (List.replicate k.toNat xs).flatten))
  | .py (.tuple xs), .py (.int k), Q => (xs ≠ [] ∧ 2 ≤ k ∧ k ≤ 1000 ∧ xs.length ≤ 1000) ∧ Q (.py (.tuple (List.replicate k.toNat xs).flatten))
  | _, _, _ => False
@[simp] def gRepL : D → D → (D → Prop) → Prop
  | .py (.list xs), .py (.int k), Q => (-(2 ^ 63) ≤ k ∧ k < 2 ^ 63 ∧ xs.length * k.toNat ≤ sizeLine) ∧ Q (.py (.list (List.replicate k.toNat xs).flatten))
  | _, _, _ => False
@[simp] def gNeg : D → (D → Prop) → Prop
  | .py (.int i), Q => Q (.py (.int (-i)))
  | _, _ => False
theorem ve_neg (h : VX X b W e t) : VE X b W (.UnaryOp .USub e pos) (vUn gNeg t) :=
  pe_mono (pe_un un_neg h) fun σ H Q ⟨Zo, Z, ρ, Qd, Ed, v, q, l, m⟩ => ⟨Zo, Z, ρ, _, Ed, v, q, fun x H1 d x1 g1 r1 q1 => by
    match d, q1, r1 with
    | .py (.int i), q1, r1 => exact ⟨i, r1.int, l _ H1 (.py (.int (-i))) x1 g1 (Rq.int _) q1⟩, m⟩
/-! ### dict displays -/
@[simp] def vD0 : VT := fun _ Q _ => Q (.py (.dict []))
theorem vn_dict0 : VN X b W (.Dict [] [] pos) vD0 := pe_mono pe_dnewK fun σ H Q ⟨Zo, Z, ρ, Qd, Ed, v, q, l, m⟩ p hp => l _ _ (.py (.dict [])) (Ex.new hp) (Bg.new v.g hp) ⟨p, rfl, hp, [], upd_same, .nil⟩ q
@[simp] def vD1 (k : Key) (t : VT) : VT := fun ρ Q E => t ρ (fun d => ∃ p, d = .py p ∧ Q (.py (.dict [(kD k, p)]))) E
theorem vn_dict1 {j : Nat} {x : Str} {ps : Pos} (h : VE X b W e t) : VN X b W (.Dict [some (.Constant (.str x) j ps)] [e] pos) (vD1 (.inr x) t) :=
  pe_mono (pe_disp (pps_cons pe_str h pps_nil) rfl rfl (by simp) (by show 1 ≤ 15; decide)) fun σ H Q ⟨Zo, Z, ρ, Qd, Ed, v, q, l, m⟩ p hp => by
    have v1 := v.apart hp (o := .dK [])
    have nb : ¬ b.B p := fun z => v.fresh hp (v.zo p (v.zb p z))
    refine ⟨_, _, ρ, _, Ed, v1, q, fun y H1 d x1 g1 r1 ⟨pd, ed, q1⟩ => ?_, fun c z H1 er x1 g1 r1 q1 => m c z H1 er ((Ex.new hp).trans x1) g1 ?_ q1⟩
    · subst ed
      have e1 : H1 p = some (.dK []) := x1 p _ upd_same nb
      refine ⟨e1, [(.inr x, y)], rfl, (show 1 ≤ 15 by decide), ?_⟩
      have xx : Ex b H (upd H1 p (.dK [(.inr x, y)])) := fun a o e n => by
        rw [upd_ne (ne_of_none e hp)]
        exact x1 a o (by rw [upd_ne (ne_of_none e hp)]; exact e) n
      refine l _ _ (.py (.dict [(kD (.inr x), pd)])) xx (b.loc H1 _ (fun c hc => upd_ne fun e => nb (by rw [← e]; exact hc)) (fun c o ho e => by rw [upd_ne (fun z => by rw [z, e1] at e; cases e; exact ho)]; exact e) g1) ⟨p, rfl, hp, _, upd_same, .cons (Rq.mono (fun c z => .inl z) (fun c o e n => ?_) r1) .nil⟩ q1
      rw [upd_ne (fun e => n (.inr e))]
      exact e
    · obtain ⟨h1, h2⟩ := r1
      refine ⟨h1, h2.imp id ?_⟩
      rintro ⟨a, xs, e1, e2, e3, e4⟩
      exact ⟨a, xs, e1, e2, fun z => e3 (.inl z), e4.mono (fun c z => .inl (.inl z)) fun _ _ e _ => e⟩
end
end VL
set_option Elab.async false
set_option linter.all false
set_option maxRecDepth 100000
set_option maxHeartbeats 4000000
namespace VL
open PySem PySem.Spec PyProof.Rows L2
theorem bb_isi : bootBuiltins "isinstance" = some (.builtin "isinstance") := by decide +kernel
section
variable {X : Cx} {b : Bg} {W : WX} {e : Expr} {es : List Expr} {u : VA} {p pos : Pos} {t : VT}
/-- a constant of the module that is an int -/
theorem ve_gint {x : Str} {i : Int} (hg : Gl X x) (hm : ∃ t, X.mg x = some (.int i t)) (hd : (x == ("__debug__" : Str)) = false := by decide) : VE X b W (.Name x pos) (vC (.py (.int i))) := by
  obtain ⟨t, h⟩ := hm
  exact ve_glob (v := .int i) hg h ⟨t, rfl⟩ (fun _ _ => .int i) hd
end
/-! ### a def that is called: all that its call wants -/
structure Cal (P : Program) (w : World) (K : PySem.W.Frag) (mg : Str → Option Value) (base : Heap) (b : Bg) (k : Nat) (x : Str) (ps : List Str) (S : SV) where
  f : Addr
  fd : FuncData
  F : FnOk P w K mg base (L2.CX P w) k f fd ps (spV b S)
  g : mg x = some (.ref f)
  kp : PySem.W.keepIn K (.ref f) = true
  bd : Binds K fd ps []
section
variable {X : Cx} {b : Bg} {W : WX} {k j : Nat} {x : Str} {ps : List Str} {S : SV} {e : Expr} {es : List Expr} {u : VA} {p pos : Pos}
theorem ve_cal (c : Cal X.prog X.w X.K X.mg X.base b k x ps S) (hr : Room j X.A) (tk : Takes X W) (hg : Gl X x) (ha : VAs X b W (e :: es) u) (hk : k ≤ j := by decide) (hdb : (x == ("__debug__" : Str)) = false := by decide)
    (he : starEach (e :: es) X.env = (false, eval e X.env) :: starEach es X.env := by rfl) (hpl : (backTo pos (starEach es X.env)).any (·.1) = false := by rfl) : VE X b W (.Call (.Name x p) (e :: es) [] pos) (vCall S u) :=
  ve_call c.F (hr.mono hk) tk hg c.g c.kp c.bd ha hdb he hpl
end
section
variable {X : Cx} {b : Bg} {W : WX} {tg iter elt c : Expr} {ifs : List Expr} {scope : Scope} {own : List (Str × Nat)} {pos spos py : Pos} {ti : VIt} {js : List Nat} {g : VTg} {tt : VB} {te : VT} {i : Nat} {y : Str} {t : VT}
theorem LE.new : ∀ σ H Q, LE b W (RE b) t σ H Q → LE b W (RN b) t σ H Q := fun σ H Q ⟨Zo, Z, ρ, Qd, Ed, v, q, l, m⟩ => ⟨Zo, Z, ρ, Qd, Ed, v, q, fun u H' d x g ⟨a, e, n, o⟩ => by
  subst e
  exact l _ H' d x g (o.rp (fun _ z => .inl z) (v.fresh n)), m⟩
/-- name = [..] on one line, shared from then on -/
theorem vs_setLcE (hc : X.calm = true) (hN : X.N.Nodup) (hy : X.N[i]? = some y) (hyl : X.env.scope.names.lookup y = some .local) (hsw : swapsWith (.ListComp elt [⟨tg, iter, ifs, 0⟩] scope pos) (some (.Name y py)) spos.line X.env = pure true)
    (hi : VIb X b W tg iter ti) (ok : BlkOk X.N X.env.scope scope own) (hjs : ∀ j ∈ js, j ∈ own.map (·.2))
    (hg : ∀ (s : Shared) (H : Hp) (C : Addr) (cl : List (Str × Addr)) (fp : List Addr), VG (X.blk s H scope (compEnvC scope cl C X.env) fp) b tg js g) (ht : ∀ (s : Shared) (H : Hp) (C : Addr) (cl : List (Str × Addr)) (fp : List Addr), VTs (X.blk s H scope (compEnvC scope cl C X.env) fp) b ifs tt)
    (he : ∀ (s : Shared) (H : Hp) (C : Addr) (cl : List (Str × Addr)) (fp : List Addr), VE (X.blk s H scope (compEnvC scope cl C X.env) fp) b noW elt te) (hs : ∀ x, foldedSetIterable iter X.env x = pure x := by intro _; rfl) :
    VSt X b W (.Assign [.Name y py] (.ListComp elt [⟨tg, iter, ifs, 0⟩] scope pos) spos) (sSet i (vLc (own.map (·.2)) ti g tt te)) :=
  vs_set (ps_setLc hc hN hy hyl hsw hi ok hg ht he hs) fun σ H Q q => lc_sound hjs σ H Q (LE.new σ H Q q)
end
end VL
set_option Elab.async false
set_option linter.all false
set_option maxRecDepth 100000
set_option maxHeartbeats 4000000
namespace VL
open PySem PySem.Spec PyProof.Rows L2
@[simp] theorem szl : sizeLine = 16777216 := sizeLine_eq
@[simp] def asB : D → (Bool → Prop) → Prop
  | .py (.bool k), Q => Q k
  | _, _ => False
@[simp] def asI : D → (Int → Prop) → Prop
  | .py (.int k), Q => Q k
  | _, _ => False
@[simp] def asP : D → (PyData → Prop) → Prop
  | .py k, Q => Q k
  | _, _ => False
@[simp 2000] theorem ex_bool (d : D) (Q : Bool → Prop) : (∃ k, d = .py (.bool k) ∧ Q k) ↔ asB d Q := by
  refine ⟨fun ⟨k, e, q⟩ => by rw [e]; exact q, fun h => ?_⟩
  match d, h with
  | .py (.bool k), h => exact ⟨k, rfl, h⟩
@[simp 2000] theorem ex_int (d : D) (Q : Int → Prop) : (∃ k, d = .py (.int k) ∧ Q k) ↔ asI d Q := by
  refine ⟨fun ⟨k, e, q⟩ => by rw [e]; exact q, fun h => ?_⟩
  match d, h with
  | .py (.int k), h => exact ⟨k, rfl, h⟩
@[simp 2000] theorem ex_py (d : D) (Q : PyData → Prop) : (∃ k, d = .py k ∧ Q k) ↔ asP d Q := by
  refine ⟨fun ⟨k, e, q⟩ => by rw [e]; exact q, fun h => ?_⟩
  match d, h with
  | .py k, h => exact ⟨k, rfl, h⟩
@[simp 2000] theorem ex_pys (ds : List D) (Q : List PyData → Prop) : (∃ ps, pys ds = some ps ∧ Q ps) ↔ asO (pys ds) Q := by
  refine ⟨fun ⟨k, e, q⟩ => by rw [e]; exact q, asO_ex⟩
/-! ### comprehensions, loops: how their readings are met -/
/-- one turn of a comprehension -/
def lcStep (g : VTg) (tt : VB) (te : VT) (d : D) (ρ : VEnv) (k : Option PyData → Prop) : Prop :=
  g d ρ fun ρ1 => tt ρ1 (fun b => if b = true then te ρ1 (fun y => ∃ p, y = .py p ∧ k (some p)) noE else k none) noE
section
variable {g : VTg} {tt : VB} {te : VT} {ρ : VEnv} {Q : D → Prop}
theorem lcGo_cons {d : D} {ds : List D} {acc : List PyData} (h : lcStep g tt te d ρ fun o => match o with
    | some p => acc.length < sizeLine ∧ lcGo g tt te Q ds (acc ++ [p]) ρ
    | none => lcGo g tt te Q ds acc ρ) : lcGo g tt te Q (d :: ds) acc ρ := h
end
/-! ### plain data -/
@[simp] theorem eqv_lnil (xs : List PyData) : (PyData.list xs).eqv (.list []) = xs.isEmpty := by cases xs <;> rfl
@[simp] theorem eqv_tnil (xs : List PyData) : (PyData.tuple xs).eqv (.tuple []) = xs.isEmpty := by cases xs <;> rfl
@[simp] theorem eqv_lt (xs ys : List PyData) : (PyData.list xs).eqv (.tuple ys) = false := rfl
@[simp] theorem eqv_tl (xs ys : List PyData) : (PyData.tuple xs).eqv (.list ys) = false := rfl
@[simp] theorem eqv_ii (i j : Int) : (PyData.int i).eqv (.int j) = (i == j) := rfl
@[simp] theorem eqv_ss (i j : Str) : (PyData.str i).eqv (.str j) = (i == j) := rfl
@[simp] theorem plain_none : PyData.none.plain = true := rfl
@[simp] theorem plain_bool (k : Bool) : (PyData.bool k).plain = true := rfl
@[simp] theorem plain_int (i : Int) : (PyData.int i).plain = true := rfl
@[simp] theorem plain_str (i : Str) : (PyData.str i).plain = true := rfl
@[simp] theorem plain_list (xs : List PyData) : (PyData.list xs).plain = PyData.plainAll xs := by simp only [PyData.plain]
@[simp] theorem plain_tuple (xs : List PyData) : (PyData.tuple xs).plain = PyData.plainAll xs := by simp only [PyData.plain]
@[simp] theorem plainAll_nil : PyData.plainAll [] = true := rfl
@[simp] theorem plainAll_cons (x : PyData) (xs : List PyData) : PyData.plainAll (x :: xs) = (x.plain && PyData.plainAll xs) := by simp only [PyData.plainAll]
@[simp] theorem plainAll_ints (xs : List Int) : PyData.plainAll (xs.map PyData.int) = true := plain_ints xs
@[simp] theorem depth_nil : (PyData.list []).depth = 1 := rfl
@[simp] theorem depth_tnil : (PyData.tuple []).depth = 1 := rfl
@[simp] theorem depth_int (i : Int) : (PyData.int i).depth = 0 := rfl
@[simp] theorem depth_str (i : Str) : (PyData.str i).depth = 0 := rfl
@[simp] theorem depth_none : PyData.none.depth = 0 := rfl
@[simp] theorem depth_bool (k : Bool) : (PyData.bool k).depth = 0 := rfl
@[simp] theorem depth_list (xs : List PyData) : (PyData.list xs).depth = PyData.depthAll xs + 1 := by simp only [PyData.depth]
@[simp] theorem depth_tuple (xs : List PyData) : (PyData.tuple xs).depth = PyData.depthAll xs + 1 := by simp only [PyData.depth]
@[simp] theorem depthAll_nil : PyData.depthAll [] = 0 := rfl
@[simp] theorem depthAll_cons (x : PyData) (xs : List PyData) : PyData.depthAll (x :: xs) = max x.depth (PyData.depthAll xs) := by simp only [PyData.depthAll]
end VL
namespace VL
open PySem PySem.Spec PyProof.Rows L2
@[simp] theorem cpow_iff (i j : Int) : CPow i j ↔ (0 ≤ j ∧ j ≤ 1000000 ∧ i.natAbs < 2 ^ 64) := Iff.rfl
@[simp] theorem cdivn_iff (i j : Int) : CDivN i j ↔ (j ≠ 0 ∧ j.natAbs < 1073741824) := Iff.rfl
@[simp] theorem cmul_iff (i j : Int) : CMul i j ↔ ((-(2 ^ 64) < i ∧ i < 2 ^ 64) ∨ (-(2 ^ 64) < j ∧ j < 2 ^ 64)) := Iff.rfl
end VL
namespace VL
open PySem PySem.Spec PyProof.Rows L2
@[simp] theorem rangeP_len (lo : Int) (n : Nat) : (rangeP lo n).length = n := by simp [rangeP]
end VL
set_option Elab.async false
set_option linter.all false
set_option maxRecDepth 100000
set_option maxHeartbeats 4000000
namespace VL
open PySem PySem.Spec PyProof.Rows L2
/-! ### the law: the first statement makes the bag, the rest is read over values -/
theorem pss_ex {X : Cx} {sts : List Stmt} {α : Type} {t : α → TS} (h : ∀ x, PSs X sts (t x)) : PSs X sts (fun D σ H => ∃ x, t x D σ H) := ⟨fun pins s σ H D I ⟨x, q⟩ => (h x).run pins s σ H D I q⟩
def spLaw (K : PySem.W.Frag) : Sp := fun vs H Q _ => ∃ (a : Addr) (ns : List Int), vs = [.ref a] ∧ SqL K H a (ns.map V.int) ∧ ns.length ≤ 63 ∧ ∀ H', Q (.bl true) H'
/-- the names' values behind the first statement: the bag in slot i -/
def envBag (n i : Nat) (r : Addr) : VEnv := (List.replicate n Slot.un).set i (.shr (.raw (.ref r)))
abbrev isTrue' : D → Prop := fun d => d = .py (.bool true)
theorem envBag_at {n i j : Nat} {r : Addr} {s : Slot} (h : (envBag n i r)[j]? = some s) : s = .un ∨ (j = i ∧ s = .shr (.raw (.ref r))) := by
  unfold envBag at h
  by_cases e : i = j
  · subst e
    by_cases hn : i < n
    · rw [List.getElem?_set_self (by simpa using hn)] at h; cases h; exact .inr ⟨rfl, rfl⟩
    · rw [List.getElem?_eq_none (by simp; omega)] at h; cases h
  · rw [List.getElem?_set_ne e, List.getElem?_replicate] at h
    split at h
    · cases h; exact .inl rfl
    · cases h
theorem law_rest {cls : Str → Addr} {r l1 l2 : Addr} {gs ds : List Int} {n : Int} {H : Hp} {N : List Str} {i : Nat} {a : Addr} {t : VS} {Q : VK} {E : XK} (hb : bagAt r l1 l2 gs ds n H) (h0 : 0 < N.length) (hi : i < N.length)
    (law : t (envBag N.length i r) (fin isTrue' noE)) (q : ∀ H', Q (.bl true) H') : LS (bagB cls r l1 l2) (WF E) t { nx := fun _ H' => Q .non H', rt := Q } ((L2.start N [.ref a]).set i (some (.ref r))) H := by
  have hG : (bagB cls r l1 l2).G H := ⟨gs, ds, n, hb⟩
  have hl : (L2.start N [V.ref a]).length = N.length := by
    unfold L2.start
    rw [List.length_append, List.length_map, List.length_replicate, List.length_singleton]
    omega
  refine ⟨H, fun _ => False, (bagB cls r l1 l2).B, (bagB cls r l1 l2).B, _, _, ⟨⟨hG, fun _ z => z, fun _ z => z, fun a z => (bagB cls r l1 l2).dom H a hG z, fun _ z => .inl z, fun j d e => ?_, fun j k d e c h1 _ _ _ => ?_, fun j d e => ?_, ?_⟩, fun _ _ e _ _ => e, fun j d c h1 _ => ?_⟩, law, ⟨fun _ _ _ _ _ h => (by cases h), fun v H' d _ _ rp h => ?_, fun _ _ _ _ _ h => h.elim, fun _ _ _ _ _ h => h.elim, fun _ _ _ _ _ _ _ _ _ h => h.elim, fun _ _ _ _ _ _ _ _ h => h.elim⟩⟩
  · rcases envBag_at e with h | ⟨_, h⟩ <;> cases h
  · rcases envBag_at h1 with h | ⟨_, h⟩ <;> cases h
  · rcases envBag_at e with h | ⟨ej, h⟩
    · cases h
    · cases h
      subst ej
      exact ⟨.ref r, List.getElem?_set_self (by rw [hl]; exact hi), rfl⟩
  · unfold envBag
    rw [List.length_set, List.length_replicate, List.length_set, hl]
  · rcases envBag_at h1 with h | ⟨_, h⟩ <;> cases h
  · have h' : d = .py (.bool true) := h
    subst h'
    have rp' : Rq (bagB cls r l1 l2).B H' v (.bool true) := rp
    cases rp'
    exact q H'
section
variable {P : Program} {w : World} {K : PySem.W.Frag} {mg : Str → Option Value} {base : Heap} {k k0 : Nat} {st : Stmt} {f fo : Addr} {fd fdo : FuncData} {N : List Str}
theorem lawV {cls : Str → Addr} {i : Nat} {t : Addr → VS} {p1 p2 p3 p4 p5 : Pos} {rest : List Stmt} {nm : Str} (F : Fun K nm nm st f fd) (Sc : FnScope N ["_law_script"] (defScope st))
    (hst : defBody st = .Assign [.Name "_law_bag" p1] (.Call (.Name "_law_opened" p2) [.Name "_law_script" p3] [] p4) p5 :: rest)
    (FO : FnOk P w K mg base (L2.CX P w) k0 fo fdo ["_law_script"] (spOpened K)) (gO : mg "_law_opened" = some (.ref fo)) (kO : PySem.W.keepIn K (.ref fo) = true) (bO : Binds K fdo ["_law_script"] []) (hk : k0 ≤ k)
    (hi : N[i]? = some ("_law_bag" : Str)) (h0 : N[0]? = some ("_law_script" : Str)) (hloc : Loc (defScope st) ("_law_bag" : Str)) (hloc0 : (defScope st).names.lookup ("_law_script" : Str) = some .local) (hgl : (defScope st).names.lookup ("_law_opened" : Str) = some .globalImplicit)
    (hbody : ∀ (r l1 l2 : Addr) (cdv : Value) (A : Around) (outer : List Env) (s : Shared) (H : Hp) (E : XK), Room k (A.deeper (envOfC nm (defScope st) s.heap.objs.size f cdv)) → (A.deeper (envOfC nm (defScope st) s.heap.objs.size f cdv)).guards = some [] →
      Takes (cxOf (L2.CX P w) P w K mg base N nm (defScope st) f cdv A outer s H E) (WF E) → VSs (cxOf (L2.CX P w) P w K mg base N nm (defScope st) f cdv A outer s H E) (bagB cls r l1 l2) (WF E) rest (t r))
    (law : ∀ r, t r (envBag N.length i r) (fin isTrue' noE)) : FnG P w K mg base (k + 1) f fd ["_law_script"] (spLaw K) := by
  refine fnG F Sc (fun vs H Q E ⟨a, ns, e, _⟩ => by rw [e]; rfl) fun cdv A outer s H vs Q E hr hg ⟨a, ns, ev, hS, hl, q⟩ => ?_
  subst ev
  rw [hst]
  have tk : Takes (cxOf (L2.CX P w) P w K mg base N nm (defScope st) f cdv A outer s H E) (WF E) := takes_of rfl rfl rfl rfl
  have hN0 : 0 < N.length := (List.getElem?_eq_some_iff.mp h0).1
  have hNi : i < N.length := (List.getElem?_eq_some_iff.mp hi).1
  refine ⟨_, pss_cons (ps_set (X := cxOf (L2.CX P w) P w K mg base N nm (defScope st) f cdv A outer s H E) (i := i) Sc.nd hi hloc (pe_callS FO (hr.mono hk) ?_ gO kO bO (fun σ => passAt tk σ) (pa_cons (pe_var h0 (.inl hloc0)) pa_nil)) (by rfl) (.inl rfl))
    (pss_ex fun r => pss_ex fun l1 => pss_ex fun l2 => hbody r l1 l2 cdv A outer s H E hr hg tk), ?_⟩
  · exact hgl
  · refine ⟨.ref a, ?_, a, ns, rfl, hS, hl, fun r l1 l2 gs ds n H' _ _ _ _ bag => ⟨r, l1, l2, law_rest bag hN0 hNi (law r) q⟩⟩
    unfold L2.start
    rfl
end
end VL
set_option Elab.async false
set_option linter.all false
set_option maxRecDepth 100000
set_option maxHeartbeats 4000000
namespace VL
open PySem PySem.Spec PyProof.Rows L2 HT
/-! ### slices as take and drop -/
end VL
set_option Elab.async false
set_option linter.all false
set_option maxRecDepth 100000
set_option maxHeartbeats 4000000
namespace VL
open PySem PySem.Spec PyProof.Rows L2 HT
/-! ### the facts of a def, for the join -/
structure DefK (K : PySem.W.Frag) (x : Str) (st : Stmt) : Prop where
  ex : ∃ (f : Addr) (oc kV doc pm cdv ct : Value) (od an : Option Addr) (osl : Array (Option Value)), PySem.W.nsIn K mainGlobals x = some (some (.ref f)) ∧ K.lookup f = some ⟨oc, od, .func (PySem.W.fnOf x x (defArgs st) (defBody st) (defScope st) .none kV doc pm an cdv ct), osl⟩ ∧ PySem.W.codeIn K cdv x = true ∧ PySem.W.keepIn K (.ref f) = true
theorem defK {K : PySem.W.Frag} {x : Str} {st : Stmt} {f : Addr} {oc kV doc pm cdv ct : Value} {od an : Option Addr} {osl : Array (Option Value)} (a : PySem.W.nsIn K mainGlobals x = some (some (.ref f)))
    (l : K.lookup f = some ⟨oc, od, .func (PySem.W.fnOf x x (defArgs st) (defBody st) (defScope st) .none kV doc pm an cdv ct), osl⟩) (c : PySem.W.codeIn K cdv x = true) (k : PySem.W.keepIn K (.ref f) = true) : DefK K x st := ⟨f, oc, kV, doc, pm, cdv, ct, od, an, osl, a, l, c, k⟩
theorem DefK.use {K : PySem.W.Frag} {x : Str} {st : Stmt} {h : Heap} {mg : Str → Option Value} (d : DefK K x st) (X : K.In h) (G : h.Ns mainGlobals mg) : ∃ (f : Addr) (fd : FuncData), Fun K x x st f fd ∧ mg x = some (.ref f) ∧ PySem.W.keepIn K (.ref f) = true ∧ fd.defaults = .none := by
  obtain ⟨f, oc, kV, doc, pm, cdv, ct, od, an, osl, a, l, c, k⟩ := d.ex
  exact ⟨f, _, fun_mk l c k, PySem.W.mg_of X G a, k, rfl⟩
end VL
set_option Elab.async false
set_option linter.all false
set_option maxRecDepth 100000
set_option maxHeartbeats 4000000
namespace VL
open PySem PySem.Spec PyProof.Rows L2 HT
/-! ### an owned list is changed by a method -/
@[simp] def sMut (i : Nat) (g : List PyData → List D → (D → List PyData → Prop) → Prop) (ta : VA) : VS := fun ρ De => ∃ p, ρ[i]? = some (.own (.py (.list p))) ∧ ta ρ (fun ds => g p ds fun _ q => De.nx (ρ.set i (.own (.py (.list q))))) (De.ex ρ)
section
variable {X : Cx} {b : Bg} {W : WX} {o e : Expr} {es : List Expr} {ta : VA} {i : Nat} {name : Str} {id : String} {apos cpos pos : Pos} {r : V → List V → Hp → VK → Prop} {g : List PyData → List D → (D → List PyData → Prop) → Prop}
/-- append -/
@[simp] def gApp : List PyData → List D → (D → List PyData → Prop) → Prop
  | p, [.py x], Q => p.length < sizeLine ∧ Q (.py .none) (p ++ [x])
  | _, _, _ => False
end
end VL
set_option Elab.async false
set_option linter.all false
set_option maxRecDepth 100000
set_option maxHeartbeats 4000000
namespace VL
open PySem PySem.Spec PyProof.Rows L2 HT
/-! ### dicts with keys int or text: read, get, put -/
def keyOf : PyData → Option Key
  | .int i => some (.inl i)
  | .str x => some (.inr x)
  | _ => none
@[simp] theorem keyOf_kD (k : Key) : keyOf (kD k) = some k := by cases k <;> rfl
def getD (ds : List (PyData × PyData)) (k : Key) : Option PyData := (ds.find? fun p => decide (keyOf p.1 = some k)).map (·.2)
def putD (ds : List (PyData × PyData)) (k : Key) (x : PyData) : List (PyData × PyData) :=
  if (ds.any fun p => decide (keyOf p.1 = some k)) = true then ds.map (fun p => if keyOf p.1 = some k then (p.1, x) else p) else ds ++ [(kD k, x)]
end VL
set_option Elab.async false
set_option linter.all false
set_option maxRecDepth 100000
set_option maxHeartbeats 4000000
namespace VL
open PySem PySem.Spec PyProof.Rows L2 HT
@[simp] def vDGet2 (td ty tx : VT) : VT := fun ρ Q E => td ρ (fun d => ∃ ds, d = .py (.dict ds) ∧ ty ρ (fun y => ∃ k kk, y = .py k ∧ keyOf k = some kk ∧ tx ρ (fun z => ∃ p, z = .py p ∧ Q (.py ((getD ds kk).getD p))) E) E) E
@[simp] def vDGet1 (td ty : VT) : VT := fun ρ Q E => td ρ (fun d => ∃ ds, d = .py (.dict ds) ∧ ty ρ (fun y => ∃ k kk, y = .py k ∧ keyOf k = some kk ∧ Q (.py ((getD ds kk).getD .none))) E) E
@[simp] def vDIx (td ty : VT) : VT := fun ρ Q E => td ρ (fun d => ∃ ds, d = .py (.dict ds) ∧ ty ρ (fun y => ∃ k kk x, y = .py k ∧ keyOf k = some kk ∧ getD ds kk = some x ∧ Q (.py x)) E) E
section
variable {X : Cx} {b : Bg} {W : WX} {o e f : Expr} {td ty tx : VT} {apos cpos pos pos' : Pos} {i : Nat}
/-- d[k] = x for an owned dict -/
@[simp] def sDPutO (i : Nat) (ty tv : VT) : VS := fun ρ De => ∃ ds, ρ[i]? = some (.own (.py (.dict ds))) ∧ tv ρ (fun x => ∃ p, x = .py p ∧ ty ρ (fun y => ∃ k kk, y = .py k ∧ keyOf k = some kk ∧ ds.length < sizeLine ∧ De.nx (ρ.set i (.own (.py (.dict (putD ds kk p)))))) (De.ex ρ)) (De.ex ρ)
end
end VL
set_option Elab.async false
set_option linter.all false
set_option maxRecDepth 100000
set_option maxHeartbeats 4000000
namespace VL
open PySem PySem.Spec PyProof.Rows L2 HT
end VL
set_option Elab.async false
set_option linter.all false
set_option maxRecDepth 100000
set_option maxHeartbeats 4000000
namespace VL
open PySem PySem.Spec PyProof.Rows L2 HT
/-! ### typed data -/
def pN (n : Nat) : PyData := .int (n : Int)
def oN : Option Nat → PyData
  | none => .none
  | some n => .int (n : Int)
@[simp] def tI (gs : List Int) : PyData := .tuple (gs.map PyData.int)
@[simp] def tN (ns : List Nat) : PyData := .tuple (ns.map pN)
theorem map_inj {α β : Type} {f : α → β} (h : ∀ a b, f a = f b → a = b) : ∀ {xs ys : List α}, xs.map f = ys.map f ↔ xs = ys
  | [], [] => ⟨fun _ => rfl, fun _ => rfl⟩
  | [], _ :: _ => by simp
  | _ :: _, [] => by simp
  | x :: xs, y :: ys => by
    rw [List.map_cons, List.map_cons, List.cons.injEq, List.cons.injEq, map_inj h]
    exact ⟨fun ⟨a, b⟩ => ⟨h _ _ a, b⟩, fun ⟨a, b⟩ => ⟨by rw [a], b⟩⟩
theorem pN_inj (a b : Nat) (e : pN a = pN b) : a = b := by unfold pN at e; injection e with e; omega
@[simp] theorem pN_eq {a b : Nat} : pN a = pN b ↔ a = b := ⟨pN_inj a b, fun e => by rw [e]⟩
@[simp] theorem mapI_inj {xs ys : List Int} : xs.map PyData.int = ys.map PyData.int ↔ xs = ys := map_inj fun a b e => by injection e
@[simp] theorem mapN_inj {xs ys : List Nat} : xs.map pN = ys.map pN ↔ xs = ys := map_inj pN_inj
@[simp] theorem oN_inj {a b : Option Nat} : oN a = oN b ↔ a = b := by
  cases a <;> cases b <;> simp [oN]
  omega
end VL
namespace VL
open PySem PySem.Spec PyProof.Rows L2 HT
@[simp] theorem getD_nil (k : Key) : getD [] k = none := rfl
end VL
set_option Elab.async false
set_option linter.all false
set_option maxRecDepth 100000
set_option maxHeartbeats 4000000
namespace VL
open PySem PySem.Spec PyProof.Rows L2
/-! ### data that is shown in few signs -/
structure Sw (w d : Nat) (p : PyData) : Prop where
  sh : p.showable = true
  ls : p.leavesShort 60 = true
  wt : p.weight ≤ w
  dp : p.depth ≤ d
theorem Sw.len {w d : Nat} {p : PyData} (h : Sw w d p) : p.shown.length ≤ 62 * w + 60 := by
  have := PyData.shown_le 60 (by omega) p h.ls
  have := h.wt
  omega
theorem Sw.repr {w d : Nat} {p : PyData} (h : Sw w d p) (hw : w ≤ 260000 := by decide) (hd : d ≤ 40 := by decide) : ReprOk p := ⟨h.sh, by have := h.len; rw [szl]; omega, Nat.le_trans h.dp hd⟩
theorem Sw.all {w d : Nat} : ∀ {ps : List PyData}, (∀ p ∈ ps, Sw w d p) → PyData.showableAll ps = true ∧ PyData.leavesShortAll 60 ps = true ∧ PyData.weightAll ps ≤ (w + 1) * ps.length ∧ PyData.depthAll ps ≤ d
  | [], _ => ⟨rfl, rfl, Nat.zero_le _, Nat.zero_le _⟩
  | p :: ps, h => by
    have hp := h p List.mem_cons_self
    obtain ⟨a, b, c, e⟩ := Sw.all (ps := ps) fun q hq => h q (List.mem_cons_of_mem _ hq)
    refine ⟨by simp only [PyData.showableAll, hp.sh, a, Bool.and_self], by simp only [PyData.leavesShortAll, hp.ls, b, Bool.and_self], ?_, ?_⟩
    · have := hp.wt
      rw [List.length_cons, Nat.mul_add]
      simp only [PyData.weightAll]
      omega
    · have := hp.dp
      simp only [PyData.depthAll]
      omega
theorem Sw.tup {w d n : Nat} {ps : List PyData} (h : ∀ p ∈ ps, Sw w d p) (hn : ps.length ≤ n) : Sw ((w + 1) * n) (d + 1) (.tuple ps) := by
  obtain ⟨a, b, c, e⟩ := Sw.all h
  have m : (w + 1) * ps.length ≤ (w + 1) * n := Nat.mul_le_mul_left _ hn
  exact ⟨by simpa only [PyData.showable] using a, by simpa only [PyData.leavesShort] using b, by simp only [PyData.weight]; omega, by simp only [PyData.depth]; omega⟩
theorem Sw.lst {w d n : Nat} {ps : List PyData} (h : ∀ p ∈ ps, Sw w d p) (hn : ps.length ≤ n) : Sw ((w + 1) * n) (d + 1) (.list ps) := by
  obtain ⟨a, b, c, e⟩ := Sw.all h
  have m : (w + 1) * ps.length ≤ (w + 1) * n := Nat.mul_le_mul_left _ hn
  exact ⟨by simpa only [PyData.showable] using a, by simpa only [PyData.leavesShort] using b, by simp only [PyData.weight]; omega, by simp only [PyData.depth]; omega⟩
instance (w d : Nat) (p : PyData) : Decidable (Sw w d p) := decidable_of_iff (p.showable = true ∧ p.leavesShort 60 = true ∧ p.weight ≤ w ∧ p.depth ≤ d) ⟨fun ⟨a, b, c, e⟩ => ⟨a, b, c, e⟩, fun ⟨a, b, c, e⟩ => ⟨a, b, c, e⟩⟩
end VL
set_option Elab.async false
set_option linter.all false
set_option maxRecDepth 100000
set_option maxHeartbeats 4000000
namespace VL
open PySem PySem.Spec PyProof.Rows L2 HT
/-! ### comprehensions and loops over encoded lists -/
section
variable {g : VTg} {tt : VB} {te : VT} {ρ : VEnv} {Q : D → Prop} {α : Type}
theorem lc_enc (enc : α → PyData) (f : α → Option PyData) : ∀ {L : List α} {acc : List PyData}, (∀ (i : Nat) (x : α), L[i]? = some x → ∀ k, k (f x) → lcStep g tt te (.py (enc x)) ρ k) → acc.length + L.length < 16777216 → Q (.py (.list (acc ++ L.filterMap f))) → lcGo g tt te Q ((L.map enc).map D.py) acc ρ
  | [], acc, _, _, q => by simpa using q
  | x :: xs, acc, h, hl, q => by
    refine lcGo_cons (h 0 x rfl _ ?_)
    have hr : ∀ (i : Nat) (y : α), xs[i]? = some y → ∀ k, k (f y) → lcStep g tt te (.py (enc y)) ρ k := fun i y hy => h (i + 1) y (by simpa using hy)
    rw [List.length_cons] at hl
    rw [List.filterMap_cons] at q
    cases e : f x with
    | none => rw [e] at q; exact lc_enc enc f hr (by omega) q
    | some p =>
      rw [e] at q
      refine ⟨by rw [szl]; omega, lc_enc enc f hr (by rw [List.length_append, List.length_singleton]; omega) ?_⟩
      rw [List.append_assoc]
      exact q
theorem filterMap_if (p : α → Bool) (e : α → PyData) : ∀ L : List α, L.filterMap (fun x => if p x = true then some (e x) else none) = (L.filter p).map e
  | [] => rfl
  | x :: xs => by
    rw [List.filterMap_cons, filterMap_if p e xs, List.filter_cons]
    cases p x <;> simp
theorem lc_encF (enc : α → PyData) (p : α → Bool) (e : α → PyData) {L : List α} (h : ∀ (i : Nat) (x : α), L[i]? = some x → ∀ k, (p x = true → k (some (e x))) → (p x = false → k none) → lcStep g tt te (.py (enc x)) ρ k)
    (hl : L.length < 16777216) (q : Q (.py (.list ((L.filter p).map e)))) : lcGo g tt te Q ((L.map enc).map D.py) [] ρ := by
  refine lc_enc enc (fun x => if p x = true then some (e x) else none) (fun i x hx k hk => h i x hx k (fun c => by simpa [c] using hk) (fun c => by simpa [c] using hk)) (by simpa using hl) ?_
  rw [filterMap_if, List.nil_append]
  exact q
/-- .. each item with R -/
theorem lc_encR (enc : α → PyData) {β : Type} (e : β → PyData) (R : α → β → Prop) : ∀ {L : List α} {acc : List PyData}, (∀ (i : Nat) (x : α), L[i]? = some x → ∀ k, (∀ y, R x y → k (some (e y))) → lcStep g tt te (.py (enc x)) ρ k)
    → acc.length + L.length < 16777216 → (∀ ys : List β, ys.length = L.length → (∀ (i : Nat) (x : α) (y : β), L[i]? = some x → ys[i]? = some y → R x y) → Q (.py (.list (acc ++ ys.map e)))) → lcGo g tt te Q ((L.map enc).map D.py) acc ρ
  | [], acc, _, _, q => by simpa using q [] rfl (fun i x y h => by simp at h)
  | x :: xs, acc, h, hl, q => by
    refine lcGo_cons (h 0 x rfl _ fun y hy => ?_)
    rw [List.length_cons] at hl
    refine ⟨by rw [szl]; omega, lc_encR enc e R (fun i z hz => h (i + 1) z (by simpa using hz)) (by rw [List.length_append, List.length_singleton]; omega) fun ys hl hr => ?_⟩
    rw [List.append_assoc]
    refine q (y :: ys) (by simp [hl]) fun i a b ha hb => ?_
    cases i with
    | zero => simp at ha hb; subst ha hb; exact hy
    | succ i => exact hr i a b (by simpa using ha) (by simpa using hb)
end
def encR (lo : Int) (k : Nat) : PyData := .int (lo + (k : Nat))
theorem rangeP_eq (lo : Int) (n : Nat) : rangeP lo n = (List.range n).map (encR lo) := rfl
@[simp] theorem encR0 (k : Nat) : encR 0 k = .int (k : Int) := by unfold encR; rw [Int.zero_add]
def encE {α : Type} (enc : α → PyData) (p : α × Nat) : PyData := .tuple [.int (p.2 : Nat), enc p.1]
@[simp] theorem encE_eq {α : Type} (enc : α → PyData) (x : α) (n : Nat) : encE enc (x, n) = .tuple [.int (n : Nat), enc x] := rfl
theorem zipIdx_at {α : Type} {L : List α} {i : Nat} {p : α × Nat} (h : L.zipIdx[i]? = some p) : ∃ x, L[i]? = some x ∧ p = (x, i) := by
  rw [List.getElem?_zipIdx] at h
  cases e : L[i]? with
  | none => rw [e] at h; cases h
  | some x => rw [e] at h; cases h; exact ⟨x, rfl, by simp⟩
theorem range_get {n i x : Nat} (h : (List.range n)[i]? = some x) : x = i ∧ i < n := by
  have hi : i < n := by have := (List.getElem?_eq_some_iff.mp h).1; simpa using this
  rw [List.getElem?_range hi] at h
  cases h
  exact ⟨rfl, hi⟩
end VL
set_option Elab.async false
set_option linter.all false
set_option maxRecDepth 100000
set_option maxHeartbeats 4000000
namespace VL
open PySem PySem.Spec PyProof.Rows L2 HT
/-! ### methods of values -/
@[simp] def vMth (k : D → Prop) (g : D → List D → (D → Prop) → Prop) (to : VT) (ta : VA) : VT := fun ρ Q E => to ρ (fun d => k d ∧ ta ρ (fun ds => g d ds Q) E) E
/-! ### texts -/
@[simp] def isS : D → Prop
  | .py (.str _) => True
  | _ => False
/-- how often c stands in l: of one sign -/
@[simp] def gTCount : D → List D → (D → Prop) → Prop
  | .py (.str a), [.py (.str b)], Q => Q (.py (.int (Txt.count a b)))
  | _, _, _ => False
@[simp] def gTJoin : D → List D → (D → Prop) → Prop
  | .py (.str a), [.py (.list xs)], Q => ∃ ys, allS xs = some ys ∧ (ys.map (·.length)).sum + ys.length * a.length ≤ 16777216 ∧ Q (.py (.str (Txt.join a ys)))
  | _, _, _ => False
@[simp] def gTUpper : D → List D → (D → Prop) → Prop
  | .py (.str a), [], Q => a.length ≤ 5592405 ∧ Q (.py (.str (Txt.upper a)))
  | _, _, _ => False
@[simp] def gTSplit : D → List D → (D → Prop) → Prop
  | .py (.str a), [.py (.str b)], Q => (b.length == 0) = false ∧ a.length + 2 ≤ 16777216 ∧ Q (.py (.list ((Txt.split a b).map PyData.str)))
  | _, _, _ => False
end VL
set_option Elab.async false
set_option linter.all false
set_option maxRecDepth 100000
set_option maxHeartbeats 4000000
namespace VL
open PySem PySem.Spec PyProof.Rows L2 HT
/-! ### index by plain data -/
/-- the first place of an equal one -/
def ixOf : List PyData → PyData → Option Nat
  | [], _ => none
  | z :: zs, d => if z.eqv d = true then some 0 else (ixOf zs d).map (· + 1)
@[simp] def isSq : D → Prop
  | .py (.list _) => True
  | .py (.tuple _) => True
  | _ => False
@[simp] def gIndex : D → List D → (D → Prop) → Prop
  | .py (.list xs), [.py d], Q => PyData.plainAll xs = true ∧ d.plain = true ∧ (d.depth ≤ 60 ∨ PyData.depthAll xs ≤ 60) ∧ ∃ j, ixOf xs d = some j ∧ Q (.py (.int (j : Nat)))
  | .py (.tuple xs), [.py d], Q => PyData.plainAll xs = true ∧ d.plain = true ∧ (d.depth ≤ 60 ∨ PyData.depthAll xs ≤ 60) ∧ ∃ j, ixOf xs d = some j ∧ Q (.py (.int (j : Nat)))
  | _, _, _ => False
/-- how often: of a text, of a list of ints -/
@[simp] def isCt : D → Prop
  | .py (.str _) => True
  | .py (.list _) => True
  | _ => False
@[simp] def gCount : D → List D → (D → Prop) → Prop
  | .py (.str a), [.py (.str b)], Q => Q (.py (.int (Txt.count a b)))
  | .py (.list xs), [.py (.int k)], Q => ∃ ns, allI xs = some ns ∧ Q (.py (.int (ns.count k : Nat)))
  | _, _, _ => False
end VL
set_option Elab.async false
set_option linter.all false
set_option maxRecDepth 100000
set_option maxHeartbeats 4000000
namespace VL
open PySem PySem.Spec PyProof.Rows L2 HT
/-! ### text * int, text[::-1] -/
def repS (z : Str) (k : Int) : Str := mkS (List.replicate k.toNat (sl z)).flatten
@[simp] theorem sl_mkS (l : List Nat) : sl (mkS l) = l := by simp [mkS, sl]
@[simp] theorem len_mkS (l : List Nat) : (mkS l).length = l.length := by simp [mkS, Str.length]
theorem slen (z : Str) : (sl z).length = z.length := by simp [sl, Str.length]
section
variable {X : Cx} {b : Bg} {W : WX} {e e1 e2 st : Expr} {t t1 t2 : VT} {tl : VO} {p2 pos : Pos}
@[simp] def gBkA : D → (D → Prop) → Prop
  | .py (.list xs), Q => Q (.py (.list xs.reverse))
  | .py (.tuple xs), Q => Q (.py (.tuple xs.reverse))
  | .py (.str z), Q => z.length ≤ 16777216 ∧ Q (.py (.str (mkS (sl z).reverse)))
  | _, _ => False
@[simp] def vBkA (t : VT) (tl : VO) : VT := fun ρ Q E => t ρ (fun x => tl ρ (fun k => k = some (-1) ∧ gBkA x Q) E) E
/-- products, of a text too -/
@[simp] def gMulA : D → D → (D → Prop) → Prop
  | .py (.int i), .py (.int j), Q => CMul i j ∧ Q (.py (.int (i * j)))
  | .py (.list xs), .py (.int k), Q => (-(2 ^ 63) ≤ k ∧ k < 2 ^ 63 ∧ xs.length * k.toNat ≤ sizeLine) ∧ Q (.py (.list (List.replicate k.toNat xs).flatten))
  | .py (.tuple xs), .py (.int k), Q => (xs ≠ [] ∧ 2 ≤ k ∧ k ≤ 1000 ∧ xs.length ≤ 1000) ∧ Q (.py (.tuple (List.replicate k.toNat xs).flatten))
  | .py (.str z), .py (.int k), Q => (-(2 ^ 63) ≤ k ∧ k < 2 ^ 63 ∧ z.length * k.toNat ≤ 16777216) ∧ Q (.py (.str (repS z k)))
  | _, _, _ => False
end
/-! ### name op= value -/
@[simp] def gAugAdd : D → D → (D → Prop) → Prop
  | .py (.int i), .py (.int j), Q => Q (.py (.int (i + j)))
  | .py (.str x), .py (.str y), Q => x.length + y.length ≤ 16777216 ∧ Q (.py (.str (x ++ y)))
  | _, _, _ => False
@[simp] def gAugSub : D → D → (D → Prop) → Prop
  | .py (.int i), .py (.int j), Q => Q (.py (.int (i - j)))
  | _, _, _ => False
@[simp] def sAugA (i : Nat) (g : D → D → (D → Prop) → Prop) (t : VT) : VS := fun ρ De => ∃ d0, ρ[i]? = some (.shr d0) ∧ t ρ (fun d => g d0 d fun z => De.nx (ρ.set i (.shr z))) (De.ex ρ)
section
variable {X : Cx} {b : Bg} {W : WX} {e : Expr} {t : VT} {pos pos' : Pos} {i : Nat} {x : Str}
/-- xs[i] = v, an owned list -/
def setAt (xs : List PyData) (k : Int) (p : PyData) : Option (List PyData) := (ixN xs.length k).map fun j => xs.set j p
@[simp] def sStoL (i : Nat) (ty tv : VT) : VS := fun ρ De => ∃ xs, ρ[i]? = some (.own (.py (.list xs))) ∧ tv ρ (fun v => ∃ p, v = .py p ∧ ty ρ (fun y => ∃ k, y = .py (.int k) ∧ ∃ ys, setAt xs k p = some ys ∧ De.nx (ρ.set i (.own (.py (.list ys))))) (De.ex ρ)) (De.ex ρ)
end
end VL
set_option Elab.async false
set_option linter.all false
set_option maxRecDepth 100000
set_option maxHeartbeats 4000000
namespace VL
open PySem PySem.Spec PyProof.Rows L2 HT TL
/-! ### texts as lists of signs -/
@[simp] theorem mkS_inj {a b : List Nat} : mkS a = mkS b ↔ a = b := ⟨fun e => by have := congrArg sl e; simpa using this, fun e => by rw [e]⟩
@[simp] theorem mkS_app (a b : List Nat) : mkS a ++ mkS b = mkS (a ++ b) := ext_tl (by rw [tl_append])
@[simp] theorem beq_mkS (a b : List Nat) : (mkS a == mkS b) = (a == b) := by
  by_cases h : a = b
  · subst h; simp
  · have h2 : mkS a ≠ mkS b := fun e => h (mkS_inj.mp e)
    rw [beq_eq_false_iff_ne.mpr h2, beq_eq_false_iff_ne.mpr h]
@[simp] theorem repS_mkS (l : List Nat) (k : Int) : repS (mkS l) k = mkS (List.replicate k.toNat l).flatten := rfl
@[simp] theorem cps_mkS (l : List Nat) : (mkS l).cps = l.toArray := rfl
def encC (c : Nat) : PyData := .str (mkS [c])
@[simp] theorem encC_eq (c : Nat) : encC c = .str (mkS [c]) := rfl
@[simp] theorem str_ab (a b : Str) : (PyData.str a = PyData.str b) ↔ a = b := ⟨fun e => by injection e, fun e => by rw [e]⟩
open Builtin.Str in
theorem occ_step (z : Str) (c k lim : Nat) (st : Array Nat × Nat) (h1 : st.2 ≤ k) (h2 : st.1.size < lim) : StrLaws.occBody z ⟨#[c]⟩ z.length lim k st = if (sl z)[k]? = some c then pure (ForInStep.yield (st.1.push k, k + 1)) else pure (ForInStep.yield (st.1, st.2)) := by
  unfold StrLaws.occBody
  have e := StrLaws.subAt_one z c k
  by_cases h : (sl z)[k]? = some c
  · have h' := e.mpr h
    rw [if_pos ⟨⟨⟨h2, h1⟩, h'.1⟩, h'.2⟩, if_pos h]
    rfl
  · rw [if_neg (fun q => h (e.mp ⟨q.1.2, q.2⟩)), if_neg h]
theorem occ_sign (z : Str) (c : Nat) : ∀ (n k free : Nat) (acc : Array Nat), free ≤ k → acc.size ≤ k → k + n = z.length + 1 →
    (forIn (List.range' k n) (acc, free) (StrLaws.occBody z ⟨#[c]⟩ z.length (z.length + 1))).run.fst.toList.length = acc.size + ((sl z).drop k).count c
  | 0, k, free, acc, h1, h2, h3 => by
    have : (sl z).drop k = [] := List.drop_eq_nil_of_le (by rw [slen]; omega)
    rw [this]; simp
  | n + 1, k, free, acc, h1, h2, h3 => by
    rw [List.range'_succ, List.forIn_cons, occ_step z c k _ (acc, free) h1 (by show acc.size < _; omega)]
    by_cases hk : k < z.length
    · have hk' : k < (sl z).length := by rw [slen]; exact hk
      rw [List.drop_eq_getElem_cons hk', List.getElem?_eq_getElem hk']
      by_cases hc : (sl z)[k] = c
      · rw [if_pos (by rw [hc]), hc, List.count_cons_self]
        have := occ_sign z c n (k + 1) (k + 1) (acc.push k) (by omega) (by simp; omega) (by omega)
        rw [Array.size_push] at this
        simp only [pure_bind]
        omega
      · rw [if_neg (by simpa using hc), List.count_cons_of_ne (by simpa using hc)]
        exact occ_sign z c n (k + 1) free acc (by omega) (by omega) (by omega)
    · have e : (sl z).drop k = [] := List.drop_eq_nil_of_le (by rw [slen]; omega)
      rw [if_neg (by rw [List.getElem?_eq_none (by rw [slen]; omega)]; simp), e]
      have := occ_sign z c n (k + 1) free acc (by omega) (by omega) (by omega)
      have e2 : (sl z).drop (k + 1) = [] := List.drop_eq_nil_of_le (by rw [slen]; omega)
      rw [e2] at this
      exact this
theorem count_sign (z : Str) (c : Nat) : Txt.count z (mkS [c]) = ((sl z).count c : Nat) := by
  unfold Txt.count
  rw [StrLaws.occ_eq]
  have := occ_sign z c (z.length + 1 - 0) 0 0 #[] (by omega) (by simp) (by omega)
  simp at this ⊢
  exact_mod_cast this
@[simp] theorem count_mkS (l : List Nat) (c : Nat) : Txt.count (mkS l) (mkS [c]) = (l.count c : Nat) := by rw [count_sign, sl_mkS]
@[simp] theorem atI_zero {α : Type} (x : α) (xs : List α) : atI (x :: xs) 0 = some x := by
  have e : ixN (x :: xs).length 0 = some 0 := by
    unfold ixN
    rw [if_pos (by omega), if_pos (by simp)]; rfl
  unfold atI
  rw [e]; rfl
end VL
set_option Elab.async false
set_option linter.all false
set_option maxRecDepth 100000
set_option maxHeartbeats 4000000
/-! ### isinstance of a caught error that has a dict -/
namespace PySem.W
open PySem PySem.Spec PySem.Calls PyProof.Rows
section
variable {prog : Program} {w : World} {A : Around} {E : Value → Shared → Prop} {s : Shared} {K : Frag} {x D : Addr} {ox : Obj} {od : Option Obj}
theorem findObj_dataA {C : Addr} {name : Str} {a g : Value} (hc : (clsIn K C).isSome = true) (ha : findIn K (.ref C) name = some (some a)) (hg : specialIn K a "__get__" = some (some g)) (ht : takesIn K a = some true) : findObj K C od name = some (.bind g a) := by
  obtain ⟨cd, hc⟩ := Option.isSome_iff_exists.mp hc
  unfold findObj
  rw [hc, Option.bind_some, ha, Option.bind_some]
  simp [hg, ht]
theorem kin_classA {Q : Option Value → Shared → Prop} (hga : findIn K (.ref D) "__getattribute__" = some (some (.builtin "BaseException.__getattribute__"))) (hgt : findIn K (.ref D) "__getattr__" = some none) (hsub : subIn K (.ref D) (.type "BaseException") = some true)
    (hdct : hasDictIn K D = true) (ha : findIn K (.ref D) "__class__" = some (some (.builtin "object.__class__")))
    (hn : specialIn K (.builtin "object.__class__") "__get__" = some (some (.builtin "getset_descriptor.__get__"))) (htk : takesIn K (.builtin "object.__class__") = some true) (hm : mroIn K D (.type "object") = some true)
    (X : K.In s.heap) (I : InstAt s.heap x ox D od) (h : Q (some (.ref D)) { s with toks := s.toks + 1 }) : wpAny (model prog w) A (getAttr? (.ref x) "__class__") Q E s := by
  have hf : findObj K D od "__class__" = some (.bind (.builtin "getset_descriptor.__get__") (.builtin "object.__class__")) := findObj_dataA (by obtain ⟨cd, hc, _⟩ := any_some hdct; rw [hc]; rfl) ha hn htk
  obtain ⟨hp, g, d, t, os⟩ := s
  have L0 := I.type (M := model prog w)
  have L1 := looks_findIn (M := model prog w) X hga
  have L2 := looks_findIn (M := model prog w) X hgt
  have L3 := looks_find (M := model prog w) X I hf
  have sub : Looks (model prog w) hp (isInstance (.ref x) (.type "BaseException")) true := L0.andThen (looks_subIn X hsub)
  have hx0 : (false && onTheHeap (Value.builtin "BaseException.__getattribute__")) = false := rfl
  have hx2 : (Value.builtin "BaseException.__getattribute__" == Value.builtin "object.__getattribute__") = false := by decide +kernel
  have hx1 : (onTheHeap (Value.ref D) && Value.builtin "BaseException.__getattribute__" == Value.builtin "object.__getattribute__") = false := by rw [hx2]; rfl
  unfold getAttr? getAttrBy? getAttrBy
  refine wpAny_bind (wpAny_mkText (wpAny_bind (wpAny_attempt (wpAny_holding (wpAny_bind (L0.at (wpAny_bind (L1.at ?_))))))))
  show wpAny _ _ (if (onTheHeap (Value.ref D) && Value.builtin "BaseException.__getattribute__" == Value.builtin "object.__getattribute__") = true then _ else _) _ _ _
  rw [hx1, if_neg Bool.false_ne_true]
  unfold getAttrByItsOwn hookBefore
  refine wpAny_bind ?_
  rw [if_pos (show onTheHeap (Value.ref D) = true from rfl)]
  refine L2.at ?_
  refine wpAny_bind (wpAny_attempt (wpAny_holding ?_))
  unfold callGetattribute
  rw [hx0, if_neg Bool.false_ne_true]
  unfold boundAndCalled
  rw [PySem.F.excAttr_ValueError.ga.bind (.ref x)]
  refine wpAny_bind (wpAny_pure ?_)
  show wpAny _ _ (call (.builtin "BaseException.__getattribute__") [.ref x, .str "__class__" t]) _ _ _
  refine wpAny_call (codeAny_call_builtin PySem.F.excAttr_ValueError.ga.plain PySem.F.entry_bexc_ga ?_)
  refine @check_slot (model prog w) _ _ ⟨hp, g, d, t + 1, os⟩ "BaseException.__getattribute__" "BaseException" "__getattribute__" (.ref x) [.str "__class__" t] [] _ (by decide +kernel) (by decide +kernel) sub (PySem.F.args_bexc_ga (.ref x) (.str "__class__" t)) ?_
  unfold Builtin.«object.__getattribute__»
  refine wpAny_bind (wpAny_of_eq (a := ((Value.ref x : Value), [Value.str "__class__" t])) (by first | rfl | (simp only [slotArgs]; rfl)) ?_)
  refine wpAny_bind (wpAny_pure (wpAny_bind (L0.at (wpAny_bind (L3.at ?_)))))
  show wpAny _ _ (holding [Value.builtin "object.__class__"] (call (.builtin "getset_descriptor.__get__") [.builtin "object.__class__", .ref x, .ref D]) >>= ret) _ _ _
  refine wpAny_bind (wpAny_holding (wpAny_call (class_get (s := ⟨hp, g, d, t + 1, os⟩) (ox := ox) (od := od) X I hm ?_)))
  refine wpAny_pure ?_
  show wpAny _ _ (handedOut (.ref D)) _ _ _
  rw [handedOut_of (v := .ref D) rfl]
  first
    | exact wpAny_pure (wpAny_pure h)
    | exact wpAny_pure h
    | exact wpAny_pure (wpAny_bind (wpAny_pure (wpAny_pure h)))
theorem kitx_excA (hga : findIn K (.ref D) "__getattribute__" = some (some (.builtin "BaseException.__getattribute__"))) (hgt : findIn K (.ref D) "__getattr__" = some none) (hsub : subIn K (.ref D) (.type "BaseException") = some true) (hdct : hasDictIn K D = true) (ha : findIn K (.ref D) "__class__" = some (some (.builtin "object.__class__")))
    (hn : specialIn K (.builtin "object.__class__") "__get__" = some (some (.builtin "getset_descriptor.__get__"))) (htk : takesIn K (.builtin "object.__class__") = some true) (hm : mroIn K D (.type "object") = some true) :
    KitX K (.ref x) (.ref D) (fun h => ∃ od, InstAt h x ox D od) where
  ty := fun _ _ _ ⟨_, I⟩ => I.type
  it := fun _ _ X _ => by
    obtain ⟨cdD, hcD, _⟩ := any_some hdct
    unfold clsIn at hcD
    split at hcD
    · rename_i c' d' cd' sl' ho
      intro A' Q' E' s' k q
      unfold isType loadHead
      exact wpAny_bind (wpAny_loadPart (k _ _ (X _ _ ho)) (wpAny_pure q))
    · cases hcD
  ne := fun h tp dd its n sl X htp => (handS_kitx_exc (x := x) (ox := ox) hga hgt hsub hdct ha hn htk hm).ne h tp dd its n sl X htp
  ca := fun X ⟨_, I⟩ k => kin_classA hga hgt hsub hdct ha hn htk hm X I k
end
end PySem.W
namespace VL
open PySem PySem.Spec PyProof.Rows L2 HT
/-! ### own errors -/
/-- n is x, or x stands above all errors of the package -/
def errSub (n x : Str) : Bool := n == x || x == "LineError" || x == "ValueError"
/-- what the written part says of an error's class -/
structure ErrC (K : PySem.W.Frag) (C : Addr) : Prop where
  hg : PySem.W.findIn K (.ref C) "__getattribute__" = some (some (.builtin "BaseException.__getattribute__"))
  hk : PySem.W.findIn K (.ref C) "__getattr__" = some none
  hs : PySem.W.subIn K (.ref C) (.type "BaseException") = some true
  hd : PySem.W.hasDictIn K C = true
  ha : PySem.W.findIn K (.ref C) "__class__" = some (some (.builtin "object.__class__"))
  hn : PySem.W.specialIn K (.builtin "object.__class__") "__get__" = some (some (.builtin "getset_descriptor.__get__"))
  ht : PySem.W.takesIn K (.builtin "object.__class__") = some true
  hm : PySem.W.mroIn K C (.type "object") = some true
/-- the classes that a test names: how the errors of the given names answer -/
structure ErrT (K : PySem.W.Frag) (mg : Str → Option Value) (b : Bg) (names : List Str) (x : Str) : Prop where
  ex : ∃ C : Addr, mg x = some (.ref C) ∧ ∀ n ∈ names, PySem.W.exmOne K (.ref (b.cls n)) (.ref C) = some (errSub n x) ∧ PySem.W.kitOne K (.ref (b.cls n)) (.ref C) = some (errSub n x)
/-! ### try: .. except x as n: .. -/
/-- the ends of an except suite: the name is forgotten behind it -/
@[simp] def afterS (i : Nat) (De : VEnds) : VEnds := { nx := fun ρ2 => i < ρ2.length ∧ De.nx (ρ2.set i .un), rt := De.rt, bk := fun ρ2 => i < ρ2.length ∧ De.bk (ρ2.set i .un), ct := fun ρ2 => i < ρ2.length ∧ De.ct (ρ2.set i .un), ex := fun _ _ => False, ro := De.ro }
/-- i: the slot of n; names: the errors that may be met here -/
@[simp] def sTry (i : Nat) (names : List Str) (x : Str) (tb : VS) (ts : Addr → Option Addr → Er → VS) : VS := fun ρ De => i < ρ.length ∧
  tb ρ { De with ex := fun ρ' er => i < ρ'.length ∧ er.n ∈ names ∧ if errSub er.n x = true then ∀ a d, ts a d er (ρ'.set i (.shr (.err a d er.n er.fs))) (afterS i De) else De.ex ρ' er }
end VL
set_option Elab.async false
set_option linter.all false
set_option maxRecDepth 100000
set_option maxHeartbeats 4000000
namespace VL
open PySem PySem.Spec PyProof.Rows L2 HT
abbrev veB : List Value := [.type "ValueError", .type "Exception", .type "BaseException", .type "object"]
/-! ### raise -/
/-- an error without fields can be made -/
structure Mk0 (K : PySem.W.Frag) (mg : Str → Option Value) (b : Bg) (n : Str) : Prop where
  g : mg n = some (.ref (b.cls n))
  q : PySem.W.excIn K (b.cls n) veB "ValueError.__new__" = true
  k : PySem.W.keepIn K (.ref (b.cls n)) = true
  s : PySem.W.subIn K (.ref (b.cls n)) (.type "BaseException") = some true
  t : PySem.W.typeIn K (.ref (b.cls n)) = some (.type "type")
theorem pmk_own0 {X : Cx} {C : Addr} {bmB : List Value} {B newId initId : String} {x : Str} {p pos : Pos} (F : ExcBaseFacts B newId initId bmB) (q : PySem.W.excIn X.K C bmB newId = true) (gC : X.mg x = some (.ref C))
    (kC : PySem.W.keepIn X.K (.ref C) = true) (r : Raises X (.ref C)) (hg : Gl X x) (hdb : (x == ("__debug__" : Str)) = false := by decide) :
    PMk X (.Call (.Name x p) [] [] pos) (fun _ H Q => Q (.ref C) none H) := by
  intro pins s σ H Q I h
  refine wpAny_Call_Name_kw (ld_glob I hg gC (PySem.W.callWith_K0 I.kIn kC ?_) hdb)
  show wpAny _ _ (call (.ref C) []) _ _ _
  obtain ⟨bm, N, nm, qn, bs, hdct, sn, sub, ab, col, dd, k0, k1, k2, k3, k5, mN, hC, hN, hni, T⟩ := exc_obj I.kIn q
  refine wpAny_call_exc_subT F T hC hN hni (fun h' e hm => ?_) (Nat.zero_le _)
  exact mk_of I hm r h (I.hok.gone hm.new)
@[simp] def sRaise0 (n : Str) : VS := fun ρ De => De.ex ρ ⟨n, []⟩
@[simp] def sRaise1 (n f : Str) (t : VT) : VS := fun ρ De => t ρ (fun d => ∃ p, d = .py p ∧ De.ex ρ ⟨n, [(f, p)]⟩) (De.ex ρ)
/-- what an error's own __init__ promises -/
def spInit (K : PySem.W.Frag) (f : Str) : Sp := fun vs H Q _ => ∃ (a C : Addr) (v : V), vs = [.ref a, v] ∧ OexC K C ∧ PySem.W.findIn K (.ref C) f = some none ∧ H a = some (exo a C none) ∧ ∀ dx, H dx = none → dx ≠ a → Q .non (upd (upd H dx (exd dx [(f, v)])) a (exo a C (some dx)))
theorem ok_init {P : Program} {w : World} {K : PySem.W.Frag} {mg : Str → Option Value} {base : Heap} {x qual f prm : Str} {st : Stmt} {fa : Addr} {fd : FuncData} {p1 p2 p3 p4 : Pos} (F : Fun K x qual st fa fd) (Sc : FnScope ["self", prm] ["self", prm] (defScope st))
    (hst : defBody st = [.Assign [.Attribute (.Name "self" p1) f p2] (.Name prm p3) p4]) (h0 : (defScope st).names.lookup ("self" : Str) = some .local) (h1 : (defScope st).names.lookup prm = some .local) (hd : (prm == ("__debug__" : Str)) = false) (hcd : (prm == ("__classdict__" : Str)) = false) :
    FnOk P w K mg base (L2.CX P w) 1 fa fd ["self", prm] (spInit K f) := by
  refine F.okX Sc (fun vs H Q E ⟨a, C, v, e, _⟩ => by rw [e]; rfl) fun cdv A outer s H vs Q E hr h => ?_
  rw [hst]
  refine ⟨_, pss_one (ps_ost (pe_var (i := 0) rfl (.inl h0)) (pe_var (i := 1) rfl (.inl h1) hd hcd)), ?_⟩
  obtain ⟨a, C, v, rfl, T, hno, e, q⟩ := h
  exact ⟨v, rfl, .ref a, rfl, a, C, rfl, T, hno, .inl ⟨e, fun dx hd hne => q dx hd hne⟩⟩
/-- an error with the field f can be made -/
structure Mk1 (P : Program) (w : World) (K : PySem.W.Frag) (mg : Str → Option Value) (base : Heap) (b : Bg) (n f : Str) where
  g : mg n = some (.ref (b.cls n))
  T : OexC K (b.cls n)
  hno : PySem.W.findIn K (.ref (b.cls n)) f = some none
  fI : Addr
  fd : FuncData
  prm : Str
  iC : PySem.W.findIn K (.ref (b.cls n)) "__init__" = some (some (.ref fI))
  tI : PySem.W.typeIn K (.ref fI) = some (.type "function")
  F : FnOk P w K mg base (L2.CX P w) 1 fI fd ["self", prm] (spInit K f)
  bd : Binds K fd ["self", prm] []
end VL
set_option Elab.async false
set_option linter.all false
set_option maxRecDepth 100000
set_option maxHeartbeats 4000000
namespace VL
open PySem PySem.Spec PyProof.Rows L2 HT
/-! ### in an except suite: what is asked of the error -/
/-- the error's field f -/
@[simp] def vErrF (a : Addr) (d : Option Addr) (er : Er) (i : Nat) (nf : List Str) (f : Str) : VT := fun ρ Q _ => ρ[i]? = some (.shr (.err a d er.n er.fs)) ∧ er.n ∈ nf ∧ ∃ p, er.fs.lookup f = some p ∧ Q (.py p)
/-- isinstance(error, x) -/
@[simp] def vErrI (a : Addr) (d : Option Addr) (er : Er) (i : Nat) (names : List Str) (x : Str) : VT := fun ρ Q _ => ρ[i]? = some (.shr (.err a d er.n er.fs)) ∧ er.n ∈ names ∧ Q (.py (.bool (errSub er.n x)))
/-- isinstance(error, (x, ..)) -/
@[simp] def vErrIT (a : Addr) (d : Option Addr) (er : Er) (i : Nat) (names xs : List Str) : VT := fun ρ Q _ => ρ[i]? = some (.shr (.err a d er.n er.fs)) ∧ er.n ∈ names ∧ Q (.py (.bool (xs.any fun x => errSub er.n x)))
/-- what is asked of an error's class so that a field is read -/
structure FldC (K : PySem.W.Frag) (C : Addr) (f : Str) : Prop where
  x : XfC K C
  no : PySem.W.findIn K (.ref C) f = some none
section
variable {X : Cx} {b : Bg} {W : WX} {a : Addr} {oe : Obj} {er : Er} {d : Option Addr} {pn : List (Addr × Obj)} {i : Nat} {names nf xs : List Str} {x f nm : Str} {pos p p1 p2 : Pos} {e e2 : Expr} {es : List Expr}
theorem inst_of {s : Shared} {D : Addr} (ha : s.heap.get? a = some oe) (hc : oe.cls = .ref D) (hd : oe.dict = d) (hdat : ∃ vs, oe.data = .fields vs) (ho : ∀ dd, d = some dd → ∃ o, s.heap.get? dd = some o) : ∃ od, PySem.W.InstAt s.heap a oe D od := by
  obtain ⟨vs, hv⟩ := hdat
  cases d with
  | none => exact ⟨none, ha, hc, by unfold PySem.W.notCls; rw [hv] <;> rfl, by rw [hd]; trivial⟩
  | some dd =>
    obtain ⟨o, e⟩ := ho dd rfl
    exact ⟨some o, ha, hc, by unfold PySem.W.notCls; rw [hv] <;> rfl, by rw [hd]; exact e⟩
theorem xd_at {pins : List (Addr × Obj)} {σ : L2.St} {H : Hp} {s : Shared} (I : Inv X pins σ H s) {dd : Addr} {fs : List (Str × V)} (e : H dd = some (.xd fs)) : ∃ o, s.heap.get? dd = some o := by
  have hx : ObjOk X.prog X.w H s.heap dd (.xd fs) := I.hok dd _ e
  obtain ⟨mA, ⟨o, _, _, ho, _⟩, _⟩ := hx
  exact ⟨o, ho⟩
end
end VL
set_option Elab.async false
set_option linter.all false
set_option maxRecDepth 100000
set_option maxHeartbeats 4000000
namespace VL
open PySem PySem.Spec PyProof.Rows L2 HT
/-! ### the facts of the errors' classes, for the join -/
/-- what every error's class that is raised must say -/
structure RaiB (K : PySem.W.Frag) (C : Addr) (n : Str) : Prop where
  ns : PySem.W.nsIn K mainGlobals n = some (some (.ref C))
  kC : PySem.W.keepIn K (.ref C) = true
  tyC : PySem.W.typeIn K (.ref C) = some (.type "type")
  sf : PySem.W.selfFirst K C = true
  ve : PySem.W.subIn K (.ref C) (.type "ValueError") = some true
  ec : ErrC K C
theorem raiB {K : PySem.W.Frag} {C : Addr} {n : Str} (a1 : PySem.W.nsIn K mainGlobals n = some (some (.ref C))) (a2 : PySem.W.keepIn K (.ref C) = true) (a3 : PySem.W.typeIn K (.ref C) = some (.type "type")) (a4 : PySem.W.selfFirst K C = true)
    (a5 : PySem.W.subIn K (.ref C) (.type "ValueError") = some true)
    (b1 : PySem.W.findIn K (.ref C) "__getattribute__" = some (some (.builtin "BaseException.__getattribute__"))) (b2 : PySem.W.findIn K (.ref C) "__getattr__" = some none) (b3 : PySem.W.subIn K (.ref C) (.type "BaseException") = some true) (b4 : PySem.W.hasDictIn K C = true)
    (b5 : PySem.W.findIn K (.ref C) "__class__" = some (some (.builtin "object.__class__"))) (b6 : PySem.W.specialIn K (.builtin "object.__class__") "__get__" = some (some (.builtin "getset_descriptor.__get__"))) (b7 : PySem.W.takesIn K (.builtin "object.__class__") = some true) (b8 : PySem.W.mroIn K C (.type "object") = some true) : RaiB K C n := ⟨a1, a2, a3, a4, a5, ⟨b1, b2, b3, b4, b5, b6, b7, b8⟩⟩
structure Rai0 (K : PySem.W.Frag) (n : Str) : Prop where
  ex : ∃ C : Addr, RaiB K C n ∧ PySem.W.excIn K C veB "ValueError.__new__" = true
theorem rai0 {K : PySem.W.Frag} {C : Addr} {n : Str} (r : RaiB K C n) (q : PySem.W.excIn K C veB "ValueError.__new__" = true) : Rai0 K n := ⟨C, r, q⟩
structure RaiI (K : PySem.W.Frag) (C : Addr) (n qual f : Str) (st : Stmt) : Prop where
  b : RaiB K C n
  T : OexC K C
  no : PySem.W.findIn K (.ref C) f = some none
  ini : ∃ (fI : Addr) (fd : FuncData), Fun K "__init__" qual st fI fd ∧ PySem.W.findIn K (.ref C) "__init__" = some (some (.ref fI)) ∧ PySem.W.typeIn K (.ref fI) = some (.type "function")
structure Rai1 (K : PySem.W.Frag) (n qual f : Str) (st : Stmt) : Prop where
  ex : ∃ C : Addr, RaiI K C n qual f st
theorem rai1 {K : PySem.W.Frag} {C fI : Addr} {n qual f : Str} {st : Stmt} {oc kV doc pm cdv ct : Value} {od an : Option Addr} {osl : Array (Option Value)} {nm q : Str} {N : Addr} {bs bm : List Value} {sn : List Str} {sub : List Value} {ab : Bool} {col : Option Bool} {dd : Option Addr} {k0 k1 k2 k3 k5 : Option Value} (r : RaiB K C n)
    (c1 : K.lookup C = some (excClassObj nm q C N bs bm true sn sub ab col dd k0 k1 k2 k3 k5 "ValueError.__new__")) (c2 : PySem.HandSPX.refsVE bm = true) (c3 : PySem.W.findIn K (.ref C) "__setattr__" = some (some (.builtin "object.__setattr__"))) (c4 : PySem.W.findIn K (.ref C) f = some none)
    (d1 : PySem.W.findIn K (.ref C) "__init__" = some (some (.ref fI))) (d2 : PySem.W.typeIn K (.ref fI) = some (.type "function")) (d3 : K.lookup fI = some ⟨oc, od, .func (PySem.W.fnOf "__init__" qual (defArgs st) (defBody st) (defScope st) .none kV doc pm an cdv ct), osl⟩) (d4 : PySem.W.codeIn K cdv qual = true) (d5 : PySem.W.keepIn K (.ref fI) = true) : Rai1 K n qual f st :=
  ⟨C, r, ⟨⟨nm, q, N, bs, bm, sn, sub, ab, col, dd, k0, k1, k2, k3, k5, c1, c2⟩, c3, r.ec.hs, r.tyC, r.kC⟩, c4, fI, _, fun_mk d3 d4 d5, d1, d2⟩
/-- a class that is asked for -/
structure TstK (K : PySem.W.Frag) (x : Str) : Prop where
  ex : ∃ C : Addr, PySem.W.nsIn K mainGlobals x = some (some (.ref C)) ∧ PySem.W.isClsIn K C = true ∧ PySem.W.typeIn K (.ref C) = some (.type "type") ∧ PySem.W.subIn K (.ref C) (.type "BaseException") = some true
theorem tstK {K : PySem.W.Frag} {C : Addr} {x : Str} (a1 : PySem.W.nsIn K mainGlobals x = some (some (.ref C))) (a2 : PySem.W.isClsIn K C = true) (a3 : PySem.W.typeIn K (.ref C) = some (.type "type")) (a4 : PySem.W.subIn K (.ref C) (.type "BaseException") = some true) : TstK K x := ⟨C, a1, a2, a3, a4⟩
/-- n beside x -/
structure SubK (K : PySem.W.Frag) (n x : Str) : Prop where
  ex : ∃ C D : Addr, PySem.W.nsIn K mainGlobals n = some (some (.ref C)) ∧ PySem.W.nsIn K mainGlobals x = some (some (.ref D)) ∧ PySem.W.subIn K (.ref C) (.ref D) = some (errSub n x)
theorem subK {K : PySem.W.Frag} {C D : Addr} {n x : Str} {k : Bool} (a1 : PySem.W.nsIn K mainGlobals n = some (some (.ref C))) (a2 : PySem.W.nsIn K mainGlobals x = some (some (.ref D))) (a3 : PySem.W.subIn K (.ref C) (.ref D) = some k) (a4 : errSub n x = k) : SubK K n x := ⟨C, D, a1, a2, by rw [a4]; exact a3⟩
section
variable {K : PySem.W.Frag} {h : Heap} {mg : Str → Option Value} {b : Bg} {n x qual f prm : Str} {C : Addr} {st : Stmt} {names : List Str}
theorem self_sub (sf : PySem.W.selfFirst K C = true) : PySem.W.subIn K (.ref C) (.ref C) = some true := by
  unfold PySem.W.selfFirst at sf
  show PySem.W.mroIn K C (.ref C) = some true
  unfold PySem.W.mroIn
  cases hc : PySem.W.clsIn K C with
  | none => rw [hc] at sf; cases sf
  | some cd =>
    rw [hc] at sf
    have e : cd.mro.head? = some (.ref C) := by simpa using sf
    cases hm : cd.mro with
    | nil => rw [hm] at e; cases e
    | cons v r =>
      rw [hm] at e
      have ev : v = .ref C := by simpa using e
      subst ev
      simp [hm]
theorem kit_of_sub {D : Addr} {k : Bool} (sf : PySem.W.selfFirst K C = true) (hs : PySem.W.subIn K (.ref C) (.ref D) = some k) (hi : PySem.W.isClsIn K D = true) (ht : PySem.W.typeIn K (.ref D) = some (.type "type")) : PySem.W.kitOne K (.ref C) (.ref D) = some k := by
  unfold PySem.W.kitOne
  by_cases e : C = D
  · subst e
    rw [if_pos (by simp)]
    rw [self_sub sf] at hs
    exact hs
  · rw [if_neg (by simpa using e)]
    unfold PySem.W.kitCls
    have h1 : (PySem.W.clsIn K D).isSome = true := hi
    have h2 : (PySem.W.typeIn K (.ref D) == some (.type "type")) = true := by rw [ht]; simp
    simp only [h1, h2, Bool.and_self, if_true]
    exact hs
theorem exm_of_sub {D : Addr} {k : Bool} (hs : PySem.W.subIn K (.ref C) (.ref D) = some k) (hi : PySem.W.isClsIn K D = true) (ht : PySem.W.typeIn K (.ref D) = some (.type "type")) (hb : PySem.W.subIn K (.ref D) (.type "BaseException") = some true) : PySem.W.exmOne K (.ref C) (.ref D) = some k := by
  have e1 : (PySem.W.subIn K (.ref D) (.type "BaseException") == some true) = true := by rw [hb] <;> rfl
  have e2 : ((PySem.W.clsIn K D).isSome && PySem.W.typeIn K (.ref D) == some (.type "type")) = true := by
    have h1 : (PySem.W.clsIn K D).isSome = true := hi
    rw [h1, ht] <;> rfl
  show (if (PySem.W.subIn K (.ref D) (.type "BaseException") == some true) = true then (if ((PySem.W.clsIn K D).isSome && PySem.W.typeIn K (.ref D) == some (.type "type")) = true then PySem.W.subIn K (.ref C) (.ref D) else none) else none) = some k
  rw [if_pos e1, if_pos e2]
  exact hs
theorem errT (X : K.In h) (G : h.Ns mainGlobals mg) (t : TstK K x) (hs : ∀ n ∈ names, SubK K n x ∧ RaiB K (b.cls n) n) : ErrT K mg b names x := by
  obtain ⟨D, h1, h2, h3, h4⟩ := t.ex
  refine ⟨D, PySem.W.mg_of X G h1, fun n hn => ?_⟩
  obtain ⟨⟨C', D', a1, a2, a3⟩, r⟩ := hs n hn
  have e1 : C' = b.cls n := by
    have := a1.symm.trans r.ns
    injection this with this; injection this with this; injection this
  have e2 : D' = D := by
    have := a2.symm.trans h1
    injection this with this; injection this with this; injection this
  rw [e1, e2] at a3
  exact ⟨exm_of_sub a3 h2 h3 h4, kit_of_sub r.sf a3 h2 h3⟩
theorem errV (hs : ∀ n ∈ names, RaiB K (b.cls n) n) : ∀ n ∈ names, PySem.W.kitOne K (.ref (b.cls n)) (.type "ValueError") = some true := fun n hn => by
  have r := hs n hn
  unfold PySem.W.kitOne
  rw [if_neg (by simp)]
  unfold PySem.W.kitCls
  have : PySem.W.kitMeta "ValueError" = true := by decide +kernel
  simp only [this, if_true]
  exact r.ve
theorem RaiB.mk0 (r : RaiB K (b.cls n) n) (q : PySem.W.excIn K (b.cls n) veB "ValueError.__new__" = true) (X : K.In h) (G : h.Ns mainGlobals mg) : Mk0 K mg b n := ⟨PySem.W.mg_of X G r.ns, q, r.kC, r.ec.hs, r.tyC⟩
theorem RaiI.fld (r : RaiI K (b.cls n) n qual f st) : FldC K (b.cls n) f := ⟨⟨r.b.ec.hg, r.b.ec.hk, r.b.ec.hs, r.b.ec.hd⟩, r.no⟩
theorem RaiI.mk1 {P : Program} {w : World} {base : Heap} (r : RaiI K (b.cls n) n qual f st) (X : K.In h) (G : h.Ns mainGlobals mg) (wk : ∀ (fa : Addr) (fd : FuncData), Fun K "__init__" qual st fa fd → FnOk P w K mg base (L2.CX P w) 1 fa fd ["self", prm] (spInit K f))
    (bd : ∀ (kV doc pm : Value) (an : Option Addr) (cdv ct : Value) (us : List Value), us.length = (["self", prm] : List Str).length → bindArgs (PySem.W.fnOf "__init__" qual (defArgs st) (defBody st) (defScope st) .none kV doc pm an cdv ct) ⟨us, []⟩ = pure ((["self", prm] : List Str).zip us)) : Nonempty (Mk1 P w K mg base b n f) := by
  obtain ⟨fI, fd, F, iC, tI⟩ := r.ini
  exact ⟨⟨PySem.W.mg_of X G r.b.ns, r.T, r.no, fI, fd, prm, iC, tI, wk fI fd F, F.binds bd⟩⟩
end
/-- the classes' addresses by their names -/
def clsOf : List (Str × Addr) → Addr → Str → Addr
  | [], fa, _ => fa
  | (m, C) :: r, fa, n => if m = n then C else clsOf r fa n
theorem clsOf_hd {m : Str} {C fa : Addr} {r : List (Str × Addr)} : clsOf ((m, C) :: r) fa m = C := if_pos rfl
theorem clsOf_tl {m n : Str} {C fa : Addr} {r : List (Str × Addr)} (h : (m == n) = false) : clsOf ((m, C) :: r) fa n = clsOf r fa n := if_neg (by simpa using h)
/-- a def within a class -/
def clsDef (s : Stmt) (i : Nat) : Stmt := match s with
  | .ClassDef _ _ _ b _ _ _ _ _ _ _ => b.getD i (.Pass ⟨0, 0, 0, 0⟩)
  | s => s
end VL
set_option Elab.async false
set_option linter.all false
set_option maxRecDepth 100000
set_option maxHeartbeats 2000000
/-! VL38: defs with one star parameter, called plainly. -/
namespace VL
open PySem PySem.Spec PyProof.Rows L2
@[simp] def svStar (S : SV) : SV := fun ds Q E => ∃ ps, pys ds = some ps ∧ ps.length ≤ sizeLine ∧ S [.py (.tuple ps)] Q E
structure CalR (P : Program) (w : World) (K : PySem.W.Frag) (mg : Str → Option Value) (base : Heap) (b : Bg) (k : Nat) (x : Str) (S : SV) where
  f : Addr
  F : FnR P w K mg base (L2.CX P w) k f (spV b S)
  g : mg x = some (.ref f)
  kp : PySem.W.keepIn K (.ref f) = true
end VL
set_option Elab.async false
set_option linter.all false
set_option maxRecDepth 100000
set_option maxHeartbeats 2000000
/-! VL39: list.count of bools -/
namespace VL
open PySem PySem.Spec PyProof.Rows L2
theorem bools_vals : ∀ {us : List Value} {ns : List Bool}, Vals (ns.map V.bl) us → us = ns.map Value.bool
  | [], [], .nil => rfl
  | _, n :: ns, .cons r t => by
    cases r
    rw [List.map_cons, bools_vals t]
@[simp] def isLi : D → Prop
  | .py (.list _) => True
  | _ => False
@[simp] def gCountB : D → List D → (D → Prop) → Prop
  | .py (.list xs), [.py (.bool k)], Q => ∃ ns, allB xs = some ns ∧ Q (.py (.int (ns.count k : Nat)))
  | _, _, _ => False
end VL
set_option Elab.async false
set_option linter.all false
set_option maxRecDepth 100000
set_option maxHeartbeats 4000000
/-! VL40: the law's head for any background; the gear: a list of three numbers that a def draws from -/
namespace VL
open PySem PySem.Spec PyProof.Rows L2
/-! ### the gear -/
end VL
set_option Elab.async false
set_option linter.all false
set_option maxRecDepth 100000
set_option maxHeartbeats 2000000
/-! VL41: isinstance with a pair of classes; a promise that nothing may ask -/
namespace VL
open PySem PySem.Spec PyProof.Rows L2
@[simp] def vIsi2 (T1 T2 : String) (t : VT) : VT := fun ρ Q E => t ρ (fun d => ∃ p, d = .py p ∧ ∃ k1 k2, isK T1 p = some k1 ∧ isK T2 p = some k2 ∧ Q (.py (.bool (k1 || k2)))) E
end VL
set_option Elab.async false
set_option linter.all false
set_option maxRecDepth 100000
set_option maxHeartbeats 4000000
/-! VL42: sorted of lists and tuples of ints -/
namespace VL
open PySem PySem.Spec PyProof.Rows L2
/-! ### over values -/
def sortI (ns : List Int) : List Int := ns.mergeSort (fun a b => decide (a ≤ b))
@[simp] def gSorted : List D → (D → Prop) → Prop
  | [.py (.list xs)], Q => ∃ ns, allI xs = some ns ∧ Q (.py (.list ((sortI ns).map PyData.int)))
  | [.py (.tuple xs)], Q => ∃ ns, allI xs = some ns ∧ Q (.py (.list ((sortI ns).map PyData.int)))
  | _, _ => False
end VL
set_option Elab.async false
set_option linter.all false
set_option maxRecDepth 100000
set_option maxHeartbeats 4000000
/-! VL43: len(set(t)), t a tuple of ints -/
namespace VL
open PySem PySem.Spec PyProof.Rows L2
@[simp] def vLenSet (t : VT) : VT := fun ρ Q E => t ρ (fun d => ∃ xs ns, d = .py (.tuple xs) ∧ allI xs = some ns ∧ ns.length < 1000 ∧ ∀ ks : List Int, ks.Nodup → (∀ j, j ∈ ks ↔ j ∈ ns) → Q (.py (.int (ks.length : Nat)))) E
end VL
set_option Elab.async false
set_option linter.all false
set_option maxRecDepth 100000
set_option maxHeartbeats 4000000
/-! VL44: the jug: a list of a list and two numbers -/
namespace VL
open PySem PySem.Spec PyProof.Rows L2
end VL
set_option Elab.async false
set_option linter.all false
set_option maxRecDepth 100000
set_option maxHeartbeats 4000000
/-! VL45: found.append(left.pop(k)), both lists owned -/
namespace VL
open PySem PySem.Spec PyProof.Rows L2
@[simp] def sPopApp (i j : Nat) (te : VT) : VS := fun ρ De => ∃ xs ys, ρ[i]? = some (.own (.py (.list xs))) ∧ ρ[j]? = some (.own (.py (.list ys))) ∧ i ≠ j ∧ xs.length < sizeLine ∧ ys.length ≤ sizeLine ∧
  te ρ (fun d => ∃ k : Nat, d = .py (.int (k : Nat)) ∧ ∃ p, ys[k]? = some p ∧ De.nx ((ρ.set j (.own (.py (.list (ys.eraseIdx k))))).set i (.own (.py (.list (xs ++ [p])))))) (De.ex ρ)
end VL
set_option Elab.async false
set_option linter.all false
set_option maxRecDepth 100000
set_option maxHeartbeats 4000000
/-! VL46: list(range(n)), tuple(range(n)) -/
namespace VL
open PySem PySem.Spec PyProof.Rows L2
@[simp] def vLstRg (t : VT) : VT := fun ρ Q E => t ρ (fun d => ∃ n : Int, d = .py (.int n) ∧ 0 ≤ n ∧ n ≤ 1000000 ∧ Q (.py (.list (rangeP 0 n.toNat)))) E
@[simp] def vTupRg (t : VT) : VT := fun ρ Q E => t ρ (fun d => ∃ n : Int, d = .py (.int n) ∧ 0 ≤ n ∧ n ≤ 1000000 ∧ Q (.py (.tuple (rangeP 0 n.toNat)))) E
end VL
set_option Elab.async false
set_option linter.all false
set_option maxRecDepth 100000
set_option maxHeartbeats 4000000
/-! VL47: x = left.pop(k), left owned -/
namespace VL
open PySem PySem.Spec PyProof.Rows L2
@[simp] def sPopSet (i j : Nat) (te : VT) : VS := fun ρ De => ∃ ys, ρ[j]? = some (.own (.py (.list ys))) ∧ i ≠ j ∧ i < ρ.length ∧ ys.length ≤ sizeLine ∧
  te ρ (fun d => ∃ k : Nat, d = .py (.int (k : Nat)) ∧ ∃ p, ys[k]? = some p ∧ De.nx ((ρ.set j (.own (.py (.list (ys.eraseIdx k))))).set i (.shr (.py p)))) (De.ex ρ)
end VL
set_option Elab.async false
set_option linter.all false
set_option maxRecDepth 100000
set_option maxHeartbeats 4000000
/-! VL48: xs.insert(i, x), xs owned, i not below 0 -/
namespace VL
open PySem PySem.Spec PyProof.Rows L2
@[simp] def gIns : List PyData → List D → (D → List PyData → Prop) → Prop
  | p, [.py (.int i), .py x], Q => p.length < sizeLine ∧ 0 ≤ i ∧ i < 1000000000 ∧ Q (.py .none) (p.take i.toNat ++ [x] ++ p.drop i.toNat)
  | _, _, _ => False
end VL
set_option Elab.async false
set_option linter.all false
set_option maxRecDepth 100000
set_option maxHeartbeats 4000000
/-! VL49: xs.extend(ys), xs owned, ys a list -/
namespace VL
open PySem PySem.Spec PyProof.Rows L2
@[simp] def gExt : List PyData → List D → (D → List PyData → Prop) → Prop
  | p, [.py (.list z)], Q => p.length + z.length ≤ sizeLine ∧ Q (.py .none) (p ++ z)
  | _, _, _ => False
end VL
set_option Elab.async false
set_option linter.all false
set_option maxRecDepth 100000
set_option maxHeartbeats 4000000
/-! VL50: *e among the items of a display or the arguments of a call -/
namespace VL
open PySem PySem.Spec PyProof.Rows L2 StX
@[simp] def vStar (t : VT) (u : VA) : VA := fun ρ Q E => t ρ (fun d => ∃ xs, (d = .py (.tuple xs) ∨ d = .py (.list xs)) ∧ u ρ (fun ds => Q (xs.map D.py ++ ds)) E) E
end VL
set_option Elab.async false
set_option linter.all false
set_option maxRecDepth 100000
set_option maxHeartbeats 4000000
/-! VL51: sorted of a list of tuples of ints, in the order of tuples -/
namespace VL
open PySem PySem.Spec PyProof.Rows L2
def lexL : List Int → List Int → Bool
  | _, [] => false
  | [], _ :: _ => true
  | x :: xs, y :: ys => if x = y then lexL xs ys else decide (x < y)
/-! ### over values -/
def sortT (L : List (List Int)) : List (List Int) := L.mergeSort fun a b => !lexL b a
@[simp] def gSortedT : List D → (D → Prop) → Prop
  | [.py (.list xs)], Q => ∃ L : List (List Int), xs = L.map tI ∧ (∀ l ∈ L, l ≠ []) ∧ Q (.py (.list ((sortT L).map tI)))
  | _, _ => False
end VL
set_option Elab.async false
set_option linter.all false
set_option maxRecDepth 100000
set_option maxHeartbeats 4000000
/-! VL52: defs that show values (repr within a def): called where nothing is being shown -/
namespace VL
open PySem PySem.Spec PyProof.Rows L2
structure FnL (P : Program) (w : World) (K : PySem.W.Frag) (mg : Str → Option Value) (base : Heap) (k : Nat) (f : Addr) (fd : FuncData) (ps : List Str) (sp : Sp) : Prop where
  len : ∀ vs H Q E, sp vs H Q E → vs.length = ps.length
  g : FnG P w K mg base k f fd ps sp
structure CalG (P : Program) (w : World) (K : PySem.W.Frag) (mg : Str → Option Value) (base : Heap) (b : Bg) (k : Nat) (x : Str) (ps : List Str) (S : SV) where
  f : Addr
  fd : FuncData
  F : FnL P w K mg base k f fd ps (spV b S)
  g : mg x = some (.ref f)
  kp : PySem.W.keepIn K (.ref f) = true
  bd : Binds K fd ps []
end VL
set_option Elab.async false
set_option linter.all false
set_option maxRecDepth 100000
set_option maxHeartbeats 4000000
/-! VL53: is True, is not True of bools -/
namespace VL
open PySem PySem.Spec PyProof.Rows L2
@[simp] def gIsB (neg : Bool) : D → D → (D → Prop) → Prop
  | .py (.bool a), .py (.bool b), Q => Q (.py (.bool (neg ^^ decide (a = b))))
  | _, _, _ => False
end VL
set_option Elab.async false
set_option linter.all false
set_option maxRecDepth 100000
set_option maxHeartbeats 4000000
/-! VL54: list(text) -/
namespace VL
open PySem PySem.Spec PyProof.Rows L2
@[simp] def gListA : List D → (D → Prop) → Prop
  | [.py (.list xs)], Q => Q (.py (.list xs))
  | [.py (.tuple xs)], Q => Q (.py (.list xs))
  | [.py (.str z)], Q => z.length ≤ sizeLine ∧ Q (.py (.list (signsD z)))
  | _, _ => False
end VL
set_option Elab.async false
set_option linter.all false
set_option maxRecDepth 100000
set_option maxHeartbeats 4000000
/-! VL55: () * k -/
namespace VL
open PySem PySem.Spec PyProof.Rows L2
open AutoSeq1 (wpAny_loadPart')
section
variable {X : Cx} {b : Bg} {W : WX} {e1 e2 : Expr} {t1 t2 : VT} {pos : Pos}
/-- .. of a tuple that may be empty -/
@[simp] def gMulT : D → D → (D → Prop) → Prop
  | .py (.tuple xs), .py (.int k), Q => (0 ≤ k ∧ 2 ≤ k ∧ k ≤ 1000 ∧ xs.length ≤ 1000) ∧ Q (.py (.tuple (List.replicate k.toNat xs).flatten))
  | _, _, _ => False
end
end VL
set_option Elab.async false
set_option linter.all false
set_option maxRecDepth 100000
set_option maxHeartbeats 4000000
/-! VL56: a sign in a text -/
namespace VL
open PySem PySem.Spec PyProof.Rows L2 HT
open Builtin.Str in
theorem occ_full (z : Str) (c k lim : Nat) (st : Array Nat × Nat) (h2 : ¬ st.1.size < lim) : StrLaws.occBody z ⟨#[c]⟩ z.length lim k st = pure (ForInStep.yield (st.1, st.2)) := by
  unfold StrLaws.occBody
  rw [if_neg (fun q => h2 q.1.1.1)]
theorem occ_one (z : Str) (c : Nat) : ∀ (n k free : Nat) (acc : Array Nat), free ≤ k → k + n = z.length + 1 →
    (0 < (forIn (List.range' k n) (acc, free) (StrLaws.occBody z ⟨#[c]⟩ z.length 1)).run.fst.size ↔ (0 < acc.size ∨ c ∈ (sl z).drop k))
  | 0, k, free, acc, h1, h3 => by
    have : (sl z).drop k = [] := List.drop_eq_nil_of_le (by rw [slen]; omega)
    rw [this]; simp
  | n + 1, k, free, acc, h1, h3 => by
    rw [List.range'_succ, List.forIn_cons]
    by_cases ha : acc.size < 1
    · rw [occ_step z c k _ (acc, free) h1 (by show acc.size < _; omega)]
      by_cases hk : k < z.length
      · have hk' : k < (sl z).length := by rw [slen]; exact hk
        rw [List.drop_eq_getElem_cons hk', List.getElem?_eq_getElem hk']
        by_cases hc : (sl z)[k] = c
        · rw [if_pos (by rw [hc])]
          have := occ_one z c n (k + 1) (k + 1) (acc.push k) (by omega) (by omega)
          simp only [pure_bind]
          rw [this, Array.size_push]
          simp [hc]
        · rw [if_neg (by simpa using hc)]
          have := occ_one z c n (k + 1) free acc (by omega) (by omega)
          simp only [pure_bind]
          rw [this]
          have hc' : ¬ c = (sl z)[k] := fun e => hc e.symm
          have hm : (c ∈ (sl z)[k] :: (sl z).drop (k + 1)) ↔ c ∈ (sl z).drop (k + 1) := by
            rw [List.mem_cons]; exact ⟨fun h => h.resolve_left hc', .inr⟩
          rw [hm]
      · have e : (sl z).drop k = [] := List.drop_eq_nil_of_le (by rw [slen]; omega)
        rw [if_neg (by rw [List.getElem?_eq_none (by rw [slen]; omega)]; simp), e]
        have := occ_one z c n (k + 1) free acc (by omega) (by omega)
        have e2 : (sl z).drop (k + 1) = [] := List.drop_eq_nil_of_le (by rw [slen]; omega)
        rw [e2] at this
        simp only [pure_bind]
        exact this
    · rw [occ_full z c k 1 (acc, free) ha]
      have := occ_one z c n (k + 1) free acc (by omega) (by omega)
      simp only [pure_bind]
      rw [this]
      have : 0 < acc.size := by omega
      simp [this]
theorem contains_sign (z : Str) (c : Nat) : Txt.contains z (mkS [c]) = decide (c ∈ sl z) := by
  unfold Txt.contains
  have h := occ_one z c (z.length + 1 - 0) 0 0 #[] (by omega) (by omega)
  rw [StrLaws.occ_eq]
  have h' : 0 < (forIn (List.range' 0 (z.length + 1 - 0)) (#[], 0) (StrLaws.occBody z (mkS [c]) z.length 1)).run.fst.size ↔ c ∈ sl z := by
    refine h.trans ?_
    simp
  rw [Bool.eq_iff_iff, decide_eq_true_eq, ← h']
  generalize (forIn (List.range' 0 (z.length + 1 - 0)) (#[], 0) (StrLaws.occBody z (mkS [c]) z.length 1)).run.fst = A
  obtain ⟨A⟩ := A
  cases A <;> simp
@[simp] theorem contains_mkS (l : List Nat) (c : Nat) : Txt.contains (mkS l) (mkS [c]) = decide (c ∈ l) := by rw [contains_sign, sl_mkS]
end VL
set_option Elab.async false
set_option linter.all false
set_option maxRecDepth 100000
set_option maxHeartbeats 4000000
/-! VL57: x or y, where x is a text -/
namespace VL
open PySem PySem.Spec PyProof.Rows L2 HT
variable {X : Cx} {b : Bg} {W : WX} {e1 e2 : Expr} {es : List Expr} {pos : Pos} {t1 t2 : VT}
@[simp] def vOrS (ta tb : VT) : VT := fun ρ Q E => ta ρ (fun x => ∃ z : Str, x = .py (.str z) ∧ z.length ≤ 16777214 ∧ if z.length = 0 then tb ρ Q E else Q (.py (.str z))) E
end VL
set_option Elab.async false
set_option linter.all false
set_option maxRecDepth 100000
set_option maxHeartbeats 4000000
/-! VL58: a background with tables of code objects (for defs that make lambdas) -/
namespace VL
open PySem PySem.Spec PyProof.Rows L2
end VL
set_option Elab.async false
set_option linter.all false
set_option maxRecDepth 100000
set_option maxHeartbeats 4000000
/-! VL59: a lambda without parameters is made; it is called where it was handed to -/
namespace VL
open PySem PySem.Spec PyProof.Rows L2
open LamX (CodeO Tabs TabS TabB LamS lamEnv lamCx)
end VL
set_option Elab.async false
set_option linter.all false
set_option maxRecDepth 100000
set_option maxHeartbeats 4000000
/-! VL60: told(lambda: ..): the def tries what it got and tells the result or the error -/
namespace VL
open PySem PySem.Spec PyProof.Rows L2
open LamX (CodeO Tabs TabS TabB LamS lamEnv lamCx)
/-- what is told of an error -/
def toldE (names : List Str) (th : Addr → Option Addr → Er → VS) (tr : VS) (er : Er) (Q : D → Prop) : Prop := er.n ∈ names ∧ errSub er.n "LineError" = true ∧
  ∀ f a d, th a d er [.shr (.raw f), .own (.py (.list [])), .shr (.err a d er.n er.fs)] (afterS 2 { nx := fun ρ => tr ρ (fin Q noE), rt := Q, bk := fun _ => False, ct := fun _ => False, ex := fun _ _ => False })
@[simp] def vTold (names : List Str) (th : Addr → Option Addr → Er → VS) (tr : VS) (te : VT) : VT := fun ρ Q E => te ρ (fun d => ∃ p, d = .py p ∧ Q (.py (.tuple [.str "result", p]))) (fun er => toldE names th tr er Q)
end VL
set_option Elab.async false
set_option linter.all false
set_option maxRecDepth 100000
set_option maxHeartbeats 4000000
/-! VL61: the law's end with tables of code objects -/
namespace VL
open PySem PySem.Spec PyProof.Rows L2
end VL
set_option Elab.async false
set_option linter.all false
set_option maxRecDepth 100000
set_option maxHeartbeats 4000000
/-! VL62: defs that make lambdas; the def that is given them, as a promise -/
namespace VL
open PySem PySem.Spec PyProof.Rows L2
open LamX (LamS lamEnv lamCx)
/-! ### the code object of a def -/
end VL
set_option Elab.async false
set_option linter.all false
set_option maxRecDepth 100000
set_option maxHeartbeats 4000000
/-! VL63: the law's head where the law makes lambdas; the jug as a background with tables -/
namespace VL
open PySem PySem.Spec PyProof.Rows L2
/-! ### what is never reached -/
@[simp] def vNo : VT := fun _ _ _ => False
@[simp] def sNo : VS := fun _ _ => False
end VL
set_option Elab.async false
set_option linter.all false
set_option maxRecDepth 100000
set_option maxHeartbeats 4000000
/-! VL64: sorted(set(t)), t a tuple of ints -/
namespace VL
open PySem PySem.Spec PyProof.Rows L2
@[simp] def vSortSet (t : VT) : VT := fun ρ Q E => t ρ (fun d => ∃ xs ns, d = .py (.tuple xs) ∧ allI xs = some ns ∧ ns.length < 63 ∧ ∀ ks : List Int, ks.Pairwise (· < ·) → (∀ j, j ∈ ks ↔ j ∈ ns) → Q (.py (.list (ks.map PyData.int)))) E
end VL
set_option Elab.async false
set_option linter.all false
set_option maxRecDepth 100000
set_option maxHeartbeats 4000000
/-! VL65: t * k, k at least 1, of a tuple that is not empty -/
namespace VL
open PySem PySem.Spec PyProof.Rows L2
open AutoSeq1 (wpAny_loadPart')
section
variable {X : Cx} {b : Bg} {W : WX} {e1 e2 : Expr} {t1 t2 : VT} {pos : Pos}
@[simp] def gMulP : D → D → (D → Prop) → Prop
  | .py (.tuple xs), .py (.int k), Q => (xs ≠ [] ∧ 1 ≤ k ∧ k ≤ 1000 ∧ xs.length ≤ 1000) ∧ Q (.py (.tuple (List.replicate k.toNat xs).flatten))
  | _, _, _ => False
end
end VL
set_option Elab.async false
set_option linter.all false
set_option maxRecDepth 100000
set_option maxHeartbeats 4000000
/-! VL66: a caught error handed to a def that asks it -/
namespace VL
open PySem PySem.Spec PyProof.Rows L2
open L2H (PinOk RoomH cxH inv_startH)
abbrev SE := Er → (D → Prop) → Prop
def svE (a : Addr) (d : Option Addr) (er : Er) (S : SE) : SV := fun ds Q _ => ds = [.err a d er.n er.fs] ∧ S er Q
/-- what such a def promises: within a suite, of the error that is handled -/
structure FnE (P : Program) (w : World) (K : PySem.W.Frag) (mg : Str → Option Value) (base : Heap) (b : Bg) (k : Nat) (f : Addr) (fd : FuncData) (ps : List Str) (S : SE) : Prop where
  len : ps.length = 1
  run : ∀ (A : Around) (outer : List Env) (s : Shared) (H : Hp) (args : Args) (Q : VK) (p : Addr × Obj) (d : Option Addr) (er : Er), RoomH k A → A.handled = some (.ref p.1) → (∃ vs : Array Value, p.2.data = .fields vs) → Zc (.ref (b.cls er.n)) d p.2 → PinOk outer H s p →
    Env0 P w K mg base A outer s H → BindsTo s fd args (ps.zip [.ref p.1]) → spV b (svE p.1 d er S) [.ref p.1] H Q (fun _ _ _ => False) → codeAny (model P w) A (.call (.ref f) args) (CR (L2.CX P w) outer P w H s Q (fun _ _ _ => False)) s
/-- a def that asks an error: all that its call wants -/
structure CalE (P : Program) (w : World) (K : PySem.W.Frag) (mg : Str → Option Value) (base : Heap) (b : Bg) (k : Nat) (x : Str) (ps : List Str) (S : SE) where
  f : Addr
  fd : FuncData
  F : FnE P w K mg base b k f fd ps S
  g : mg x = some (.ref f)
  kp : PySem.W.keepIn K (.ref f) = true
  bd : Binds K fd ps []
@[simp] def vCallE (a : Addr) (d : Option Addr) (er : Er) (i : Nat) (S : SE) : VT := fun ρ Q _ => ρ[i]? = some (.shr (.err a d er.n er.fs)) ∧ S er Q
end VL
set_option Elab.async false
set_option linter.all false
set_option maxRecDepth 100000
set_option maxHeartbeats 4000000
/-! VL67: the crank: a list of two numbers and a list -/
namespace VL
open PySem PySem.Spec PyProof.Rows L2
end VL
set_option Elab.async false
set_option linter.all false
set_option maxRecDepth 100000
set_option maxHeartbeats 4000000
/-! VL68: parameters ahead of a star; keyword-only parameters. -/
namespace VL
open PySem PySem.Spec PyProof.Rows L2
/-! ### def f(a, .., *v) -/
@[simp] def svStarN (n : Nat) (S : SV) : SV := fun ds Q E => n ≤ ds.length ∧ ∃ ps, pys (ds.drop n) = some ps ∧ ps.length ≤ sizeLine ∧ S (ds.take n ++ [.py (.tuple ps)]) Q E
/-! ### def f(a, .., *, k=c) -/
structure CalW (P : Program) (w : World) (K : PySem.W.Frag) (mg : Str → Option Value) (base : Heap) (b : Bg) (k : Nat) (x : Str) (ps : List Str) (kn : Str) (dv : PyData) (S : SV) where
  f : Addr
  fd : FuncData
  F : FnOk P w K mg base (L2.CX P w) k f fd (ps ++ [kn]) (spV b S)
  g : mg x = some (.ref f)
  kp : PySem.W.keepIn K (.ref f) = true
  b0 : ∃ v ds, Vals [v] ds ∧ Binds K fd (ps ++ [kn]) ds ∧ ∀ Z H, Rq Z H v dv
  b1 : KBn K fd (ps ++ [kn]) ps.length [kn] (fun us ws => us ++ ws) (fun vs zs => vs ++ zs)
@[simp] def svW (dv : PyData) (S : SV) : SV := fun ds Q E => S (ds ++ [.py dv]) Q E
@[simp] def vCallW (S : SV) (u : VA) (t : VT) : VT := fun ρ Q E => u ρ (fun ds => t ρ (fun d => S (ds ++ [d]) Q E) E) E
end VL
set_option Elab.async false
set_option linter.all false
set_option maxRecDepth 100000
set_option maxHeartbeats 4000000
/-! VL69: text.index(text) -/
namespace VL
open PySem PySem.Spec PyProof.Rows L2
@[simp] def gTIndex : D → List D → (D → Prop) → Prop
  | .py (.str a), [.py (.str b)], Q => ∃ i rest, Builtin.Str.occurrences a b 0 a.length 1 = i :: rest ∧ Q (.py (.int (i : Nat)))
  | _, _, _ => False
/-! ### x is True where x may be None -/
@[simp] def gIsBn : D → D → (D → Prop) → Prop
  | .py (.bool a), .py (.bool b), Q => Q (.py (.bool (decide (a = b))))
  | .py .none, .py (.bool _), Q => Q (.py (.bool false))
  | _, _, _ => False
end VL
set_option Elab.async false
set_option linter.all false
set_option maxRecDepth 100000
set_option maxHeartbeats 4000000
/-! VL70: max, min of a tuple of ints -/
namespace VL
open PySem PySem.Spec PyProof.Rows L2
@[simp] def gMaxT : List D → (D → Prop) → Prop
  | [.py (.tuple xs)], Q => ∃ ns, allI xs = some ns ∧ ns ≠ [] ∧ Q (.py (.int (maxL ns)))
  | _, _ => False
@[simp] def gMinT : List D → (D → Prop) → Prop
  | [.py (.tuple xs)], Q => ∃ ns, allI xs = some ns ∧ ns ≠ [] ∧ Q (.py (.int (minL ns)))
  | _, _ => False
end VL
set_option Elab.async false
set_option linter.all false
set_option maxRecDepth 100000
set_option maxHeartbeats 4000000
/-! VL71: a list comprehension whose items may raise -/
namespace VL
open PySem PySem.Spec PyProof.Rows L2
end VL
namespace VL
open PySem PySem.Spec PyProof.Rows L2
end VL
namespace VL
open PySem PySem.Spec PyProof.Rows L2
end VL
namespace VL
open PySem PySem.Spec PyProof.Rows L2
/-! ### over values -/
@[simp] def lcGoE (g : VTg) (tt : VB) (te : VT) (Q : D → Prop) (E : Er → Prop) : List D → List PyData → VEnv → Prop
  | [], acc, _ => Q (.py (.list acc))
  | d :: ds, acc, ρ => g d ρ fun ρ1 => tt ρ1 (fun k => if k = true then te ρ1 (fun y => ∃ p, y = .py p ∧ acc.length < sizeLine ∧ lcGoE g tt te Q E ds (acc ++ [p]) ρ) E else lcGoE g tt te Q E ds acc ρ) noE
@[simp] def vLcE (vs : List Nat) (ti : VIt) (g : VTg) (tt : VB) (te : VT) : VT := fun ρ Q E => noOwn ρ vs ∧ ti ρ (fun ds => lcGoE g tt te Q E ds [] (wipeE ρ vs)) E
end VL
set_option Elab.async false
set_option linter.all false
set_option maxRecDepth 100000
set_option maxHeartbeats 4000000
/-! VL72: own objects: fields, __init__, methods -/
namespace VL
open PySem PySem.Spec PyProof.Rows L2
/-! ### fields -/
@[simp] def gFld (n f : Str) : D → (D → Prop) → Prop
  | .obj _ m fs, Q => m = n ∧ ∃ p, fs.lookup f = some p ∧ Q (.py p)
  | _, _ => False
/-- the field f is p from now on -/
@[simp] def putFD (f : Str) (p : PyData) : List (Str × PyData) → List (Str × PyData)
  | [] => [(f, p)]
  | (g, x) :: r => if g = f then (g, p) :: r else (g, x) :: putFD f p r
section
variable {X : Cx} {b : Bg} {W : WX} {e o : Expr} {n f : Str} {t : VT} {pos pos' : Pos} {i : Nat}
@[simp] def sFldS (i : Nat) (n f : Str) (t : VT) : VS := fun ρ De => t ρ (fun d => ∃ p a fs, d = .py p ∧ ρ[i]? = some (.own (.obj a n fs)) ∧ fs.length < 1000 ∧ De.nx (ρ.set i (.own (.obj a n (putFD f p fs))))) (De.ex ρ)
end
/-! ### what an __init__ promises -/
abbrev SI := List D → (List (Str × PyData) → Prop) → (Er → Prop) → Prop
def spI (b : Bg) (n : Str) (S : SI) : Sp := fun vs H Q E => ∃ (x dx : Addr) (vs' : List V) (Z : Addr → Prop) (ds : List D) (Qd : List (Str × PyData) → Prop) (Ed : Er → Prop), vs = .ref x :: vs' ∧ H x = some (.ins (b.cls n) dx []) ∧ Gd b Z H ∧ ¬ Z x ∧ Rps b (fun c => Z c ∨ c = x) H vs' ds ∧ S ds Qd Ed ∧
  (∀ H' fs, (∀ a o, H a = some o → ¬ b.B a → a ≠ x → H' a = some o) → b.G H' → Ow b (fun c => Z c ∨ c = x) H' x (.obj x n fs) → Qd fs → Q .non H') ∧
  ∀ c d H' er, (∀ a o, H a = some o → ¬ b.B a → a ≠ x → H' a = some o) → b.G H' → ErRp b Z H' c d er → Ed er → E c d H'
@[simp] def envI (x : Addr) (n : Str) (N : Nat) (ds : List D) : VEnv := .own (.obj x n []) :: envOf (N - 1) ds
@[simp] def finI (x : Addr) (n : Str) (Q : List (Str × PyData) → Prop) (E : Er → Prop) : VEnds := { nx := fun ρ => ∃ fs, ρ[0]? = some (.own (.obj x n fs)) ∧ Q fs, rt := fun _ => False, bk := fun _ => False, ct := fun _ => False, ex := fun _ => E }
/-! ### n(..) -/
structure CalI (P : Program) (w : World) (K : PySem.W.Frag) (mg : Str → Option Value) (base : Heap) (b : Bg) (k : Nat) (n : Str) (ps : List Str) (S : SI) where
  f : Addr
  fd : FuncData
  F : FnOk P w K mg base (L2.CX P w) k f fd ps (spI b n S)
  M : Mk K (b.cls n) f
  g : mg n = some (.ref (b.cls n))
  bd : Binds K fd ps []
structure CalM (P : Program) (w : World) (K : PySem.W.Frag) (mg : Str → Option Value) (base : Heap) (b : Bg) (k : Nat) (n m : Str) (ps : List Str) (S : SV) where
  f : Addr
  fd : FuncData
  F : FnOk P w K mg base (L2.CX P w) k f fd ps (spV b S)
  c : Cls K (b.cls n)
  m : Meth K (b.cls n) m f
  bd : Binds K fd ps []
@[simp] def vMake (n : Str) (S : SI) (u : VA) : VT := fun ρ Q E => u ρ (fun ds => S ds (fun fs => ∀ a, Q (.obj a n fs)) E) E
@[simp] def vMeth (n m : Str) (S : SV) (t : VT) (u : VA) : VT := fun ρ Q E => t ρ (fun d => ∃ a fs, d = .obj a n fs ∧ fs.lookup m = none ∧ u ρ (fun ds => S (d :: ds) Q E) E) E
/-! ### the class's facts, for the join -/
end VL
set_option Elab.async false
set_option linter.all false
set_option maxRecDepth 100000
set_option maxHeartbeats 4000000
/-! VL73: a, b, .. = a list -/
namespace VL
open PySem PySem.Spec PyProof.Rows L2
section
variable {X : Cx} {b : Bg} {pos : Pos}
@[simp] def tgUnl (n : Nat) (u : VTgs) : VTg
  | .py (.list ps), ρ, Q => ps.length = n ∧ u (ps.map D.py) ρ Q
  | _, _, _ => False
end
end VL
set_option Elab.async false
set_option linter.all false
set_option maxRecDepth 100000
set_option maxHeartbeats 4000000
/-! VL74: a dict beside a text -/
namespace PySem
open PySem.Spec PyProof.Rows PySem.SeqAt
open Sem (wp)
end PySem
namespace VL
open PySem PySem.Spec PyProof.Rows L2
section
variable {X : Cx} {b : Bg} {W : WX} {e1 e2 : Expr} {t1 t2 : VT} {pos : Pos}
/-- .. a text on the right; a dict is no text -/
@[simp] def gEqT : D → D → (D → Prop) → Prop
  | .py (.dict _), .py (.str _), Q => Q (.py (.bool false))
  | x, y, Q => gEq x y Q
@[simp] def gNeT : D → D → (D → Prop) → Prop
  | .py (.dict _), .py (.str _), Q => Q (.py (.bool true))
  | x, y, Q => gNe x y Q
end
end VL
set_option Elab.async false
set_option linter.all false
set_option maxRecDepth 100000
set_option maxHeartbeats 4000000
/-! VL75: the cells: a list of a list (that stands still) and two numbers -/
namespace VL
open PySem PySem.Spec PyProof.Rows L2
end VL
set_option Elab.async false
set_option linter.all false
set_option maxRecDepth 100000
set_option maxHeartbeats 4000000
/-! VL76: sorted of a list of texts, any number of them -/
namespace VL
open PySem PySem.Spec PyProof.Rows L2
/-- the order of texts -/
def ltT (a b : Str) : Bool := ltCps a.cps.toList b.cps.toList
def sortSt (L : List Str) : List Str := L.mergeSort fun a b => !ltT b a
@[simp] def gSortedS : List D → (D → Prop) → Prop
  | [.py (.list xs)], Q => ∃ L : List Str, xs = L.map PyData.str ∧ Q (.py (.list ((sortSt L).map PyData.str)))
  | _, _ => False
end VL
set_option Elab.async false
set_option linter.all false
set_option maxRecDepth 100000
set_option maxHeartbeats 4000000
/-! VL77: len(set(l)), l a list of ints -/
namespace VL
open PySem PySem.Spec PyProof.Rows L2
@[simp] def vLenSetL (t : VT) : VT := fun ρ Q E => t ρ (fun d => ∃ xs ns, d = .py (.list xs) ∧ allI xs = some ns ∧ ns.length < 4095 ∧ ∀ ks : List Int, ks.Nodup → (∀ j, j ∈ ks ↔ j ∈ ns) → Q (.py (.int (ks.length : Nat)))) E
end VL
set_option Elab.async false
set_option linter.all false
set_option maxRecDepth 100000
set_option maxHeartbeats 4000000
/-! VL78: list(zip(a, b)), tuple(zip(a, b)) of two lists or of two tuples -/
namespace VL
open PySem PySem.Spec PyProof.Rows L2
/-! ### the walk to its end -/
end VL
set_option Elab.async false
set_option linter.all false
set_option maxRecDepth 100000
set_option maxHeartbeats 4000000
/-! VL79: list(zip(a, b)) over values -/
namespace VL
open PySem PySem.Spec PyProof.Rows L2
/-! ### over values -/
@[simp] def gLstZ : List D → (D → Prop) → Prop
  | [.py (.list xs), .py (.list ys)], Q => xs.length = ys.length ∧ Q (.py (.list (zip2P xs ys)))
  | [.py (.tuple xs), .py (.tuple ys)], Q => xs.length = ys.length ∧ Q (.py (.list (zip2P xs ys)))
  | _, _ => False
end VL
set_option Elab.async false
set_option linter.all false
set_option maxRecDepth 100000
set_option maxHeartbeats 4000000
/-! VL80: a comprehension over a dict that stands still meanwhile -/
namespace VL
open PySem PySem.Spec PyProof.Rows L2
end VL
set_option Elab.async false
set_option linter.all false
set_option maxRecDepth 100000
set_option maxHeartbeats 4000000
/-! VL81: [.. for k, v in d.items()], [.. for k in d], d a shared dict of plain values -/
namespace VL
open PySem PySem.Spec PyProof.Rows L2
@[simp] def leafB : PyData → Bool
  | .list _ => false
  | .tuple _ => false
  | .dict _ => false
  | _ => true
/-- a dict that is locked -/
def dF (ds : List (PyData × PyData)) : Abs where
  R := fun Z H a => ∃ o kvs, H a = some (.frz o (.dK kvs)) ∧ Rqk Z H kvs ds ∧ ∀ p ∈ ds, leafB p.2 = true
  at_ := fun ⟨o, kvs, h, _⟩ => ⟨_, h⟩
  noext := fun ⟨o, kvs, h, _⟩ u hu e => by rw [h] at e; cases e; exact hu
  mono := fun hz hs ha ⟨o, kvs, h, r, l⟩ => ⟨o, kvs, ha _ h, r.mono hz hs, l⟩
def itemsP (ds : List (PyData × PyData)) : List PyData := ds.map fun p => .tuple [p.1, p.2]
@[simp] def iIt (j : Nat) : VIt := fun ρ Q _ => ∃ ds, ρ[j]? = some (.shr (.abs (dF ds))) ∧ Q ((itemsP ds).map D.py)
@[simp] def iKy (j : Nat) : VIt := fun ρ Q _ => ∃ ds, ρ[j]? = some (.shr (.abs (dF ds))) ∧ Q ((ds.map fun p => p.1).map D.py)
section
variable {X : Cx} {b : Bg} {W : WX} {e f : Expr} {j : Nat} {ty : VT} {ap cp tp pos : Pos} {tgs : List Expr} {n0 : Nat} {tg : Expr}
/-- d[k] of the locked dict -/
@[simp] def vDIxF (j : Nat) (ty : VT) : VT := fun ρ Q E => ∃ ds, ρ[j]? = some (.shr (.abs (dF ds))) ∧ ty ρ (fun y => ∃ k kk x, y = .py k ∧ keyOf k = some kk ∧ getD ds kk = some x ∧ Q (.py x)) E
end
end VL
set_option Elab.async false
set_option linter.all false
set_option maxRecDepth 100000
set_option maxHeartbeats 4000000
/-! VL82: a dict is locked while an expression that makes something new is evaluated -/
namespace VL
open PySem PySem.Spec PyProof.Rows L2
@[simp] def flatS : Slot → Slot
  | .shr (.py p) => if leafB p = true then .shr (.py p) else .un
  | .shr (.raw v) => .shr (.raw v)
  | _ => .un
@[simp] def flatE (ds : List (PyData × PyData)) : Nat → VEnv → VEnv
  | _, [] => []
  | 0, _ :: r => .shr (.abs (dF ds)) :: r.map flatS
  | j + 1, s :: r => flatS s :: flatE ds j r
@[simp] def vLock (j : Nat) (t : VT) : VT := fun ρ Q _ => ∃ ds, ρ[j]? = some (.shr (.py (.dict ds))) ∧ (∀ p ∈ ds, leafB p.2 = true) ∧ t (flatE ds j ρ) (fun d => (∃ xs, d = .py (.list xs)) ∧ Q d) noE
end VL
set_option Elab.async false
set_option linter.all false
set_option maxRecDepth 100000
set_option maxHeartbeats 4000000
/-! VL83: two fields set from a pair; a dict of one number; a range that counts down -/
namespace VL
open PySem PySem.Spec PyProof.Rows L2
section
variable {X : Cx} {b : Bg} {W : WX} {e o o2 : Expr} {n f1 f2 : Str} {t : VT} {pos : Pos} {i : Nat}
@[simp] def sFld2 (i : Nat) (n f1 f2 : Str) (t : VT) : VS := fun ρ De => t ρ (fun d => ∃ p1 p2 a fs, d = .py (.tuple [p1, p2]) ∧ ρ[i]? = some (.own (.obj a n fs)) ∧ fs.length + 1 < 1000 ∧ De.nx (ρ.set i (.own (.obj a n (putFD f2 p2 (putFD f1 p1 fs)))))) (De.ex ρ)
end
/-! ### a dict of one number -/
@[simp] def vDI (t : VT) (j : Int) : VT := fun ρ Q E => t ρ (fun d => ∃ i, d = .py (.int i) ∧ Q (.py (.dict [(.int i, .int j)]))) E
/-! ### range(i, j, -1) -/
def rangeD (i : Int) (n : Nat) : List PyData := (List.range n).map fun (k : Nat) => PyData.int (i - k)
@[simp] def asR3 : List D → (List D → Prop) → Prop
  | [.py (.int i), .py (.int j), .py (.int k)], Q => k = -1 ∧ (small62 i ∧ small62 j) ∧ Q ((rangeD i (i - j).toNat).map D.py)
  | _, _ => False
@[simp] def iR3 (t : VA) : VIt := fun ρ Q E => t ρ (fun d => asR3 d Q) E
end VL
set_option Elab.async false
set_option linter.all false
set_option maxRecDepth 100000
set_option maxHeartbeats 4000000
/-! VL84: list(d.values()) -/
namespace VL
open PySem PySem.Spec PyProof.Rows L2
@[simp] def gVals : D → (D → Prop) → Prop
  | .py (.dict ds), Q => Q (.py (.list (ds.map (·.2))))
  | _, _ => False
end VL
set_option Elab.async false
set_option linter.all false
set_option maxRecDepth 100000
set_option maxHeartbeats 4000000
/-! VL85: sorted(d.items()), numbers for keys and values -/
namespace VL
open PySem PySem.Spec PyProof.Rows L2
section
variable {prog : Program} {w : World} {A : Around} {s : Shared} {E : Value → Shared → Prop}
def prV (p : Int × Int) : List Int := [p.1, p.2]
end
/-! ### over values -/
@[simp] def gSrtIt : D → (D → Prop) → Prop
  | .py (.dict ds), Q => ∃ L : List (Int × Int), ds = L.map (fun p => (PyData.int p.1, PyData.int p.2)) ∧ L ≠ [] ∧ Q (.py (.list ((sortT (L.map prV)).map fun l => PyData.tuple (l.map PyData.int))))
  | _, _ => False
end VL
set_option Elab.async false
set_option linter.all false
set_option maxRecDepth 100000
set_option maxHeartbeats 4000000
/-! VL86: list(d.items()), numbers for keys and values -/
namespace VL
open PySem PySem.Spec PyProof.Rows L2
@[simp] def gLstIt : D → (D → Prop) → Prop
  | .py (.dict ds), Q => ∃ L : List (Int × Int), ds = L.map (fun p => (PyData.int p.1, PyData.int p.2)) ∧ Q (.py (.list ((L.map prV).map fun l => PyData.tuple (l.map PyData.int))))
  | _, _ => False
end VL
set_option Elab.async false
set_option linter.all false
set_option maxRecDepth 100000
set_option maxHeartbeats 4000000
/-! VL87: sorted(set(xs)), xs a list of allI0 -/
namespace VL
open PySem PySem.Spec PyProof.Rows L2
@[simp] def vSortSetL (t : VT) : VT := fun ρ Q E => t ρ (fun d => ∃ xs ns, d = .py (.list xs) ∧ allI xs = some ns ∧ ns.length < 63 ∧ ∀ ks : List Int, ks.Pairwise (· < ·) → (∀ j, j ∈ ks ↔ j ∈ ns) → Q (.py (.list (ks.map PyData.int)))) E
end VL
set_option Elab.async false
set_option linter.all false
set_option maxRecDepth 100000
set_option maxHeartbeats 4000000
/-! VL88: x in d, x not in d, d a dict -/
namespace VL
open PySem PySem.Spec PyProof.Rows L2
section
variable {X : Cx} {b : Bg} {W : WX} {e1 e2 : Expr} {t1 t2 : VT} {pos : Pos}
@[simp] def gInDk (neg : Bool) : D → D → (D → Prop) → Prop
  | .py k, .py (.dict ds), Q => ∃ kk, VL.keyOf k = some kk ∧ Q (.py (.bool (neg ^^ (getD ds kk).isSome)))
  | _, _, _ => False
end
end VL
set_option Elab.async false
set_option linter.all false
set_option maxRecDepth 100000
set_option maxHeartbeats 4000000
/-! VL89: a def under another global name -/
namespace VL
open PySem PySem.Spec PyProof.Rows L2
end VL
set_option Elab.async false
set_option linter.all false
set_option maxRecDepth 100000
set_option maxHeartbeats 4000000
/-! VL90: zip of any number of tuples of one length, at the machine's level -/
namespace VL
open PySem PySem.Spec PyProof.Rows L2
end VL
set_option Elab.async false
set_option linter.all false
set_option maxRecDepth 100000
set_option maxHeartbeats 4000000
/-! VL91: zip(e, *e2) as what a comprehension walks -/
namespace VL
open PySem PySem.Spec PyProof.Rows L2
end VL
set_option Elab.async false
set_option linter.all false
set_option maxRecDepth 100000
set_option maxHeartbeats 4000000
/-! VL92: for x in zip(e, *e2), the sources being tuples of one length -/
namespace VL
open PySem PySem.Spec PyProof.Rows L2 StX
section
variable {X : Cx} {b : Bg} {W : WX} {e : Expr} {es : List Expr} {x : Str} {p q pos : Pos}
/-! ### over data -/
def zipNP (m : Nat) (cols : List (List PyData)) : List PyData := (List.range m).map fun i => .tuple (cols.map fun c => c.getD i .none)
@[simp] def asZN (ds : List D) (Q : List D → Prop) : Prop := ∃ (cols : List (List PyData)) (m : Nat), ds = cols.map (fun c => D.py (.tuple c)) ∧ 1 ≤ cols.length ∧ cols.length ≤ 6 ∧ (∀ c ∈ cols, c.length = m) ∧ Q ((zipNP m cols).map D.py)
@[simp] def iZN (t : VA) : VIt := fun ρ Q E => t ρ (fun d => asZN d Q) E
end
end VL
set_option Elab.async false
set_option linter.all false
set_option maxRecDepth 100000
set_option maxHeartbeats 4000000
/-! VL93: list(zip(a, b, c)) of up to six tuples of one length -/
namespace VL
open PySem PySem.Spec PyProof.Rows L2
/-! ### over values -/
@[simp] def gLstZN (ds : List D) (Q : D → Prop) : Prop := ∃ (cols : List (List PyData)) (m : Nat), ds = cols.map (fun c => D.py (.tuple c)) ∧ 1 ≤ cols.length ∧ cols.length ≤ 6 ∧ (∀ c ∈ cols, c.length = m) ∧ Q (.py (.list (zipNP m cols)))
end VL
set_option Elab.async false
set_option linter.all false
set_option maxRecDepth 100000
set_option maxHeartbeats 4000000
/-! VL94: min, max of two texts; a <= b <= c <= d of texts -/
namespace VL
open PySem PySem.Spec PySem.Calls PyProof.Rows L2
@[simp] def gMaxS : List D → (D → Prop) → Prop
  | [.py (.str i), .py (.str j)], Q => Q (.py (.str (if ltT i j then j else i)))
  | _, _ => False
@[simp] def gMinS : List D → (D → Prop) → Prop
  | [.py (.str i), .py (.str j)], Q => Q (.py (.str (if ltT j i then j else i)))
  | _, _ => False
@[simp] def gLeSt : D → D → (D → Prop) → Prop
  | .py (.str i), .py (.str j), Q => Q (.py (.bool (!ltT j i)))
  | _, _, _ => False
/-! ### chains of three comparisons -/
@[simp] def vChain3 (g g' g'' : D → D → (D → Prop) → Prop) (ta tb tc td : VT) : VT := fun ρ Q E => ta ρ (fun x => tb ρ (fun y => g x y fun z => ∃ k, z = .py (.bool k) ∧ if k = true then tc ρ (fun w => g' y w fun z => ∃ k, z = .py (.bool k) ∧ if k = true then td ρ (fun v => g'' w v Q) E else Q (.py (.bool false))) E else Q (.py (.bool false))) E) E
end VL
set_option Elab.async false
set_option linter.all false
set_option maxRecDepth 100000
set_option maxHeartbeats 4000000
/-! VL95: sorted(set(t)), t a tuple of texts, all unlike -/
namespace VL
open PySem PySem.Spec PyProof.Rows L2 PySem.Froz
end VL
set_option Elab.async false
set_option linter.all false
set_option maxRecDepth 100000
set_option maxHeartbeats 4000000
/-! VL96: sorted(set(t)), t a tuple of texts, over values -/
namespace VL
open PySem PySem.Spec PyProof.Rows L2 PySem.Froz
@[simp] def vSortSetX (t : VT) : VT := fun ρ Q E => t ρ (fun d => ∃ ns : List Str, d = .py (.tuple (ns.map PyData.str)) ∧ ns.Nodup ∧ ns.length < 4000 ∧ Q (.py (.list ((sortSt ns).map PyData.str)))) E
end VL
set_option Elab.async false
set_option linter.all false
set_option maxRecDepth 100000
set_option maxHeartbeats 4000000
namespace VL
open PySem PySem.Spec PyProof.Rows L2
/-! ### several targets, some of them items of owned lists -/
section
variable {X : Cx} {b : Bg} {W : WX} {e e1 e2 : Expr} {es : List Expr} {st : Stmt} {t t1 t2 : VT} {u : VA} {pos pos' : Pos} {i : Nat} {x : Str}
/-- an item of an owned list -/
@[simp] def tgSto (i : Nat) (ty : VT) : VTg := fun d ρ Q => ∃ xs, ρ[i]? = some (.own (.py (.list xs))) ∧ ∃ p, d = .py p ∧ ty ρ (fun y => ∃ k, y = .py (.int k) ∧ ∃ ys, setAt xs k p = some ys ∧ Q (ρ.set i (.own (.py (.list ys))))) fun _ => False
/-- t1, t2 = e1, e2 by way of a tuple -/
@[simp] def sParM (n : Nat) (u : VA) (g : VTgs) : VS := fun ρ De => u ρ (fun ds => ds.length = n ∧ g ds ρ De.nx) (De.ex ρ)
/-! ### a list, from an item on, with a step -/
def stepL {α : Type} (xs : List α) (lo st : Int) : List α := (sliceRange (sliceBounds (some lo) none (some st) xs.length).1 (sliceBounds (some lo) none (some st) xs.length).2.1 (sliceBounds (some lo) none (some st) xs.length).2.2).filterMap (xs[·]?)
@[simp] def vStp (t : VT) (tl ts : VO) : VT := fun ρ Q E => t ρ (fun x => tl ρ (fun l => ts ρ (fun k => ∃ xs lo st, x = .py (.list xs) ∧ l = some lo ∧ k = some st ∧ st ≠ 0 ∧ Q (.py (.list (stepL xs lo st)))) E) E) E
end
end VL
set_option Elab.async false
set_option linter.all false
set_option maxRecDepth 100000
set_option maxHeartbeats 4000000
/-! VL98: the stairs of demands: two lists in the fields of an object, changed while it is made -/
namespace VL
open PySem PySem.Spec PyProof.Rows L2
/-! the heap while the object is made -/
end VL
set_option Elab.async false
set_option linter.all false
set_option maxRecDepth 100000
set_option maxHeartbeats 4000000
/-! VL99: sorted of a list of any alike data -/
namespace VL
open PySem PySem.Spec PyProof.Rows L2
/-- the data, sorted -/
def sortD (ds : List PyData) : List PyData := ds.mergeSort (PySem.W.dataLe false id)
@[simp] def gSortedD : List D → (D → Prop) → Prop
  | [.py (.list xs)], Q => PySem.W.AllAlike xs ∧ PySem.W.Sortable xs ∧ (∀ d ∈ xs, d.depth ≤ 40) ∧ Q (.py (.list (sortD xs)))
  | _, _ => False
end VL
set_option Elab.async false
set_option linter.all false
set_option maxRecDepth 100000
set_option maxHeartbeats 4000000
/-! VL100: tuple(zip(a, b)) -/
namespace VL
open PySem PySem.Spec PyProof.Rows L2
/-! ### over values -/
@[simp] def gTupZ : List D → (D → Prop) → Prop
  | [.py (.list xs), .py (.list ys)], Q => xs.length = ys.length ∧ Q (.py (.tuple (zip2P xs ys)))
  | [.py (.tuple xs), .py (.tuple ys)], Q => xs.length = ys.length ∧ Q (.py (.tuple (zip2P xs ys)))
  | _, _ => False
end VL
set_option Elab.async false
set_option linter.all false
set_option maxRecDepth 100000
set_option maxHeartbeats 4000000
/-! VL101: generators: «if» and «for» in a body that yields -/
namespace VL
open PySem PySem.Spec PyProof.Rows L2 GenW
section
variable {prog : Program} {w : World} {A : Around} {R : GenEnd} {Y : Protocol} {n : Nat} {s0 : Shared} {fs : List Frame} {s : Shared} {env : Env}
/-- the end of a turn's body -/
abbrev turns (c' : Code) (f : Flow) : Sem PySem.Fin := match f with
  | .next | .cont => .pure (.again c')
  | .brk => .pure (.done .next)
  | .ret v => .pure (.done (.ret v))
end
section
variable {X : Cx}
/-! ### «if» and «for» that hand out -/
end
end VL
set_option Elab.async false
set_option linter.all false
set_option maxRecDepth 100000
set_option maxHeartbeats 4000000
/-! VL102: readings of a generator's body: the list is what has been handed out -/
namespace VL
open PySem PySem.Spec PyProof.Rows L2 GenW
/-- what is wanted behind a statement: the names' values and what is out -/
structure GEn where
  nx : VEnv → List PyData → Prop
  bk : VEnv → List PyData → Prop
  ct : VEnv → List PyData → Prop
  ex : VEnv → Er → Prop
abbrev VY := VEnv → List PyData → GEn → Prop
section
variable {X : Cx} {b : Bg} {W : WX} {st : Stmt} {rest xs zs body : List Stmt} {t : VS} {g u : VY} {pos yp : Pos}
/-- a statement that hands out nothing -/
@[simp] def yP (t : VS) : VY := fun ρ out De => t ρ { nx := fun ρ' => De.nx ρ' out, rt := fun _ => False, bk := fun ρ' => De.bk ρ' out, ct := fun ρ' => De.ct ρ' out, ex := De.ex }
@[simp] def yNil : VY := fun ρ out De => De.nx ρ out
@[simp] def yThen (g u : VY) : VY := fun ρ out De => g ρ out { De with nx := fun ρ' out' => u ρ' out' De }
@[simp] def yIf (c : VB) (g u : VY) : VY := fun ρ out De => c ρ (fun k => if k = true then g ρ out De else u ρ out De) (De.ex ρ)
@[simp] def yFor (ti : VIt) (tg : VTg) (tb : VY) : VY := fun ρ out De => ti ρ (fun ds => yForGo tg tb ds ρ out De) (De.ex ρ)
where @[simp] yForGo (tg : VTg) (tb : VY) : List D → VEnv → List PyData → GEn → Prop
  | [], ρ, out, De => De.nx ρ out
  | d :: ds, ρ, out, De => tg d ρ fun ρ1 => tb ρ1 out { De with nx := fun ρ2 out2 => yForGo tg tb ds ρ2 out2 De, ct := fun ρ2 out2 => yForGo tg tb ds ρ2 out2 De, bk := De.nx }
@[simp] def yYl (t : VT) : VY := fun ρ out De => out.length < sizeLine ∧ t ρ (fun d => ∃ p, d = .py p ∧ De.nx ρ (out ++ [p])) (De.ex ρ)
end
end VL
set_option Elab.async false
set_option linter.all false
set_option maxRecDepth 100000
set_option maxHeartbeats 4000000
/-! VL103: a generator def's promise, by values; list(g(..)) -/
namespace VL
open PySem PySem.Spec PyProof.Rows L2 GenW
/-- the arguments, what is wanted of all that is handed out, the errors -/
abbrev SY := List D → (List PyData → Prop) → (Er → Prop) → Prop
def spY (b : Bg) (S : SY) : SpG := fun vs H Q E => ∃ Z ds Qd Ed, Gd b Z H ∧ Rps b Z H vs ds ∧ S ds Qd Ed ∧ (∀ ys H' out, Ex b H H' → b.G H' → Rqs Z H' ys out → Qd out → Q ys H') ∧ ∀ c x H' er, Ex b H H' → b.G H' → ErRp b Z H' c x er → Ed er → E c x H'
@[simp] def finY (Q : List PyData → Prop) (E : Er → Prop) : GEn := { nx := fun _ out => Q out, bk := fun _ _ => False, ct := fun _ _ => False, ex := fun _ => E }
/-! ### list(g(..)) -/
structure CalY (P : Program) (w : World) (K : PySem.W.Frag) (mg : Str → Option Value) (base : Heap) (b : Bg) (k : Nat) (x : Str) (ps : List Str) (S : SY) where
  f : Addr
  fd : FuncData
  F : GFn P w K mg base k f fd ps (spY b S)
  g : mg x = some (.ref f)
  kp : PySem.W.keepIn K (.ref f) = true
  bd : Binds K fd ps []
@[simp] def vListY (ns : Str → Prop) (S : SY) (u : VA) : VT := fun ρ Q E => u ρ (fun ds => S ds (fun out => Q (.py (.list out))) fun er => ns er.n ∧ E er) E
end VL
set_option Elab.async false
set_option linter.all false
set_option maxRecDepth 100000
set_option maxHeartbeats 4000000
/-! VL104: a run that is held where the sleeping generators can't be woken wakes none of them: they stay what they are -/
namespace VL
open PySem
open Sem (wp)
end VL
set_option Elab.async false
set_option linter.all false
set_option maxRecDepth 100000
set_option maxHeartbeats 4000000
/-! VL105: a generator that sleeps while its consumer runs any code: contexts, protocol, plain statements, yield -/
namespace VL
open PySem PySem.Spec PyProof.Rows L2 GenW
/-! ### the heap's first objects -/
def pre (n : Nat) (h : Heap) : Heap := ⟨h.objs.extract 0 n, h.life⟩
def cut (n : Nat) (s : Shared) : Shared := { s with heap := pre n s.heap }
/-! ### contexts -/
/-- behind a call that let an exception out; what is pinned stands in the ground -/
def CXP (P : Program) (w : World) (outer : List Env) (H : Hp) (s : Shared) (E : XK) (pn : List (Addr × Obj)) (u : Value) (s' : Shared) : Prop :=
  ∃ (a : Addr) (B : Heap) (H' : Hp) (cls : Value) (d : Option Addr), u = .ref a ∧ HandSPX.FlyingZ B outer a (Zc cls d) s'.heap ∧ HOk P w H' B ∧ UB (frs outer) H H' s.heap B s'.heap ∧ H' a = none ∧ s'.os = s.os ∧ AllBare s'.gens ∧ E cls d H' ∧ ∀ p ∈ pn, B.get? p.1 = some p.2 ∧ H' p.1 = none
/-- what a consumer holds where it wakes the generator: turns that are left, the state, the heap, what is owned -/
abbrev Cons := Nat → Shared → Hp → (Addr → Prop) → List (Addr × Obj) → Prop
/-- one generator: its def, its frame, its object, what its consumer asks -/
structure GD where
  P : Program
  w : World
  K : PySem.W.Frag
  mg : Str → Option Value
  base : Heap
  N : List Str
  qual : Str
  scope : Scope
  f : Addr
  cd : Value
  A : Around
  outer : List Env
  n0 : Addr
  E : Hp → (Addr → Prop) → XK
  pn : List (Addr × Obj)
  b : Bg
  a : Addr
  g : Nat
  T : Nat
  J : Cons
  Yd : Nat → PyData → Prop
  Qd : Nat → Prop
abbrev GD.env (G : GD) : Env := envOfC G.qual G.scope G.n0 G.f G.cd
structure GOk (G : GD) : Prop where
  nocell : ∀ x c, G.env.cells.lookup x = some c → False
  low : ∀ b ∈ frs G.outer, b < G.n0
  pnlow : ∀ p ∈ G.pn, G.n0 ≤ p.1
  gen : ∀ h : Heap, (∀ p ∈ G.pn, h.get? p.1 = some p.2) → h.IsGen G.a G.g
  apn : ∃ o, (G.a, o) ∈ G.pn
  yT : ∀ i d, G.Yd i d → i < G.T
/-- while it sleeps: of what was tracked only what others own may change -/
structure Naps (b : Bg) (H : Hp) (Z : Addr → Prop) (H2 : Hp) (Z2 : Addr → Prop) : Prop where
  g : b.G H2
  zb : ∀ a, b.B a → Z2 a
  dom : ∀ a, Z2 a → H2 a ≠ none
  young : ∀ a, Z2 a → Z a ∨ H a = none
  keep : ∀ a o, H a = some o → ¬ Z a → H2 a = some o
/-- a state in which it may be woken: own: its own records as they stood -/
structure Wakeable (G : GD) (own : List (Addr × Obj)) (H : Hp) (Z : Addr → Prop) (H2 : Hp) (Z2 : Addr → Prop) (xp : List (Addr × Obj)) (s2 : Shared) : Prop where
  nap : Naps G.b H Z H2 Z2
  bare : AllBare s2.gens
  bs : ∀ b o, G.base.get? b = some o → s2.heap.get? b = some o ∧ H2 b = none
  funs : s2.heap.FunFrames G.base G.outer
  frf : ∀ b ∈ frs G.outer, H2 b = none
  hok : HOk G.P G.w H2 s2.heap
  ownk : ∀ p ∈ own, s2.heap.get? p.1 = some p.2 ∧ H2 p.1 = none
  sz : G.n0 ≤ s2.heap.objs.size
  xok : ∀ p ∈ xp, s2.heap.get? p.1 = some p.2 ∧ H2 p.1 = none ∧ p.1 ≠ G.n0 ∧ p.1 ∉ frs G.outer ∧ (∀ v, p.2.data ≠ .cell v) ∧ ∀ p' ∈ own, p.1 ≠ p'.1
section
variable {G : GD} {ip : List (Addr × Obj)} {σ : L2.St} {H H2 H0 : Hp} {Z Z2 Z0 : Addr → Prop} {xp xp2 : List (Addr × Obj)} {s s2 s0 : Shared}
/-- what it hands over where it falls asleep, or ends -/
structure Gives (G : GD) (s₀ : Shared) (H0 : Hp) (xp : List (Addr × Obj)) (H1 : Hp) (s : Shared) : Prop where
  os : s.os = s₀.os
  bare : AllBare s.gens
  un : Un (frs G.outer) [] H0 H1 (pre G.n0 s₀.heap) s.heap
  hok : HOk G.P G.w H1 s.heap
  ex : Ex G.b H0 H1
  g : G.b.G H1
  gen : s.heap.IsGen G.a G.g
  xk : ∀ p ∈ xp, s.heap.get? p.1 = some p.2 ∧ H1 p.1 = none
def OwnP (G : GD) (own : List (Addr × Obj)) (s : Shared) (H1 : Hp) : Prop := (∃ o, (G.a, o) ∈ own) ∧ ∀ p ∈ own, s.heap.get? p.1 = some p.2 ∧ H1 p.1 = none ∧ G.n0 ≤ p.1 ∧ ∀ v, p.2.data ≠ .cell v
end
/-! ### the protocol -/
/-- others' records are none of the generator's own -/
def Dj (xp ip : List (Addr × Obj)) : Prop := ∀ p ∈ xp, ∀ p' ∈ ip, p.1 ≠ p'.1
def GYZ (G : GD) : Protocol := fun m s₀ v s kap => ∃ (H0 : Hp) (Z0 : Addr → Prop) (H1 : Hp) (x : V) (d : PyData) (own xp : List (Addr × Obj)), G.J (m + 1) s₀ H0 Z0 xp ∧ RelV x v ∧ Rq Z0 H1 x d ∧ G.Yd (G.T - (m + 1)) d ∧ Gives G s₀ H0 xp H1 s ∧ OwnP G own s H1 ∧ Dj xp own ∧
  ∀ s2 H2 Z2 xp2, G.J m s2 H2 Z2 xp2 → Wakeable G own H1 Z0 H2 Z2 xp2 s2 → kap (.send .none) s2
def GRZ (G : GD) : GenEnd := fun n s₀ r s => ((r = .ok (.ret .none) ∨ r = .ok .next) ∧ ∃ H0 Z0 H1 xp, G.J n s₀ H0 Z0 xp ∧ Gives G s₀ H0 xp H1 s ∧ G.Qd (G.T - n)) ∨
  ∃ e H0 Z0 xp, r = .error e ∧ G.J n s₀ H0 Z0 xp ∧ CXP G.P G.w G.outer H0 (cut G.n0 s₀) (G.E H0 Z0) (G.pn ++ xp) e s ∧ s.heap.IsGen G.a G.g
/-- where a segment stands: turns, the heap and what was owned where it was woken -/
structure Pt where
  i : Nat
  H0 : Hp
  Z0 : Addr → Prop
  xp : List (Addr × Obj)
structure GZ where
  nx : Pt → L2.St → Hp → Prop
  bk : Pt → L2.St → Hp → Prop
  ct : Pt → L2.St → Hp → Prop
abbrev SegZ (G : GD) (n : Nat) (s₀ : Shared) (c : Code) (t : Sem PySem.Fin) (fs : List Frame) (s : Shared) : Prop := Seg (model G.P G.w) G.A (GRZ G) (GYZ G) n s₀ c t fs s
end VL
set_option Elab.async false
set_option linter.all false
set_option maxRecDepth 100000
set_option maxHeartbeats 4000000
/-! VL106: loops in a generator that sleeps while its consumer runs -/
namespace VL
open PySem PySem.Spec PyProof.Rows L2 GenW
end VL
set_option Elab.async false
set_option linter.all false
set_option maxRecDepth 100000
set_option maxHeartbeats 4000000
/-! VL107: readings of such a generator's body: the number of items that are out -/
namespace VL
open PySem PySem.Spec PyProof.Rows L2 GenW
/-- what is wanted behind a statement, and of each item -/
structure GEz where
  nx : VEnv → Nat → Prop
  bk : VEnv → Nat → Prop
  ct : VEnv → Nat → Prop
  yd : Nat → PyData → Prop
  ex : VEnv → Er → Prop
abbrev VZ := VEnv → Nat → GEz → Prop
abbrev nobody : Addr → Prop := fun _ => False
/-- no name owns anything -/
@[simp] def noOwns : VEnv → Prop
  | [] => True
  | .own _ :: _ => False
  | .un :: r => noOwns r
  | .shr _ :: r => noOwns r
section
variable {G : GD} {st : Stmt} {rest xs zs body : List Stmt} {t : VS} {g u : VZ} {pos yp : Pos}
/-- a statement that hands out nothing -/
@[simp] def zP (t : VS) : VZ := fun ρ i De => t ρ { nx := fun ρ' => De.nx ρ' i, rt := fun _ => False, bk := fun ρ' => De.bk ρ' i, ct := fun ρ' => De.ct ρ' i, ex := De.ex }
@[simp] def zNil : VZ := fun ρ i De => De.nx ρ i
@[simp] def zThen (g u : VZ) : VZ := fun ρ i De => g ρ i { De with nx := fun ρ' i' => u ρ' i' De }
@[simp] def zIf (c : VB) (g u : VZ) : VZ := fun ρ i De => c ρ (fun k => if k = true then g ρ i De else u ρ i De) (De.ex ρ)
/-- an item: plain data; no name owns anything here -/
@[simp] def zYl (t : VT) : VZ := fun ρ i De => noOwns ρ ∧ t ρ (fun d => ∃ p, d = .py p ∧ De.yd i p ∧ De.nx ρ (i + 1)) (De.ex ρ)
@[simp] def zFor (ti : VIt) (tg : VTg) (tb : VZ) : VZ := fun ρ i De => ti ρ (fun ds => zForGo tg tb ds ρ i De) (De.ex ρ)
where @[simp] zForGo (tg : VTg) (tb : VZ) : List D → VEnv → Nat → GEz → Prop
  | [], ρ, i, De => De.nx ρ i
  | d :: ds, ρ, i, De => tg d ρ fun ρ1 => tb ρ1 i { De with nx := fun ρ2 i2 => zForGo tg tb ds ρ2 i2 De, ct := fun ρ2 i2 => zForGo tg tb ds ρ2 i2 De, bk := De.nx }
end
end VL
set_option Elab.async false
set_option linter.all false
set_option maxRecDepth 100000
set_option maxHeartbeats 4000000
/-! VL108: the promise of a generator def whose consumer runs any code -/
namespace VL
open PySem PySem.Spec PyProof.Rows L2 GenW
/-- the arguments; what is asked of each item by its place; of their number; of an error ahead of them -/
abbrev SZ := List D → (Nat → PyData → Prop) → (Nat → Prop) → (Er → Prop) → Prop
@[simp] def finZ (Y : Nat → PyData → Prop) (Q : Nat → Prop) (E : Er → Prop) : GEz := { nx := fun _ i => Q i, bk := fun _ _ => False, ct := fun _ _ => False, yd := Y, ex := fun _ => E }
/-- an error's wish, by where its segment began -/
def EZ (b : Bg) (Ed : Er → Prop) : Hp → (Addr → Prop) → XK := fun H Z c d H' => ∃ er, Ed er ∧ Ex b H H' ∧ b.G H' ∧ ErRp b Z H' c d er
def GD.use (G : GD) (A : Around) (T : Nat) (J : Cons) (Y : Nat → PyData → Prop) (Q : Nat → Prop) (Ed : Er → Prop) : GD := { G with A := A, E := EZ G.b Ed, T := T, J := J, Yd := Y, Qd := Q }
/-- a generator that has not begun -/
structure MadeZ (P : Program) (w : World) (base : Heap) (k : Nat) (outer : List Env) (b : Bg) (S : SZ) (ds : List D) (H : Hp) (Z : Addr → Prop) (s : Shared) (G : GD) (c : Code) (own : List (Addr × Obj)) (s' : Shared) : Prop where
  is : G.P = P ∧ G.w = w ∧ G.base = base ∧ G.outer = outer ∧ G.n0 = s.heap.objs.size ∧ G.b = b
  gen : s'.heap.IsGen G.a G.g
  at_ : s'.gens[G.g]? = some (.fresh c)
  os : s'.os = s.os
  bare : AllBare s'.gens
  keep : ∀ c o, s.heap.get? c = some o → s'.heap.get? c = some o
  ownp : OwnP G own s' H
  run : ∀ (A : Around) (T : Nat) (J : Cons) (Y : Nat → PyData → Prop) (Q : Nat → Prop) (Ed : Er → Prop), Room k A → A.frames = some outer → S ds Y Q Ed → (∀ i d, Y i d → i < T) → GOk (G.use A T J Y Q Ed) ∧
    ∀ s2 H2 Z2 xp2, J T s2 H2 Z2 xp2 → Wakeable (G.use A T J Y Q Ed) own H Z H2 Z2 xp2 s2 → SegZ (G.use A T J Y Q Ed) T s2 c ((model P w).den c) [] s2
structure GFnZ (P : Program) (w : World) (K : PySem.W.Frag) (mg : Str → Option Value) (base : Heap) (b : Bg) (k : Nat) (f : Addr) (fd : FuncData) (ps : List Str) (S : SZ) : Prop where
  len : ∀ ds Y Q E, S ds Y Q E → ds.length = ps.length
  run : ∀ (A : Around) (outer : List Env) (s : Shared) (H : Hp) (Z : Addr → Prop) (args : Args) (us : List Value) (vs : List V) (ds : List D), Room k A → Env0 P w K mg base A outer s H → BindsTo s fd args (ps.zip us) → Vals vs us → Gd b Z H → Rps b Z H vs ds → ds.length = ps.length →
    codeAny (model P w) A (.call (.ref f) args) (fun r s' => ∃ G c own, r = .ok (.ret (.ref G.a)) ∧ MadeZ P w base k outer b S ds H Z s G c own s') s
end VL
set_option Elab.async false
set_option linter.all false
set_option maxRecDepth 100000
set_option maxHeartbeats 4000000
/-! VL109: the consumer's turn: next of such a generator; it sleeps behind it, and stays as it is through any code -/
namespace VL
open PySem PySem.Spec PyProof.Rows L2 GenW
open Sem (wp)
end VL
set_option Elab.async false
set_option linter.all false
set_option maxRecDepth 100000
set_option maxHeartbeats 4000000
/-! VL110: the consumer: what it keeps while it runs, the turn -/
namespace VL
open PySem PySem.Spec PyProof.Rows L2 GenW
section
variable {G : GD} {X : Cx} {pins : List (Addr × Obj)} {σ : L2.St} {H H1 : Hp} {Z Z1 : Addr → Prop} {s : Shared} {own xp : List (Addr × Obj)} {n m : Nat}
def above (n0 : Nat) (h : Heap) : List Addr := (List.range h.objs.size).filter fun b => decide (n0 ≤ b)
end
end VL
set_option Elab.async false
set_option linter.all false
set_option maxRecDepth 100000
set_option maxHeartbeats 4000000
/-! VL111: `for x in g(..)` with any body that lets no exception out -/
namespace VL
open PySem PySem.Spec PyProof.Rows L2 GenW
structure CalZ (P : Program) (w : World) (K : PySem.W.Frag) (mg : Str → Option Value) (base : Heap) (b : Bg) (k : Nat) (x : Str) (ps : List Str) (S : SZ) where
  f : Addr
  fd : FuncData
  F : GFnZ P w K mg base b k f fd ps S
  g : mg x = some (.ref f)
  kp : PySem.W.keepIn K (.ref f) = true
  bd : Binds K fd ps []
section
variable {X : Cx} {b : Bg} {W : WX} {k j : Nat} {x : Str} {ps : List Str} {S : SZ} {e : Expr} {es : List Expr} {u : VA} {p pos pos2 fpos : Pos} {ns : Str → Prop}
variable {pins : List (Addr × Obj)} {σ : L2.St} {H : Hp} {s : Shared} {Zo Z : Addr → Prop} {ρ : VEnv} {Qd : List D → Prop} {Ed : Er → Prop}
@[simp] def sForZ (ns : Str → Prop) (S : SZ) (u : VA) (tv : VTg) (tb : VS) : VS := fun ρ De => u ρ (fun ds =>
  (∃ out : List PyData, S ds (fun i d => out[i]? = some d) (fun i => i = out.length) (fun _ => False) ∧ forGo tv tb (out.map D.py) ρ { De with ex := fun _ _ => False }) ∨ S ds (fun _ _ => False) (fun _ => False) (fun er => ns er.n ∧ De.ex ρ er)) (De.ex ρ)
end
end VL
set_option Elab.async false
set_option linter.all false
set_option maxRecDepth 100000
set_option maxHeartbeats 4000000
/-! VL112: a comprehension over a generator: its block as the consumer -/
namespace VL
open PySem PySem.Spec PyProof.Rows L2 GenW
end VL
set_option Elab.async false
set_option linter.all false
set_option maxRecDepth 100000
set_option maxHeartbeats 8000000
/-! VL113: `[item for x in g(..)]` -/
namespace VL
open PySem PySem.Spec PyProof.Rows L2 GenW
end VL
set_option Elab.async false
set_option linter.all false
set_option maxRecDepth 100000
set_option maxHeartbeats 8000000
/-! VL114: `[item for x in g(..)]` over values -/
namespace VL
open PySem PySem.Spec PyProof.Rows L2 GenW
@[simp] def vLcZ (ns : Str → Prop) (vs : List Nat) (S : SZ) (u : VA) (g : VTg) (tt : VB) (te : VT) : VT := fun ρ Q E => noOwn ρ vs ∧ u ρ (fun ds =>
  (∃ out : List PyData, S ds (fun i d => out[i]? = some d) (fun i => i = out.length) (fun _ => False) ∧ lcGo g tt te Q (out.map D.py) [] (wipeE ρ vs)) ∨ S ds (fun _ _ => False) (fun _ => False) (fun er => ns er.n ∧ E er)) E
end VL
set_option Elab.async false
set_option linter.all false
set_option maxRecDepth 100000
set_option maxHeartbeats 8000000
/-! VL115: `yield from` a list in such a generator -/
namespace VL
open PySem PySem.Spec PyProof.Rows L2 GenW
section
variable {G : GD} {ip : List (Addr × Obj)} {σ : L2.St} {fs : List Frame} {it a : Addr} {vs : List V} {ds : List PyData}
@[simp] def zYf (t : VT) : VZ := fun ρ i De => noOwns ρ ∧ t ρ (fun d => ∃ ds : List PyData, d = .py (.list ds) ∧ (∀ k p, ds[k]? = some p → De.yd (i + k) p) ∧ De.nx ρ (i + ds.length)) (De.ex ρ)
end
end VL
set_option Elab.async false
set_option linter.all false
set_option maxRecDepth 100000
set_option maxHeartbeats 8000000
/-! VL116: list(g(..)) of such a generator -/
namespace VL
open PySem PySem.Spec PyProof.Rows L2 GenW
@[simp] def vListZ (ns : Str → Prop) (S : SZ) (u : VA) : VT := fun ρ Q E => u ρ (fun ds =>
  (∃ out : List PyData, S ds (fun i d => out[i]? = some d) (fun i => i = out.length) (fun _ => False) ∧ out.length ≤ sizeLine ∧ Q (.py (.list out))) ∨ S ds (fun _ _ => False) (fun _ => False) (fun er => ns er.n ∧ E er)) E
end VL
set_option Elab.async false
set_option linter.all false
set_option maxRecDepth 100000
set_option maxHeartbeats 8000000
/-! VL117: generator defs of the text; a keyword-only parameter -/
namespace VL
open PySem PySem.Spec PyProof.Rows L2 GenW
/-- .. with a keyword-only parameter that has a default -/
structure CalZW (P : Program) (w : World) (K : PySem.W.Frag) (mg : Str → Option Value) (base : Heap) (b : Bg) (k : Nat) (x : Str) (ps : List Str) (kn : Str) (dv : PyData) (S : SZ) where
  f : Addr
  fd : FuncData
  F : GFnZ P w K mg base b k f fd (ps ++ [kn]) S
  g : mg x = some (.ref f)
  kp : PySem.W.keepIn K (.ref f) = true
  b0 : ∃ v ds, Vals [v] ds ∧ Binds K fd (ps ++ [kn]) ds ∧ ∀ Z H, Rq Z H v dv
  b1 : KBn K fd (ps ++ [kn]) ps.length [kn] (fun us ws => us ++ ws) (fun vs zs => vs ++ zs)
@[simp] def szW (dv : PyData) (S : SZ) : SZ := fun ds Y Q E => S (ds ++ [.py dv]) Y Q E
section
variable {X : Cx} {b : Bg} {W : WX} {k j : Nat} {x kn : Str} {ps : List Str} {dv : PyData} {S : SZ} {e e2 : Expr} {es : List Expr} {u : VA} {t : VT} {p pos kpos : Pos}
/-- the arguments, then the keyword's -/
@[simp] def vArgK (u : VA) (t : VT) : VA := fun ρ Q E => u ρ (fun ds => t ρ (fun d => Q (ds ++ [d])) E) E
end
end VL
set_option Elab.async false
set_option linter.all false
set_option maxRecDepth 100000
set_option maxHeartbeats 4000000
/-! VL118: range over ints of any size -/
namespace VL
open PySem PySem.Spec PyProof.Rows L2
@[simp] def asRB : List D → (List D → Prop) → Prop
  | [.py (.int i), .py (.int j)], Q => Q ((rangeP i (j - i).toNat).map D.py)
  | _, _ => False
@[simp] def iRB (t : VA) : VIt := fun ρ Q E => t ρ (fun d => asRB d Q) E
end VL
set_option Elab.async false
set_option linter.all false
set_option maxRecDepth 100000
set_option maxHeartbeats 4000000
/-! VL119: a dict of one text and a number -/
namespace VL
open PySem PySem.Spec PyProof.Rows L2
@[simp] def vDS (t : VT) (j : Int) : VT := fun ρ Q E => t ρ (fun d => ∃ z, d = .py (.str z) ∧ Q (.py (.dict [(.str z, .int j)]))) E
end VL
set_option Elab.async false
set_option linter.all false
set_option maxRecDepth 100000
set_option maxHeartbeats 4000000
/-! VL120: a call of an item of a list of defs: [f, g, ..][i](..) -/
namespace VL
open PySem PySem.Spec PyProof.Rows L2
/-- the defs of a list: what each promises -/
structure PickF (X : Cx) (b : Bg) (k : Nat) (fns : List Expr) (Ss : List SV) where
  fs : List Addr
  pa : PA X fns fun _ H Q => Q (fs.map V.ref) H
  len : fs.length = Ss.length
  fn : ∀ (n : Nat) (f : Addr) (S : SV), fs[n]? = some f → Ss[n]? = some S → PySem.W.keepIn X.K (.ref f) = true ∧ ∀ (_ : Room k X.A) (E : L2.St → XK) (_ : ∀ σ, PassesAt (L2.CX X.prog X.w) X σ (E σ)) (pins : List (Addr × Obj)) (σ : L2.St) (H : Hp) (s : Shared) (Q : VK) (us : List Value) (vs : List V),
    Inv X pins σ H s → Vals vs us → spV b S vs H Q (E σ) → wpAny (model X.prog X.w) X.A (call (.ref f) us) (EP X pins σ Q) X.xe s
section
variable {X : Cx} {b : Bg} {W : WX} {k j kx : Nat} {x : Str} {ps : List Str} {S : SV} {e ie : Expr} {es fns : List Expr} {Ss : List SV} {u : VA} {ti : VT} {p pos lp sp : Pos}
@[simp] def vCallIx (Ss : List SV) (ti : VT) (u : VA) : VT := fun ρ Q E => ti ρ (fun d => ∃ n : Nat, d = .py (.int (n : Int)) ∧ ∃ S, Ss[n]? = some S ∧ u ρ (fun ds => S ds Q E) E) E
end
end VL
set_option Elab.async false
set_option linter.all false
set_option maxRecDepth 100000
set_option maxHeartbeats 4000000
/-! VL121: == of two empty dicts, too -/
namespace VL
open PySem PySem.Spec PyProof.Rows L2
@[simp] def gEqE : D → D → (D → Prop) → Prop
  | .py (.dict []), .py (.dict []), Q => Q (.py (.bool true))
  | x, y, Q => gEq x y Q
end VL
set_option Elab.async false
set_option linter.all false
set_option maxRecDepth 100000
set_option maxHeartbeats 4000000
/-! VL122: a dict beside a tuple (!=) -/
namespace PySem
open PySem.Spec PyProof.Rows PySem.SeqAt
open Sem (wp)
end PySem
namespace VL
open PySem PySem.Spec PyProof.Rows L2
section
variable {X : Cx} {b : Bg} {W : WX} {e1 e2 : Expr} {t1 t2 : VT} {pos : Pos}
/-- .. a tuple on the right; a dict is no tuple -/
@[simp] def gNeU : D → D → (D → Prop) → Prop
  | .py (.dict _), .py (.tuple _), Q => Q (.py (.bool true))
  | x, y, Q => gNe x y Q
end
end VL
set_option Elab.async false
set_option linter.all false
set_option maxRecDepth 100000
set_option maxHeartbeats 4000000
/-! VL123: objects that change: their fields; tuples of objects; an own object lent to a def -/
namespace VL
open PySem PySem.Spec PyProof.Rows L2 StX
/-! ### fields -/
@[simp] def fvD : FV → D
  | .py p => .py p
  | .tps n L => .tps n L
  | .adr a => .raw (.ref a)
@[simp] def dFv : D → Option FV
  | .py p => some (.py p)
  | .tps n L => some (.tps n L)
  | .raw (.ref a) => some (.adr a)
  | _ => none
@[simp] def gFldQ (ns : List Str) (f : Str) : D → (D → Prop) → Prop
  | .rob _ m fs, Q => m ∈ ns ∧ ∃ x, fs.lookup f = some x ∧ Q (fvD x)
  | _, _ => False
@[simp] def putFV (f : Str) (p : FV) : List (Str × FV) → List (Str × FV)
  | [] => [(f, p)]
  | (g, x) :: r => if g = f then (g, p) :: r else (g, x) :: putFV f p r
section
variable {X : Cx} {b : Bg} {W : WX} {e o : Expr} {n f : Str} {t : VT} {pos pos' : Pos} {i : Nat} {ns : List Str}
/-- o.f = value, o an own object -/
@[simp] def sFldQ (i : Nat) (ns : List Str) (f : Str) (t : VT) : VS := fun ρ De => t ρ (fun d => ∃ x a n fs, dFv d = some x ∧ n ∈ ns ∧ ρ[i]? = some (.own (.rob a n fs)) ∧ fs.length < 1000 ∧ De.nx (ρ.set i (.own (.rob a n (putFV f x fs))))) (De.ex ρ)
end
/-! ### tuples of objects -/
@[simp] def gIxS : D → D → (D → Prop) → Prop
  | .tps n L, .py (.int i), Q => ∃ fs, atI L i = some fs ∧ ∀ a, Q (.obj a n fs)
  | _, _, _ => False
section
variable {X : Cx} {b : Bg} {W : WX} {e e1 e2 : Expr} {n f : Str} {t t1 t2 : VT} {pos pos' p : Pos} {i : Nat}
/-- (*e1, e2), e1 a tuple of objects of a class, e2 one more; (e,) -/
@[simp] def vSnocS (t u : VT) : VT := fun ρ Q E => t ρ (fun d => ∃ n L, d = .tps n L ∧ u ρ (fun o => ∃ a fs, o = .obj a n fs ∧ L.length + 1 ≤ sizeLine ∧ Q (.tps n (L ++ [fs]))) E) E
@[simp] def vOneS (t : VT) : VT := fun ρ Q E => t ρ (fun d => ∃ a n fs, d = .obj a n fs ∧ Q (.tps n [fs])) E
/-- e[lo:hi], e a tuple of objects -/
@[simp] def gSlS : D → Option Int → Option Int → (D → Prop) → Prop
  | .tps n L, lo, hi, Q => Q (.tps n (cutL L lo hi))
  | _, _, _, _ => False
end
end VL
set_option Elab.async false
set_option linter.all false
set_option maxRecDepth 100000
set_option maxHeartbeats 4000000
/-! VL124: an own object lent to a def, a method, a property that does not change it -/
namespace VL
open PySem PySem.Spec PyProof.Rows L2 StX
/-- the object has a field that only objects that change have -/
@[simp] def hallF (fs : List (Str × FV)) : Prop := (fs.lookup ("scenes" : Str)).isSome = true ∨ (fs.lookup ("pairs" : Str)).isSome = true
@[simp] def hallO : D → Prop
  | .py _ => True
  | .raw _ => True
  | .obj _ _ gs => gs.lookup ("scenes" : Str) = none ∧ gs.lookup ("pairs" : Str) = none
  | _ => False
/-! ### back from a smaller Z -/
/-! ### readings: values that may be lent; lists of arguments -/
/-- a name that holds an object that changes -/
@[simp] def vObj (i : Nat) : VT := fun ρ Q _ => ∃ a n fs, (ρ[i]? = some (.own (.rob a n fs)) ∨ ρ[i]? = some (.shr (.rob a n fs))) ∧ hallF fs ∧ Q (.rob a n fs)
/-! ### calls with lent arguments -/
@[simp] def vCallQ (S : SV) (u : VA) : VT := fun ρ Q E => u ρ (fun ds => S ds (fun d => hallO d ∧ Q d) E) E
@[simp] def vMethQ (ns : List Str) (m : Str) (S : Str → SV) (t : VT) (u : VA) : VT := fun ρ Q E => t ρ (fun d => ∃ a n fs, d = .rob a n fs ∧ n ∈ ns ∧ fs.lookup m = none ∧ u ρ (fun ds => S n (d :: ds) (fun d => hallO d ∧ Q d) E) E) E
@[simp] def vProp (ns : List Str) (S : SV) (t : VT) : VT := fun ρ Q E => t ρ (fun d => ∃ a n fs, d = .rob a n fs ∧ n ∈ ns ∧ S [d] (fun d => hallO d ∧ Q d) (fun _ => False)) E
end VL
set_option Elab.async false
set_option linter.all false
set_option maxRecDepth 100000
set_option maxHeartbeats 4000000
/-! VL125: defs that change an object handed to them; expressions that do -/
namespace VL
open PySem PySem.Spec PyProof.Rows L2 StX
abbrev FS := List (Str × FV)
/-- x n fs: the object, ds1 ds2: the arguments ahead of it and behind it -/
abbrev SM := Addr → Str → FS → List D → List D → (D → FS → Prop) → (Er → FS → Prop) → Prop
abbrev Zx (Z : Addr → Prop) (x : Addr) : Addr → Prop := fun c => Z c ∨ c = x
def spM (b : Bg) (S : SM) : Sp := fun vs H Q E => ∃ (x : Addr) (n : Str) (fs : FS) (vs1 vs2 : List V) (Z : Addr → Prop) (ds1 ds2 : List D) (Qd : D → FS → Prop) (Ed : Er → FS → Prop), vs = vs1 ++ .ref x :: vs2 ∧ Gd b Z H ∧ ¬ Z x ∧ Ow b (Zx Z x) H x (.rob x n fs) ∧
  Rps b (Zx Z x) H vs1 ds1 ∧ Rps b (Zx Z x) H vs2 ds2 ∧ S x n fs ds1 ds2 Qd Ed ∧
  (∀ v H' d fs', (∀ a o, H a = some o → ¬ b.B a → a ≠ x → H' a = some o) → b.G H' → Ow b (Zx Z x) H' x (.rob x n fs') → Rp b (Zx Z x) H' v d → Qd d fs' → Q v H') ∧
  ∀ c d H' er fs', (∀ a o, H a = some o → ¬ b.B a → a ≠ x → H' a = some o) → b.G H' → Ow b (Zx Z x) H' x (.rob x n fs') → ErRp b (Zx Z x) H' c d er → Ed er fs' → E c d H'
@[simp] def envM (x : Addr) (n : Str) (fs : FS) (N : Nat) (ds1 ds2 : List D) : VEnv := ds1.map Slot.shr ++ .own (.rob x n fs) :: (ds2.map Slot.shr ++ List.replicate (N - (ds1.length + 1 + ds2.length)) .un)
@[simp] def finM (x : Addr) (n : Str) (j : Nat) (Q : D → FS → Prop) (E : Er → FS → Prop) : VEnds where
  nx := fun ρ => ∃ fs, ρ[j]? = some (.own (.rob x n fs)) ∧ Q (.py .none) fs
  rt := fun _ => False
  bk := fun _ => False
  ct := fun _ => False
  ex := fun ρ er => ∃ fs, ρ[j]? = some (.own (.rob x n fs)) ∧ E er fs
  ro := fun ρ r => ∃ d fs, r = .val d ∧ ρ[j]? = some (.own (.rob x n fs)) ∧ Q d fs
/-! ### an own object changed by a call -/
/-! ### expressions that change own objects -/
abbrev VTM := VEnv → (D → VEnv → Prop) → (Er → VEnv → Prop) → Prop
@[simp] def mPure (t : VT) : VTM := fun ρ Q E => t ρ (fun d => Q d ρ) (fun er => E er ρ)
/-- arguments, one of them an own object that the call may change -/
abbrev VA1 := VEnv → (Nat → List D → Addr → Str → FS → List D → Prop) → (Er → Prop) → Prop
@[simp] def aOwn (i : Nat) (u : VA) : VA1 := fun ρ Q E => ∃ x n fs, ρ[i]? = some (.own (.rob x n fs)) ∧ u ρ (fun ds => Q i [] x n fs ds) E
@[simp] def aPre (t : VT) (a : VA1) : VA1 := fun ρ Q E => t ρ (fun d => a ρ (fun i ds1 x n fs ds2 => Q i (d :: ds1) x n fs ds2) E) E
@[simp] def mCall (S : SM) (a : VA1) : VTM := fun ρ Q E => a ρ (fun i ds1 x n fs ds2 => S x n fs ds1 ds2 (fun d fs' => Q d (ρ.set i (.own (.rob x n fs')))) (fun er fs' => E er (ρ.set i (.own (.rob x n fs'))))) (fun er => E er ρ)
@[simp] def mMeth (ns : List Str) (m : Str) (S : Str → SM) (i : Nat) (u : VA) : VTM := fun ρ Q E => ∃ x n fs, ρ[i]? = some (.own (.rob x n fs)) ∧ n ∈ ns ∧ fs.lookup m = none ∧
  u ρ (fun ds => S n x n fs [] ds (fun d fs' => Q d (ρ.set i (.own (.rob x n fs')))) (fun er fs' => E er (ρ.set i (.own (.rob x n fs'))))) (fun er => E er ρ)
/-- a def, a method that changes an object -/
structure CalF (P : Program) (w : World) (K : PySem.W.Frag) (mg : Str → Option Value) (base : Heap) (b : Bg) (k : Nat) (x : Str) (ps : List Str) (S : SM) where
  f : Addr
  fd : FuncData
  F : FnOk P w K mg base (L2.CX P w) k f fd ps (spM b S)
  g : mg x = some (.ref f)
  kp : PySem.W.keepIn K (.ref f) = true
  bd : Binds K fd ps []
end VL
set_option Elab.async false
set_option linter.all false
set_option maxRecDepth 100000
set_option maxHeartbeats 4000000
/-! VL126: statements around expressions that change own objects; new objects given back -/
namespace VL
open PySem PySem.Spec PyProof.Rows L2 StX
/-! ### lists of such expressions -/
abbrev VAM := VEnv → (List D → VEnv → Prop) → (Er → VEnv → Prop) → Prop
@[simp] def cmNil : VAM := fun ρ Q _ => Q [] ρ
@[simp] def cmCons (t : VTM) (u : VAM) : VAM := fun ρ Q E => t ρ (fun d ρ1 => u ρ1 (fun ds ρ2 => Q (d :: ds) ρ2) E) E
@[simp] def mLst (u : VAM) : VTM := fun ρ Q E => u ρ (fun ds ρ' => ∃ ps, pys ds = some ps ∧ ps.length ≤ sizeLine ∧ Q (.py (.list ps)) ρ') E
@[simp] def mTup (u : VAM) : VTM := fun ρ Q E => u ρ (fun ds ρ' => ∃ ps, pys ds = some ps ∧ ps.length ≤ sizeLine ∧ Q (.py (.tuple ps)) ρ') E
@[simp] def mIf (c : VB) (t u : VTM) : VTM := fun ρ Q E => c ρ (fun k => if k = true then t ρ Q E else u ρ Q E) (fun er => E er ρ)
/-- a test that changes own objects -/
abbrev VBM := VEnv → (Bool → VEnv → Prop) → (Er → VEnv → Prop) → Prop
@[simp] def bPure (t : VB) : VBM := fun ρ Q E => t ρ (fun k => Q k ρ) (fun er => E er ρ)
@[simp] def bVal (t : VTM) : VBM := fun ρ Q E => t ρ (fun d ρ' => ∃ k, d = .py (.bool k) ∧ Q k ρ') E
@[simp] def bNot (t : VBM) : VBM := fun ρ Q E => t ρ (fun k ρ' => Q (!k) ρ') E
@[simp] def bAnd (t u : VBM) : VBM := fun ρ Q E => t ρ (fun k ρ' => if k = true then u ρ' Q E else Q false ρ') E
@[simp] def bOr (t u : VBM) : VBM := fun ρ Q E => t ρ (fun k ρ' => if k = true then Q true ρ' else u ρ' Q E) E
/-! ### statements -/
@[simp] def sExprM (t : VTM) : VS := fun ρ De => t ρ (fun _ ρ' => De.nx ρ') (fun er ρ' => De.ex ρ' er)
@[simp] def sSetM (i : Nat) (t : VTM) : VS := fun ρ De => t ρ (fun d ρ' => i < ρ'.length ∧ De.nx (ρ'.set i (.shr d))) (fun er ρ' => De.ex ρ' er)
@[simp] def sAsgM (t : VTM) (g : VTg) : VS := fun ρ De => t ρ (fun d ρ' => g d ρ' De.nx) (fun er ρ' => De.ex ρ' er)
@[simp] def sRetO (t : VT) : VS := fun ρ De => t ρ (fun d => De.ro ρ (.val d)) (De.ex ρ)
@[simp] def sRetM (t : VTM) : VS := fun ρ De => t ρ (fun d ρ' => De.rt d ∨ De.ro ρ' (.val d)) (fun er ρ' => De.ex ρ' er)
@[simp] def sRetON : VS := fun ρ De => De.ro ρ (.val (.py .none))
@[simp] def sIfM (c : VBM) (g h : VS) : VS := fun ρ De => c ρ (fun k ρ' => if k = true then g ρ' De else h ρ' De) (fun er ρ' => De.ex ρ' er)
/-- return a new object; return the own object of slot j -/
@[simp] def sRetNw (t : VT) : VS := fun ρ De => t ρ (fun d => De.ro ρ (.nw d)) (De.ex ρ)
@[simp] def sRetOw (j : Nat) : VS := fun ρ De => ∃ d, ρ[j]? = some (.own d) ∧ De.ro ρ (.nw d)
/-- return [new object, ..]; return [own object, ..] -/
@[simp] def sRetNwL (u : VAm) : VS := fun ρ De => u ρ (fun ms => ∃ d ds, ms = (true, d) :: ds.map (fun d => (false, d)) ∧ ds.length < 1000 ∧ De.ro ρ (.nwL d ds)) (De.ex ρ)
@[simp] def sRetOwL (j : Nat) (u : VA) : VS := fun ρ De => ∃ d, ρ[j]? = some (.own d) ∧ u ρ (fun ds => ds.length < 1000 ∧ De.ro ρ (.nwL d ds)) (De.ex ρ)
/-! ### what gives back a new object; a new list that begins with one -/
abbrev SL := List D → (D → List D → Prop) → (Er → Prop) → Prop
def spN (b : Bg) (S : SV) : Sp := fun vs H Q E => ∃ Z ds Qd Ed, Gd b Z H ∧ Rps b Z H vs ds ∧ S ds Qd Ed ∧ (∀ x H' d, Ex b H H' → b.G H' → H x = none → Ow b (Zx Z x) H' x d → Qd d → Q (.ref x) H') ∧ ∀ c x H' er, Ex b H H' → b.G H' → ErRp b Z H' c x er → Ed er → E c x H'
def spL (b : Bg) (S : SL) : Sp := fun vs H Q E => ∃ Z ds Qd Ed, Gd b Z H ∧ Rps b Z H vs ds ∧ S ds Qd Ed ∧
  (∀ p x ws H' d ds', Ex b H H' → b.G H' → H p = none → H x = none → p ≠ x → H' p = some (.lst (.ref x :: ws)) → Ow b (Zx (Zx Z x) p) H' x d → Rps b (Zx (Zx Z x) p) H' ws ds' → Qd d ds' → Q (.ref p) H') ∧ ∀ c x H' er, Ex b H H' → b.G H' → ErRp b Z H' c x er → Ed er → E c x H'
@[simp] def finN (Q : D → Prop) (E : Er → Prop) : VEnds where
  nx := fun _ => False
  rt := fun _ => False
  bk := fun _ => False
  ct := fun _ => False
  ex := fun _ => E
  ro := fun _ r => ∃ d, r = .nw d ∧ Q d
@[simp] def finL (Q : D → List D → Prop) (E : Er → Prop) : VEnds where
  nx := fun _ => False
  rt := fun _ => False
  bk := fun _ => False
  ct := fun _ => False
  ex := fun _ => E
  ro := fun _ r => ∃ d ds, r = .nwL d ds ∧ Q d ds
structure CalN (P : Program) (w : World) (K : PySem.W.Frag) (mg : Str → Option Value) (base : Heap) (b : Bg) (k : Nat) (x : Str) (ps : List Str) (S : SV) where
  f : Addr
  fd : FuncData
  F : FnOk P w K mg base (L2.CX P w) k f fd ps (spN b S)
  g : mg x = some (.ref f)
  kp : PySem.W.keepIn K (.ref f) = true
  bd : Binds K fd ps []
structure CalL (P : Program) (w : World) (K : PySem.W.Frag) (mg : Str → Option Value) (base : Heap) (b : Bg) (k : Nat) (x : Str) (ps : List Str) (S : SL) where
  f : Addr
  fd : FuncData
  F : FnOk P w K mg base (L2.CX P w) k f fd ps (spL b S)
  g : mg x = some (.ref f)
  kp : PySem.W.keepIn K (.ref f) = true
  bd : Binds K fd ps []
/-- names = a call that gives back a new list with a new object ahead -/
@[simp] def sUnlN (is : List Nat) (S : SL) (u : VA) : VS := fun ρ De => (∀ i ∈ is, i < ρ.length) ∧ u ρ (fun ds => S ds (fun d ds' => ds'.length + 1 = is.length ∧ De.nx (setE is ((true, d) :: ds'.map fun d => (false, d)) ρ)) (De.ex ρ)) (De.ex ρ)
end VL
set_option Elab.async false
set_option linter.all false
set_option maxRecDepth 100000
set_option maxHeartbeats 4000000
/-! VL127: of classes whose objects change: constants, static methods, making one; len, str; texts with holes -/
namespace VL
open PySem PySem.Spec PyProof.Rows L2 StX
/-! ### a constant of the class, read through an object -/
@[simp] def vConQ (ns : List Str) (f : Str) (p : PyData) (t : VT) : VT := fun ρ Q E => t ρ (fun d => ∃ a n fs, d = .rob a n fs ∧ n ∈ ns ∧ fs.lookup f = none ∧ Q (.py p)) E
/-! ### a static method, through an object and through the class -/
@[simp] def vStat (ns : List Str) (m : Str) (S : SV) (t : VT) (u : VA) : VT := fun ρ Q E => t ρ (fun d => ∃ a n fs, d = .rob a n fs ∧ n ∈ ns ∧ fs.lookup m = none ∧ u ρ (fun ds => S ds Q E) E) E
/-- through a class that a name holds -/
@[simp] def vStatC (ns : List Str) (S : SV) (i : Nat) (u : VA) : VT := fun ρ Q E => ∃ n, n ∈ ns ∧ ρ[i]? = some (.shr (.cls n)) ∧ u ρ (fun ds => S ds Q E) E
/-! ### C(), C a class of objects that change; by its name, by a name that holds it -/
structure CalK (P : Program) (w : World) (K : PySem.W.Frag) (mg : Str → Option Value) (base : Heap) (b : Bg) (k : Nat) (n : Str) (S : SM) where
  f : Addr
  fd : FuncData
  ps : List Str
  F : FnOk P w K mg base (L2.CX P w) k f fd ps (spM b S)
  M : Mk K (b.cls n) f
  g : mg n = some (.ref (b.cls n))
  bd : Binds K fd ps []
@[simp] def vMakeQ (n : Str) (S : SM) (u : VA) : VT := fun ρ Q E => u ρ (fun ds => ∀ a, S a n [] [] ds (fun d fs => d = .py .none ∧ Q (.rob a n fs)) (fun er _ => E er)) E
/-- c(), c a name that holds one of the classes -/
@[simp] def vMakeC (ns : List Str) (S : Str → SM) (i : Nat) : VT := fun ρ Q E => ∃ n, n ∈ ns ∧ ρ[i]? = some (.shr (.cls n)) ∧ ∀ a, S n a n [] [] [] (fun d fs => d = .py .none ∧ Q (.rob a n fs)) (fun er _ => E er)
/-! ### len(o), str(o) by the class's own defs -/
@[simp] def vLenQ (ns : List Str) (S : Str → SV) (t : VT) : VT := fun ρ Q E => t ρ (fun d => ∃ a n fs, d = .rob a n fs ∧ n ∈ ns ∧ S n [d] (fun r => ∃ i : Int, r = .py (.int i) ∧ 0 ≤ i ∧ i < 2 ^ 63 ∧ Q r) (fun _ => False)) E
@[simp] def vStrQ (ns : List Str) (S : Str → SV) (t : VT) : VT := fun ρ Q E => t ρ (fun d => ∃ a n fs, d = .rob a n fs ∧ n ∈ ns ∧ S n [d] (fun r => ∃ y : Str, r = .py (.str y) ∧ Q r) (fun _ => False)) E
/-! ### texts with holes -/
@[simp] def gFmt : D → (D → Prop) → Prop
  | .py (.str y), Q => y.length ≤ sizeLine ∧ Q (.py (.str y))
  | .py (.int i), Q => i.natAbs.log2 < 1920 ∧ Q (.py (.str (toString i)))
  | _, _ => False
abbrev VJ := VEnv → Str → (Str → Prop) → (Er → Prop) → Prop
@[simp] def jNil : VJ := fun _ acc Q _ => Q acc
@[simp] def jCons (t : VT) (u : VJ) : VJ := fun ρ acc Q E => t ρ (fun d => ∃ y, d = .py (.str y) ∧ (acc ++ y).length ≤ sizeLine ∧ u ρ (acc ++ y) Q E) E
@[simp] def vJoin (u : VJ) : VT := fun ρ Q E => u ρ Str.empty (fun z => Q (.py (.str z))) E
end VL
set_option Elab.async false
set_option linter.all false
set_option maxRecDepth 100000
set_option maxHeartbeats 4000000
/-! VL128: try: .. finally: .. -/
namespace VL
open PySem PySem.Spec PyProof.Rows L2 StX
/-- behind the body, and on the way of an error, the suite -/
@[simp] def endF (De : VEnds) (er : Er) : VEnds where
  nx := fun ρ => De.ex ρ er
  rt := fun _ => False
  bk := fun _ => False
  ct := fun _ => False
  ex := fun _ _ => False
@[simp] def endT (tf : VS) (De : VEnds) : VEnds where
  nx := fun ρ => tf ρ { De with ex := fun _ _ => False }
  rt := fun _ => False
  bk := fun _ => False
  ct := fun _ => False
  ex := fun ρ er => tf ρ (endF De er)
@[simp] def sFin (tb tf : VS) : VS := fun ρ De => tb ρ (endT tf De)
end VL
set_option Elab.async false
set_option linter.all false
set_option maxRecDepth 100000
set_option maxHeartbeats 4000000
/-! VL129: star parameters of methods and class methods; keyword-only parameters of methods; facts for the join -/
namespace VL
open PySem PySem.Spec PyProof.Rows L2 StX
/-! ### def m(self, *v) that changes self -/
@[simp] def smStar (S : SM) : SM := fun x n fs ds1 ds2 Q E => ds1 = [] ∧ ∃ ps, pys ds2 = some ps ∧ ps.length ≤ sizeLine ∧ S x n fs [] [.py (.tuple ps)] Q E
/-! ### a class method with a star, that gives back a new object -/
/-! ### C.m(..), m a class method that gives back a new object -/
structure CalC (P : Program) (w : World) (K : PySem.W.Frag) (mg : Str → Option Value) (base : Heap) (b : Bg) (k : Nat) (n m : Str) (S : SV) where
  p : Addr
  g : Addr
  mc : Value
  F : FnR P w K mg base (L2.CX P w) k g (spN b S)
  rd : ClX.CRead K (b.cls n) mc
  cm : ClX.CMet K (b.cls n) mc m p g
  gn : mg n = some (.ref (b.cls n))
@[simp] def vClsM (n : Str) (S : SV) (u : VA) : VT := fun ρ Q E => u ρ (fun ds => S (.cls n :: ds) Q E) E
end VL
set_option Elab.async false
set_option linter.all false
set_option maxRecDepth 100000
set_option maxHeartbeats 4000000
/-! VL130: the sack: a list of a number and a list -/
namespace VL
open PySem PySem.Spec PyProof.Rows L2
end VL
set_option Elab.async false
set_option linter.all false
set_option maxRecDepth 100000
set_option maxHeartbeats 4000000
/-! VL131: two names at once, the first by a call that changes an object; facts of the classes, for the join -/
namespace VL
open PySem PySem.Spec PyProof.Rows L2 StX
@[simp] def qNs : List Str := ["Queue", "TalliedQueue"]
@[simp] def sPar2M (i j : Nat) (u : VAM) : VS := fun ρ De => u ρ (fun ds ρ' => ∃ d1 d2, ds = [d1, d2] ∧ i < ρ'.length ∧ j < ρ'.length ∧ De.nx ((ρ'.set i (.shr d1)).set j (.shr d2))) (fun er ρ' => De.ex ρ' er)
/-! ### facts of the classes -/
end VL
set_option Elab.async false
set_option linter.all false
set_option maxRecDepth 100000
set_option maxHeartbeats 4000000
/-! VL132: the loop that gathers a line into blocks (a list of lists, the last of which grows) -/
namespace VL
open PySem PySem.Spec PyProof.Rows L2 StX
end VL
set_option Elab.async false
set_option linter.all false
set_option maxRecDepth 100000
set_option maxHeartbeats 4000000
/-! VL133: an inner list is changed (pieces for vs_forBlk) -/
namespace VL
open PySem PySem.Spec PyProof.Rows L2 StX
end VL
set_option Elab.async false
set_option linter.all false
set_option maxRecDepth 100000
set_option maxHeartbeats 4000000
/-! VL134: the rule of the loop that gathers a line into blocks -/
namespace VL
open PySem PySem.Spec PyProof.Rows L2 StX
end VL
set_option Elab.async false
set_option linter.all false
set_option maxRecDepth 100000
set_option maxHeartbeats 4000000
/-! VL135: a method that first asks super() for the text of the class above, then goes on -/
namespace VL
open PySem PySem.Spec PyProof.Rows L2 StX
end VL
set_option Elab.async false
set_option linter.all false
set_option maxRecDepth 100000
set_option maxHeartbeats 4000000
/-! VL136: tried(lambda: ..), where the lambda may change an own object; values of such calls in larger expressions -/
namespace VL
open PySem PySem.Spec PyProof.Rows L2 StX
open LamX (CodeO Tabs TabS TabB LamS lamEnv lamCx)
/-- what is told of an error -/
def triedE (names : List Str) (th : Addr → Option Addr → Er → VS) (er : Er) (Q : D → Prop) : Prop := er.n ∈ names ∧ errSub er.n "LineError" = true ∧
  ∀ f a d, th a d er [.shr (.raw f), .shr (.err a d er.n er.fs)] (afterS 1 { nx := fun _ => False, rt := Q, bk := fun _ => False, ct := fun _ => False, ex := fun _ _ => False })
@[simp] def mTried (names : List Str) (th : Addr → Option Addr → Er → VS) (te : VTM) : VTM := fun ρ Q _ => te ρ Q (fun er ρ' => triedE names th er (fun d => Q d ρ'))
/-! ### defs that make lambdas and change an object -/
/-- a def that changes an object, and shows values -/
structure CalFG (P : Program) (w : World) (K : PySem.W.Frag) (mg : Str → Option Value) (base : Heap) (b : Bg) (k : Nat) (x : Str) (ps : List Str) (S : SM) where
  f : Addr
  fd : FuncData
  F : FnL P w K mg base k f fd ps (spM b S)
  g : mg x = some (.ref f)
  kp : PySem.W.keepIn K (.ref f) = true
  bd : Binds K fd ps []
@[simp] def mCalB (g : List D → (D → Prop) → Prop) (t : VTM) : VTM := fun ρ Q E => t ρ (fun d ρ1 => g [d] (fun z => Q z ρ1)) E
@[simp] def bBin (g : D → D → (D → Prop) → Prop) (t1 : VTM) (t2 : VT) : VBM := fun ρ Q E => t1 ρ (fun d ρ1 => t2 ρ1 (fun d2 => g d d2 (fun z => ∃ k, z = .py (.bool k) ∧ Q k ρ1)) (fun er => E er ρ1)) E
@[simp] def mAnd (t1 t2 : VTM) : VTM := fun ρ Q E => t1 ρ (fun d ρ1 => ∃ k, d = .py (.bool k) ∧ if k = true then t2 ρ1 Q E else Q (.py (.bool false)) ρ1) E
@[simp] def sSetNM (i : Nat) (t : VTM) : VS := fun ρ De => t ρ (fun d ρ' => i < ρ'.length ∧ De.nx (ρ'.set i (.own d))) (fun er ρ' => De.ex ρ' er)
@[simp] def sPar2NM (i j : Nat) (t1 : VT) (t2 : VTM) : VS := fun ρ De => t1 ρ (fun d1 => t2 ρ (fun d2 ρ' => i < ρ'.length ∧ j < ρ'.length ∧ De.nx ((ρ'.set i (.shr d1)).set j (.own d2))) (fun er ρ' => De.ex ρ' er)) (De.ex ρ)
@[simp] def sAppM (i : Nat) (t : VTM) : VS := fun ρ De => (∃ xs0, ρ[i]? = some (.own (.py (.list xs0)))) ∧ t ρ (fun d ρ' => ∃ xs p, ρ'[i]? = some (.own (.py (.list xs))) ∧ d = .py p ∧ xs.length < sizeLine ∧ De.nx (ρ'.set i (.own (.py (.list (xs ++ [p])))))) (fun er ρ' => De.ex ρ' er)
end VL
set_option Elab.async false
set_option linter.all false
set_option maxRecDepth 100000
set_option maxHeartbeats 4000000
/-! VL137: a def without arguments that gives a list with a new object -/
namespace VL
open PySem PySem.Spec PyProof.Rows L2 StX
end VL
set_option Elab.async false
set_option linter.all false
set_option maxRecDepth 100000
set_option maxHeartbeats 4000000
namespace VL
open PySem PySem.Spec PyProof.Rows L2 StX
/-! VL138: o.m(k=e): a method's one keyword-only parameter given by its name -/
end VL
set_option Elab.async false
set_option linter.all false
set_option maxRecDepth 100000
set_option maxHeartbeats 4000000
namespace VL
open PySem PySem.Spec PyProof.Rows L2 HT
/-! VL139: an own dict whose keys are tuples of ints -/
abbrev KTi : List (List Int × V) → List (List Int × Addr × Value) → Prop := Paired fun p q => p.1 = q.1 ∧ RelV p.2 q.2.2
/-- the dict as data -/
def getT (kvs : List (List Int × PyData)) (k : List Int) : Option PyData := (kvs.find? fun p => decide (p.1 = k)).map (·.2)
def putT (kvs : List (List Int × PyData)) (k : List Int) (x : PyData) : List (List Int × PyData) :=
  if (kvs.any fun p => decide (p.1 = k)) = true then kvs.map (fun p => if p.1 = k then (p.1, x) else p) else kvs ++ [(k, x)]
abbrev KD (Z : Addr → Prop) (H : Hp) : List (List Int × V) → List (List Int × PyData) → Prop := Paired fun p q => p.1 = q.1 ∧ Rq Z H p.2 q.2
section
variable {Z : Addr → Prop} {H : Hp}
theorem KD.mono {Z' : Addr → Prop} {H' : Hp} (hz : ∀ a, Z' a → Z a ∨ H a = none) (hs : ∀ a o, H a = some o → ¬ Z a → H' a = some o) {vs : List (List Int × V)} {kvs : List (List Int × PyData)} (r : KD Z H vs kvs) : KD Z' H' vs kvs :=
  Paired.mapP r fun _ _ h => ⟨h.1, h.2.mono hz hs⟩
end
/-- an object as it stands -/
def dHO (a : Addr) (o : Obj) : HO := .ext fun h => h.get? a = some o
theorem dHO_ne {a : Addr} {o : Obj} {es : Array DictEntry} {ep : Nat} (hd : o.data = .dict es ep) : ¬ still (dHO a o) := fun ⟨h, c, u, vs, h1, h2, h3, h4⟩ => by
  have h1 : h.get? a = some o := h1
  by_cases e : a = c
  · rw [e, h2] at h1
    cases h1
    rw [hd] at h3; cases h3
  · rw [h4 a e] at h1; cases h1
abbrev KeyAt (Z : Addr → Prop) (H : Hp) (x : List Int × Addr × Value) : Prop := Rq Z H (.ref x.2.1) (.tuple (x.1.map .int))
def TdR (kvs : List (List Int × PyData)) (Z : Addr → Prop) (H : Hp) (a : Addr) : Prop :=
  (kvs = [] ∧ H a = some (.dK [])) ∨ ∃ (o : Obj) (es : Array DictEntry) (ep : Nat) (xs : List (List Int × Addr × Value)) (vs : List (List Int × V)), H a = some (dHO a o) ∧ (a == sysModules) = false ∧ o.ExactDict ∧ o.data = .dict es ep ∧
    (∀ (P : Program) (w : World), es.toList = xs.map (entryOfKey (tupleKind (PySem.intKind P w)))) ∧ (xs.map (·.1)).Nodup ∧ (∀ x ∈ xs, KeyAt Z H x) ∧ KTi vs xs ∧ KD Z H vs kvs
theorem TdR.mono {kvs : List (List Int × PyData)} {Z Z' : Addr → Prop} {H H' : Hp} {a : Addr} (hz : ∀ a, Z' a → Z a ∨ H a = none) (hs : ∀ a o, H a = some o → ¬ Z a → H' a = some o) (ha : ∀ o, H a = some o → H' a = some o) (r : TdR kvs Z H a) : TdR kvs Z' H' a := by
  rcases r with ⟨e, h⟩ | ⟨o, es, ep, xs, vs, h1, h2, h3, h4, h5, h6, h7, h8, h9⟩
  · exact .inl ⟨e, ha _ h⟩
  · exact .inr ⟨o, es, ep, xs, vs, ha _ h1, h2, h3, h4, h5, h6, fun x hx => (h7 x hx).mono hz hs, h8, h9.mono hz hs⟩
def tdA (kvs : List (List Int × PyData)) : Abs where
  R := TdR kvs
  at_ := fun r => by
    rcases r with ⟨_, h⟩ | ⟨o, es, ep, xs, vs, h1, _⟩
    · exact ⟨_, h⟩
    · exact ⟨_, h1⟩
  noext := fun r o ho z => by
    rcases r with ⟨_, h⟩ | ⟨u, es, ep, xs, vs, h1, _, _, h4, _⟩
    · rw [h] at z; cases z; exact ho
    · rw [h1] at z; cases z; exact dHO_ne h4 ho
  mono := TdR.mono
end VL
set_option Elab.async false
set_option linter.all false
set_option maxRecDepth 100000
set_option maxHeartbeats 4000000
namespace VL
open PySem PySem.Spec PyProof.Rows L2 HT
/-! VL140: rules for an own dict with keys that are tuples of ints -/
@[simp] def vTdGet2 (td ty tx : VT) : VT := fun ρ Q E => td ρ (fun d => ∃ kvs, d = .abs (tdA kvs) ∧ ty ρ (fun y => ∃ k : List Int, y = .py (.tuple (k.map .int)) ∧ tx ρ (fun z => ∃ p, z = .py p ∧ Q (.py ((getT kvs k).getD p))) E) E) E
@[simp] def vTdIx (td ty : VT) : VT := fun ρ Q E => td ρ (fun d => ∃ kvs, d = .abs (tdA kvs) ∧ ty ρ (fun y => ∃ (k : List Int) (x : PyData), y = .py (.tuple (k.map .int)) ∧ getT kvs k = some x ∧ Q (.py x)) E) E
section
variable {X : Cx} {b : Bg} {W : WX} {o e f : Expr} {td ty tx : VT} {apos cpos pos pos' : Pos} {i : Nat}
@[simp] def gInTd : D → D → (D → Prop) → Prop := fun x y Q => ∃ kvs, y = .abs (tdA kvs) ∧ ∃ k : List Int, x = .py (.tuple (k.map .int)) ∧ Q (.py (.bool (getT kvs k).isSome))
@[simp] def vTd0 : VT := fun _ Q _ => Q (.abs (tdA []))
/-- d[k] = x -/
@[simp] def sTdPut (i : Nat) (ty tv : VT) : VS := fun ρ De => ∃ kvs, ρ[i]? = some (.own (.abs (tdA kvs))) ∧ tv ρ (fun x => ∃ p, x = .py p ∧ ty ρ (fun y => ∃ k : List Int, y = .py (.tuple (k.map .int)) ∧ kvs.length < sizeLine ∧ De.nx (ρ.set i (.own (.abs (tdA (putT kvs k p)))))) (De.ex ρ)) (De.ex ρ)
end
end VL
set_option Elab.async false
set_option linter.all false
set_option maxRecDepth 100000
set_option maxHeartbeats 4000000
namespace VL
open PySem PySem.Spec PyProof.Rows L2 HT
/-! VL141: for k in d, the keys tuples of ints -/
section
variable {X : Cx} {tg e : Expr} {td : TE} {b : Bg} {W : WX} {j : Nat}
@[simp] def iTd (j : Nat) : VIt := fun ρ Q _ => ∃ kvs, ρ[j]? = some (.shr (.abs (tdA kvs))) ∧ kvs ≠ [] ∧ Q (kvs.map fun p => D.py (.tuple (p.1.map PyData.int)))
end
end VL
set_option Elab.async false
set_option linter.all false
set_option maxRecDepth 100000
set_option maxHeartbeats 4000000
/-! VL142: sorted(set(xs)), xs a list or a tuple of tuples of ints of which fewer than 63 differ -/
namespace VL
open PySem PySem.Spec PyProof.Rows L2
/-! ### members that differ -/
def dd : List (List Int) → List (List Int)
  | [] => []
  | x :: xs => if x ∈ xs then dd xs else x :: dd xs
/-- the set's members, ascending -/
def sdT (L : List (List Int)) : List (List Int) := sortT (dd L)
/-! ### the order of codes -/
/-! ### the machine -/
/-! ### the rule -/
/-- a list or tuple of such data, sorted without repetition -/
@[simp] def vSortSetT (t : VT) : VT := fun ρ Q E => t ρ (fun d => ∃ xs L n, (d = .py (.list xs) ∨ d = .py (.tuple xs)) ∧ xs = L.map tI ∧ (dd L).length < 63 ∧ 1 ≤ n ∧ (∀ l ∈ L, l.length = n ∧ ∀ x ∈ l, 0 ≤ x ∧ x < 64) ∧ Q (.py (.list ((sdT L).map tI)))) E
end VL
set_option Elab.async false
set_option linter.all false
set_option maxRecDepth 100000
set_option maxHeartbeats 4000000
/-! VL143: try: .. except x: .. (the error is not named) -/
namespace VL
open PySem PySem.Spec PyProof.Rows L2 HT
@[simp] def sTryO (names : List Str) (x : Str) (tb ts : VS) : VS := fun ρ De =>
  tb ρ { De with ex := fun ρ' er => er.n ∈ names ∧ if errSub er.n x = true then ts ρ' { De with ex := fun _ _ => False } else De.ex ρ' er }
end VL
namespace VL
open PySem PySem.Spec PyProof.Rows L2
end VL
namespace VL
open PySem PySem.Spec PyProof.Rows L2
end VL
set_option Elab.async false
set_option linter.all false
set_option maxRecDepth 100000
set_option maxHeartbeats 4000000
/-! VL144: errors as values: an object made by a class call, its class, its fields; lists of such -/
namespace VL
open PySem PySem.Spec PyProof.Rows L2 HT
/-- an exception object at a: its class, its dict -/
def ExV (cls : Value) (d : Option Addr) (a : Addr) : HO := .ext fun h => ∃ (oe : Obj) (vs : Array Value), h.get? a = some oe ∧ Zc cls d oe ∧ oe.data = .fields vs
theorem exV_ok {P : Program} {w : World} {H : Hp} {h : Heap} {a : Addr} {cls : Value} {d : Option Addr} {oe : Obj} {vs : Array Value} (e : h.get? a = some oe) (z : Zc cls d oe) (hd : oe.data = .fields vs) : ObjOk P w H h a (ExV cls d a) :=
  ⟨⟨oe, vs, e, z, hd⟩, ⟨oe, e⟩, fun _ _ ⟨o, v, q, r⟩ k => ⟨o, v, k o q, r⟩⟩
section
variable {X : Cx}
theorem inv_alike {pins : List (Addr × Obj)} {σ : L2.St} {H : Hp} {s s' : Shared} (I : Inv X pins σ H s) (hh : s'.heap = s.heap) (ho : s'.os = s.os) (hb : AllBare s'.gens) : Inv X pins σ H s' := by
  obtain ⟨h', g', d', t', o'⟩ := s'
  obtain ⟨h, g, d, t, o⟩ := s
  cases hh
  cases ho
  exact ⟨I.ok, I.os, hb, I.base, I.loc, I.cell, I.free, I.freeC, I.pin, I.hok, I.len⟩
/-- what a raise would make is a value, too -/
theorem pe_exc {e : Expr} {t : L2.St → Hp → XK → Prop} (he : PMk X e t) : PE X e (fun σ H Q => t σ H fun cls d H' => ∀ a, H' a = none → Q (.ref a) (upd H' a (ExV cls d a))) := by
  refine ⟨fun pins s σ H Q I h => wpAny_mono (he pins s σ H _ I h) (fun u s1 hu => ?_) fun _ _ x => x⟩
  obtain ⟨a, oe, vs, sI, H', cls, d, eu, J, k, hne, ha, hz, hd, h1, na, os, ag, r, q⟩ := hu
  subst eu
  have J2 := J.laidN (t' := s1.toks) (h' := s1.heap) (o := ExV cls d a) k hne na (exV_ok ha hz hd)
  exact ⟨.ref a, _, inv_alike J2 rfl os ag, rfl, q a na⟩
end
/-- an error: its class, its fields -/
def excC (n : Str) (fs : List (Str × PyData)) : Clm where
  R cls Z H v := ∃ (a : Addr) (d : Option Addr), v = .ref a ∧ H a = some (ExV (.ref (cls n)) d a) ∧ ¬ Z a ∧ ((d = none ∧ fs = []) ∨ ∃ dd xs, d = some dd ∧ H dd = some (.xd xs) ∧ ¬ Z dd ∧ Rqf Z H xs fs)
  mono := fun {cls Z Z' H H' v} hz hs r => by
    obtain ⟨a, d, e1, e2, e3, e4⟩ := r
    have nz : ∀ {c o}, H c = some o → ¬ Z c → ¬ Z' c := fun {c o} e n z => (hz c z).elim n fun q => by rw [e] at q; cases q
    refine ⟨a, d, e1, hs a _ e2 e3, nz e2 e3, e4.imp id ?_⟩
    rintro ⟨dd, xs, h1, h2, h3, h4⟩
    exact ⟨dd, xs, h1, hs dd _ h2 h3, nz h2 h3, h4.mono hz hs⟩
theorem paired_imp {α β : Type} {R S : α → β → Prop} (h : ∀ x y, R x y → S x y) : ∀ {xs : List α} {ys : List β}, Paired R xs ys → Paired S xs ys
  | _, _, .nil => .nil
  | _, _, .cons r t => .cons (h _ _ r) (paired_imp h t)
/-- a list of errors -/
def excL (L : List (Str × List (Str × PyData))) : Clm where
  R cls Z H v := ∃ (l : Addr) (us : List V), v = .ref l ∧ H l = some (.lst us) ∧ ¬ Z l ∧ Paired (fun u (p : Str × List (Str × PyData)) => (excC p.1 p.2).R cls Z H u) us L
  mono := fun {cls Z Z' H H' v} hz hs r => by
    obtain ⟨l, us, e1, e2, e3, e4⟩ := r
    refine ⟨l, us, e1, hs l _ e2 e3, fun z => (hz l z).elim e3 (fun q => by rw [e2] at q; cases q), ?_⟩
    clear e2
    exact paired_imp (fun u p h => (excC p.1 p.2).mono hz hs h) e4
section
variable {X : Cx} {b : Bg} {W : WX} {n f : Str} {e : Expr} {t : VT} {p pos : Pos} {j : Nat}
/-- an error without fields, made by a call of its class -/
@[simp] def vExc0 (n : Str) : VT := fun _ Q _ => Q (.clm (excC n []))
theorem ve_exc0 (M : Mk0 X.K X.mg b n) (hg : Gl X n) (hdb : (n == ("__debug__" : Str)) = false := by decide) : VE X b W (.Call (.Name n p) [] [] pos) (vExc0 n) :=
  pe_mono (pe_exc (pmk_own0 PySem.F.excBase_ValueError M.q M.g M.k (raises_own M.s M.t) hg hdb)) fun σ H Q ⟨Zo, Z, ρ, Qd, Ed, v, q, l, m⟩ a ha =>
    l _ _ (.clm (excC n [])) (Ex.new ha) (Bg.new v.g ha) ⟨a, none, rfl, upd_same, v.fresh ha, .inl ⟨rfl, rfl⟩⟩ q
/-- an error with a field -/
@[simp] def vExc1 (n f : Str) (t : VT) : VT := fun ρ Q E => t ρ (fun d => ∃ p, d = .py p ∧ Q (.clm (excC n [(f, p)]))) E
theorem ve_exc1 (M : Mk1 X.prog X.w X.K X.mg X.base b n f) (hr : Room j X.A) (hg : Gl X n) (he : VE X b W e t) (hj : 2 ≤ j := by decide) (hdb : (n == ("__debug__" : Str)) = false := by decide)
    (hs : starEach [e] X.env = (false, eval e X.env) :: starEach [] X.env := by rfl) (hpl : (backTo pos (starEach [] X.env)).any (·.1) = false := by rfl) : VE X b W (.Call (.Name n p) [e] [] pos) (vExc1 n f t) :=
  pe_mono (pe_exc (pmk_oex (k := 1) (ds := []) (dvs := []) M.T M.iC M.tI M.F (hr.mono hj) M.bd .nil passL hg M.g (va_cons he va_nil hs) hdb hs hpl)) fun σ H Q ⟨Zo, Z, ρ, Qd, Ed, v0, q, l, m⟩ => by
    refine ⟨Zo, Z, ρ, fun ds => match ds with | [d] => ∃ p, d = .py p ∧ Qd (.clm (excC n [(f, p)])) | _ => False, Ed, v0, q, fun vs H1 ds x1 g1 r1 q1 => ?_, m⟩
    match ds, q1, r1 with
    | [_], ⟨p, rfl, q1⟩, .cons (v := v) rv .nil =>
      refine ⟨by show 1 ≤ 1000; omega, fun a ha => ⟨a, b.cls n, v, rfl, M.T, M.hno, upd_same, fun dx hd hne => ⟨rfl, dx, [(f, v)], upd_same, ?_, ?_, ?_⟩⟩⟩
      · rw [upd_ne hne]; exact upd_same
      · rw [upd_ne hne] at hd; exact hd
      · have hd1 : H1 dx = none := by rw [upd_ne hne] at hd; exact hd
        generalize hHf : upd (del (upd (upd (upd H1 a (exo a (b.cls n) none)) dx (exd dx [(f, v)])) a (exo a (b.cls n) (some dx))) a) dx (.xd [(f, v)]) = Hf
        have at_ : ∀ c, c ≠ a → c ≠ dx → Hf c = H1 c := fun c c1 c2 => by rw [← hHf, upd_ne c2, del_ne c1, upd_ne c1, upd_ne c2, upd_ne c1]
        have hfd : Hf dx = some (.xd [(f, v)]) := by rw [← hHf]; exact upd_same
        have x2 : Ex b H1 Hf := fun c o hc _ => by
          rw [at_ c (fun z => by rw [z, ha] at hc; cases hc) (fun z => by rw [z, hd1] at hc; cases hc)]
          exact hc
        have g2 : b.G Hf := b.loc H1 Hf (fun c hc => at_ c (fun z => b.dom H1 c g1 hc (by rw [z]; exact ha)) (fun z => b.dom H1 c g1 hc (by rw [z]; exact hd1))) (fun c o _ e => by rw [at_ c (fun z => by rw [z, ha] at e; cases e) (fun z => by rw [z, hd1] at e; cases e)]; exact e) g1
        have v1 := v0.ex x1 g1
        have v2 := v1.ex x2 g2
        intro a' ha'
        have v3 := v2.ex (Ex.new (o := ExV (.ref (b.cls n)) (some dx) a') ha') (Bg.new g2 ha')
        have rq := v2.rq (Ex.new (o := ExV (.ref (b.cls n)) (some dx) a') ha') (v1.rq x2 rv)
        have hda : dx ≠ a' := fun z => by rw [z, ha'] at hfd; cases hfd
        exact l _ _ (.clm (excC n [(f, p)])) (x1.trans (x2.trans (Ex.new ha'))) (Bg.new g2 ha') ⟨a', some dx, rfl, upd_same, v2.fresh ha', .inr ⟨dx, _, rfl, by rw [upd_ne hda]; exact hfd, v1.fresh hd1, .cons rq .nil⟩⟩ q1
end
/-! ### isinstance of such a value -/
def rIsE (K : PySem.W.Frag) : List V → Hp → VK → Prop := fun xs H Q => ∃ (a D : Addr) (d : Option Addr) (c : V) (cv : Value) (k : Bool), xs = [.ref a, c] ∧ H a = some (ExV (.ref D) d a) ∧ ErrC K D ∧ (∀ u, RelV c u → u = cv) ∧ PySem.W.kitOne K (.ref D) cv = some k ∧ (∀ dd, d = some dd → ∃ fs, H dd = some (.xd fs)) ∧ Q (.bl k) H
section
variable {X : Cx} {b : Bg} {W : WX} {names : List Str} {x f : Str} {e : Expr} {t : VT} {p p1 pos : Pos}
theorem exV_at {pins : List (Addr × Obj)} {σ : L2.St} {H : Hp} {s : Shared} (I : Inv X pins σ H s) {a : Addr} {cls : Value} {d : Option Addr} (e : H a = some (ExV cls d a)) : ∃ oe vs, s.heap.get? a = some oe ∧ Zc cls d oe ∧ oe.data = .fields vs := by
  have h : ObjOk X.prog X.w H s.heap a (ExV cls d a) := I.hok a _ e
  exact h.1
theorem call_isE : CallR X (.builtin "isinstance") (rIsE X.K) := by
  intro pins s σ H xs us Q I r ⟨a, D, d, c, cv, k, ex, ha, C, hcv, e, hd, q⟩
  subst ex
  obtain ⟨u1, u2, rfl, r1, r2⟩ := vals2 r
  cases r1
  have ec := hcv _ r2
  subst ec
  obtain ⟨oe, vs, hget, hz, hdat⟩ := exV_at I ha
  exact PySem.W.kia_one (PySem.W.kitx_excA C.hg C.hk C.hs C.hd C.ha C.hn C.ht C.hm) I.kIn (inst_of hget hz.1 hz.2 ⟨vs, hdat⟩ fun dd ed => by obtain ⟨fs, e⟩ := hd dd ed; exact xd_at I e) e (fun z => nomatch z) fun tk => ⟨.bl k, H, I.kept (t' := tk) fun _ _ z => z, rfl, q⟩
@[simp] def vIsE (names : List Str) (x : Str) (t : VT) : VT := fun ρ Q E => t ρ (fun d => ∃ n fs, d = .clm (excC n fs) ∧ n ∈ names ∧ Q (.py (.bool (errSub n x)))) E
theorem ve_isE (T : ErrT X.K X.mg b names x) (C : ∀ n ∈ names, ErrC X.K (b.cls n)) (hg : Gl X "isinstance") (hm : X.mg "isinstance" = none) (he : VE X b W e t) (hgx : Gl X x)
    (hdx : (x == ("__debug__" : Str)) = false := by decide) (hs : starEach [e, .Name x p1] X.env = (false, eval e X.env) :: starEach [.Name x p1] X.env := by rfl) (hs2 : starEach [.Name x p1] X.env = (false, eval (.Name x p1) X.env) :: starEach [] X.env := by rfl) (hpl : (backTo pos (starEach [.Name x p1] X.env)).any (·.1) = false := by rfl) :
    VE X b W (.Call (.Name "isinstance" p) [e, .Name x p1] [] pos) (vIsE names x t) := by
  obtain ⟨Cx, hmx, hsub⟩ := T.ex
  refine pe_mono (pe_callB call_isE hg hm bb_isi (pa_cons he (pa_cons (pe_glob (v := .ref Cx) hgx hmx rfl hdx) pa_nil hs2) hs) (by decide) (by decide) hs hpl) fun σ H Q ⟨Zo, Z, ρ, Qd, Ed, v, q, l, m⟩ => ⟨Zo, Z, ρ, _, Ed, v, q, fun u H1 d x1 g1 r1 ⟨n, fs, ed, hn, q1⟩ => ?_, m⟩
  subst ed
  obtain ⟨a, dd, eu, ha, nz, hf⟩ := r1
  subst eu
  refine ⟨a, b.cls n, dd, .ref Cx, .ref Cx, errSub n x, rfl, ha, C n hn, fun w hw => hw, (hsub n hn).2, fun d2 ed => ?_, l (.bl _) H1 (.py (.bool _)) x1 g1 (Rq.bl _) q1⟩
  rcases hf with ⟨h, _⟩ | ⟨d3, xs, e3, h3, _⟩
  · rw [h] at ed; cases ed
  · rw [e3] at ed; cases ed; exact ⟨xs, h3⟩
theorem ve_isEV (T : ∀ n ∈ names, PySem.W.kitOne X.K (.ref (b.cls n)) (.type "ValueError") = some true) (C : ∀ n ∈ names, ErrC X.K (b.cls n)) (hg : Gl X "isinstance") (hm : X.mg "isinstance" = none) (he : VE X b W e t) (hgx : Gl X "ValueError") (hmx : X.mg "ValueError" = none)
    (hs : starEach [e, .Name "ValueError" p1] X.env = (false, eval e X.env) :: starEach [.Name "ValueError" p1] X.env := by rfl) (hs2 : starEach [.Name "ValueError" p1] X.env = (false, eval (.Name "ValueError" p1) X.env) :: starEach [] X.env := by rfl) (hpl : (backTo pos (starEach [.Name "ValueError" p1] X.env)).any (·.1) = false := by rfl) :
    VE X b W (.Call (.Name "isinstance" p) [e, .Name "ValueError" p1] [] pos) (vIsE names "ValueError" t) := by
  refine pe_mono (pe_callB call_isE hg hm bb_isi (pa_cons he (pa_cons (pe_bltn (v := .ty "ValueError") hgx hmx PyProof.Rows.Boot.«ValueError» rfl) pa_nil hs2) hs) (by decide) (by decide) hs hpl) fun σ H Q ⟨Zo, Z, ρ, Qd, Ed, v, q, l, m⟩ => ⟨Zo, Z, ρ, _, Ed, v, q, fun u H1 d x1 g1 r1 ⟨n, fs, ed, hn, q1⟩ => ?_, m⟩
  subst ed
  obtain ⟨a, dd, eu, ha, nz, hf⟩ := r1
  subst eu
  have ek : errSub n "ValueError" = true := by
    unfold errSub
    have : ((("ValueError" : Str)) == (("ValueError" : Str))) = true := beq_self_eq_true _
    rw [this, Bool.or_true]
  rw [ek] at q1
  refine ⟨a, b.cls n, dd, .ty "ValueError", .type "ValueError", true, rfl, ha, C n hn, fun w hw => hw, T n hn, fun d2 ed => ?_, l (.bl _) H1 (.py (.bool _)) x1 g1 (Rq.bl _) q1⟩
  rcases hf with ⟨h, _⟩ | ⟨d3, xs, e3, h3, _⟩
  · rw [h] at ed; cases ed
  · rw [e3] at ed; cases ed; exact ⟨xs, h3⟩
/-! ### a field of such a value -/
theorem pe_xfE {te : TE} (he : PE X e te) (hb : attributeBase e f X.env (eval e X.env) = eval e X.env := by rfl) :
    PE X (.Attribute e f pos) (fun σ H Q => te σ H fun x H1 => ∃ (a C dd : Addr) (fs : List (Str × V)) (v : V), x = .ref a ∧ H1 a = some (ExV (.ref C) (some dd) a) ∧ XfC X.K C ∧ PySem.W.findIn X.K (.ref C) f = some none ∧ H1 dd = some (.xd fs) ∧ fs.lookup f = some v ∧ Q v H1) := by
  refine ⟨fun pins s σ H Q I h => ?_⟩
  refine attr_of hb (thn (he.run pins s σ H _ I h) fun u s1 hh => ?_)
  obtain ⟨x, H1, I1, rx, a, C, dd, fs, v, ex, eaa, T, hno, ea, l, q⟩ := hh
  subst ex
  obtain rfl : u = Value.ref a := rx
  obtain ⟨oe, vs, ha, hz, hd⟩ := exV_at I1 eaa
  have hx : ObjOk X.prog X.w H1 s1.heap dd (.xd fs) := I1.hok dd _ ea
  obtain ⟨mA, hns, hr⟩ := hx
  obtain ⟨od, ho, hl⟩ := lookIn_ns hns
  obtain ⟨u, hu, ru⟩ := RelO.some_of (v := v) (o := mA f) (by rw [← l]; exact hr f)
  have J : PySem.W.InstAt s1.heap a oe C (some od) := ⟨ha, hz.1, by unfold PySem.W.notCls; rw [hd] <;> rfl, by rw [hz.2]; exact ho⟩
  exact HandSPX.exc_get I1.kIn J T.ga T.gg T.exC (PySem.W.findObj_own T.hdC hno rfl (by rw [hl, hu])) (handed_of ru) ⟨v, H1, I1.tok _, ru, q⟩
@[simp] def vFldE (nf : List Str) (f : Str) (t : VT) : VT := fun ρ Q E => t ρ (fun d => ∃ n fs q, d = .clm (excC n fs) ∧ n ∈ nf ∧ fs.lookup f = some q ∧ Q (.py q)) E
theorem ve_fldE (F : ∀ n ∈ names, FldC X.K (b.cls n) f) (he : VE X b W e t) (hb : attributeBase e f X.env (eval e X.env) = eval e X.env := by rfl) : VE X b W (.Attribute e f pos) (vFldE names f t) :=
  pe_mono (pe_xfE he hb) fun σ H Q ⟨Zo, Z, ρ, Qd, Ed, v, q, l, m⟩ => ⟨Zo, Z, ρ, _, Ed, v, q, fun u H1 d x1 g1 r1 ⟨n, fs, p, ed, hn, hl, q1⟩ => by
    subst ed
    obtain ⟨a, d, eu, ha, nz, hf⟩ := r1
    subst eu
    rcases hf with ⟨_, hfs⟩ | ⟨dd, xs, e3, h3, nz3, rf⟩
    · rw [hfs] at hl; cases hl
    · subst e3
      obtain ⟨w, hw, rw'⟩ := rf.look hl
      have F' := F n hn
      exact ⟨a, b.cls n, dd, xs, w, rfl, ha, F'.x, F'.no, h3, hw, l w H1 (.py p) x1 g1 rw' q1⟩, m⟩
end
/-! ### lists of such values -/
section
variable {X : Cx} {b : Bg} {W : WX} {es : List Expr} {e1 e2 : Expr} {t1 t2 : VT} {pos : Pos} {Z : Addr → Prop} {H : Hp}
abbrev eR (cls : Str → Addr) (Z : Addr → Prop) (H : Hp) : V → Str × List (Str × PyData) → Prop := fun u p => (excC p.1 p.2).R cls Z H u
theorem rps_exc : ∀ {L : List (Str × List (Str × PyData))} {vs : List V}, Rps b Z H vs (L.map fun p => .clm (excC p.1 p.2)) → Paired (eR b.cls Z H) vs L
  | [], _, .nil => .nil
  | _ :: _, _, .cons r t => .cons r (rps_exc t)
theorem paired_up {L : List (Str × List (Str × PyData))} {vs : List V} {a : Addr} {o : HO} (r : Paired (eR b.cls Z H) vs L) (h : H a = none) : Paired (eR b.cls Z (upd H a o)) vs L :=
  paired_imp (fun u p q => (excC p.1 p.2).mono (fun _ z => .inl z) (VL.up h) q) r
@[simp] def vLstE (u : VA) : VT := fun ρ Q E => u ρ (fun ds => ∃ L : List (Str × List (Str × PyData)), ds = L.map (fun p => .clm (excC p.1 p.2)) ∧ L.length ≤ sizeLine ∧ Q (.clm (excL L))) E
theorem ve_lstE {u : VA} (k : VAs X b W es u) : VE X b W (.List es pos) (vLstE u) :=
  pe_mono (pe_lst k) fun σ H Q ⟨Zo, Z, ρ, Qd, Ed, v, q, l, m⟩ => ⟨Zo, Z, ρ, _, Ed, v, q, fun xs H1 ds x1 g1 r1 ⟨L, e, hl, q1⟩ => by
    subst e
    have r2 := rps_exc r1
    exact ⟨by rw [r2.length]; exact hl, fun p hp => l _ _ (.clm (excL L)) (x1.trans (Ex.new hp)) (Bg.new g1 hp) ⟨p, xs, rfl, upd_same, (v.ex x1 g1).fresh hp, paired_up r2 hp⟩ q1⟩, m⟩
theorem paired_app {α β : Type} {R : α → β → Prop} : ∀ {xs ys : List α} {us ws : List β}, Paired R xs us → Paired R ys ws → Paired R (xs ++ ys) (us ++ ws)
  | _, _, _, _, .nil, s => s
  | _, _, _, _, .cons r t, s => .cons r (paired_app t s)
@[simp] def gCatE : D → D → (D → Prop) → Prop := fun x y Q => ∃ L M : List (Str × List (Str × PyData)), x = .clm (excL L) ∧ y = .clm (excL M) ∧ L.length + M.length ≤ sizeLine ∧ Q (.clm (excL (L ++ M)))
theorem rd_catE : OpD b (RE b) rCat gCatE := by
  intro Z H x y dx dy Q Qd gd rx ry ⟨L, M, e1, e2, hl, h⟩ k
  subst e1 e2
  rcases rx with rx | ⟨_, _, _, _, w⟩
  case inr => exact False.elim w
  rcases ry with ry | ⟨_, _, _, _, w⟩
  case inr => exact False.elim w
  obtain ⟨a, us, rfl, ha, na, qa⟩ := rx
  obtain ⟨c, ws, rfl, hc, nc, qc⟩ := ry
  refine ⟨a, c, us, ws, rfl, rfl, ha, hc, by rw [qa.length, qc.length]; exact hl, fun p hp => k _ _ (.clm (excL (L ++ M))) (Ex.new hp) (gd.new hp) ⟨p, _, rfl, upd_same, gd.fresh hp, paired_up (paired_app qa qc) hp⟩ h⟩
theorem ve_catE (h1 : VX X b W e1 t1) (h2 : VX X b W e2 t2) : VE X b W (.BinOp e1 .Add e2 pos) (vBin gCatE t1 t2) := ve_op op_cat rd_catE h1 h2
theorem paired_at {α β : Type} {R : α → β → Prop} : ∀ {xs : List α} {ys : List β} {i : Nat} {y : β}, Paired R xs ys → ys[i]? = some y → ∃ x, xs[i]? = some x ∧ R x y
  | _, _, 0, _, .cons r _, e => ⟨_, rfl, by simp at e; exact e ▸ r⟩
  | _, _, i + 1, _, .cons _ t, e => by
    obtain ⟨x, h1, h2⟩ := paired_at (i := i) t (by simpa using e)
    exact ⟨x, by simpa using h1, h2⟩
  | _, _, _, _, .nil, e => by simp at e
/-- its items, one by one -/
@[simp] def iSE (t : VT) : VIt := fun ρ Q E => t ρ (fun d => ∃ L : List (Str × List (Str × PyData)), d = .clm (excL L) ∧ Q (L.map fun p => .clm (excC p.1 p.2))) E
theorem vi_srcE {tg e : Expr} {t : VT} (h : VE X b W e t) : VI X b W tg e (iSE t) := pi_mono (pi_src h) fun σ H R ⟨Zo, Z, ρ, Qd, Ed, v, q, l, m⟩ =>
  ⟨Zo, Z, ρ, _, Ed, v, q, fun x H1 d x1 g1 r1 ⟨L, ed, q1⟩ => by
    subst ed
    obtain ⟨a, us, rfl, ha, na, qa⟩ := r1
    refine ⟨us, _, .l (SqL.of ha), fun k hk => l _ H1 _ x1 g1 ⟨fun i d H2 hd h2 g => ?_, fun i H2 hl h2 => ?_⟩ q1⟩
    · rw [List.getElem?_map] at hd
      cases e : L[i]? with
      | none => rw [e] at hd; cases hd
      | some p =>
        rw [e] at hd; cases hd
        obtain ⟨x, hx, r⟩ := paired_at qa e
        have gv : k.gives X.K H2 us := by rw [hk]; exact SqL.of (h2 a _ ha na)
        refine ⟨⟨us, x, gv, hx⟩, fun v H3 y => ?_⟩
        obtain ⟨eH, y⟩ := y
        subst eH
        have : x = v := Option.some.inj (hx.symm.trans (y us gv))
        subst this
        exact ⟨Ex.refl, g, fun Z2 hz _ => (excC p.1 p.2).mono hz h2 r⟩
    · have gv : k.gives X.K H2 us := by rw [hk]; exact SqL.of (h2 a _ ha na)
      exact ⟨us, gv, by rw [qa.length, ← hl, List.length_map]; exact Nat.le_refl _⟩, m⟩
theorem vib_srcE {tg e : Expr} {t : VT} (h : VX X b W e t) : VIb X b W tg e (iSE t) := pi_mono (pi_src h) fun σ H R ⟨Zo, Z, ρ, Qd, Ed, v, q, l, m⟩ =>
  ⟨Zo, Z, ρ, _, Ed, v, q, fun x H1 d x1 g1 r1 ⟨L, ed, q1⟩ => by
    subst ed
    have gd := (v.ex x1 g1).gd
    rcases r1 with r1 | ⟨_, _, _, _, w⟩
    case inr => exact False.elim w
    obtain ⟨a, us, rfl, ha, na, qa⟩ := r1
    have nb : ∀ {c : Addr}, ¬ Z c → ¬ b.B c := fun n z => n (gd.zb _ z)
    refine ⟨us, _, .l (SqL.of ha), fun k hk => l _ H1 _ x1 g1 ⟨fun i d H2 hd h2 g => ?_, fun i H2 hl h2 => ?_⟩ q1⟩
    · rw [List.getElem?_map] at hd
      cases e : L[i]? with
      | none => rw [e] at hd; cases hd
      | some p =>
        rw [e] at hd; cases hd
        obtain ⟨x, hx, r⟩ := paired_at qa e
        have gv : k.gives X.K H2 us := by rw [hk]; exact SqL.of (h2 a _ ha (nb na))
        refine ⟨⟨us, x, gv, hx⟩, fun v H3 y => ?_⟩
        obtain ⟨eH, y⟩ := y
        subst eH
        have : x = v := Option.some.inj (hx.symm.trans (y us gv))
        subst this
        exact ⟨Ex.refl, g, fun Z2 hz _ => (excC p.1 p.2).mono hz (fun a o e n => h2 a o e (nb n)) r⟩
    · have gv : k.gives X.K H2 us := by rw [hk]; exact SqL.of (h2 a _ ha (nb na))
      exact ⟨us, gv, by rw [qa.length, ← hl, List.length_map]; exact Nat.le_refl _⟩, m⟩
/-- a pair of a number and an error, as enumerate hands it out -/
def enC (k : Int) (n : Str) (fs : List (Str × PyData)) : Clm where
  R cls Z H v := ∃ (T : Addr) (o : Obj) (x : V), v = .ref T ∧ H T = some (HO.th o [.int k, x]) ∧ o.dict = none ∧ ¬ Z T ∧ (excC n fs).R cls Z H x
  mono := fun {cls Z Z' H H' v} hz hs r => by
    obtain ⟨T, o, x, e1, e2, e3, e4, e5⟩ := r
    exact ⟨T, o, x, e1, hs T _ e2 e4, e3, fun z => (hz T z).elim e4 (fun q => by rw [e2] at q; cases q), (excC n fs).mono hz hs e5⟩
@[simp] def tgEn (u : VTgs) : VTg := fun d ρ Q => ∃ k n fs, d = .clm (enC k n fs) ∧ u [.py (.int k), .clm (excC n fs)] ρ Q
theorem vg_en {tgs : List Expr} {k : Nat} {js : List Nat} {u : VTgs} (hc : X.calm = true) (h : VGs X b tgs js u) (hn : (assignEach tgs X.env).length = 2 := by rfl) (hst : (assignEach tgs X.env).findIdx? (·.1) = none := by rfl) : VG X b (.Tuple tgs k pos) js (tgEn u) :=
  pg_mono (pg_tup hc h hn hst) fun v σ H Q ⟨H0, M, Zo, Z, ρ, d, Qd, f, r, ⟨k, n, fs, e, q⟩, kk⟩ => by
    subst e
    obtain ⟨T, o, x, rfl, hT, ho, nT, rx⟩ := r
    exact ⟨T, [.int k, x], rfl, SqT.th hT, rfl, H0, M, Zo, Z, ρ, _, Qd, f, Rps.cons (d := .py (.int k)) (Rq.int _) (Rps.cons (d := .clm (excC n fs)) rx .nil), q, kk⟩
@[simp] def iEnE (t : VA) : VIt := fun ρ Q E => t ρ (fun ds => ∃ L : List (Str × List (Str × PyData)), ds = [.clm (excL L)] ∧ Q (L.zipIdx.map fun p => .clm (enC p.2 p.1.1 p.1.2))) E
theorem vi_enumE {elts : List Expr} {kk : Nat} {tpos p : Pos} {e : Expr} {ta : VA} (hg : Gl X "enumerate") (hm : X.mg "enumerate" = none) (h : VAs X b W [e] ta) (hs : starEach [e] X.env = [(false, eval e X.env)] := by rfl) : VI X b W (.Tuple elts kk tpos) (.Call (.Name "enumerate" p) [e] [] pos) (iEnE ta) :=
  pi_mono (pi_enumS hg hm h hs) fun σ H R ⟨Zo, Z, ρ, Qd, Ed, v, q, l, m⟩ =>
    ⟨Zo, Z, ρ, _, Ed, v, q, fun x H1 d x1 g1 r1 ⟨L, ed, q1⟩ => by
      subst ed
      obtain ⟨w, rfl, r2⟩ := rbs1 r1
      obtain ⟨a, us, rfl, ha, na, qa⟩ := r2
      refine ⟨_, us, _, rfl, .l (SqL.of ha), fun k hk => l _ H1 _ x1 g1 ⟨fun i d H2 hd h2 g => ?_, fun i H2 hl h2 => ?_⟩ q1⟩
      · rw [List.getElem?_map, List.getElem?_zipIdx] at hd
        cases e : L[i]? with
        | none => rw [e] at hd; cases hd
        | some p =>
          rw [e] at hd
          simp only [Option.map_some, Nat.zero_add, Option.some.injEq] at hd
          subst hd
          obtain ⟨x, hx, r⟩ := paired_at qa e
          have gv : k.gives X.K H2 us := by rw [hk]; exact SqL.of (h2 a _ ha na)
          refine ⟨⟨us, x, gv, hx⟩, fun v H3 y => ?_⟩
          obtain ⟨T, o, x', rfl, hT, ho, eH, y⟩ := y
          subst eH
          have : x = x' := Option.some.inj (hx.symm.trans (y us gv))
          subst this
          exact ⟨Ex.new hT, Bg.new g hT, fun Z2 hz h3 => ⟨T, o, x, rfl, upd_same, ho, fun z => h3 T z hT, (excC p.1 p.2).mono (fun _ z => .inl z) (VL.up hT) ((excC p.1 p.2).mono hz h2 r)⟩⟩
      · have gv : k.gives X.K H2 us := by rw [hk]; exact SqL.of (h2 a _ ha na)
        exact ⟨us, gv, by rw [qa.length, ← hl, List.length_map, List.length_zipIdx]⟩, m⟩
/-- a list of two: a list of errors, a list of data -/
def prC (L : List (Str × List (Str × PyData))) (ps : List PyData) : Clm where
  R cls Z H v := ∃ (l : Addr) (x y : V), v = .ref l ∧ H l = some (.lst [x, y]) ∧ ¬ Z l ∧ (excL L).R cls Z H x ∧ Rq Z H y (.list ps)
  mono := fun {cls Z Z' H H' v} hz hs r => by
    obtain ⟨l, x, y, e1, e2, e3, e4, e5⟩ := r
    exact ⟨l, x, y, e1, hs l _ e2 e3, fun z => (hz l z).elim e3 (fun q => by rw [e2] at q; cases q), (excL L).mono hz hs e4, e5.mono hz hs⟩
@[simp] def vLstPr (u : VA) : VT := fun ρ Q E => u ρ (fun ds => ∃ L ps, ds = [.clm (excL L), .py (.list ps)] ∧ Q (.clm (prC L ps))) E
theorem ve_lstPr {u : VA} (k : VAs X b W es u) : VE X b W (.List es pos) (vLstPr u) :=
  pe_mono (pe_lst k) fun σ H Q ⟨Zo, Z, ρ, Qd, Ed, v, q, l, m⟩ => ⟨Zo, Z, ρ, _, Ed, v, q, fun xs H1 ds x1 g1 r1 ⟨L, ps, e, q1⟩ => by
    subst e
    obtain ⟨x, y, rfl, r2, r3⟩ := rbs2 r1
    refine ⟨by show 2 ≤ sizeLine; rw [sizeLine_eq]; omega, fun p hp => l _ _ (.clm (prC L ps)) (x1.trans (Ex.new hp)) (Bg.new g1 hp) ⟨p, x, y, rfl, upd_same, (v.ex x1 g1).fresh hp, (excL L).mono (fun _ z => .inl z) (VL.up hp) r2, ?_⟩ q1⟩
    exact Rq.mono (fun _ z => .inl z) (VL.up hp) r3, m⟩
@[simp] def tgPr (u : VTgs) : VTg := fun d ρ Q => ∃ L ps, d = .clm (prC L ps) ∧ u [.clm (excL L), .py (.list ps)] ρ Q
theorem vg_pr {tgs : List Expr} {k : Nat} {js : List Nat} {u : VTgs} (hc : X.calm = true) (h : VGs X b tgs js u) (hn : (assignEach tgs X.env).length = 2 := by rfl) (hst : (assignEach tgs X.env).findIdx? (·.1) = none := by rfl) : VG X b (.Tuple tgs k pos) js (tgPr u) :=
  pg_mono (pg_unl hc h hn hst) fun v σ H Q ⟨H0, M, Zo, Z, ρ, d, Qd, f, r, ⟨L, ps, e, q⟩, kk⟩ => by
    subst e
    obtain ⟨l, x, y, rfl, hl, nl, r1, r2⟩ := r
    exact ⟨l, [x, y], rfl, SqL.of hl, rfl, H0, M, Zo, Z, ρ, _, Qd, f, Rps.cons (d := .clm (excL L)) r1 (Rps.cons (d := .py (.list ps)) r2 .nil), q, kk⟩
end
end VL
set_option Elab.async false
set_option linter.all false
set_option maxRecDepth 100000
set_option maxHeartbeats 4000000
namespace LawP
open PySem PySem.Spec PyProof.Rows L2 VL
def t_law_odd (S_law_pick : SV) : VS :=
  (sSeq (sSet 1 (vLst (vCons (vC (.py .none)) (vCons (vC (.py (.bool true))) (vCons (vC (.py (.bool false))) (vCons (vUn gNeg (vC (.py (.int 1)))) (vCons (vC (.py (.int 0))) (vCons (vC (.py (.int 1))) (vCons (vC (.py (.int 40))) (vCons (vBin gAdd (vBin gPow (vC (.py (.int 10))) (vC (.py (.int 9)))) (vC (.py (.int 1)))) (vCons (vBin gPow (vC (.py (.int 10))) (vC (.py (.int 39)))) (vCons (vC (.py (.str ""))) (vCons (vC (.py (.str "a"))) (vCons (vC (.py (.str "as"))) (vCons (vC (.py (.str "0"))) (vCons (vTup vNil) (vCons (vLst vNil) (vCons vD0 (vCons (vTup (vCons (vC (.py (.int 0))) vNil)) (vCons (vLst (vCons (vC (.py (.int 0))) vNil)) (vCons (vTup (vCons (vC (.py (.bool true))) vNil)) vNil)))))))))))))))))))))
  (sRet (vCall S_law_pick (vCons (vVar 0) (vCons (vBin gAdd (vBor 1) (vLst (vCons (vTup (vCons (vC (.py (.str "a"))) (vCons (vC (.py (.str "s"))) vNil))) (vCons (vTup (vCons (vC (.py (.int 0))) (vCons (vC (.py (.int 0))) vNil))) (vCons (vC (.py (.str "none"))) (vCons (vD1 (.inr "a") (vC (.py (.int 0)))) (vCons (vTup (vCons (vC (.py (.int 1))) (vCons (vC (.py (.int 0))) vNil))) vNil))))))) vNil)))))
end LawP
set_option Elab.async false
set_option linter.all false
set_option maxRecDepth 100000
set_option maxHeartbeats 4000000
namespace LawP
open PySem PySem.Spec PyProof.Rows L2 VL
end LawP
set_option Elab.async false
set_option linter.all false
namespace LawP
open PySem VL
/-! ### mates: the mathematics -/
/-- the latest person before i of the group g -/
def lastIn (row : List Int) (g : Int) (i : Nat) : Option Nat := ((List.range i).filter fun j => row[j]? == some g).getLast?
def mateOf (row : List Int) (i : Nat) : Option Nat := (row[i]?).bind fun g => lastIn row g i
def matesL (row : List Int) : List (Option Nat) := (List.range row.length).map (mateOf row)
end LawP
set_option Elab.async false
set_option linter.all false
set_option maxRecDepth 100000
set_option maxHeartbeats 4000000
namespace LawP
open PySem PySem.Spec PyProof.Rows L2 VL
/-! ### mates -/
def matesP (row : List Int) : PyData := .tuple ((matesL row).map oN)
@[simp] def S_mates : SV := fun ds Q _ => ∃ row : List Int, ds = [.py (tI row)] ∧ row.length ≤ 1000 ∧ Q (.py (matesP row))
/-! ### a drawn row -/
@[simp] def S_law_drawn (r : Addr) : SV
  | [.raw v, .py (.int m)], Q, _ => v = .ref r ∧ 1 ≤ m ∧ m ≤ 40 ∧ ∀ gs : List Int, gs ≠ [] → gs.length ≤ m → (∀ g ∈ gs, 0 ≤ g ∧ g ≤ 1000000000) → Q (.py (.tuple (gs.map PyData.int)))
  | _, _, _ => False
end LawP
set_option Elab.async false
set_option linter.all false
namespace LawP
open PySem VL
/-! ### words: the mathematics -/
def isL (c : Nat) : Bool := c == 97 || c == 115
/-- the places of signs that are no letters -/
def badW (w : List Nat) : List Nat := (w.zipIdx.filter fun p => !isL p.1).map (·.2)
/-- the first arrival or service too many: n persons, from place k on, behind a arrivals and s services -/
def scanP (n : Nat) : Nat → Nat → Nat → List Nat → PyData
  | _, _, _, [] => .none
  | k, a, s, c :: w => if c = 97 then (if a = n then .tuple [.int k, .str "arrival"] else scanP n (k + 1) (a + 1) s w) else (if s = a then .tuple [.int k, .str "service"] else scanP n (k + 1) a (s + 1) w)
def wErrL (n : Nat) (w : List Nat) : PyData := match badW w with
  | i :: _ => .tuple [.int (i : Nat), .str "letter"]
  | [] => scanP n 0 0 0 w
def wErr (n : Nat) : PyData → PyData
  | .str z => wErrL n (sl z)
  | _ => .tuple [.none, .str "string"]
/-- w is what is left of a history of n persons, behind a arrivals and s services -/
def goodW (n : Nat) : Nat → Nat → List Nat → Prop
  | a, s, [] => a = n ∧ s = n
  | a, s, c :: w => (c = 97 ∧ a < n ∧ goodW n (a + 1) s w) ∨ (c = 115 ∧ s < a ∧ goodW n a (s + 1) w)
/-- histories -/
def HistW (n : Nat) (w : List Nat) : Prop := goodW n 0 0 w
end LawP
set_option Elab.async false
set_option linter.all false
set_option maxRecDepth 100000
set_option maxHeartbeats 4000000
namespace LawP
open PySem PySem.Spec PyProof.Rows L2 VL
@[simp] theorem lit_a : Str.ofString "a" = mkS [97] := by decide +kernel
@[simp] theorem lit_s : Str.ofString "s" = mkS [115] := by decide +kernel
@[simp] theorem lit_e : Str.ofString "" = mkS [] := by decide +kernel
@[simp] theorem lit_as : Str.ofString "as" = mkS [97, 115] := by decide +kernel
def isSm (p : PyData) : Prop := ∀ z, p = .str z → z.length ≤ 100000
/-! ### word_error -/
@[simp] def S_word_error : SV
  | [.py (.tuple xs), .py p], Q, _ => isSm p ∧ Q (.py (wErr xs.length p))
  | _, _, _ => False
/-! ### is_history -/
def isHist (n : Nat) (p : PyData) : Bool := match p with
  | .str z => isNn (wErr n (.str z)) && decide (z.length = 2 * n)
  | _ => false
@[simp] def S_is_history : SV
  | [.py (.tuple xs), .py p], Q, _ => isSm p ∧ xs.length ≤ 100000 ∧ Q (.py (.bool (isHist xs.length p)))
  | _, _, _ => False
/-! ### what is drawn -/
def odds : List PyData := [.none, .bool true, .bool false, .int (-1), .int 0, .int 1, .int 40, .int 1000000001, .int 1000000000000000000000000000000000000000, .str "", .str "a", .str "as", .str "0", .tuple [], .list [], .dict [], .tuple [.int 0], .list [.int 0], .tuple [.bool true], .tuple [.str "a", .str "s"], .tuple [.int 0, .int 0], .str "none", .dict [(.str "a", .int 0)], .tuple [.int 1, .int 0]]
theorem odds_sw : ∀ p ∈ odds, Sw 160 2 p := by decide +kernel
@[simp] def S_law_odd (r : Addr) : SV
  | [.raw v], Q, _ => v = .ref r ∧ ∀ p ∈ odds, Q (.py p)
  | _, _, _ => False
theorem l_law_odd (r : Addr) : ∀ ds Q E, S_law_odd r ds Q E → t_law_odd (svPick r) (envOf 2 ds) (fin Q E)
  | [.raw v], Q, E, ⟨hv, q⟩ => by
    subst hv
    simp [t_law_odd, AllIn]
    intro y hy
    exact q y (by simpa [odds, or_assoc] using hy)
@[simp] def S_law_word (r : Addr) : SV
  | [.raw v, .py (.int m), .py (.int way)], Q, _ => v = .ref r ∧ 0 ≤ m ∧ m ≤ 1000 ∧ 0 ≤ way ∧ way < 5 ∧ ∀ w : List Nat, HistW m.toNat w → Q (.py (.str (mkS w)))
  | _, _, _ => False
/-! ### the law's own look at a word -/
@[simp] def S_law_fault : SV
  | [.py (.tuple xs), .py p], Q, _ => isSm p ∧ Q (.py (wErr xs.length p))
  | _, _, _ => False
/-! ### a word changed -/
@[simp] def S_law_twisted (r : Addr) : SV
  | [.raw v, .py (.str z)], Q, _ => v = .ref r ∧ z.length ≤ 50000 ∧ ∀ z' : Str, z'.length ≤ z.length + 10 → (∀ c ∈ sl z', c ∈ sl z ∨ c < 128) → Q (.py (.str z'))
  | _, _, _ => False
end LawP
set_option Elab.async false
set_option linter.all false
set_option maxRecDepth 100000
set_option maxHeartbeats 4000000
namespace LawP
open PySem PySem.Spec PyProof.Rows L2 VL
/-! ### sizes of words and what is told of them -/
end LawP
set_option Elab.async false
set_option linter.all false
set_option maxRecDepth 100000
set_option maxHeartbeats 4000000
namespace LawP
open PySem PySem.Spec PyProof.Rows L2 VL
def t_law_made : VS :=
  (sSeq (sPar [1, 2, 3] (mCons false (vExc1 "Absent" "person" (vBin gIx (vBor 0) (vC (.py (.int 0))))) (mCons false (vExc1 "BadCount" "index" (vBin gIx (vBor 0) (vC (.py (.int 1))))) (mCons false (vExc1 "BadDemand" "index" (vBin gIx (vBor 0) (vC (.py (.int 2))))) mNil))))
  (sSeq (sPar [4, 5, 6] (mCons false (vExc1 "BadHistory" "index" (vBin gIx (vBor 0) (vC (.py (.int 3))))) (mCons false (vExc1 "BadText" "index" (vBin gIx (vBor 0) (vC (.py (.int 4))))) (mCons false (vExc1 "BadTimes" "value" (vBin gIx (vBor 0) (vC (.py (.int 5))))) mNil))))
  (sSeq (sPar [7, 8, 9] (mCons false (vExc1 "BadWord" "error" (vBin gIx (vBor 0) (vC (.py (.int 6))))) (mCons false (vExc1 "NoGroup" "value" (vBin gIx (vBor 0) (vC (.py (.int 7))))) (mCons false (vExc1 "NoIndex" "index" (vBin gIx (vBor 0) (vC (.py (.int 8))))) mNil))))
  (sSeq (sPar [10, 11, 12] (mCons false (vExc1 "NoPerson" "value" (vBin gIx (vBor 0) (vC (.py (.int 9))))) (mCons false (vExc1 "NoVersion" "version" (vBin gIx (vBor 0) (vC (.py (.int 10))))) (mCons false (vExc1 "Rejected" "index" (vBin gIx (vBor 0) (vC (.py (.int 11))))) mNil))))
  (sSeq (sSet 13 (vExc1 "TooLarge" "limit" (vBin gIx (vBor 0) (vC (.py (.int 12))))))
  (sSeq (sSet 14 (vLst (vCons (vFldE ["Absent"] "person" (vVar 1)) (vCons (vFldE ["BadCount", "BadDemand", "BadHistory", "BadText", "NoIndex", "Rejected"] "index" (vVar 2)) (vCons (vFldE ["BadCount", "BadDemand", "BadHistory", "BadText", "NoIndex", "Rejected"] "index" (vVar 3)) (vCons (vFldE ["BadCount", "BadDemand", "BadHistory", "BadText", "NoIndex", "Rejected"] "index" (vVar 4)) (vCons (vFldE ["BadCount", "BadDemand", "BadHistory", "BadText", "NoIndex", "Rejected"] "index" (vVar 5)) (vCons (vFldE ["BadTimes", "NoGroup", "NoPerson"] "value" (vVar 6)) (vCons (vFldE ["BadWord"] "error" (vVar 7)) (vCons (vFldE ["BadTimes", "NoGroup", "NoPerson"] "value" (vVar 8)) vNil))))))))))
  (sSeq (sSet 14 (vBin gAdd (vBor 14) (vLst (vCons (vFldE ["BadCount", "BadDemand", "BadHistory", "BadText", "NoIndex", "Rejected"] "index" (vVar 9)) (vCons (vFldE ["BadTimes", "NoGroup", "NoPerson"] "value" (vVar 10)) (vCons (vFldE ["NoVersion"] "version" (vVar 11)) (vCons (vFldE ["BadCount", "BadDemand", "BadHistory", "BadText", "NoIndex", "Rejected"] "index" (vVar 12)) (vCons (vFldE ["TooLarge"] "limit" (vVar 13)) vNil))))))))
  (sRet (vLstPr (vCons (vLstE (vCons (vVar 1) (vCons (vVar 2) (vCons (vVar 3) (vCons (vVar 4) (vCons (vVar 5) (vCons (vVar 6) (vCons (vVar 7) (vCons (vVar 8) (vCons (vVar 9) (vCons (vVar 10) (vCons (vVar 11) (vCons (vVar 12) (vCons (vVar 13) vNil)))))))))))))) (vCons (vVar 14) vNil)))))))))))
def t_law_plain : VS :=
  (sSeq (sSet 1 (vLst (vCons (vIsE ["TooLarge", "Absent", "BadCount", "BadDemand", "BadHistory", "BadText", "BadTimes", "BadWord", "NoGroup", "NoIndex", "NoPerson", "NoVersion", "Rejected", "BadBatch", "Busy", "Empty", "Impossible", "NoHistory", "NoOrder", "NothingToUndo", "TooManyEdits"] "BadBatch" (vVar 0)) (vCons (vIsE ["TooLarge", "Absent", "BadCount", "BadDemand", "BadHistory", "BadText", "BadTimes", "BadWord", "NoGroup", "NoIndex", "NoPerson", "NoVersion", "Rejected", "BadBatch", "Busy", "Empty", "Impossible", "NoHistory", "NoOrder", "NothingToUndo", "TooManyEdits"] "Busy" (vVar 0)) (vCons (vIsE ["TooLarge", "Absent", "BadCount", "BadDemand", "BadHistory", "BadText", "BadTimes", "BadWord", "NoGroup", "NoIndex", "NoPerson", "NoVersion", "Rejected", "BadBatch", "Busy", "Empty", "Impossible", "NoHistory", "NoOrder", "NothingToUndo", "TooManyEdits"] "Empty" (vVar 0)) vNil)))))
  (sSeq (sSet 1 (vBin gAdd (vBor 1) (vLst (vCons (vIsE ["TooLarge", "Absent", "BadCount", "BadDemand", "BadHistory", "BadText", "BadTimes", "BadWord", "NoGroup", "NoIndex", "NoPerson", "NoVersion", "Rejected", "BadBatch", "Busy", "Empty", "Impossible", "NoHistory", "NoOrder", "NothingToUndo", "TooManyEdits"] "Impossible" (vVar 0)) (vCons (vIsE ["TooLarge", "Absent", "BadCount", "BadDemand", "BadHistory", "BadText", "BadTimes", "BadWord", "NoGroup", "NoIndex", "NoPerson", "NoVersion", "Rejected", "BadBatch", "Busy", "Empty", "Impossible", "NoHistory", "NoOrder", "NothingToUndo", "TooManyEdits"] "NoHistory" (vVar 0)) (vCons (vIsE ["TooLarge", "Absent", "BadCount", "BadDemand", "BadHistory", "BadText", "BadTimes", "BadWord", "NoGroup", "NoIndex", "NoPerson", "NoVersion", "Rejected", "BadBatch", "Busy", "Empty", "Impossible", "NoHistory", "NoOrder", "NothingToUndo", "TooManyEdits"] "NoOrder" (vVar 0)) vNil))))))
  (sSeq (sSet 1 (vBin gAdd (vBor 1) (vLst (vCons (vIsE ["TooLarge", "Absent", "BadCount", "BadDemand", "BadHistory", "BadText", "BadTimes", "BadWord", "NoGroup", "NoIndex", "NoPerson", "NoVersion", "Rejected", "BadBatch", "Busy", "Empty", "Impossible", "NoHistory", "NoOrder", "NothingToUndo", "TooManyEdits"] "NothingToUndo" (vVar 0)) (vCons (vIsE ["TooLarge", "Absent", "BadCount", "BadDemand", "BadHistory", "BadText", "BadTimes", "BadWord", "NoGroup", "NoIndex", "NoPerson", "NoVersion", "Rejected", "BadBatch", "Busy", "Empty", "Impossible", "NoHistory", "NoOrder", "NothingToUndo", "TooManyEdits"] "TooManyEdits" (vVar 0)) vNil)))))
  (sRet (vLc [2] (iR1 (vCons (vC (.py (.int 8))) vNil)) (tgName 2) (vTst (vBin gIx (vBor 1) (vBor 2))) (vVar 2))))))
def t_law_filled : VS :=
  (sSeq (sSet 1 (vLst (vCons (vIsE ["TooLarge", "Absent", "BadCount", "BadDemand", "BadHistory", "BadText", "BadTimes", "BadWord", "NoGroup", "NoIndex", "NoPerson", "NoVersion", "Rejected", "BadBatch", "Busy", "Empty", "Impossible", "NoHistory", "NoOrder", "NothingToUndo", "TooManyEdits"] "Absent" (vVar 0)) (vCons (vIsE ["TooLarge", "Absent", "BadCount", "BadDemand", "BadHistory", "BadText", "BadTimes", "BadWord", "NoGroup", "NoIndex", "NoPerson", "NoVersion", "Rejected", "BadBatch", "Busy", "Empty", "Impossible", "NoHistory", "NoOrder", "NothingToUndo", "TooManyEdits"] "BadCount" (vVar 0)) (vCons (vIsE ["TooLarge", "Absent", "BadCount", "BadDemand", "BadHistory", "BadText", "BadTimes", "BadWord", "NoGroup", "NoIndex", "NoPerson", "NoVersion", "Rejected", "BadBatch", "Busy", "Empty", "Impossible", "NoHistory", "NoOrder", "NothingToUndo", "TooManyEdits"] "BadDemand" (vVar 0)) vNil)))))
  (sSeq (sSet 1 (vBin gAdd (vBor 1) (vLst (vCons (vIsE ["TooLarge", "Absent", "BadCount", "BadDemand", "BadHistory", "BadText", "BadTimes", "BadWord", "NoGroup", "NoIndex", "NoPerson", "NoVersion", "Rejected", "BadBatch", "Busy", "Empty", "Impossible", "NoHistory", "NoOrder", "NothingToUndo", "TooManyEdits"] "BadHistory" (vVar 0)) (vCons (vIsE ["TooLarge", "Absent", "BadCount", "BadDemand", "BadHistory", "BadText", "BadTimes", "BadWord", "NoGroup", "NoIndex", "NoPerson", "NoVersion", "Rejected", "BadBatch", "Busy", "Empty", "Impossible", "NoHistory", "NoOrder", "NothingToUndo", "TooManyEdits"] "BadText" (vVar 0)) (vCons (vIsE ["TooLarge", "Absent", "BadCount", "BadDemand", "BadHistory", "BadText", "BadTimes", "BadWord", "NoGroup", "NoIndex", "NoPerson", "NoVersion", "Rejected", "BadBatch", "Busy", "Empty", "Impossible", "NoHistory", "NoOrder", "NothingToUndo", "TooManyEdits"] "BadTimes" (vVar 0)) vNil))))))
  (sSeq (sSet 1 (vBin gAdd (vBor 1) (vLst (vCons (vIsE ["TooLarge", "Absent", "BadCount", "BadDemand", "BadHistory", "BadText", "BadTimes", "BadWord", "NoGroup", "NoIndex", "NoPerson", "NoVersion", "Rejected", "BadBatch", "Busy", "Empty", "Impossible", "NoHistory", "NoOrder", "NothingToUndo", "TooManyEdits"] "BadWord" (vVar 0)) (vCons (vIsE ["TooLarge", "Absent", "BadCount", "BadDemand", "BadHistory", "BadText", "BadTimes", "BadWord", "NoGroup", "NoIndex", "NoPerson", "NoVersion", "Rejected", "BadBatch", "Busy", "Empty", "Impossible", "NoHistory", "NoOrder", "NothingToUndo", "TooManyEdits"] "NoGroup" (vVar 0)) (vCons (vIsE ["TooLarge", "Absent", "BadCount", "BadDemand", "BadHistory", "BadText", "BadTimes", "BadWord", "NoGroup", "NoIndex", "NoPerson", "NoVersion", "Rejected", "BadBatch", "Busy", "Empty", "Impossible", "NoHistory", "NoOrder", "NothingToUndo", "TooManyEdits"] "NoIndex" (vVar 0)) vNil))))))
  (sSeq (sSet 1 (vBin gAdd (vBor 1) (vLst (vCons (vIsE ["TooLarge", "Absent", "BadCount", "BadDemand", "BadHistory", "BadText", "BadTimes", "BadWord", "NoGroup", "NoIndex", "NoPerson", "NoVersion", "Rejected", "BadBatch", "Busy", "Empty", "Impossible", "NoHistory", "NoOrder", "NothingToUndo", "TooManyEdits"] "NoPerson" (vVar 0)) (vCons (vIsE ["TooLarge", "Absent", "BadCount", "BadDemand", "BadHistory", "BadText", "BadTimes", "BadWord", "NoGroup", "NoIndex", "NoPerson", "NoVersion", "Rejected", "BadBatch", "Busy", "Empty", "Impossible", "NoHistory", "NoOrder", "NothingToUndo", "TooManyEdits"] "NoVersion" (vVar 0)) (vCons (vIsE ["TooLarge", "Absent", "BadCount", "BadDemand", "BadHistory", "BadText", "BadTimes", "BadWord", "NoGroup", "NoIndex", "NoPerson", "NoVersion", "Rejected", "BadBatch", "Busy", "Empty", "Impossible", "NoHistory", "NoOrder", "NothingToUndo", "TooManyEdits"] "Rejected" (vVar 0)) vNil))))))
  (sSeq (sSet 1 (vBin gAdd (vBor 1) (vLst (vCons (vIsE ["TooLarge", "Absent", "BadCount", "BadDemand", "BadHistory", "BadText", "BadTimes", "BadWord", "NoGroup", "NoIndex", "NoPerson", "NoVersion", "Rejected", "BadBatch", "Busy", "Empty", "Impossible", "NoHistory", "NoOrder", "NothingToUndo", "TooManyEdits"] "TooLarge" (vVar 0)) vNil))))
  (sRet (vLc [2] (iR1 (vCons (vC (.py (.int 13))) vNil)) (tgName 2) (vTst (vBin gIx (vBor 1) (vBor 2))) (vVar 2))))))))
def t_law_alone (S_law_plain : SV) (S_law_filled : SV) : VS :=
  (sSeq (sFor (iEnE (vCons (vVar 0) vNil)) (tgEn (tgCons (tgName 2) (tgCons (tgName 3) tgNil)))
  (sIf (wOr (vTst (vBin gNe (vCall S_law_plain (vCons (vVar 3) vNil)) (vLst (vCons (vVar 2) vNil)))) (vTst (vBin gNe (vCall S_law_filled (vCons (vVar 3) vNil)) (vLst vNil))))
  (sRet (vC (.py (.bool false))))
  sNext))
  (sSeq (sFor (iEnE (vCons (vVar 1) vNil)) (tgEn (tgCons (tgName 2) (tgCons (tgName 3) tgNil)))
  (sIf (wOr (vTst (vBin gNe (vCall S_law_filled (vCons (vVar 3) vNil)) (vLst (vCons (vVar 2) vNil)))) (vTst (vBin gNe (vCall S_law_plain (vCons (vVar 3) vNil)) (vLst vNil))))
  (sRet (vC (.py (.bool false))))
  sNext))
  (sSeq (sSet 4 (vBin gCatE (vBor 0) (vBor 1)))
  (sSeq (sSet 5 (vLc [3] (iSE (vBor 4)) (tgName 3) (wNot (vTst (vIsE ["TooLarge", "Absent", "BadCount", "BadDemand", "BadHistory", "BadText", "BadTimes", "BadWord", "NoGroup", "NoIndex", "NoPerson", "NoVersion", "Rejected", "BadBatch", "Busy", "Empty", "Impossible", "NoHistory", "NoOrder", "NothingToUndo", "TooManyEdits"] "LineError" (vVar 3)))) (vVar 3)))
  (sRet (vAnd (vBin gEq (vBor 5) (vLst vNil)) (vBin gEq (vLc [3] (iSE (vBor 4)) (tgName 3) (wNot (vTst (vIsE ["TooLarge", "Absent", "BadCount", "BadDemand", "BadHistory", "BadText", "BadTimes", "BadWord", "NoGroup", "NoIndex", "NoPerson", "NoVersion", "Rejected", "BadBatch", "Busy", "Empty", "Impossible", "NoHistory", "NoOrder", "NothingToUndo", "TooManyEdits"] "ValueError" (vVar 3)))) (vVar 3)) (vLst vNil))))))))
def t_law (S_law_odd : SV) (S_law_made : SV) (S_law_alone : SV) : VS :=
  (sSeq (sSet 2 (vLc [7] (iR1 (vCons (vC (.py (.int 13))) vNil)) (tgName 7) wYes (vCall S_law_odd (vCons (vVar 1) vNil))))
  (sSeq (sAsg (vCall S_law_made (vCons (vVar 2) vNil)) (tgPr (tgCons (tgName 3) (tgCons (tgName 4) tgNil))))
  (sSeq (sSet 5 (vLstE (vCons (vExc0 "BadBatch") (vCons (vExc0 "Busy") (vCons (vExc0 "Empty") (vCons (vExc0 "Impossible") (vCons (vExc0 "NoHistory") (vCons (vExc0 "NoOrder") (vCons (vExc0 "NothingToUndo") (vCons (vExc0 "TooManyEdits") vNil))))))))))
  (sSeq (sIf (wOr (vTst (vBin gNe (vCal gRepr (vCons (vBor 4) vNil)) (vCal gRepr (vCons (vBor 2) vNil)))) (wNot (vTst (vCall S_law_alone (vCons (vVar 5) (vCons (vVar 3) vNil))))))
  (sRet (vC (.py (.bool false))))
  sNext)
  (sSeq (sSet 6 (vLst (vCons (vC (.py (.int 20))) (vCons (vC (.py (.int 30))) (vCons (vC (.py (.int 30))) (vCons (vC (.py (.int 1000000000))) (vCons (vC (.py (.int 40))) (vCons (vC (.py (.int 10))) vNil))))))))
  (sRet (vBin gEq (vCal gRepr (vCons (vBor 6) vNil)) (vCal gRepr (vCons (vLst (vCons (vC (.py (.int 20))) (vCons (vC (.py (.int 30))) (vCons (vC (.py (.int 30))) (vCons (vBin gPow (vC (.py (.int 10))) (vC (.py (.int 9)))) (vCons (vC (.py (.int 40))) (vCons (vC (.py (.int 10))) vNil))))))) vNil)))))))))
end LawP
set_option Elab.async false
set_option linter.all false
set_option maxRecDepth 100000
set_option maxHeartbeats 4000000
namespace LawP
open PySem PySem.Spec PyProof.Rows L2 VL
abbrev nms01 : List Str := ["TooLarge", "Absent", "BadCount", "BadDemand", "BadHistory", "BadText", "BadTimes", "BadWord", "NoGroup", "NoIndex", "NoPerson", "NoVersion", "Rejected", "BadBatch", "Busy", "Empty", "Impossible", "NoHistory", "NoOrder", "NothingToUndo", "TooManyEdits"]
abbrev plN : List Str := ["BadBatch", "Busy", "Empty", "Impossible", "NoHistory", "NoOrder", "NothingToUndo", "TooManyEdits"]
abbrev fiN : List Str := ["Absent", "BadCount", "BadDemand", "BadHistory", "BadText", "BadTimes", "BadWord", "NoGroup", "NoIndex", "NoPerson", "NoVersion", "Rejected", "TooLarge"]
/-- the places of a class in a row of names -/
def rowE (N : List Str) (n : Str) : List PyData := ((List.range N.length).filter fun k => errSub n (N.getD k "")).map (encR 0)
@[simp] def S_law_plain : SV := fun ds Q _ => ∃ n fs, ds = [.clm (excC n fs)] ∧ n ∈ nms01 ∧ Q (.py (.list (rowE plN n)))
theorem l_law_plain : ∀ ds Q E, S_law_plain ds Q E → t_law_plain (envOf 3 ds) (fin Q E) := by
  rintro ds Q E ⟨n, fs, rfl, hn, q⟩
  have is : ∀ (x : Str) (K : D → Prop), K (.py (.bool (errSub n x))) → ∃ n' fs', D.clm (excC n fs) = .clm (excC n' fs') ∧ n' ∈ nms01 ∧ K (.py (.bool (errSub n' x))) := fun x K k => ⟨n, fs, rfl, hn, k⟩
  simp [t_law_plain, -lcGo, -List.mem_cons, -exists_and_left]
  iterate 3 refine ⟨n, ⟨fs, rfl⟩, hn, ?_⟩
  iterate 3 refine ⟨n, ⟨fs, rfl⟩, hn, ?_⟩
  iterate 2 refine ⟨n, ⟨fs, rfl⟩, hn, ?_⟩
  refine ⟨by simp, by decide, ?_⟩
  rw [rangeP_eq]
  have hat : ∀ k : Nat, k < 8 → atI [PyData.bool (errSub n (Str.ofString "BadBatch")), PyData.bool (errSub n (Str.ofString "Busy")), PyData.bool (errSub n (Str.ofString "Empty")), PyData.bool (errSub n (Str.ofString "Impossible")), PyData.bool (errSub n (Str.ofString "NoHistory")), PyData.bool (errSub n (Str.ofString "NoOrder")), PyData.bool (errSub n (Str.ofString "NothingToUndo")), PyData.bool (errSub n (Str.ofString "TooManyEdits"))] (k : Int) = some (.bool (errSub n (plN.getD k ""))) := by
    intro k hk
    rcases (by omega : k = 0 ∨ k = 1 ∨ k = 2 ∨ k = 3 ∨ k = 4 ∨ k = 5 ∨ k = 6 ∨ k = 7) with rfl | rfl | rfl | rfl | rfl | rfl | rfl | rfl <;> rfl
  refine lc_encF (encR 0) (fun k => errSub n (plN.getD k "")) (encR 0) (fun i k hk kk k1 k2 => ?_) (by simp) q
  obtain ⟨rfl, hk⟩ := range_get hk
  have h := hat k hk
  simp only [lcStep]
  simp [encR, h]
  cases c : errSub n (plN.getD k "") with
  | true =>
    have z := k1 c
    rw [if_pos (by simpa using c)]
    simpa [encR] using z
  | false =>
    have z := k2 c
    rw [if_neg (by simpa using c)]
    exact z
@[simp] def S_law_filled : SV := fun ds Q _ => ∃ n fs, ds = [.clm (excC n fs)] ∧ n ∈ nms01 ∧ Q (.py (.list (rowE fiN n)))
theorem l_law_filled : ∀ ds Q E, S_law_filled ds Q E → t_law_filled (envOf 3 ds) (fin Q E) := by
  rintro ds Q E ⟨n, fs, rfl, hn, q⟩
  have is : ∀ (x : Str) (K : D → Prop), K (.py (.bool (errSub n x))) → ∃ n' fs', D.clm (excC n fs) = .clm (excC n' fs') ∧ n' ∈ nms01 ∧ K (.py (.bool (errSub n' x))) := fun x K k => ⟨n, fs, rfl, hn, k⟩
  simp [t_law_filled, -lcGo, -List.mem_cons, -exists_and_left]
  iterate 13 refine ⟨n, ⟨fs, rfl⟩, hn, ?_⟩
  refine ⟨by simp, by decide, ?_⟩
  rw [rangeP_eq]
  have hat : ∀ k : Nat, k < 13 → atI [PyData.bool (errSub n (Str.ofString "Absent")), PyData.bool (errSub n (Str.ofString "BadCount")), PyData.bool (errSub n (Str.ofString "BadDemand")), PyData.bool (errSub n (Str.ofString "BadHistory")), PyData.bool (errSub n (Str.ofString "BadText")), PyData.bool (errSub n (Str.ofString "BadTimes")), PyData.bool (errSub n (Str.ofString "BadWord")), PyData.bool (errSub n (Str.ofString "NoGroup")), PyData.bool (errSub n (Str.ofString "NoIndex")), PyData.bool (errSub n (Str.ofString "NoPerson")), PyData.bool (errSub n (Str.ofString "NoVersion")), PyData.bool (errSub n (Str.ofString "Rejected")), PyData.bool (errSub n (Str.ofString "TooLarge"))] (k : Int) = some (.bool (errSub n (fiN.getD k ""))) := by
    intro k hk
    rcases (by omega : k = 0 ∨ k = 1 ∨ k = 2 ∨ k = 3 ∨ k = 4 ∨ k = 5 ∨ k = 6 ∨ k = 7 ∨ k = 8 ∨ k = 9 ∨ k = 10 ∨ k = 11 ∨ k = 12) with rfl | rfl | rfl | rfl | rfl | rfl | rfl | rfl | rfl | rfl | rfl | rfl | rfl <;> rfl
  refine lc_encF (encR 0) (fun k => errSub n (fiN.getD k "")) (encR 0) (fun i k hk kk k1 k2 => ?_) (by simp) q
  obtain ⟨rfl, hk⟩ := range_get hk
  have h := hat k hk
  simp only [lcStep]
  simp [encR, h]
  cases c : errSub n (fiN.getD k "") with
  | true =>
    have z := k1 c
    rw [if_pos (by simpa using c)]
    simpa [encR] using z
  | false =>
    have z := k2 c
    rw [if_neg (by simpa using c)]
    exact z
abbrev errsL : List (Str × List (Str × PyData)) := plN.map fun n => (n, [])
@[simp] def S_law_made : SV := fun ds Q _ => ∃ p0 p1 p2 p3 p4 p5 p6 p7 p8 p9 p10 p11 p12 : PyData, ds = [.py (.list [p0, p1, p2, p3, p4, p5, p6, p7, p8, p9, p10, p11, p12])] ∧
  Q (.clm (prC [("Absent", [("person", p0)]), ("BadCount", [("index", p1)]), ("BadDemand", [("index", p2)]), ("BadHistory", [("index", p3)]), ("BadText", [("index", p4)]), ("BadTimes", [("value", p5)]), ("BadWord", [("error", p6)]), ("NoGroup", [("value", p7)]), ("NoIndex", [("index", p8)]), ("NoPerson", [("value", p9)]), ("NoVersion", [("version", p10)]), ("Rejected", [("index", p11)]), ("TooLarge", [("limit", p12)])] [p0, p1, p2, p3, p4, p5, p6, p7, p8, p9, p10, p11, p12]))
theorem l_law_made : ∀ ds Q E, S_law_made ds Q E → t_law_made (VL.envOf 15 ds) (fin Q E) := by
  rintro ds Q E ⟨p0, p1, p2, p3, p4, p5, p6, p7, p8, p9, p10, p11, p12, rfl, q⟩
  have a0 : ∀ (ps : List PyData) (k : Nat) (p : PyData), ps[k]? = some p → atI ps (k : Int) = some p := fun ps k p h => atI_nat h
  simp [t_law_made, atI, ixN, -List.mem_cons]
  refine ⟨by simp, by simp, by simp, by simp, ?_⟩
  iterate 13 refine ⟨_, _, rfl, by simp, _, by simp; rfl, ?_⟩
  exact ⟨[("Absent", [("person", p0)]), ("BadCount", [("index", p1)]), ("BadDemand", [("index", p2)]), ("BadHistory", [("index", p3)]), ("BadText", [("index", p4)]), ("BadTimes", [("value", p5)]), ("BadWord", [("error", p6)]), ("NoGroup", [("value", p7)]), ("NoIndex", [("index", p8)]), ("NoPerson", [("value", p9)]), ("NoVersion", [("version", p10)]), ("Rejected", [("index", p11)]), ("TooLarge", [("limit", p12)])], rfl, by simp, _, _, ⟨rfl, rfl⟩, q⟩
theorem for_D {α : Type} {g : VTg} {tb : VS} {De : VEnds} (enc : α → D) (Iv : Nat → VEnv → Prop) : ∀ {L : List α} {t : Nat} {ρ : VEnv}, Iv t ρ →
    (∀ (i : Nat) (x : α) (ρ : VEnv), L[i]? = some x → Iv (t + i) ρ → ∀ nx ct : VEnv → Prop, (∀ ρ', Iv (t + i + 1) ρ' → nx ρ' ∧ ct ρ') → g (enc x) ρ fun ρ1 => tb ρ1 ⟨nx, De.rt, De.nx, ct, De.ex, De.ro⟩) →
    (∀ ρ, Iv (t + L.length) ρ → De.nx ρ) → forGo g tb (L.map enc) ρ De
  | [], t, ρ, h0, _, hd => hd ρ h0
  | x :: L, t, ρ, h0, h, hd => h 0 x ρ rfl h0 _ _ fun ρ' iv => by
    have go : forGo g tb (L.map enc) ρ' De := for_D enc Iv (t := t + 1) iv (fun k y ρ hy iv nx ct hn => h (k + 1) y ρ (by simpa using hy) (by rw [show t + (k + 1) = t + 1 + k by omega]; exact iv) nx ct fun ρ' iv' => hn ρ' (by rw [show t + 1 + k + 1 = t + (k + 1) + 1 by omega]; exact iv')) fun ρ iv => hd ρ (by rw [List.length_cons, show t + (L.length + 1) = t + 1 + L.length by omega]; exact iv)
    exact ⟨go, go⟩
end LawP
set_option Elab.async false
set_option linter.all false
set_option maxRecDepth 100000
set_option maxHeartbeats 4000000
namespace LawP
open PySem PySem.Spec PyProof.Rows L2 VL
def rowK (N : List Str) (n : Str) : List Nat := (List.range N.length).filter fun k => errSub n (N.getD k "")
theorem rowE_eq (N : List Str) (n : Str) : rowE N n = (rowK N n).map (encR 0) := rfl
theorem row_pl : ∀ k : Nat, k < 8 → rowK plN (plN.getD k "") = [k] ∧ rowK fiN (plN.getD k "") = [] ∧ plN.getD k "" ∈ nms01 := by
  intro k hk
  rcases (by omega : k = 0 ∨ k = 1 ∨ k = 2 ∨ k = 3 ∨ k = 4 ∨ k = 5 ∨ k = 6 ∨ k = 7) with rfl | rfl | rfl | rfl | rfl | rfl | rfl | rfl <;> decide +kernel
theorem row_fi : ∀ k : Nat, k < 13 → rowK fiN (fiN.getD k "") = [k] ∧ rowK plN (fiN.getD k "") = [] ∧ fiN.getD k "" ∈ nms01 := by
  intro k hk
  rcases (by omega : k = 0 ∨ k = 1 ∨ k = 2 ∨ k = 3 ∨ k = 4 ∨ k = 5 ∨ k = 6 ∨ k = 7 ∨ k = 8 ∨ k = 9 ∨ k = 10 ∨ k = 11 ∨ k = 12) with rfl | rfl | rfl | rfl | rfl | rfl | rfl | rfl | rfl | rfl | rfl | rfl | rfl <;> decide +kernel
theorem pl_in : ∀ n ∈ plN, n ∈ nms01 := by decide +kernel
theorem fi_in : ∀ n ∈ fiN, n ∈ nms01 := by decide +kernel
theorem nms_line : ∀ n ∈ nms01, errSub n "LineError" = true ∧ errSub n "ValueError" = true := by decide +kernel
theorem lc_drop {g : VTg} {tt : VB} {te : VT} {Q : D → Prop} {ρ : VEnv} {acc : List PyData} : ∀ {ds : List D}, (∀ d ∈ ds, ∀ k : Option PyData → Prop, k none → lcStep g tt te d ρ k) → Q (.py (.list acc)) → lcGo g tt te Q ds acc ρ
  | [], _, q => q
  | d :: ds, h, q => lcGo_cons (h d List.mem_cons_self _ (lc_drop (fun e he => h e (List.mem_cons_of_mem _ he)) q))
@[simp] def S_law_alone : SV := fun ds Q _ => ∃ B : List (Str × List (Str × PyData)), ds = [.clm (excL errsL), .clm (excL B)] ∧ B.map (·.1) = fiN ∧ Q (.py (.bool true))
theorem l_law_alone : ∀ ds Q E, S_law_alone ds Q E → t_law_alone S_law_plain S_law_filled (VL.envOf 6 ds) (fin Q E) := by
  rintro ds Q E ⟨B, rfl, hB, q⟩
  simp [t_law_alone, -forGo, -lcGo, -S_law_plain, -S_law_filled, -List.mem_cons, -exists_and_left]
  refine ⟨errsL, rfl, ?_⟩
  refine for_D (fun p : (Str × List (Str × PyData)) × Nat => D.clm (enC p.2 p.1.1 p.1.2)) (fun i ρ => ∃ s2 s3 : VL.Slot, (∀ d, s3 ≠ VL.Slot.own d) ∧ ρ = [.shr (.clm (excL errsL)), .shr (.clm (excL B)), s2, s3, .un, .un]) (t := 0) ⟨_, _, fun _ z => (by cases z), rfl⟩ (fun i x ρ hx iv nx ct hn => ?_) (fun ρ iv => ?_)
  · obtain ⟨s2, s3, hs3, rfl⟩ := iv
    have hi : i < 8 := by have := (List.getElem?_eq_some_iff.mp hx).1; simpa using this
    have ex : x = ((plN.getD i "", []), i) := by
      rw [List.getElem?_zipIdx, List.getElem?_map] at hx
      rcases (by omega : i = 0 ∨ i = 1 ∨ i = 2 ∨ i = 3 ∨ i = 4 ∨ i = 5 ∨ i = 6 ∨ i = 7) with rfl | rfl | rfl | rfl | rfl | rfl | rfl | rfl <;> (simp at hx; rw [← hx]; rfl)
    subst ex
    obtain ⟨r1, r2, r3⟩ := row_pl i hi
    generalize plN.getD i "" = n at r1 r2 r3
    refine ⟨_, _, _, rfl, ?_⟩
    simp [-S_law_plain, -S_law_filled, -List.mem_cons]
    refine ⟨n, [], rfl, r3, ?_⟩
    rw [rowE_eq, r1]
    simp [encR, -S_law_filled, -List.mem_cons]
    rw [if_pos (PySem.SeqAt.eqv_refl_plain _ rfl)]
    refine ⟨n, [], rfl, r3, ?_⟩
    rw [rowE_eq, r2]
    simp
    exact (hn _ ⟨_, _, fun _ z => (by cases z), rfl⟩).1
  · obtain ⟨s2, s3, hs3, rfl⟩ := iv
    have hl : B.length = 13 := by have := congrArg List.length hB; simpa using this
    refine ⟨_, rfl, B, rfl, ?_⟩
    refine for_D (fun p : (Str × List (Str × PyData)) × Nat => D.clm (enC p.2 p.1.1 p.1.2)) (fun i ρ => ∃ s2 s3 : VL.Slot, (∀ d, s3 ≠ VL.Slot.own d) ∧ ρ = [.shr (.clm (excL errsL)), .shr (.clm (excL B)), s2, s3, .un, .un]) (t := 0) ⟨_, _, hs3, rfl⟩ (fun i x ρ hx iv nx ct hn => ?_) (fun ρ iv => ?_)
    · obtain ⟨s2, s3, hs3, rfl⟩ := iv
      obtain ⟨y, hy, rfl⟩ := zipIdx_at hx
      have hi : i < 13 := by have := (List.getElem?_eq_some_iff.mp hy).1; omega
      have ey : y.1 = fiN.getD i "" := by
        have h1 : (B.map (·.1))[i]? = some y.1 := by rw [List.getElem?_map, hy]; rfl
        rw [hB] at h1
        rw [List.getD_eq_getElem?_getD, h1]; rfl
      obtain ⟨n, fs⟩ := y
      simp only at ey
      obtain ⟨r1, r2, r3⟩ := row_fi i hi
      rw [← ey] at r1 r2 r3
      refine ⟨_, _, _, rfl, ?_⟩
      simp [-S_law_plain, -S_law_filled, -List.mem_cons]
      refine ⟨n, fs, rfl, r3, ?_⟩
      rw [rowE_eq, r1]
      simp [encR, -S_law_plain, -List.mem_cons]
      rw [if_pos (PySem.SeqAt.eqv_refl_plain _ rfl)]
      refine ⟨n, fs, rfl, r3, ?_⟩
      rw [rowE_eq, r2]
      simp
      exact (hn _ ⟨_, _, fun _ z => (by cases z), rfl⟩).1
    · obtain ⟨s2, s3, hs3, rfl⟩ := iv
      have hlen : (errsL ++ B).length = 21 := by simp [hl]
      have hm : ∀ p ∈ errsL ++ B, p.1 ∈ nms01 := fun p hp => by
        rcases List.mem_append.mp hp with h | h
        · have : p.1 ∈ plN := by have := List.mem_map_of_mem (f := (·.1)) h; simpa using this
          exact pl_in _ this
        · have : p.1 ∈ fiN := by rw [← hB]; exact List.mem_map_of_mem h
          exact fi_in _ this
      have drop : ∀ (x : Str) (hx : ∀ n ∈ nms01, errSub n x = true) (ρ : VEnv) (Q : D → Prop), 3 < ρ.length → Q (.py (.list [])) →
          lcGo (tgName 3) (wNot (vTst (vIsE nms01 x (vVar 3)))) (vVar 3) Q ((errsL ++ B).map fun p => .clm (excC p.1 p.2)) [] ρ := fun x hx ρ Q hl3 hq => by
        refine lc_drop (fun d hd k hk => ?_) hq
        obtain ⟨p, hp, rfl⟩ := List.mem_map.mp hd
        simp only [lcStep]
        simp [-List.mem_cons, hl3]
        refine ⟨p.1, ⟨p.2, rfl⟩, hm p hp, ?_⟩
        rw [hx _ (hm p hp)]
        simpa using hk
      simp [-lcGo, -List.mem_cons, -exists_and_left]
      refine ⟨errsL, B, rfl, rfl, by simp [hl], ?_, _, rfl, ?_⟩
      · exact fun i hi d => by obtain rfl := List.mem_singleton.mp hi; exact fun z => hs3 d (by simpa using z)
      · refine drop "LineError" (fun n hn => (nms_line n hn).1) _ _ (by simp) ?_
        simp [-lcGo, -List.mem_cons, -exists_and_left]
        refine ⟨fun i hi d => by obtain rfl := List.mem_singleton.mp hi; exact fun z => hs3 d (by simpa using z), _, rfl, ?_⟩
        refine drop "ValueError" (fun n hn => (nms_line n hn).2) _ _ (by simp) ?_
        simpa using q
end LawP
set_option Elab.async false
set_option linter.all false
set_option maxRecDepth 100000
set_option maxHeartbeats 4000000
namespace LawP
open PySem PySem.Spec PyProof.Rows L2 VL
theorem l_law (r : Addr) : t_law (S_law_odd r) S_law_made S_law_alone (envBag 8 1 r) (fin isTrue' noE) := by
  have e0 : envBag 8 1 r = [.un, .shr (.raw (.ref r)), .un, .un, .un, .un, .un, .un] := rfl
  rw [e0]
  simp [t_law, -lcGo, -S_law_odd, -S_law_made, -S_law_alone]
  rw [rangeP_eq]
  refine ⟨by decide, ?_⟩
  refine lc_encR (encR 0) (fun p : PyData => p) (fun _ p => p ∈ odds) (fun i x hx k hk => ?_) ?_ (fun ys hl hr => ?_)
  · simp [lcStep]
    exact fun p hp => hk p hp
  · simp
  · have ho : ∀ p ∈ ys, p ∈ odds := fun p hp => by
      obtain ⟨i, hi⟩ := List.mem_iff_getElem?.mp hp
      have hi2 : i < 13 := by have := (List.getElem?_eq_some_iff.mp hi).1; rw [hl] at this; simpa using this
      exact hr i i p (List.getElem?_range hi2) hi
    match ys, hl, ho with
    | [p0, p1, p2, p3, p4, p5, p6, p7, p8, p9, p10, p11, p12], _, ho =>
      have hR : ReprOk (.list [p0, p1, p2, p3, p4, p5, p6, p7, p8, p9, p10, p11, p12]) := (Sw.lst (n := 13) (fun p hp => odds_sw p (ho p hp)) (by simp)).repr
      simp [-S_law_alone]
      refine ⟨p0, p1, p2, p3, p4, p5, p6, p7, p8, p9, p10, p11, p12, ⟨rfl, rfl, rfl, rfl, rfl, rfl, rfl, rfl, rfl, rfl, rfl, rfl, rfl⟩, _, _, rfl, errsL, rfl, by simp, hR, hR, rfl, _, rfl, rfl, ?_⟩
      simp
      exact Sw.repr (w := 1000) (d := 10) (by decide +kernel)
end LawP
set_option Elab.async false
set_option linter.all false
set_option maxRecDepth 100000
set_option maxHeartbeats 4000000
namespace LawP
open PySem PySem.Spec PyProof.Rows L2 VL
abbrev topS (i : Nat) : Stmt := PySem.Challenge.pw_matesline_k01_limits_and_errors.main.body.getD i (.Pass ⟨0, 0, 0, 0⟩)
section
variable {P : Program} {w : World} {K : PySem.W.Frag} {mg : Str → Option Value} {base : Heap} {b : Bg} {f : Addr} {fd : FuncData}
abbrev s_TooLarge : Stmt := clsDef (topS 10) 0
theorem sc_TooLarge : FnScope ["self", "limit"] ["self", "limit"] (defScope s_TooLarge) := ⟨rfl, rfl, rfl, by decide +kernel, rfl, by decide +kernel, by decide +kernel⟩
theorem wi_TooLarge {fa : Addr} (F : Fun K "__init__" "TooLarge.__init__" s_TooLarge fa fd) : FnOk P w K mg base (L2.CX P w) 1 fa fd ["self", "limit"] (spInit K "limit") := ok_init F sc_TooLarge rfl rfl rfl (by decide) (by decide)
abbrev s_Absent : Stmt := clsDef (topS 22) 0
theorem sc_Absent : FnScope ["self", "person"] ["self", "person"] (defScope s_Absent) := ⟨rfl, rfl, rfl, by decide +kernel, rfl, by decide +kernel, by decide +kernel⟩
theorem wi_Absent {fa : Addr} (F : Fun K "__init__" "Absent.__init__" s_Absent fa fd) : FnOk P w K mg base (L2.CX P w) 1 fa fd ["self", "person"] (spInit K "person") := ok_init F sc_Absent rfl rfl rfl (by decide) (by decide)
abbrev s_BadCount : Stmt := clsDef (topS 19) 0
theorem sc_BadCount : FnScope ["self", "index"] ["self", "index"] (defScope s_BadCount) := ⟨rfl, rfl, rfl, by decide +kernel, rfl, by decide +kernel, by decide +kernel⟩
theorem wi_BadCount {fa : Addr} (F : Fun K "__init__" "BadCount.__init__" s_BadCount fa fd) : FnOk P w K mg base (L2.CX P w) 1 fa fd ["self", "index"] (spInit K "index") := ok_init F sc_BadCount rfl rfl rfl (by decide) (by decide)
abbrev s_BadDemand : Stmt := clsDef (topS 7) 0
theorem sc_BadDemand : FnScope ["self", "index"] ["self", "index"] (defScope s_BadDemand) := ⟨rfl, rfl, rfl, by decide +kernel, rfl, by decide +kernel, by decide +kernel⟩
theorem wi_BadDemand {fa : Addr} (F : Fun K "__init__" "BadDemand.__init__" s_BadDemand fa fd) : FnOk P w K mg base (L2.CX P w) 1 fa fd ["self", "index"] (spInit K "index") := ok_init F sc_BadDemand rfl rfl rfl (by decide) (by decide)
abbrev s_BadHistory : Stmt := clsDef (topS 20) 0
theorem sc_BadHistory : FnScope ["self", "index"] ["self", "index"] (defScope s_BadHistory) := ⟨rfl, rfl, rfl, by decide +kernel, rfl, by decide +kernel, by decide +kernel⟩
theorem wi_BadHistory {fa : Addr} (F : Fun K "__init__" "BadHistory.__init__" s_BadHistory fa fd) : FnOk P w K mg base (L2.CX P w) 1 fa fd ["self", "index"] (spInit K "index") := ok_init F sc_BadHistory rfl rfl rfl (by decide) (by decide)
abbrev s_BadText : Stmt := clsDef (topS 12) 0
theorem sc_BadText : FnScope ["self", "index"] ["self", "index"] (defScope s_BadText) := ⟨rfl, rfl, rfl, by decide +kernel, rfl, by decide +kernel, by decide +kernel⟩
theorem wi_BadText {fa : Addr} (F : Fun K "__init__" "BadText.__init__" s_BadText fa fd) : FnOk P w K mg base (L2.CX P w) 1 fa fd ["self", "index"] (spInit K "index") := ok_init F sc_BadText rfl rfl rfl (by decide) (by decide)
abbrev s_BadTimes : Stmt := clsDef (topS 21) 0
theorem sc_BadTimes : FnScope ["self", "value"] ["self", "value"] (defScope s_BadTimes) := ⟨rfl, rfl, rfl, by decide +kernel, rfl, by decide +kernel, by decide +kernel⟩
theorem wi_BadTimes {fa : Addr} (F : Fun K "__init__" "BadTimes.__init__" s_BadTimes fa fd) : FnOk P w K mg base (L2.CX P w) 1 fa fd ["self", "value"] (spInit K "value") := ok_init F sc_BadTimes rfl rfl rfl (by decide) (by decide)
abbrev s_BadWord : Stmt := clsDef (topS 3) 0
theorem sc_BadWord : FnScope ["self", "error"] ["self", "error"] (defScope s_BadWord) := ⟨rfl, rfl, rfl, by decide +kernel, rfl, by decide +kernel, by decide +kernel⟩
theorem wi_BadWord {fa : Addr} (F : Fun K "__init__" "BadWord.__init__" s_BadWord fa fd) : FnOk P w K mg base (L2.CX P w) 1 fa fd ["self", "error"] (spInit K "error") := ok_init F sc_BadWord rfl rfl rfl (by decide) (by decide)
abbrev s_NoGroup : Stmt := clsDef (topS 9) 0
theorem sc_NoGroup : FnScope ["self", "value"] ["self", "value"] (defScope s_NoGroup) := ⟨rfl, rfl, rfl, by decide +kernel, rfl, by decide +kernel, by decide +kernel⟩
theorem wi_NoGroup {fa : Addr} (F : Fun K "__init__" "NoGroup.__init__" s_NoGroup fa fd) : FnOk P w K mg base (L2.CX P w) 1 fa fd ["self", "value"] (spInit K "value") := ok_init F sc_NoGroup rfl rfl rfl (by decide) (by decide)
abbrev s_NoIndex : Stmt := clsDef (topS 8) 0
theorem sc_NoIndex : FnScope ["self", "index"] ["self", "index"] (defScope s_NoIndex) := ⟨rfl, rfl, rfl, by decide +kernel, rfl, by decide +kernel, by decide +kernel⟩
theorem wi_NoIndex {fa : Addr} (F : Fun K "__init__" "NoIndex.__init__" s_NoIndex fa fd) : FnOk P w K mg base (L2.CX P w) 1 fa fd ["self", "index"] (spInit K "index") := ok_init F sc_NoIndex rfl rfl rfl (by decide) (by decide)
abbrev s_NoPerson : Stmt := clsDef (topS 2) 0
theorem sc_NoPerson : FnScope ["self", "value"] ["self", "value"] (defScope s_NoPerson) := ⟨rfl, rfl, rfl, by decide +kernel, rfl, by decide +kernel, by decide +kernel⟩
theorem wi_NoPerson {fa : Addr} (F : Fun K "__init__" "NoPerson.__init__" s_NoPerson fa fd) : FnOk P w K mg base (L2.CX P w) 1 fa fd ["self", "value"] (spInit K "value") := ok_init F sc_NoPerson rfl rfl rfl (by decide) (by decide)
abbrev s_NoVersion : Stmt := clsDef (topS 15) 0
theorem sc_NoVersion : FnScope ["self", "version"] ["self", "version"] (defScope s_NoVersion) := ⟨rfl, rfl, rfl, by decide +kernel, rfl, by decide +kernel, by decide +kernel⟩
theorem wi_NoVersion {fa : Addr} (F : Fun K "__init__" "NoVersion.__init__" s_NoVersion fa fd) : FnOk P w K mg base (L2.CX P w) 1 fa fd ["self", "version"] (spInit K "version") := ok_init F sc_NoVersion rfl rfl rfl (by decide) (by decide)
abbrev s_Rejected : Stmt := clsDef (topS 17) 0
theorem sc_Rejected : FnScope ["self", "index"] ["self", "index"] (defScope s_Rejected) := ⟨rfl, rfl, rfl, by decide +kernel, rfl, by decide +kernel, by decide +kernel⟩
theorem wi_Rejected {fa : Addr} (F : Fun K "__init__" "Rejected.__init__" s_Rejected fa fd) : FnOk P w K mg base (L2.CX P w) 1 fa fd ["self", "index"] (spInit K "index") := ok_init F sc_Rejected rfl rfl rfl (by decide) (by decide)
abbrev s_law_made : Stmt := topS 37
abbrev N_law_made : List Str := ["_law_values", "_law_gone", "_law_number", "_law_wish", "_law_story", "_law_text", "_law_clock", "_law_letters", "_law_crew", "_law_item", "_law_who", "_law_state", "_law_batch", "_law_large", "_law_fields"]
theorem sc_law_made : FnScope N_law_made ["_law_values"] (defScope s_law_made) := ⟨rfl, rfl, rfl, by decide +kernel, rfl, by decide +kernel, by decide +kernel⟩
theorem w_law_made {S : SV} (F : Fun K "_law_made" "_law_made" s_law_made f fd) (M_BadDemand : Mk1 P w K mg base b "BadDemand" "index") (M_BadCount : Mk1 P w K mg base b "BadCount" "index") (M_Absent : Mk1 P w K mg base b "Absent" "person") (M_BadTimes : Mk1 P w K mg base b "BadTimes" "value") (M_BadText : Mk1 P w K mg base b "BadText" "index") (M_BadHistory : Mk1 P w K mg base b "BadHistory" "index") (M_NoIndex : Mk1 P w K mg base b "NoIndex" "index") (M_NoGroup : Mk1 P w K mg base b "NoGroup" "value") (M_BadWord : Mk1 P w K mg base b "BadWord" "error") (M_Rejected : Mk1 P w K mg base b "Rejected" "index") (M_NoVersion : Mk1 P w K mg base b "NoVersion" "version") (M_NoPerson : Mk1 P w K mg base b "NoPerson" "value") (M_TooLarge : Mk1 P w K mg base b "TooLarge" "limit") (FE_person : ∀ n ∈ (["Absent"] : List Str), FldC K (b.cls n) "person") (FE_index : ∀ n ∈ (["BadCount", "BadDemand", "BadHistory", "BadText", "NoIndex", "Rejected"] : List Str), FldC K (b.cls n) "index") (FE_value : ∀ n ∈ (["BadTimes", "NoGroup", "NoPerson"] : List Str), FldC K (b.cls n) "value") (FE_error : ∀ n ∈ (["BadWord"] : List Str), FldC K (b.cls n) "error") (FE_version : ∀ n ∈ (["NoVersion"] : List Str), FldC K (b.cls n) "version") (FE_limit : ∀ n ∈ (["TooLarge"] : List Str), FldC K (b.cls n) "limit") (hlen : ∀ ds Q E, S ds Q E → ds.length = 1)
    (law : ∀ ds Q E, S ds Q E → t_law_made (envOf 15 ds) (fin Q E)) : FnOk P w K mg base (L2.CX P w) 3 f fd ["_law_values"] (spV b S) := by
  refine fnV F sc_law_made hlen (by decide) (fun cdv A outer s H E hr tk => ?_) law
  exact (vs_cons (vs_par3 (i := 1) (j := 2) (k := 3) rfl sc_law_made.nd rfl rfl rfl (by decide) (by decide) (by decide) rfl rfl rfl (vm_sh (ve_exc1 M_Absent hr (by rfl) (ve_ix (vx_var (pv 0)) (VE.toX ve_int))) (vm_sh (ve_exc1 M_BadCount hr (by rfl) (ve_ix (vx_var (pv 0)) (VE.toX ve_int))) (vm_sh (ve_exc1 M_BadDemand hr (by rfl) (ve_ix (vx_var (pv 0)) (VE.toX ve_int))) vm_nil))) (by rfl))
      (vs_cons (vs_par3 (i := 4) (j := 5) (k := 6) rfl sc_law_made.nd rfl rfl rfl (by decide) (by decide) (by decide) rfl rfl rfl (vm_sh (ve_exc1 M_BadHistory hr (by rfl) (ve_ix (vx_var (pv 0)) (VE.toX ve_int))) (vm_sh (ve_exc1 M_BadText hr (by rfl) (ve_ix (vx_var (pv 0)) (VE.toX ve_int))) (vm_sh (ve_exc1 M_BadTimes hr (by rfl) (ve_ix (vx_var (pv 0)) (VE.toX ve_int))) vm_nil))) (by rfl))
      (vs_cons (vs_par3 (i := 7) (j := 8) (k := 9) rfl sc_law_made.nd rfl rfl rfl (by decide) (by decide) (by decide) rfl rfl rfl (vm_sh (ve_exc1 M_BadWord hr (by rfl) (ve_ix (vx_var (pv 0)) (VE.toX ve_int))) (vm_sh (ve_exc1 M_NoGroup hr (by rfl) (ve_ix (vx_var (pv 0)) (VE.toX ve_int))) (vm_sh (ve_exc1 M_NoIndex hr (by rfl) (ve_ix (vx_var (pv 0)) (VE.toX ve_int))) vm_nil))) (by rfl))
      (vs_cons (vs_par3 (i := 10) (j := 11) (k := 12) rfl sc_law_made.nd rfl rfl rfl (by decide) (by decide) (by decide) rfl rfl rfl (vm_sh (ve_exc1 M_NoPerson hr (by rfl) (ve_ix (vx_var (pv 0)) (VE.toX ve_int))) (vm_sh (ve_exc1 M_NoVersion hr (by rfl) (ve_ix (vx_var (pv 0)) (VE.toX ve_int))) (vm_sh (ve_exc1 M_Rejected hr (by rfl) (ve_ix (vx_var (pv 0)) (VE.toX ve_int))) vm_nil))) (by rfl))
      (vs_cons (vs_asg (i := 13) sc_law_made.nd rfl (.inl rfl) (ve_exc1 M_TooLarge hr (by rfl) (ve_ix (vx_var (pv 0)) (VE.toX ve_int))))
      (vs_cons (vs_asg (i := 14) sc_law_made.nd rfl (.inl rfl) (VN.toE (vn_lst (va_cons (ve_fldE FE_person (ve_var (pv 1))) (va_cons (ve_fldE FE_index (ve_var (pv 2))) (va_cons (ve_fldE FE_index (ve_var (pv 3))) (va_cons (ve_fldE FE_index (ve_var (pv 4))) (va_cons (ve_fldE FE_index (ve_var (pv 5))) (va_cons (ve_fldE FE_value (ve_var (pv 6))) (va_cons (ve_fldE FE_error (ve_var (pv 7))) (va_cons (ve_fldE FE_value (ve_var (pv 8))) va_nil)))))))))))
      (vs_cons (vs_asg (i := 14) sc_law_made.nd rfl (.inl rfl) (ve_add (vx_var (pv 14)) (VN.toX (vn_lst (va_cons (ve_fldE FE_index (ve_var (pv 9))) (va_cons (ve_fldE FE_value (ve_var (pv 10))) (va_cons (ve_fldE FE_version (ve_var (pv 11))) (va_cons (ve_fldE FE_index (ve_var (pv 12))) (va_cons (ve_fldE FE_limit (ve_var (pv 13))) va_nil)))))))))
      (vs_one (vs_ret (ve_lstPr (va_cons (ve_lstE (va_cons (ve_var (pv 1)) (va_cons (ve_var (pv 2)) (va_cons (ve_var (pv 3)) (va_cons (ve_var (pv 4)) (va_cons (ve_var (pv 5)) (va_cons (ve_var (pv 6)) (va_cons (ve_var (pv 7)) (va_cons (ve_var (pv 8)) (va_cons (ve_var (pv 9)) (va_cons (ve_var (pv 10)) (va_cons (ve_var (pv 11)) (va_cons (ve_var (pv 12)) (va_cons (ve_var (pv 13)) va_nil)))))))))))))) (va_cons (ve_var (pv 14)) va_nil))))))))))))
abbrev s_law_odd : Stmt := topS 33
abbrev N_law_odd : List Str := ["_law_bag", "_law_items"]
theorem sc_law_odd : FnScope N_law_odd ["_law_bag"] (defScope s_law_odd) := ⟨rfl, rfl, rfl, by decide +kernel, rfl, by decide +kernel, by decide +kernel⟩
theorem w_law_odd {S : SV} {S_law_pick : SV} (F : Fun K "_law_odd" "_law_odd" s_law_odd f fd) (F_law_pick : Cal P w K mg base b 2 "_law_pick" ["_law_bag", "_law_items"] S_law_pick) (hlen : ∀ ds Q E, S ds Q E → ds.length = 1)
    (law : ∀ ds Q E, S ds Q E → t_law_odd S_law_pick (envOf 2 ds) (fin Q E)) : FnOk P w K mg base (L2.CX P w) 3 f fd ["_law_bag"] (spV b S) := by
  refine fnV F sc_law_odd hlen (by decide) (fun cdv A outer s H E hr tk => ?_) law
  exact (vs_cons (vs_asg (i := 1) sc_law_odd.nd rfl (.inl rfl) (VN.toE (vn_lst (va_cons ve_non (va_cons ve_bl (va_cons ve_bl (va_cons (ve_neg (VE.toX ve_int)) (va_cons ve_int (va_cons ve_int (va_cons ve_int (va_cons (ve_add (VE.toX (ve_pow (VE.toX ve_int) (VE.toX ve_int))) (VE.toX ve_int)) (va_cons (ve_pow (VE.toX ve_int) (VE.toX ve_int)) (va_cons ve_str (va_cons ve_str (va_cons ve_str (va_cons ve_str (va_cons (ve_tup va_nil) (va_cons (VN.toE (vn_lst va_nil)) (va_cons (VN.toE vn_dict0) (va_cons (ve_tup (va_cons ve_int va_nil)) (va_cons (VN.toE (vn_lst (va_cons ve_int va_nil))) (va_cons (ve_tup (va_cons ve_bl va_nil)) va_nil))))))))))))))))))))))
      (vs_one (vs_ret (ve_cal F_law_pick hr tk (by rfl) (va_cons (ve_var (pv 0)) (va_cons (ve_add (vx_var (pv 1)) (VN.toX (vn_lst (va_cons (ve_tup (va_cons ve_str (va_cons ve_str va_nil))) (va_cons (ve_tup (va_cons ve_int (va_cons ve_int va_nil))) (va_cons ve_str (va_cons (VN.toE (vn_dict1 ve_int)) (va_cons (ve_tup (va_cons ve_int (va_cons ve_int va_nil))) va_nil)))))))) va_nil))))))
abbrev s_law_plain : Stmt := topS 34
abbrev N_law_plain : List Str := ["_law_error", "_law_kinds", "_law_k"]
theorem sc_law_plain : FnScope N_law_plain ["_law_error"] (defScope s_law_plain) := ⟨rfl, rfl, rfl, by decide +kernel, rfl, by decide +kernel, by decide +kernel⟩
theorem w_law_plain {S : SV} (F : Fun K "_law_plain" "_law_plain" s_law_plain f fd) (n_isinstance : mg "isinstance" = none) (n_range : mg "range" = none) (T_BadBatch : ErrT K mg b ["TooLarge", "Absent", "BadCount", "BadDemand", "BadHistory", "BadText", "BadTimes", "BadWord", "NoGroup", "NoIndex", "NoPerson", "NoVersion", "Rejected", "BadBatch", "Busy", "Empty", "Impossible", "NoHistory", "NoOrder", "NothingToUndo", "TooManyEdits"] "BadBatch") (EC : ∀ n ∈ (["TooLarge", "Absent", "BadCount", "BadDemand", "BadHistory", "BadText", "BadTimes", "BadWord", "NoGroup", "NoIndex", "NoPerson", "NoVersion", "Rejected", "BadBatch", "Busy", "Empty", "Impossible", "NoHistory", "NoOrder", "NothingToUndo", "TooManyEdits"] : List Str), ErrC K (b.cls n)) (T_Busy : ErrT K mg b ["TooLarge", "Absent", "BadCount", "BadDemand", "BadHistory", "BadText", "BadTimes", "BadWord", "NoGroup", "NoIndex", "NoPerson", "NoVersion", "Rejected", "BadBatch", "Busy", "Empty", "Impossible", "NoHistory", "NoOrder", "NothingToUndo", "TooManyEdits"] "Busy") (T_Empty : ErrT K mg b ["TooLarge", "Absent", "BadCount", "BadDemand", "BadHistory", "BadText", "BadTimes", "BadWord", "NoGroup", "NoIndex", "NoPerson", "NoVersion", "Rejected", "BadBatch", "Busy", "Empty", "Impossible", "NoHistory", "NoOrder", "NothingToUndo", "TooManyEdits"] "Empty") (T_Impossible : ErrT K mg b ["TooLarge", "Absent", "BadCount", "BadDemand", "BadHistory", "BadText", "BadTimes", "BadWord", "NoGroup", "NoIndex", "NoPerson", "NoVersion", "Rejected", "BadBatch", "Busy", "Empty", "Impossible", "NoHistory", "NoOrder", "NothingToUndo", "TooManyEdits"] "Impossible") (T_NoHistory : ErrT K mg b ["TooLarge", "Absent", "BadCount", "BadDemand", "BadHistory", "BadText", "BadTimes", "BadWord", "NoGroup", "NoIndex", "NoPerson", "NoVersion", "Rejected", "BadBatch", "Busy", "Empty", "Impossible", "NoHistory", "NoOrder", "NothingToUndo", "TooManyEdits"] "NoHistory") (T_NoOrder : ErrT K mg b ["TooLarge", "Absent", "BadCount", "BadDemand", "BadHistory", "BadText", "BadTimes", "BadWord", "NoGroup", "NoIndex", "NoPerson", "NoVersion", "Rejected", "BadBatch", "Busy", "Empty", "Impossible", "NoHistory", "NoOrder", "NothingToUndo", "TooManyEdits"] "NoOrder") (T_NothingToUndo : ErrT K mg b ["TooLarge", "Absent", "BadCount", "BadDemand", "BadHistory", "BadText", "BadTimes", "BadWord", "NoGroup", "NoIndex", "NoPerson", "NoVersion", "Rejected", "BadBatch", "Busy", "Empty", "Impossible", "NoHistory", "NoOrder", "NothingToUndo", "TooManyEdits"] "NothingToUndo") (T_TooManyEdits : ErrT K mg b ["TooLarge", "Absent", "BadCount", "BadDemand", "BadHistory", "BadText", "BadTimes", "BadWord", "NoGroup", "NoIndex", "NoPerson", "NoVersion", "Rejected", "BadBatch", "Busy", "Empty", "Impossible", "NoHistory", "NoOrder", "NothingToUndo", "TooManyEdits"] "TooManyEdits") (hlen : ∀ ds Q E, S ds Q E → ds.length = 1)
    (law : ∀ ds Q E, S ds Q E → t_law_plain (envOf 3 ds) (fin Q E)) : FnOk P w K mg base (L2.CX P w) 1 f fd ["_law_error"] (spV b S) := by
  refine fnV F sc_law_plain hlen (by decide) (fun cdv A outer s H E hr tk => ?_) law
  exact (vs_cons (vs_asg (i := 1) sc_law_plain.nd rfl (.inr rfl) (VN.toE (vn_lst (va_cons (ve_isE T_BadBatch EC (by rfl) n_isinstance (ve_var (pv 0)) (by rfl)) (va_cons (ve_isE T_Busy EC (by rfl) n_isinstance (ve_var (pv 0)) (by rfl)) (va_cons (ve_isE T_Empty EC (by rfl) n_isinstance (ve_var (pv 0)) (by rfl)) va_nil))))))
      (vs_cons (vs_asg (i := 1) sc_law_plain.nd rfl (.inr rfl) (ve_add (vx_var (pv 1)) (VN.toX (vn_lst (va_cons (ve_isE T_Impossible EC (by rfl) n_isinstance (ve_var (pv 0)) (by rfl)) (va_cons (ve_isE T_NoHistory EC (by rfl) n_isinstance (ve_var (pv 0)) (by rfl)) (va_cons (ve_isE T_NoOrder EC (by rfl) n_isinstance (ve_var (pv 0)) (by rfl)) va_nil)))))))
      (vs_cons (vs_asg (i := 1) sc_law_plain.nd rfl (.inr rfl) (ve_add (vx_var (pv 1)) (VN.toX (vn_lst (va_cons (ve_isE T_NothingToUndo EC (by rfl) n_isinstance (ve_var (pv 0)) (by rfl)) (va_cons (ve_isE T_TooManyEdits EC (by rfl) n_isinstance (ve_var (pv 0)) (by rfl)) va_nil))))))
      (vs_one (vs_ret (VN.toE (vn_lc (own := [("_law_k", 2)]) rfl sc_law_plain.nd (vib_range1 (by rfl) n_range (vxs_cons (VE.toX ve_int) vxs_nil)) (blkOk_by (N := N_law_plain) (sc := defScope s_law_plain) (by decide +kernel)) (by decide) (fun _ _ _ _ _ => (vg_name (i := 2) sc_law_plain.nd rfl (.inl rfl))) (fun _ _ _ _ _ => (vts_one (vt_val (VE.toX (ve_ix (vx_var (pv 1)) (vx_var (pv 2))))))) (fun _ _ _ _ _ => (ve_var (pv 2))))))))))
abbrev s_law_filled : Stmt := topS 35
abbrev N_law_filled : List Str := ["_law_error", "_law_kinds", "_law_k"]
theorem sc_law_filled : FnScope N_law_filled ["_law_error"] (defScope s_law_filled) := ⟨rfl, rfl, rfl, by decide +kernel, rfl, by decide +kernel, by decide +kernel⟩
theorem w_law_filled {S : SV} (F : Fun K "_law_filled" "_law_filled" s_law_filled f fd) (n_isinstance : mg "isinstance" = none) (n_range : mg "range" = none) (T_Absent : ErrT K mg b ["TooLarge", "Absent", "BadCount", "BadDemand", "BadHistory", "BadText", "BadTimes", "BadWord", "NoGroup", "NoIndex", "NoPerson", "NoVersion", "Rejected", "BadBatch", "Busy", "Empty", "Impossible", "NoHistory", "NoOrder", "NothingToUndo", "TooManyEdits"] "Absent") (EC : ∀ n ∈ (["TooLarge", "Absent", "BadCount", "BadDemand", "BadHistory", "BadText", "BadTimes", "BadWord", "NoGroup", "NoIndex", "NoPerson", "NoVersion", "Rejected", "BadBatch", "Busy", "Empty", "Impossible", "NoHistory", "NoOrder", "NothingToUndo", "TooManyEdits"] : List Str), ErrC K (b.cls n)) (T_BadCount : ErrT K mg b ["TooLarge", "Absent", "BadCount", "BadDemand", "BadHistory", "BadText", "BadTimes", "BadWord", "NoGroup", "NoIndex", "NoPerson", "NoVersion", "Rejected", "BadBatch", "Busy", "Empty", "Impossible", "NoHistory", "NoOrder", "NothingToUndo", "TooManyEdits"] "BadCount") (T_BadDemand : ErrT K mg b ["TooLarge", "Absent", "BadCount", "BadDemand", "BadHistory", "BadText", "BadTimes", "BadWord", "NoGroup", "NoIndex", "NoPerson", "NoVersion", "Rejected", "BadBatch", "Busy", "Empty", "Impossible", "NoHistory", "NoOrder", "NothingToUndo", "TooManyEdits"] "BadDemand") (T_BadHistory : ErrT K mg b ["TooLarge", "Absent", "BadCount", "BadDemand", "BadHistory", "BadText", "BadTimes", "BadWord", "NoGroup", "NoIndex", "NoPerson", "NoVersion", "Rejected", "BadBatch", "Busy", "Empty", "Impossible", "NoHistory", "NoOrder", "NothingToUndo", "TooManyEdits"] "BadHistory") (T_BadText : ErrT K mg b ["TooLarge", "Absent", "BadCount", "BadDemand", "BadHistory", "BadText", "BadTimes", "BadWord", "NoGroup", "NoIndex", "NoPerson", "NoVersion", "Rejected", "BadBatch", "Busy", "Empty", "Impossible", "NoHistory", "NoOrder", "NothingToUndo", "TooManyEdits"] "BadText") (T_BadTimes : ErrT K mg b ["TooLarge", "Absent", "BadCount", "BadDemand", "BadHistory", "BadText", "BadTimes", "BadWord", "NoGroup", "NoIndex", "NoPerson", "NoVersion", "Rejected", "BadBatch", "Busy", "Empty", "Impossible", "NoHistory", "NoOrder", "NothingToUndo", "TooManyEdits"] "BadTimes") (T_BadWord : ErrT K mg b ["TooLarge", "Absent", "BadCount", "BadDemand", "BadHistory", "BadText", "BadTimes", "BadWord", "NoGroup", "NoIndex", "NoPerson", "NoVersion", "Rejected", "BadBatch", "Busy", "Empty", "Impossible", "NoHistory", "NoOrder", "NothingToUndo", "TooManyEdits"] "BadWord") (T_NoGroup : ErrT K mg b ["TooLarge", "Absent", "BadCount", "BadDemand", "BadHistory", "BadText", "BadTimes", "BadWord", "NoGroup", "NoIndex", "NoPerson", "NoVersion", "Rejected", "BadBatch", "Busy", "Empty", "Impossible", "NoHistory", "NoOrder", "NothingToUndo", "TooManyEdits"] "NoGroup") (T_NoIndex : ErrT K mg b ["TooLarge", "Absent", "BadCount", "BadDemand", "BadHistory", "BadText", "BadTimes", "BadWord", "NoGroup", "NoIndex", "NoPerson", "NoVersion", "Rejected", "BadBatch", "Busy", "Empty", "Impossible", "NoHistory", "NoOrder", "NothingToUndo", "TooManyEdits"] "NoIndex") (T_NoPerson : ErrT K mg b ["TooLarge", "Absent", "BadCount", "BadDemand", "BadHistory", "BadText", "BadTimes", "BadWord", "NoGroup", "NoIndex", "NoPerson", "NoVersion", "Rejected", "BadBatch", "Busy", "Empty", "Impossible", "NoHistory", "NoOrder", "NothingToUndo", "TooManyEdits"] "NoPerson") (T_NoVersion : ErrT K mg b ["TooLarge", "Absent", "BadCount", "BadDemand", "BadHistory", "BadText", "BadTimes", "BadWord", "NoGroup", "NoIndex", "NoPerson", "NoVersion", "Rejected", "BadBatch", "Busy", "Empty", "Impossible", "NoHistory", "NoOrder", "NothingToUndo", "TooManyEdits"] "NoVersion") (T_Rejected : ErrT K mg b ["TooLarge", "Absent", "BadCount", "BadDemand", "BadHistory", "BadText", "BadTimes", "BadWord", "NoGroup", "NoIndex", "NoPerson", "NoVersion", "Rejected", "BadBatch", "Busy", "Empty", "Impossible", "NoHistory", "NoOrder", "NothingToUndo", "TooManyEdits"] "Rejected") (T_TooLarge : ErrT K mg b ["TooLarge", "Absent", "BadCount", "BadDemand", "BadHistory", "BadText", "BadTimes", "BadWord", "NoGroup", "NoIndex", "NoPerson", "NoVersion", "Rejected", "BadBatch", "Busy", "Empty", "Impossible", "NoHistory", "NoOrder", "NothingToUndo", "TooManyEdits"] "TooLarge") (hlen : ∀ ds Q E, S ds Q E → ds.length = 1)
    (law : ∀ ds Q E, S ds Q E → t_law_filled (envOf 3 ds) (fin Q E)) : FnOk P w K mg base (L2.CX P w) 1 f fd ["_law_error"] (spV b S) := by
  refine fnV F sc_law_filled hlen (by decide) (fun cdv A outer s H E hr tk => ?_) law
  exact (vs_cons (vs_asg (i := 1) sc_law_filled.nd rfl (.inr rfl) (VN.toE (vn_lst (va_cons (ve_isE T_Absent EC (by rfl) n_isinstance (ve_var (pv 0)) (by rfl)) (va_cons (ve_isE T_BadCount EC (by rfl) n_isinstance (ve_var (pv 0)) (by rfl)) (va_cons (ve_isE T_BadDemand EC (by rfl) n_isinstance (ve_var (pv 0)) (by rfl)) va_nil))))))
      (vs_cons (vs_asg (i := 1) sc_law_filled.nd rfl (.inr rfl) (ve_add (vx_var (pv 1)) (VN.toX (vn_lst (va_cons (ve_isE T_BadHistory EC (by rfl) n_isinstance (ve_var (pv 0)) (by rfl)) (va_cons (ve_isE T_BadText EC (by rfl) n_isinstance (ve_var (pv 0)) (by rfl)) (va_cons (ve_isE T_BadTimes EC (by rfl) n_isinstance (ve_var (pv 0)) (by rfl)) va_nil)))))))
      (vs_cons (vs_asg (i := 1) sc_law_filled.nd rfl (.inr rfl) (ve_add (vx_var (pv 1)) (VN.toX (vn_lst (va_cons (ve_isE T_BadWord EC (by rfl) n_isinstance (ve_var (pv 0)) (by rfl)) (va_cons (ve_isE T_NoGroup EC (by rfl) n_isinstance (ve_var (pv 0)) (by rfl)) (va_cons (ve_isE T_NoIndex EC (by rfl) n_isinstance (ve_var (pv 0)) (by rfl)) va_nil)))))))
      (vs_cons (vs_asg (i := 1) sc_law_filled.nd rfl (.inr rfl) (ve_add (vx_var (pv 1)) (VN.toX (vn_lst (va_cons (ve_isE T_NoPerson EC (by rfl) n_isinstance (ve_var (pv 0)) (by rfl)) (va_cons (ve_isE T_NoVersion EC (by rfl) n_isinstance (ve_var (pv 0)) (by rfl)) (va_cons (ve_isE T_Rejected EC (by rfl) n_isinstance (ve_var (pv 0)) (by rfl)) va_nil)))))))
      (vs_cons (vs_asg (i := 1) sc_law_filled.nd rfl (.inr rfl) (ve_add (vx_var (pv 1)) (VN.toX (vn_lst (va_cons (ve_isE T_TooLarge EC (by rfl) n_isinstance (ve_var (pv 0)) (by rfl)) va_nil)))))
      (vs_one (vs_ret (VN.toE (vn_lc (own := [("_law_k", 2)]) rfl sc_law_filled.nd (vib_range1 (by rfl) n_range (vxs_cons (VE.toX ve_int) vxs_nil)) (blkOk_by (N := N_law_filled) (sc := defScope s_law_filled) (by decide +kernel)) (by decide) (fun _ _ _ _ _ => (vg_name (i := 2) sc_law_filled.nd rfl (.inl rfl))) (fun _ _ _ _ _ => (vts_one (vt_val (VE.toX (ve_ix (vx_var (pv 1)) (vx_var (pv 2))))))) (fun _ _ _ _ _ => (ve_var (pv 2))))))))))))
abbrev s_law_alone : Stmt := topS 36
abbrev N_law_alone : List Str := ["_law_errors", "_law_others", "_law_k", "_law_error", "_law_every", "_law_strange"]
theorem sc_law_alone : FnScope N_law_alone ["_law_errors", "_law_others"] (defScope s_law_alone) := ⟨rfl, rfl, rfl, by decide +kernel, rfl, by decide +kernel, by decide +kernel⟩
theorem w_law_alone {S : SV} {S_law_plain : SV} {S_law_filled : SV} (F : Fun K "_law_alone" "_law_alone" s_law_alone f fd) (F_law_plain : Cal P w K mg base b 1 "_law_plain" ["_law_error"] S_law_plain) (F_law_filled : Cal P w K mg base b 1 "_law_filled" ["_law_error"] S_law_filled) (n_enumerate : mg "enumerate" = none) (n_isinstance : mg "isinstance" = none) (n_ValueError : mg "ValueError" = none) (T_LineError : ErrT K mg b ["TooLarge", "Absent", "BadCount", "BadDemand", "BadHistory", "BadText", "BadTimes", "BadWord", "NoGroup", "NoIndex", "NoPerson", "NoVersion", "Rejected", "BadBatch", "Busy", "Empty", "Impossible", "NoHistory", "NoOrder", "NothingToUndo", "TooManyEdits"] "LineError") (EC : ∀ n ∈ (["TooLarge", "Absent", "BadCount", "BadDemand", "BadHistory", "BadText", "BadTimes", "BadWord", "NoGroup", "NoIndex", "NoPerson", "NoVersion", "Rejected", "BadBatch", "Busy", "Empty", "Impossible", "NoHistory", "NoOrder", "NothingToUndo", "TooManyEdits"] : List Str), ErrC K (b.cls n)) (EV : ∀ n ∈ (["TooLarge", "Absent", "BadCount", "BadDemand", "BadHistory", "BadText", "BadTimes", "BadWord", "NoGroup", "NoIndex", "NoPerson", "NoVersion", "Rejected", "BadBatch", "Busy", "Empty", "Impossible", "NoHistory", "NoOrder", "NothingToUndo", "TooManyEdits"] : List Str), PySem.W.kitOne K (.ref (b.cls n)) (.type "ValueError") = some true) (hlen : ∀ ds Q E, S ds Q E → ds.length = 2)
    (law : ∀ ds Q E, S ds Q E → t_law_alone S_law_plain S_law_filled (envOf 6 ds) (fin Q E)) : FnOk P w K mg base (L2.CX P w) 2 f fd ["_law_errors", "_law_others"] (spV b S) := by
  refine fnV F sc_law_alone hlen (by decide) (fun cdv A outer s H E hr tk => ?_) law
  have hu := hr.units
  exact (vs_cons (vs_for (passes_of rfl) rfl (vi_enumE (by rfl) n_enumerate (va_cons (ve_var (pv 0)) va_nil)) (vg_en rfl (vgs_cons (vg_name (i := 2) sc_law_alone.nd rfl (.inl rfl)) (vgs_cons (vg_name (i := 3) sc_law_alone.nd rfl (.inl rfl)) vgs_nil)))
      (vs_one (vs_if (VWe.pt (vw_or (vt_ne hu (VE.toX (ve_cal F_law_plain hr tk (by rfl) (va_cons (ve_var (pv 3)) va_nil))) (VN.toX (vn_lst (va_cons (ve_var (pv 2)) va_nil)))) (vw_or1 (vt_ne hu (VE.toX (ve_cal F_law_filled hr tk (by rfl) (va_cons (ve_var (pv 3)) va_nil))) (VN.toX (vn_lst va_nil))))))
      (vs_one (vs_ret ve_bl))
      vs_nil)))
      (vs_cons (vs_for (passes_of rfl) rfl (vi_enumE (by rfl) n_enumerate (va_cons (ve_var (pv 1)) va_nil)) (vg_en rfl (vgs_cons (vg_name (i := 2) sc_law_alone.nd rfl (.inl rfl)) (vgs_cons (vg_name (i := 3) sc_law_alone.nd rfl (.inl rfl)) vgs_nil)))
      (vs_one (vs_if (VWe.pt (vw_or (vt_ne hu (VE.toX (ve_cal F_law_filled hr tk (by rfl) (va_cons (ve_var (pv 3)) va_nil))) (VN.toX (vn_lst (va_cons (ve_var (pv 2)) va_nil)))) (vw_or1 (vt_ne hu (VE.toX (ve_cal F_law_plain hr tk (by rfl) (va_cons (ve_var (pv 3)) va_nil))) (VN.toX (vn_lst va_nil))))))
      (vs_one (vs_ret ve_bl))
      vs_nil)))
      (vs_cons (vs_asg (i := 4) sc_law_alone.nd rfl (.inl rfl) (ve_catE (vx_var (pv 0)) (vx_var (pv 1))))
      (vs_cons (vs_setLcE (i := 5) (own := [("_law_error", 3)]) rfl sc_law_alone.nd rfl rfl (by rfl) (vib_srcE (vx_var (pv 4))) (blkOk_by (N := N_law_alone) (sc := defScope s_law_alone) (by decide +kernel)) (by decide) (fun _ _ _ _ _ => (vg_name (i := 3) sc_law_alone.nd rfl (.inl rfl))) (fun _ _ _ _ _ => (vts_one (vt_not (vt_val (VE.toX (ve_isE T_LineError EC (by rfl) n_isinstance (ve_var (pv 3)) (by rfl))))))) (fun _ _ _ _ _ => (ve_var (pv 3))))
      (vs_one (vs_ret (ve_and (VE.toX (ve_eq hu (vx_var (pv 5)) (VN.toX (vn_lst va_nil)))) (ve_one (ve_eq hu (VN.toX (vn_lc (own := [("_law_error", 3)]) rfl sc_law_alone.nd (vib_srcE (vx_var (pv 4))) (blkOk_by (N := N_law_alone) (sc := defScope s_law_alone) (by decide +kernel)) (by decide) (fun _ _ _ _ _ => (vg_name (i := 3) sc_law_alone.nd rfl (.inl rfl))) (fun _ _ _ _ _ => (vts_one (vt_not (vt_val (VE.toX (ve_isEV EV EC (by rfl) n_isinstance (ve_var (pv 3)) (by rfl) n_ValueError)))))) (fun _ _ _ _ _ => (ve_var (pv 3))))) (VN.toX (vn_lst va_nil)))))))))))
abbrev s_law : Stmt := topS 38
abbrev N_law : List Str := ["_law_script", "_law_bag", "_law_values", "_law_others", "_law_fields", "_law_errors", "_law_limits", "_law_k"]
theorem sc_law : FnScope N_law ["_law_script"] (defScope s_law) := ⟨rfl, rfl, rfl, by decide +kernel, rfl, by decide +kernel, by decide +kernel⟩
theorem w_law {S_law_odd : SV} {S_law_made : SV} {S_law_alone : SV} (F_law_odd : Cal P w K mg base b 3 "_law_odd" ["_law_bag"] S_law_odd) (F_law_made : Cal P w K mg base b 3 "_law_made" ["_law_values"] S_law_made) (F_law_alone : Cal P w K mg base b 2 "_law_alone" ["_law_errors", "_law_others"] S_law_alone) (c_BATCH : ∃ t, mg "BATCH" = some (.int 20 t)) (c_HISTORY : ∃ t, mg "HISTORY" = some (.int 30 t)) (c_MAX_DEMANDS : ∃ t, mg "MAX_DEMANDS" = some (.int 30 t)) (c_MAX_GROUP : ∃ t, mg "MAX_GROUP" = some (.int 1000000000 t)) (c_MAX_PEOPLE : ∃ t, mg "MAX_PEOPLE" = some (.int 40 t)) (c_SMALL : ∃ t, mg "SMALL" = some (.int 10 t)) (n_range : mg "range" = none) (n_repr : mg "repr" = none) (M_BadBatch : Mk0 K mg b "BadBatch") (M_Busy : Mk0 K mg b "Busy") (M_Empty : Mk0 K mg b "Empty") (M_Impossible : Mk0 K mg b "Impossible") (M_NoHistory : Mk0 K mg b "NoHistory") (M_NoOrder : Mk0 K mg b "NoOrder") (M_NothingToUndo : Mk0 K mg b "NothingToUndo") (M_TooManyEdits : Mk0 K mg b "TooManyEdits") (cdv : Value) (A : Around) (outer : List Env) (s : Shared) (H : Hp) (E : XK) (hr : Room 3 (A.deeper (envOfC "law" (defScope s_law) s.heap.objs.size f cdv))) (hgd : (A.deeper (envOfC "law" (defScope s_law) s.heap.objs.size f cdv)).guards = some []) (tk : Takes (cxOf (L2.CX P w) P w K mg base N_law "law" (defScope s_law) f cdv A outer s H E) (WF E)) : VSs (cxOf (L2.CX P w) P w K mg base N_law "law" (defScope s_law) f cdv A outer s H E) b (WF E) (defBody s_law).tail (t_law S_law_odd S_law_made S_law_alone) := by
  have hu := hr.units
  exact (vs_cons (vs_setLcE (i := 2) (own := [("_law_k", 7)]) rfl sc_law.nd rfl rfl (by rfl) (vib_range1 (by rfl) n_range (vxs_cons (VE.toX ve_int) vxs_nil)) (blkOk_by (N := N_law) (sc := defScope s_law) (by decide +kernel)) (by decide) (fun _ _ _ _ _ => (vg_name (i := 7) sc_law.nd rfl (.inl rfl))) (fun _ _ _ _ _ => vts_nil) (fun _ _ _ _ _ => (ve_cal F_law_odd hr takes0 (by rfl) (va_cons (ve_var (pv 1)) va_nil))))
      (vs_cons (vs_asgT (ve_cal F_law_made hr tk (by rfl) (va_cons (ve_var (pv 2)) va_nil)) (vg_pr rfl (vgs_cons (vg_name (i := 3) sc_law.nd rfl (.inl rfl)) (vgs_cons (vg_name (i := 4) sc_law.nd rfl (.inl rfl)) vgs_nil))))
      (vs_cons (vs_asg (i := 5) sc_law.nd rfl (.inl rfl) (ve_lstE (va_cons (ve_exc0 M_BadBatch (by rfl)) (va_cons (ve_exc0 M_Busy (by rfl)) (va_cons (ve_exc0 M_Empty (by rfl)) (va_cons (ve_exc0 M_Impossible (by rfl)) (va_cons (ve_exc0 M_NoHistory (by rfl)) (va_cons (ve_exc0 M_NoOrder (by rfl)) (va_cons (ve_exc0 M_NothingToUndo (by rfl)) (va_cons (ve_exc0 M_TooManyEdits (by rfl)) va_nil))))))))))
      (vs_cons (vs_if (VWe.pt (vw_or (vt_ne hu (VE.toX (ve_repr hu hgd (by rfl) n_repr (vxs_cons (vx_var (pv 4)) vxs_nil))) (VE.toX (ve_repr hu hgd (by rfl) n_repr (vxs_cons (vx_var (pv 2)) vxs_nil)))) (vw_or1 (vt_not (vt_val (VE.toX (ve_cal F_law_alone hr tk (by rfl) (va_cons (ve_var (pv 5)) (va_cons (ve_var (pv 3)) va_nil)))))))))
      (vs_one (vs_ret ve_bl))
      vs_nil)
      (vs_cons (vs_asg (i := 6) sc_law.nd rfl (.inl rfl) (VN.toE (vn_lst (va_cons (ve_gint (by rfl) c_BATCH) (va_cons (ve_gint (by rfl) c_HISTORY) (va_cons (ve_gint (by rfl) c_MAX_DEMANDS) (va_cons (ve_gint (by rfl) c_MAX_GROUP) (va_cons (ve_gint (by rfl) c_MAX_PEOPLE) (va_cons (ve_gint (by rfl) c_SMALL) va_nil)))))))))
      (vs_one (vs_ret (ve_eq hu (VE.toX (ve_repr hu hgd (by rfl) n_repr (vxs_cons (vx_var (pv 6)) vxs_nil))) (VE.toX (ve_repr hu hgd (by rfl) n_repr (vxs_cons (VN.toX (vn_lst (va_cons ve_int (va_cons ve_int (va_cons ve_int (va_cons (ve_pow (VE.toX ve_int) (VE.toX ve_int)) (va_cons ve_int (va_cons ve_int va_nil)))))))) vxs_nil)))))))))))
end
end LawP
set_option Elab.async false
set_option linter.all false
set_option maxRecDepth 100000
set_option maxHeartbeats 4000000
namespace LawP
open PySem PySem.Spec PyProof.Rows L2 VL
abbrev sOpened : Stmt := topS 30
abbrev sTake : Stmt := topS 31
abbrev sPick : Stmt := topS 32
theorem scOpened : FnScope ["_law_script", "_law_cells", "_law_cell"] ["_law_script"] (defScope sOpened) := ⟨rfl, rfl, rfl, by decide +kernel, rfl, by decide +kernel, by decide +kernel⟩
theorem scTake : FnScope ["_law_bag", "_law_many", "_law_rest", "_law_drawn", "_law_cells", "_law_seed"] ["_law_bag", "_law_many"] (defScope sTake) := ⟨rfl, rfl, rfl, by decide +kernel, rfl, by decide +kernel, by decide +kernel⟩
theorem scPick : FnScope ["_law_bag", "_law_items"] ["_law_bag", "_law_items"] (defScope sPick) := ⟨rfl, rfl, rfl, by decide +kernel, rfl, by decide +kernel, by decide +kernel⟩
section
variable {P : Program} {w : World} {K : PySem.W.Frag} {mg : Str → Option Value} {base : Heap} {f f2 : Addr} {fd fd2 : FuncData}
theorem ok_take {k : Nat} (F : Fun K "_law_take" "_law_take" sTake f fd) (ml : mg "len" = none) : FnOk P w K mg base (L2.CX P w) (k + 1) f fd ["_law_bag", "_law_many"] spTake := by
  refine F.okX scTake (fun vs H Q E h => ?_) (fun cdv A outer s H vs Q E hr h => ?_)
  · obtain ⟨r, l1, l2, gs, ds, n, m, rfl, _⟩ := h
    rfl
  · have hu := hr.units
    have h1 := hu_of hr
    refine ⟨_, pss_cons (ps_while (passes_of rfl) (pt_cmpR (op_neP hu) (pe_dget h1 (pv 0) pe_str (fun _ _ => rfl)) (pe_lst pa_nil) (nomark _))
        (pss_cons (ps_set (i := 2) scTake.nd rfl (.inl rfl) (pe_bm PySem.F.plainAttrs_list PySem.F.slot_list_pop PySem.F.type_list_pop mt_popAt (pe_dget h1 (pv 0) pe_str (fun _ _ => rfl)) (pa_cons pe_int pa_nil)))
          (pss_one (ps_if (pt_cmpR op_gt (pv 2) pe_int (nomark _))
            (pss_cons (ps_expr (pe_bm PySem.F.plainAttrs_list PySem.F.slot_list_insert PySem.F.type_list_insert mt_insert (pe_dget h1 (pv 0) pe_str (fun _ _ => rfl)) (pa_cons pe_int (pa_cons (pe_op op_fdivB (pv 2) (pv 1)) pa_nil))))
              (pss_one (ps_ret (pe_op op_mod (pv 2) (pv 1))))) pss_nil))))
      (pss_cons (ps_par (i := 3) (j := 4) rfl scTake.nd rfl rfl (by decide) rfl rfl (pa_cons (pe_dget h1 (pv 0) pe_str (fun _ _ => rfl)) (pa_cons (pe_dget h1 (pv 0) pe_str (fun _ _ => rfl)) pa_nil)) (by rfl))
      (pss_cons (ps_dput h1 (pv 0) pe_str (pe_op op_add (pv 3) pe_int) (by rfl))
      (pss_cons (ps_set (i := 5) scTake.nd rfl (.inl rfl) (pe_op op_add (pe_op op_mod (pe_ix ix_list (pv 4) (pe_op op_mod (pv 3) (pe_callB call_len_seq (by rfl) ml PySem.boot_len (pa_cons (pv 4) pa_nil))) (fun _ _ => rfl)) pe_int) (pe_op op_mul pe_int (pe_op op_add (pv 3) pe_int))))
      (pss_cons (ps_set (i := 5) scTake.nd rfl (.inl rfl) (pe_op op_mod (pe_op op_mul (pe_op op_mod (pv 5) pe_int) (pe_op op_add (pe_op op_mod (pv 5) pe_int) pe_int)) pe_int))
      (pss_cons (ps_set (i := 5) scTake.nd rfl (.inl rfl) (pe_op op_mod (pe_op op_mul (pe_op op_mod (pe_op op_add (pe_op op_mul (pv 5) (pv 5)) (pe_op op_mul pe_int (pv 3))) pe_int) pe_int) pe_int))
      (pss_one (ps_ret (pe_op op_mod (pe_op op_fdivB (pv 5) pe_int) (pv 1))))))))), ?_⟩
    obtain ⟨r, l1, l2, gs, ds, n, m, rfl, hb, m0, m1, q⟩ := h
    refine ⟨fun k σ H' => ∃ x2 gs', k = List.length gs' ∧ σ = [some (.ref r), some (.int m), x2, none, none, none] ∧ KeepB r l1 l2 H H' ∧ bagAt r l1 l2 gs' ds n H', ⟨_, none, gs, rfl, rfl, .refl, hb⟩, ?_⟩
    rintro k σ H1 ⟨x2, gs', rfl, rfl, kp, b1⟩
    have e1 : ∀ {p : Addr} {o : HO}, H1 p = none → bagAt r l1 l2 gs' ds n (upd H1 p o) := fun {p o} hp => ⟨by rw [upd_ne (ne_of_none b1.1 hp)]; exact b1.1, by rw [upd_ne (ne_of_none b1.2.1 hp)]; exact b1.2.1, by rw [upd_ne (ne_of_none b1.2.2.1 hp)]; exact b1.2.2.1, b1.2.2.2⟩
    refine ⟨.ref r, rfl, r, .ref l1, rfl, DGet.k (k := kG) b1.1, Nat.zero_le _, fun p hp => ?_⟩
    have b2 := e1 (o := .lst []) hp
    have kp2 : KeepB r l1 l2 H (upd H1 p (.lst [])) := kp.upd (.inr (.inr (.inr hp)))
    refine ⟨.list (gs'.map PyData.int), .list [], .lst b2.2.1 not_false (.of_ints _), .lst upd_same not_false .nil, (by simp only [PyData.plain]; exact plain_ints gs'), rfl, .inr (by decide), _, rfl, ?_⟩
    generalize upd H1 p (.lst []) = H2 at b2 kp2
    cases gs' with
    | cons g gs' =>
      refine ⟨fun σ H' => ∃ m', m' < (g :: gs').length ∧ ∃ x2 gs'', m' = List.length gs'' ∧ σ = [some (.ref r), some (.int m), x2, none, none, none] ∧ KeepB r l1 l2 H H' ∧ bagAt r l1 l2 gs'' ds n H', fun σ' H' h => h, ?_⟩
      -- rest = bag['great'].pop(0)
      refine ⟨.ref r, rfl, r, .ref l1, rfl, DGet.k (k := kG) b2.1, .inl ⟨rfl, _, SqL.of b2.2.1⟩, ?_⟩
      refine ⟨l1, (g :: gs').map V.int, 0, 0, .int g, rfl, rfl, b2.2.1, by decide, by decide, by simp [seqIndex?], rfl, ?_⟩
      have b3 : bagAt r l1 l2 gs' ds n (upd H2 l1 (.lst (gs'.map V.int))) := ⟨by rw [upd_ne b2.rl1]; exact b2.1, upd_same, by rw [upd_ne (Ne.symm b2.2.2.2.2.2)]; exact b2.2.2.1, Nat.le_of_succ_le b2.2.2.2.1, b2.2.2.2.2⟩
      have kp3 : KeepB r l1 l2 H (upd H2 l1 (.lst (gs'.map V.int))) := kp2.upd (.inr (.inl rfl))
      have e3 : ((g :: gs').map V.int).eraseIdx 0 = gs'.map V.int := rfl
      rw [e3]
      generalize upd H2 l1 (.lst (gs'.map V.int)) = H3 at b3 kp3
      -- if rest > 0
      refine ⟨.int g, rfl, g, 0, rfl, rfl, _, rfl, ite2 (fun c => ?_) (fun c => ?_)⟩
      · refine ⟨.ref r, rfl, r, .ref l1, rfl, DGet.k (k := kG) b3.1, .inl ⟨rfl, _, SqL.of b3.2.1⟩, .int g, rfl, .int m, rfl, g, m, rfl, rfl, ⟨by omega, by omega⟩, ?_⟩
        have hl : gs'.length < sizeLine := Nat.lt_of_le_of_lt b3.2.2.2.1 (by decide)
        refine ⟨l1, _, 0, _, rfl, rfl, b3.2.1, by rw [List.length_map]; exact hl, Int.le_refl _, by decide, ?_⟩
        have b4 : bagAt r l1 l2 (g.fdiv m :: gs') ds n (upd H3 l1 (.lst ((g.fdiv m :: gs').map V.int))) := ⟨by rw [upd_ne b3.rl1]; exact b3.1, upd_same, by rw [upd_ne (Ne.symm b3.2.2.2.2.2)]; exact b3.2.2.1, b2.2.2.2.1, b3.2.2.2.2⟩
        exact ⟨.int g, rfl, .int m, rfl, g, m, rfl, rfl, m0, q _ _ _ _ (kp3.upd (.inr (.inl rfl))) b4 (Int.emod_nonneg _ (by omega)) (Int.emod_lt_of_pos _ m0)⟩
      · exact ⟨gs'.length, Nat.lt_succ_self _, some (.int g), gs', rfl, rfl, kp3, b3⟩
    | nil =>
      -- here, cells = bag['drawn'], bag['cells']
      refine ⟨.ref r, rfl, r, .int n, rfl, DGet.k (k := kN) b2.1, .ref r, rfl, r, .ref l2, rfl, DGet.k (k := kC) b2.1, _, _, rfl, ?_⟩
      -- bag['drawn'] = here + 1
      refine ⟨.int n, rfl, n, 1, rfl, rfl, .ref r, rfl, r, _, rfl, DPut.k (k := kN) b2.1 (show 3 < sizeLine by decide), ?_⟩
      have b3 : bagAt r l1 l2 [] ds (n + 1) (upd H2 r (.dK [(kG, .ref l1), (kC, .ref l2), (kN, .int (n + 1))])) := ⟨upd_same, by rw [upd_ne b2.rl1.symm]; exact b2.2.1, by rw [upd_ne b2.rl2.symm]; exact b2.2.2.1, b2.2.2.2⟩
      have kp3 : KeepB r l1 l2 H (upd H2 r (.dK [(kG, .ref l1), (kC, .ref l2), (kN, .int (n + 1))])) := kp2.upd (.inl rfl)
      have e3 : putK [(kG, V.ref l1), (kC, .ref l2), (kN, .int n)] kN (.int (n + 1)) = [(kG, .ref l1), (kC, .ref l2), (kN, .int (n + 1))] := rfl
      rw [e3]
      generalize upd H2 r (.dK [(kG, .ref l1), (kC, .ref l2), (kN, .int (n + 1))]) = H3 at b3 kp3
      have dl : 0 < ds.length := List.length_pos_iff.mpr b3.2.2.2.2.1
      have hL : SqL K H3 l2 (ds.map V.int) := SqL.of b3.2.2.1
      have i0 : 0 ≤ n % ((ds.map V.int).length : Int) := Int.emod_nonneg _ (by rw [List.length_map]; omega)
      have i1 : n % ((ds.map V.int).length : Int) < (ds.map V.int).length := Int.emod_lt_of_pos _ (by rw [List.length_map]; omega)
      obtain ⟨j, ej⟩ : ∃ j : Nat, n % ((ds.map V.int).length : Int) = (j : Int) := ⟨_, (Int.toNat_of_nonneg i0).symm⟩
      have hj : j < ds.length := by rw [ej, List.length_map] at i1; omega
      refine ⟨.ref l2, rfl, .int n, rfl, .ref l2, rfl, l2, _, rfl, .inl hL, n, _, rfl, rfl, (by show (0 : Int) < ((ds.map V.int).length : Int); rw [List.length_map]; omega), l2, _, _, .int ds[j], rfl, rfl, hL, ?_, ?_⟩
      · rw [ej]
        exact atI_nat (by rw [List.getElem?_map, List.getElem?_eq_getElem hj]; rfl)
      -- the first seed
      refine ⟨ds[j], 3037000493, rfl, rfl, (show (0 : Int) < 3037000493 by decide), .int n, rfl, n, 1, rfl, rfl, 2862933555, n + 1, rfl, rfl, .inl ⟨by decide, by decide⟩, _, _, rfl, rfl, ?_⟩
      dsimp only
      generalize ds[j] % 3037000493 + 2862933555 * (n + 1) = s0
      -- the second
      have w1 : ∀ x : Int, 0 ≤ x % 3037000493 ∧ x % 3037000493 < 3037000493 := fun x => ⟨Int.emod_nonneg _ (by decide), Int.emod_lt_of_pos _ (by decide)⟩
      refine ⟨.int s0, rfl, s0, 3037000493, rfl, rfl, (show (0 : Int) < 3037000493 by decide), .int s0, rfl, s0, 65521, rfl, rfl, (show (0 : Int) < 65521 by decide), _, 7, rfl, rfl, _, _, rfl, rfl, .inl ⟨by have := w1 s0; omega, by have := w1 s0; omega⟩, _, 3037000493, rfl, rfl, (show (0 : Int) < 3037000493 by decide), ?_⟩
      dsimp only
      generalize hs1 : s0 % 3037000493 * (s0 % 65521 + 7) % 3037000493 = s1
      have w2 : 0 ≤ s1 ∧ s1 < 3037000493 := by rw [← hs1]; exact w1 _
      -- the third
      refine ⟨.int s1, rfl, .int s1, rfl, s1, s1, rfl, rfl, .inl ⟨by omega, by omega⟩, .int n, rfl, 30517, n, rfl, rfl, .inl ⟨by decide, by decide⟩, _, _, rfl, rfl, _, 3037000493, rfl, rfl, (show (0 : Int) < 3037000493 by decide), _, 1013904223, rfl, rfl, .inr ⟨by decide, by decide⟩, _, 3037000493, rfl, rfl, (show (0 : Int) < 3037000493 by decide), ?_⟩
      dsimp only
      generalize (s1 * s1 + 30517 * n) % 3037000493 * 1013904223 % 3037000493 = s2
      refine ⟨.int s2, rfl, s2, 8, rfl, rfl, ⟨by decide, by decide⟩, .int m, rfl, _, m, rfl, rfl, m0, q _ _ _ _ kp3 b3 (Int.emod_nonneg _ (by omega)) (Int.emod_lt_of_pos _ m0)⟩
theorem ok_opened {k : Nat} (F : Fun K "_law_opened" "_law_opened" sOpened f fd) (ma : mg "abs" = none) (mi : mg "int" = none) : FnOk P w K mg base (L2.CX P w) (k + 1) f fd ["_law_script"] (spOpened K) := by
  refine F.okX scOpened (fun vs H Q E h => ?_) (fun cdv A outer s H vs Q E hr h => ?_)
  · obtain ⟨a, ns, rfl, _⟩ := h
    rfl
  · have hu := hr.units
    have h1 := hu_of hr
    refine ⟨_, pss_cons (ps_setLc (i := 1) (own := [("_law_cell", 2)]) rfl scOpened.nd rfl rfl (by rfl) (pi_list (pe_slice sl_list (pv 0) po_none (po_some pe_int))) (blkOk_by (N := ["_law_script", "_law_cells", "_law_cell"]) (sc := defScope sOpened) (by decide +kernel))
        (fun _ _ _ _ _ => pg_name (i := 2) scOpened.nd rfl (.inl rfl)) (fun _ _ _ _ _ => pts_nil) (fun _ _ _ _ _ => pe_callB call_abs (by rfl) ma boot_abs (pa_cons (pv 2) pa_nil)))
      (pss_one (ps_ret (pe_disp (pps_cons pe_str (vn_lc (b := bg0) (W := noW) (own := [("_law_cell", 2)]) rfl scOpened.nd (vib_src (vx_var (pv 1))) (blkOk_by (N := ["_law_script", "_law_cells", "_law_cell"]) (sc := defScope sOpened) (by decide +kernel)) (by decide)
          (fun _ _ _ _ _ => vg_name (i := 2) scOpened.nd rfl (.inl rfl)) (fun _ _ _ _ _ => vts_one (vt_ge (vx_var (pv 2)) (VE.toX (ve_pow (VE.toX ve_int) (VE.toX ve_int))))) (fun _ _ _ _ _ => ve_var (pv 2)))
        (pps_cons pe_str (pe_op op_cat (pv 1) (pe_op op_rep (pe_lst (pa_cons pe_int pa_nil)) (pe_callTy call_int1 (by rfl) mi PySem.Pv.boot_int (pa_cons (pe_cmpR (op_eqP hu) (pv 1) (pe_lst pa_nil) (nomark _)) pa_nil))))
        (pps_cons pe_str pe_int pps_nil))) rfl rfl (by simp) (by decide)))), ?_⟩
    obtain ⟨a, ns, rfl, hS, hl, q⟩ := h
    -- the cells
    refine ⟨.ref a, rfl, 61, rfl, a, _, rfl, hS, fun p hp => ?_⟩
    obtain ⟨ms, ems, hms⟩ := cut_ints ns none (some 61)
    rw [ems]
    refine ⟨p, rfl, ⟨_, SqL.of upd_same⟩, fun D hD => ?_⟩
    have hz : ms.length ≤ 1000 := by omega
    have keep : ∀ {H1 H2 : Hp} {b : Addr} {o : HO}, (∀ c o, H1 c = some o → H2 c = some o) → H2 b = none → ∀ c o', H1 c = some o' → upd H2 b o c = some o' := fun {H1 H2 b o} k hn c o' e => by rw [upd_ne (ne_of_none (k c o' e) hn)]; exact k c o' e
    refine lc_list (xs := ms.map V.int) (fun i H' => (∀ c o, H c = some o → H' c = some o) ∧ H' p = some (.lst (ms.map V.int)) ∧ H D = none ∧ D ≠ p ∧ H' D = some (.lst (((ms.take i).map absI).map V.int))) ?_ (fun i H' _ h => SqL.of h.2.1) ?_ ?_
    · have np : D ≠ p := fun e => by rw [e, upd_same] at hD; cases hD
      refine ⟨keep (keep (fun _ _ e => e) hp) hD, by rw [upd_ne np.symm]; exact upd_same, ?_, np, by rw [upd_same]; rfl⟩
      rw [upd_ne np] at hD
      exact hD
    · intro i x H' hx ⟨k, e2, np, npp, e3⟩
      rw [List.getElem?_map] at hx
      cases em : ms[i]? with
      | none => rw [em] at hx; cases hx
      | some m =>
        rw [em] at hx
        cases hx
        have hi : i < ms.length := (List.getElem?_eq_some_iff.mp em).1
        have nd : ∀ c o, H c = some o → c ≠ D := fun c o e z => by rw [z, np] at e; cases e
        refine ⟨rfl, ?_⟩
        unfold tYes
        dsimp only
        rw [if_pos rfl]
        refine ⟨.int m, rfl, m, rfl, _, e3, ?_, fun c o e => ?_, ?_, np, npp, ?_⟩
        · rw [List.length_map, List.length_map, List.length_take]
          exact Nat.lt_of_le_of_lt (show min i ms.length ≤ 1000 by omega) (by decide)
        · rw [upd_ne (nd c o e)]
          exact k c o e
        · rw [upd_ne npp.symm]
          exact e2
        · rw [upd_same, List.take_add_one, em]
          simp
    · intro H1 ⟨k, e2, np, npp, e3⟩
      rw [List.length_map, List.take_length] at e3
      have hcs : (ms.map absI).length ≤ 63 := by rw [List.length_map]; omega
      generalize ms.map absI = cs at e3 hcs
      -- the dict: its lists
      refine fun r hr => ?_
      have nr : ∀ c o, H c = some o → c ≠ r := fun c o e z => by
        have := k c o e
        rw [z, hr] at this; cases this
      have hD1 : (upd H1 r (.dK [])) D = some (.lst (cs.map V.int)) := by rw [upd_ne (ne_of_none e3 hr)]; exact e3
      have k1 : ∀ c o, H c = some o → (upd H1 r (.dK [])) c = some o := keep k hr
      have Hr0 : H r = none := by
        cases e : H r with
        | none => rfl
        | some o => rw [k r o e] at hr; cases hr
      have hr1 : (upd H1 r (.dK [])) r = some (.dK []) := upd_same
      generalize upd H1 r (.dK []) = H2 at hD1 k1 hr1
      refine ⟨nz, nz, [.un, .shr (.py (.list (cs.map PyData.int))), .un], fun d => d = .py (.list ((bigs (10 ^ 18) cs).map PyData.int)), noE, VOk.plain rfl ?_, ⟨?_, _, .inl rfl, ?_⟩, fun v H3 d x3 g3 ⟨l1, e4, n1, ow⟩ ed => ?_, fun _ _ _ _ _ _ _ h => h⟩
      · intro i s hs
        match i, hs with
        | 0, hs => cases hs; exact .inl rfl
        | 1, hs => cases hs; exact .inr ⟨_, .ref D, rfl, rfl, Rq.lst hD1 not_false (.of_ints cs)⟩
        | 2, hs => cases hs; exact .inl rfl
      · intro i hi d e
        rw [List.mem_singleton.mp hi] at e
        cases e
      · refine bigs_go (k := 10 ^ 18) ?_ (fun ρ c Q E e q => ⟨_, .inl e, ⟨by decide, by decide, by decide⟩, _, rfl, q⟩) (fun ρ d Q E e q => ⟨d, e, q⟩) cs [] (by simp; omega) rfl
        show 2 < 3
        decide
      subst e4 ed
      obtain ⟨xs1, hl1, rq1⟩ := ow
      have ex1 := rq1.ints
      subst ex1
      have x3' : ∀ c o, H2 c = some o → H3 c = some o := fun c o e => x3 c o e not_false
      have D3 := x3' _ _ hD1
      have r3 := x3' _ _ hr1
      have nl1 : H2 l1 = none := n1
      -- the second list
      refine ⟨.ref D, rfl, Nat.succ_le_of_lt (by decide), fun p1 hp1 => ?_⟩
      refine ⟨.ref D, rfl, Nat.zero_le _, fun p2 hp2 => ?_⟩
      have k4 : ∀ c o, H3 c = some o → upd H3 p1 (.lst [.int 73]) c = some o := keep (fun _ _ e => e) hp1
      have k5 : ∀ c o, H3 c = some o → upd (upd H3 p1 (.lst [.int 73])) p2 (.lst []) c = some o := keep k4 hp2
      have p12 : p1 ≠ p2 := fun e => by rw [e, upd_same] at hp2; cases hp2
      have g1 : upd (upd H3 p1 (.lst [.int 73])) p2 (.lst []) p1 = some (.lst [.int 73]) := by rw [upd_ne p12]; exact upd_same
      refine ⟨.list (cs.map PyData.int), .list [], .lst (k5 _ _ D3) not_false (.of_ints cs), .lst upd_same not_false .nil, by simp only [PyData.plain]; exact plain_ints cs, rfl, .inr (by decide), .inr ⟨_, rfl, ?_⟩⟩
      have nD1 : D ≠ p1 := ne_of_none D3 hp1
      generalize hH4 : upd (upd H3 p1 (.lst [.int 73])) p2 (.lst []) = H4 at k5 g1
      refine ⟨p1, _, [.int 73], rfl, rfl, g1, ?_, ?_, ?_, fun p3 hp3 => ?_⟩
      · split <;> decide
      · split <;> decide
      · split <;> decide
      have n13 : p1 ≠ p3 := ne_of_none g1 hp3
      have nD3 : D ≠ p3 := ne_of_none (k5 _ _ D3) hp3
      refine ⟨D, p3, cs.map V.int, _, rfl, rfl, by rw [upd_ne nD3]; exact k5 _ _ D3, upd_same, ?_, fun l2 hl2 => ?_⟩
      · rw [List.length_map]
        have z : ∀ m : Nat, m ≤ 200 → m ≤ sizeLine := fun m h => Nat.le_trans h (by decide)
        refine z _ ?_
        split
        · show cs.length + 1 ≤ 200
          omega
        · show cs.length + 0 ≤ 200
          omega
      -- the end
      have k6 : ∀ c o, H3 c = some o → upd (upd H4 p3 (.lst (List.replicate (if (PyData.list (cs.map PyData.int)).eqv (.list []) = true then (1 : Int) else 0).toNat [V.int 73]).flatten)) l2 (.lst (cs.map V.int ++ (List.replicate (if (PyData.list (cs.map PyData.int)).eqv (.list []) = true then (1 : Int) else 0).toNat [V.int 73]).flatten)) c = some o := keep (keep k5 hp3) hl2
      obtain ⟨es, he, hne⟩ : ∃ es : List Int, cs.map V.int ++ (List.replicate (if (PyData.list (cs.map PyData.int)).eqv (.list []) = true then (1 : Int) else 0).toNat [V.int 73]).flatten = es.map V.int ∧ es ≠ [] := by
        cases cs with
        | nil => exact ⟨[73], rfl, by simp⟩
        | cons c cs => exact ⟨c :: cs, by show _ ++ [] = _; rw [List.append_nil], by simp⟩
      rw [he] at k6 ⊢
      generalize hH5 : upd (upd H4 p3 (.lst (List.replicate (if (PyData.list (cs.map PyData.int)).eqv (.list []) = true then (1 : Int) else 0).toNat [V.int 73]).flatten)) l2 (.lst (es.map V.int)) = H5 at k6
      have e5 : H5 l2 = some (.lst (es.map V.int)) := by rw [← hH5]; exact upd_same
      have nl12 : l1 ≠ l2 := ne_of_none (k5 _ _ hl1) (by
        cases e : H4 l2 with
        | none => rfl
        | some o =>
          have : (upd H4 p3 (.lst (List.replicate (if (PyData.list (cs.map PyData.int)).eqv (.list []) = true then (1 : Int) else 0).toNat [V.int 73]).flatten)) l2 ≠ none := by
            by_cases q : l2 = p3
            · rw [q, upd_same]; simp
            · rw [upd_ne q, e]; simp
          exact absurd hl2 this)
      have r5 := k6 _ _ r3
      have nz5 : ∀ c o, H c = some o → H5 c = some o := fun c o e => k6 c o (x3' c o (k1 c o e))
      have back : ∀ c, H5 c = none → H c = none := fun c e => by
        cases q : H c with
        | none => rfl
        | some o => rw [nz5 c o q] at e; cases e
      have o1 : H l1 = none := by
        cases q : H l1 with
        | none => rfl
        | some o => rw [k1 l1 o q] at nl1; cases nl1
      have o2 : H l2 = none := by
        cases q : H l2 with
        | none => rfl
        | some o =>
          have := k5 l2 o (x3' l2 o (k1 l2 o q))
          have e' : (upd H4 p3 (.lst (List.replicate (if (PyData.list (cs.map PyData.int)).eqv (.list []) = true then (1 : Int) else 0).toNat [V.int 73]).flatten)) l2 = some o := keep (fun _ _ e => e) hp3 l2 o this
          rw [hl2] at e'; cases e'
      refine ⟨r5, [(kG, .ref l1), (kC, .ref l2), (kN, .int 0)], rfl, (show 3 ≤ 15 by decide), ?_⟩
      have em : mergeK ([] : List (Key × V)) [(kG, .ref l1), (kC, .ref l2), (kN, .int 0)] = [(kG, .ref l1), (kC, .ref l2), (kN, .int 0)] := rfl
      rw [em]
      have nr1 : l1 ≠ r := fun e => by rw [e] at hl1; rw [r3] at hl1; cases hl1
      have nr2 : l2 ≠ r := fun e => by rw [e] at e5; rw [r5] at e5; cases e5
      refine q r l1 l2 (bigs (10 ^ 18) cs) es 0 _ (fun c o e => ?_) Hr0 o1 o2 ⟨upd_same, by rw [upd_ne nr1]; exact k6 _ _ hl1, by rw [upd_ne nr2]; exact e5, ?_, hne, nl12⟩
      · rw [upd_ne (nr c o e)]
        exact nz5 c o e
      · exact Nat.le_trans (List.length_filter_le _ _) hcs
theorem ok_pick {k : Nat} {cls : Str → Addr} {r l1 l2 : Addr} (F : Fun K "_law_pick" "_law_pick" sPick f fd) (FT : FnOk P w K mg base (L2.CX P w) k f2 fd2 ["_law_bag", "_law_many"] (spV (bagB cls r l1 l2) (svTake r))) (gT : mg "_law_take" = some (.ref f2)) (kT : PySem.W.keepIn K (.ref f2) = true) (bT : Binds K fd2 ["_law_bag", "_law_many"] []) (ml : mg "len" = none) :
    FnOk P w K mg base (L2.CX P w) (k + 1) f fd ["_law_bag", "_law_items"] (spV (bagB cls r l1 l2) (svPick r)) := by
  refine fnV F scPick (fun ds Q E h => by obtain ⟨p, xs, e, _⟩ := svPick_ex h; rw [e]; rfl) (by decide) (fun cdv A outer s H E hr tk => vs_one (vs_ret (ve_ix (vx_var (pv 1)) (VE.toX (ve_call FT hr tk (by rfl) gT kT bT (va_cons (ve_var (pv 0)) (va_cons (ve_len (by rfl) ml (vxs_cons (vx_var (pv 1)) vxs_nil)) va_nil))))))) ?_
  intro ds Q E hh
  obtain ⟨p, xs, rfl, hp, hne, hl, q⟩ := svPick_ex hh
  have hpos : 0 < xs.length := List.length_pos_iff.mpr hne
  have at_ : ∀ x : Int, 0 ≤ x → x < xs.length → ∃ d, atI xs x = some d ∧ d ∈ xs := fun x x0 x1 => by
    obtain ⟨j, rfl⟩ := Int.eq_ofNat_of_zero_le x0
    have hj : j < xs.length := by omega
    exact ⟨xs[j], atI_nat (List.getElem?_eq_getElem hj), List.getElem_mem hj⟩
  rcases hp with rfl | rfl | ⟨z, rfl, hz, rfl⟩
  · refine ⟨_, .inl rfl, _, rfl, _, .inl rfl, rfl, by omega, by omega, fun x x0 x1 => ?_⟩
    obtain ⟨d, e, m⟩ := at_ x x0 x1
    exact ⟨d, e, q d m⟩
  · refine ⟨_, .inl rfl, _, rfl, _, .inl rfl, rfl, by omega, by omega, fun x x0 x1 => ?_⟩
    obtain ⟨d, e, m⟩ := at_ x x0 x1
    exact ⟨d, e, q d m⟩
  · have el : (signsD z).length = z.length := by unfold signsD; rw [List.length_map, Array.length_toList]; rfl
    refine ⟨_, .inl rfl, _, rfl, _, .inl rfl, hz, rfl, by omega, by omega, fun x x0 x1 => ?_⟩
    obtain ⟨j, rfl⟩ := Int.eq_ofNat_of_zero_le x0
    have hj : j < z.cps.toList.length := by rw [Array.length_toList]; have : (j : Int) < z.cps.size := x1; omega
    refine ⟨hz, z.cps.toList[j], atI_nat (List.getElem?_eq_getElem hj), q _ ?_⟩
    unfold signsD
    exact List.mem_map.mpr ⟨_, List.getElem_mem hj, rfl⟩
end
end LawP
set_option Elab.async false
set_option linter.all false
set_option maxRecDepth 100000
set_option maxHeartbeats 4000000
namespace LawP
open PySem PySem.Spec PyProof.Rows L2 VL
theorem all_mk {l : PySem.W.OpenLaw} {w : World} {K : PySem.W.Frag} {h : Heap} {mg : Str → Option Value} {fa : Addr} (X : K.In h) (G : h.Ns mainGlobals mg) (hfa : mg "law" = some (.ref fa))
    (d30 : DefK K "_law_opened" (topS 30)) (d37 : DefK K "_law_made" (topS 37)) (d31 : DefK K "_law_take" (topS 31)) (d32 : DefK K "_law_pick" (topS 32)) (d33 : DefK K "_law_odd" (topS 33)) (d34 : DefK K "_law_plain" (topS 34)) (d35 : DefK K "_law_filled" (topS 35)) (d36 : DefK K "_law_alone" (topS 36)) (d38 : DefK K "law" (topS 38))
    {t0 : Tok} (m0 : PySem.W.nsIn K mainGlobals "BATCH" = some (some (.int 20 t0))) {t1 : Tok} (m1 : PySem.W.nsIn K mainGlobals "HISTORY" = some (some (.int 30 t1))) {t2 : Tok} (m2 : PySem.W.nsIn K mainGlobals "MAX_DEMANDS" = some (some (.int 30 t2))) {t3 : Tok} (m3 : PySem.W.nsIn K mainGlobals "MAX_GROUP" = some (some (.int 1000000000 t3))) {t4 : Tok} (m4 : PySem.W.nsIn K mainGlobals "MAX_PEOPLE" = some (some (.int 40 t4))) {t5 : Tok} (m5 : PySem.W.nsIn K mainGlobals "SMALL" = some (some (.int 10 t5)))
    (z_isinstance : PySem.W.nsIn K mainGlobals "isinstance" = some none) (z_range : PySem.W.nsIn K mainGlobals "range" = some none) (z_enumerate : PySem.W.nsIn K mainGlobals "enumerate" = some none) (z_ValueError : PySem.W.nsIn K mainGlobals "ValueError" = some none) (z_repr : PySem.W.nsIn K mainGlobals "repr" = some none) (z_len : PySem.W.nsIn K mainGlobals "len" = some none) (z_abs : PySem.W.nsIn K mainGlobals "abs" = some none) (z_int : PySem.W.nsIn K mainGlobals "int" = some none) (R_TooLarge : Rai1 K "TooLarge" "TooLarge.__init__" "limit" s_TooLarge) (R_Absent : Rai1 K "Absent" "Absent.__init__" "person" s_Absent) (R_BadCount : Rai1 K "BadCount" "BadCount.__init__" "index" s_BadCount) (R_BadDemand : Rai1 K "BadDemand" "BadDemand.__init__" "index" s_BadDemand) (R_BadHistory : Rai1 K "BadHistory" "BadHistory.__init__" "index" s_BadHistory) (R_BadText : Rai1 K "BadText" "BadText.__init__" "index" s_BadText) (R_BadTimes : Rai1 K "BadTimes" "BadTimes.__init__" "value" s_BadTimes) (R_BadWord : Rai1 K "BadWord" "BadWord.__init__" "error" s_BadWord) (R_NoGroup : Rai1 K "NoGroup" "NoGroup.__init__" "value" s_NoGroup) (R_NoIndex : Rai1 K "NoIndex" "NoIndex.__init__" "index" s_NoIndex) (R_NoPerson : Rai1 K "NoPerson" "NoPerson.__init__" "value" s_NoPerson) (R_NoVersion : Rai1 K "NoVersion" "NoVersion.__init__" "version" s_NoVersion) (R_Rejected : Rai1 K "Rejected" "Rejected.__init__" "index" s_Rejected) (R_BadBatch : Rai0 K "BadBatch") (R_Busy : Rai0 K "Busy") (R_Empty : Rai0 K "Empty") (R_Impossible : Rai0 K "Impossible") (R_NoHistory : Rai0 K "NoHistory") (R_NoOrder : Rai0 K "NoOrder") (R_NothingToUndo : Rai0 K "NothingToUndo") (R_TooManyEdits : Rai0 K "TooManyEdits") (Q_BadBatch : TstK K "BadBatch") (Q_Busy : TstK K "Busy") (Q_Empty : TstK K "Empty") (Q_Impossible : TstK K "Impossible") (Q_NoHistory : TstK K "NoHistory") (Q_NoOrder : TstK K "NoOrder") (Q_NothingToUndo : TstK K "NothingToUndo") (Q_TooManyEdits : TstK K "TooManyEdits") (Q_Absent : TstK K "Absent") (Q_BadCount : TstK K "BadCount") (Q_BadDemand : TstK K "BadDemand") (Q_BadHistory : TstK K "BadHistory") (Q_BadText : TstK K "BadText") (Q_BadTimes : TstK K "BadTimes") (Q_BadWord : TstK K "BadWord") (Q_NoGroup : TstK K "NoGroup") (Q_NoIndex : TstK K "NoIndex") (Q_NoPerson : TstK K "NoPerson") (Q_NoVersion : TstK K "NoVersion") (Q_Rejected : TstK K "Rejected") (Q_TooLarge : TstK K "TooLarge") (Q_LineError : TstK K "LineError") (S_TooLarge_BadBatch : SubK K "TooLarge" "BadBatch") (S_TooLarge_Busy : SubK K "TooLarge" "Busy") (S_TooLarge_Empty : SubK K "TooLarge" "Empty") (S_TooLarge_Impossible : SubK K "TooLarge" "Impossible") (S_TooLarge_NoHistory : SubK K "TooLarge" "NoHistory") (S_TooLarge_NoOrder : SubK K "TooLarge" "NoOrder") (S_TooLarge_NothingToUndo : SubK K "TooLarge" "NothingToUndo") (S_TooLarge_TooManyEdits : SubK K "TooLarge" "TooManyEdits") (S_TooLarge_Absent : SubK K "TooLarge" "Absent") (S_TooLarge_BadCount : SubK K "TooLarge" "BadCount") (S_TooLarge_BadDemand : SubK K "TooLarge" "BadDemand") (S_TooLarge_BadHistory : SubK K "TooLarge" "BadHistory") (S_TooLarge_BadText : SubK K "TooLarge" "BadText") (S_TooLarge_BadTimes : SubK K "TooLarge" "BadTimes") (S_TooLarge_BadWord : SubK K "TooLarge" "BadWord") (S_TooLarge_NoGroup : SubK K "TooLarge" "NoGroup") (S_TooLarge_NoIndex : SubK K "TooLarge" "NoIndex") (S_TooLarge_NoPerson : SubK K "TooLarge" "NoPerson") (S_TooLarge_NoVersion : SubK K "TooLarge" "NoVersion") (S_TooLarge_Rejected : SubK K "TooLarge" "Rejected") (S_TooLarge_TooLarge : SubK K "TooLarge" "TooLarge") (S_TooLarge_LineError : SubK K "TooLarge" "LineError") (S_Absent_BadBatch : SubK K "Absent" "BadBatch") (S_Absent_Busy : SubK K "Absent" "Busy") (S_Absent_Empty : SubK K "Absent" "Empty") (S_Absent_Impossible : SubK K "Absent" "Impossible") (S_Absent_NoHistory : SubK K "Absent" "NoHistory") (S_Absent_NoOrder : SubK K "Absent" "NoOrder") (S_Absent_NothingToUndo : SubK K "Absent" "NothingToUndo") (S_Absent_TooManyEdits : SubK K "Absent" "TooManyEdits") (S_Absent_Absent : SubK K "Absent" "Absent") (S_Absent_BadCount : SubK K "Absent" "BadCount") (S_Absent_BadDemand : SubK K "Absent" "BadDemand") (S_Absent_BadHistory : SubK K "Absent" "BadHistory") (S_Absent_BadText : SubK K "Absent" "BadText") (S_Absent_BadTimes : SubK K "Absent" "BadTimes") (S_Absent_BadWord : SubK K "Absent" "BadWord") (S_Absent_NoGroup : SubK K "Absent" "NoGroup") (S_Absent_NoIndex : SubK K "Absent" "NoIndex") (S_Absent_NoPerson : SubK K "Absent" "NoPerson") (S_Absent_NoVersion : SubK K "Absent" "NoVersion") (S_Absent_Rejected : SubK K "Absent" "Rejected") (S_Absent_TooLarge : SubK K "Absent" "TooLarge") (S_Absent_LineError : SubK K "Absent" "LineError") (S_BadCount_BadBatch : SubK K "BadCount" "BadBatch") (S_BadCount_Busy : SubK K "BadCount" "Busy") (S_BadCount_Empty : SubK K "BadCount" "Empty") (S_BadCount_Impossible : SubK K "BadCount" "Impossible") (S_BadCount_NoHistory : SubK K "BadCount" "NoHistory") (S_BadCount_NoOrder : SubK K "BadCount" "NoOrder") (S_BadCount_NothingToUndo : SubK K "BadCount" "NothingToUndo") (S_BadCount_TooManyEdits : SubK K "BadCount" "TooManyEdits") (S_BadCount_Absent : SubK K "BadCount" "Absent") (S_BadCount_BadCount : SubK K "BadCount" "BadCount") (S_BadCount_BadDemand : SubK K "BadCount" "BadDemand") (S_BadCount_BadHistory : SubK K "BadCount" "BadHistory") (S_BadCount_BadText : SubK K "BadCount" "BadText") (S_BadCount_BadTimes : SubK K "BadCount" "BadTimes") (S_BadCount_BadWord : SubK K "BadCount" "BadWord") (S_BadCount_NoGroup : SubK K "BadCount" "NoGroup") (S_BadCount_NoIndex : SubK K "BadCount" "NoIndex") (S_BadCount_NoPerson : SubK K "BadCount" "NoPerson") (S_BadCount_NoVersion : SubK K "BadCount" "NoVersion") (S_BadCount_Rejected : SubK K "BadCount" "Rejected") (S_BadCount_TooLarge : SubK K "BadCount" "TooLarge") (S_BadCount_LineError : SubK K "BadCount" "LineError") (S_BadDemand_BadBatch : SubK K "BadDemand" "BadBatch") (S_BadDemand_Busy : SubK K "BadDemand" "Busy") (S_BadDemand_Empty : SubK K "BadDemand" "Empty") (S_BadDemand_Impossible : SubK K "BadDemand" "Impossible") (S_BadDemand_NoHistory : SubK K "BadDemand" "NoHistory") (S_BadDemand_NoOrder : SubK K "BadDemand" "NoOrder") (S_BadDemand_NothingToUndo : SubK K "BadDemand" "NothingToUndo") (S_BadDemand_TooManyEdits : SubK K "BadDemand" "TooManyEdits") (S_BadDemand_Absent : SubK K "BadDemand" "Absent") (S_BadDemand_BadCount : SubK K "BadDemand" "BadCount") (S_BadDemand_BadDemand : SubK K "BadDemand" "BadDemand") (S_BadDemand_BadHistory : SubK K "BadDemand" "BadHistory") (S_BadDemand_BadText : SubK K "BadDemand" "BadText") (S_BadDemand_BadTimes : SubK K "BadDemand" "BadTimes") (S_BadDemand_BadWord : SubK K "BadDemand" "BadWord") (S_BadDemand_NoGroup : SubK K "BadDemand" "NoGroup") (S_BadDemand_NoIndex : SubK K "BadDemand" "NoIndex") (S_BadDemand_NoPerson : SubK K "BadDemand" "NoPerson") (S_BadDemand_NoVersion : SubK K "BadDemand" "NoVersion") (S_BadDemand_Rejected : SubK K "BadDemand" "Rejected") (S_BadDemand_TooLarge : SubK K "BadDemand" "TooLarge") (S_BadDemand_LineError : SubK K "BadDemand" "LineError") (S_BadHistory_BadBatch : SubK K "BadHistory" "BadBatch") (S_BadHistory_Busy : SubK K "BadHistory" "Busy") (S_BadHistory_Empty : SubK K "BadHistory" "Empty") (S_BadHistory_Impossible : SubK K "BadHistory" "Impossible") (S_BadHistory_NoHistory : SubK K "BadHistory" "NoHistory") (S_BadHistory_NoOrder : SubK K "BadHistory" "NoOrder") (S_BadHistory_NothingToUndo : SubK K "BadHistory" "NothingToUndo") (S_BadHistory_TooManyEdits : SubK K "BadHistory" "TooManyEdits") (S_BadHistory_Absent : SubK K "BadHistory" "Absent") (S_BadHistory_BadCount : SubK K "BadHistory" "BadCount") (S_BadHistory_BadDemand : SubK K "BadHistory" "BadDemand") (S_BadHistory_BadHistory : SubK K "BadHistory" "BadHistory") (S_BadHistory_BadText : SubK K "BadHistory" "BadText") (S_BadHistory_BadTimes : SubK K "BadHistory" "BadTimes") (S_BadHistory_BadWord : SubK K "BadHistory" "BadWord") (S_BadHistory_NoGroup : SubK K "BadHistory" "NoGroup") (S_BadHistory_NoIndex : SubK K "BadHistory" "NoIndex") (S_BadHistory_NoPerson : SubK K "BadHistory" "NoPerson") (S_BadHistory_NoVersion : SubK K "BadHistory" "NoVersion") (S_BadHistory_Rejected : SubK K "BadHistory" "Rejected") (S_BadHistory_TooLarge : SubK K "BadHistory" "TooLarge") (S_BadHistory_LineError : SubK K "BadHistory" "LineError") (S_BadText_BadBatch : SubK K "BadText" "BadBatch") (S_BadText_Busy : SubK K "BadText" "Busy") (S_BadText_Empty : SubK K "BadText" "Empty") (S_BadText_Impossible : SubK K "BadText" "Impossible") (S_BadText_NoHistory : SubK K "BadText" "NoHistory") (S_BadText_NoOrder : SubK K "BadText" "NoOrder") (S_BadText_NothingToUndo : SubK K "BadText" "NothingToUndo") (S_BadText_TooManyEdits : SubK K "BadText" "TooManyEdits") (S_BadText_Absent : SubK K "BadText" "Absent") (S_BadText_BadCount : SubK K "BadText" "BadCount") (S_BadText_BadDemand : SubK K "BadText" "BadDemand") (S_BadText_BadHistory : SubK K "BadText" "BadHistory") (S_BadText_BadText : SubK K "BadText" "BadText") (S_BadText_BadTimes : SubK K "BadText" "BadTimes") (S_BadText_BadWord : SubK K "BadText" "BadWord") (S_BadText_NoGroup : SubK K "BadText" "NoGroup") (S_BadText_NoIndex : SubK K "BadText" "NoIndex") (S_BadText_NoPerson : SubK K "BadText" "NoPerson") (S_BadText_NoVersion : SubK K "BadText" "NoVersion") (S_BadText_Rejected : SubK K "BadText" "Rejected") (S_BadText_TooLarge : SubK K "BadText" "TooLarge") (S_BadText_LineError : SubK K "BadText" "LineError") (S_BadTimes_BadBatch : SubK K "BadTimes" "BadBatch") (S_BadTimes_Busy : SubK K "BadTimes" "Busy") (S_BadTimes_Empty : SubK K "BadTimes" "Empty") (S_BadTimes_Impossible : SubK K "BadTimes" "Impossible") (S_BadTimes_NoHistory : SubK K "BadTimes" "NoHistory") (S_BadTimes_NoOrder : SubK K "BadTimes" "NoOrder") (S_BadTimes_NothingToUndo : SubK K "BadTimes" "NothingToUndo") (S_BadTimes_TooManyEdits : SubK K "BadTimes" "TooManyEdits") (S_BadTimes_Absent : SubK K "BadTimes" "Absent") (S_BadTimes_BadCount : SubK K "BadTimes" "BadCount") (S_BadTimes_BadDemand : SubK K "BadTimes" "BadDemand") (S_BadTimes_BadHistory : SubK K "BadTimes" "BadHistory") (S_BadTimes_BadText : SubK K "BadTimes" "BadText") (S_BadTimes_BadTimes : SubK K "BadTimes" "BadTimes") (S_BadTimes_BadWord : SubK K "BadTimes" "BadWord") (S_BadTimes_NoGroup : SubK K "BadTimes" "NoGroup") (S_BadTimes_NoIndex : SubK K "BadTimes" "NoIndex") (S_BadTimes_NoPerson : SubK K "BadTimes" "NoPerson") (S_BadTimes_NoVersion : SubK K "BadTimes" "NoVersion") (S_BadTimes_Rejected : SubK K "BadTimes" "Rejected") (S_BadTimes_TooLarge : SubK K "BadTimes" "TooLarge") (S_BadTimes_LineError : SubK K "BadTimes" "LineError") (S_BadWord_BadBatch : SubK K "BadWord" "BadBatch") (S_BadWord_Busy : SubK K "BadWord" "Busy") (S_BadWord_Empty : SubK K "BadWord" "Empty") (S_BadWord_Impossible : SubK K "BadWord" "Impossible") (S_BadWord_NoHistory : SubK K "BadWord" "NoHistory") (S_BadWord_NoOrder : SubK K "BadWord" "NoOrder") (S_BadWord_NothingToUndo : SubK K "BadWord" "NothingToUndo") (S_BadWord_TooManyEdits : SubK K "BadWord" "TooManyEdits") (S_BadWord_Absent : SubK K "BadWord" "Absent") (S_BadWord_BadCount : SubK K "BadWord" "BadCount") (S_BadWord_BadDemand : SubK K "BadWord" "BadDemand") (S_BadWord_BadHistory : SubK K "BadWord" "BadHistory") (S_BadWord_BadText : SubK K "BadWord" "BadText") (S_BadWord_BadTimes : SubK K "BadWord" "BadTimes") (S_BadWord_BadWord : SubK K "BadWord" "BadWord") (S_BadWord_NoGroup : SubK K "BadWord" "NoGroup") (S_BadWord_NoIndex : SubK K "BadWord" "NoIndex") (S_BadWord_NoPerson : SubK K "BadWord" "NoPerson") (S_BadWord_NoVersion : SubK K "BadWord" "NoVersion") (S_BadWord_Rejected : SubK K "BadWord" "Rejected") (S_BadWord_TooLarge : SubK K "BadWord" "TooLarge") (S_BadWord_LineError : SubK K "BadWord" "LineError") (S_NoGroup_BadBatch : SubK K "NoGroup" "BadBatch") (S_NoGroup_Busy : SubK K "NoGroup" "Busy") (S_NoGroup_Empty : SubK K "NoGroup" "Empty") (S_NoGroup_Impossible : SubK K "NoGroup" "Impossible") (S_NoGroup_NoHistory : SubK K "NoGroup" "NoHistory") (S_NoGroup_NoOrder : SubK K "NoGroup" "NoOrder") (S_NoGroup_NothingToUndo : SubK K "NoGroup" "NothingToUndo") (S_NoGroup_TooManyEdits : SubK K "NoGroup" "TooManyEdits") (S_NoGroup_Absent : SubK K "NoGroup" "Absent") (S_NoGroup_BadCount : SubK K "NoGroup" "BadCount") (S_NoGroup_BadDemand : SubK K "NoGroup" "BadDemand") (S_NoGroup_BadHistory : SubK K "NoGroup" "BadHistory") (S_NoGroup_BadText : SubK K "NoGroup" "BadText") (S_NoGroup_BadTimes : SubK K "NoGroup" "BadTimes") (S_NoGroup_BadWord : SubK K "NoGroup" "BadWord") (S_NoGroup_NoGroup : SubK K "NoGroup" "NoGroup") (S_NoGroup_NoIndex : SubK K "NoGroup" "NoIndex") (S_NoGroup_NoPerson : SubK K "NoGroup" "NoPerson") (S_NoGroup_NoVersion : SubK K "NoGroup" "NoVersion") (S_NoGroup_Rejected : SubK K "NoGroup" "Rejected") (S_NoGroup_TooLarge : SubK K "NoGroup" "TooLarge") (S_NoGroup_LineError : SubK K "NoGroup" "LineError") (S_NoIndex_BadBatch : SubK K "NoIndex" "BadBatch") (S_NoIndex_Busy : SubK K "NoIndex" "Busy") (S_NoIndex_Empty : SubK K "NoIndex" "Empty") (S_NoIndex_Impossible : SubK K "NoIndex" "Impossible") (S_NoIndex_NoHistory : SubK K "NoIndex" "NoHistory") (S_NoIndex_NoOrder : SubK K "NoIndex" "NoOrder") (S_NoIndex_NothingToUndo : SubK K "NoIndex" "NothingToUndo") (S_NoIndex_TooManyEdits : SubK K "NoIndex" "TooManyEdits") (S_NoIndex_Absent : SubK K "NoIndex" "Absent") (S_NoIndex_BadCount : SubK K "NoIndex" "BadCount") (S_NoIndex_BadDemand : SubK K "NoIndex" "BadDemand") (S_NoIndex_BadHistory : SubK K "NoIndex" "BadHistory") (S_NoIndex_BadText : SubK K "NoIndex" "BadText") (S_NoIndex_BadTimes : SubK K "NoIndex" "BadTimes") (S_NoIndex_BadWord : SubK K "NoIndex" "BadWord") (S_NoIndex_NoGroup : SubK K "NoIndex" "NoGroup") (S_NoIndex_NoIndex : SubK K "NoIndex" "NoIndex") (S_NoIndex_NoPerson : SubK K "NoIndex" "NoPerson") (S_NoIndex_NoVersion : SubK K "NoIndex" "NoVersion") (S_NoIndex_Rejected : SubK K "NoIndex" "Rejected") (S_NoIndex_TooLarge : SubK K "NoIndex" "TooLarge") (S_NoIndex_LineError : SubK K "NoIndex" "LineError") (S_NoPerson_BadBatch : SubK K "NoPerson" "BadBatch") (S_NoPerson_Busy : SubK K "NoPerson" "Busy") (S_NoPerson_Empty : SubK K "NoPerson" "Empty") (S_NoPerson_Impossible : SubK K "NoPerson" "Impossible") (S_NoPerson_NoHistory : SubK K "NoPerson" "NoHistory") (S_NoPerson_NoOrder : SubK K "NoPerson" "NoOrder") (S_NoPerson_NothingToUndo : SubK K "NoPerson" "NothingToUndo") (S_NoPerson_TooManyEdits : SubK K "NoPerson" "TooManyEdits") (S_NoPerson_Absent : SubK K "NoPerson" "Absent") (S_NoPerson_BadCount : SubK K "NoPerson" "BadCount") (S_NoPerson_BadDemand : SubK K "NoPerson" "BadDemand") (S_NoPerson_BadHistory : SubK K "NoPerson" "BadHistory") (S_NoPerson_BadText : SubK K "NoPerson" "BadText") (S_NoPerson_BadTimes : SubK K "NoPerson" "BadTimes") (S_NoPerson_BadWord : SubK K "NoPerson" "BadWord") (S_NoPerson_NoGroup : SubK K "NoPerson" "NoGroup") (S_NoPerson_NoIndex : SubK K "NoPerson" "NoIndex") (S_NoPerson_NoPerson : SubK K "NoPerson" "NoPerson") (S_NoPerson_NoVersion : SubK K "NoPerson" "NoVersion") (S_NoPerson_Rejected : SubK K "NoPerson" "Rejected") (S_NoPerson_TooLarge : SubK K "NoPerson" "TooLarge") (S_NoPerson_LineError : SubK K "NoPerson" "LineError") (S_NoVersion_BadBatch : SubK K "NoVersion" "BadBatch") (S_NoVersion_Busy : SubK K "NoVersion" "Busy") (S_NoVersion_Empty : SubK K "NoVersion" "Empty") (S_NoVersion_Impossible : SubK K "NoVersion" "Impossible") (S_NoVersion_NoHistory : SubK K "NoVersion" "NoHistory") (S_NoVersion_NoOrder : SubK K "NoVersion" "NoOrder") (S_NoVersion_NothingToUndo : SubK K "NoVersion" "NothingToUndo") (S_NoVersion_TooManyEdits : SubK K "NoVersion" "TooManyEdits") (S_NoVersion_Absent : SubK K "NoVersion" "Absent") (S_NoVersion_BadCount : SubK K "NoVersion" "BadCount") (S_NoVersion_BadDemand : SubK K "NoVersion" "BadDemand") (S_NoVersion_BadHistory : SubK K "NoVersion" "BadHistory") (S_NoVersion_BadText : SubK K "NoVersion" "BadText") (S_NoVersion_BadTimes : SubK K "NoVersion" "BadTimes") (S_NoVersion_BadWord : SubK K "NoVersion" "BadWord") (S_NoVersion_NoGroup : SubK K "NoVersion" "NoGroup") (S_NoVersion_NoIndex : SubK K "NoVersion" "NoIndex") (S_NoVersion_NoPerson : SubK K "NoVersion" "NoPerson") (S_NoVersion_NoVersion : SubK K "NoVersion" "NoVersion") (S_NoVersion_Rejected : SubK K "NoVersion" "Rejected") (S_NoVersion_TooLarge : SubK K "NoVersion" "TooLarge") (S_NoVersion_LineError : SubK K "NoVersion" "LineError") (S_Rejected_BadBatch : SubK K "Rejected" "BadBatch") (S_Rejected_Busy : SubK K "Rejected" "Busy") (S_Rejected_Empty : SubK K "Rejected" "Empty") (S_Rejected_Impossible : SubK K "Rejected" "Impossible") (S_Rejected_NoHistory : SubK K "Rejected" "NoHistory") (S_Rejected_NoOrder : SubK K "Rejected" "NoOrder") (S_Rejected_NothingToUndo : SubK K "Rejected" "NothingToUndo") (S_Rejected_TooManyEdits : SubK K "Rejected" "TooManyEdits") (S_Rejected_Absent : SubK K "Rejected" "Absent") (S_Rejected_BadCount : SubK K "Rejected" "BadCount") (S_Rejected_BadDemand : SubK K "Rejected" "BadDemand") (S_Rejected_BadHistory : SubK K "Rejected" "BadHistory") (S_Rejected_BadText : SubK K "Rejected" "BadText") (S_Rejected_BadTimes : SubK K "Rejected" "BadTimes") (S_Rejected_BadWord : SubK K "Rejected" "BadWord") (S_Rejected_NoGroup : SubK K "Rejected" "NoGroup") (S_Rejected_NoIndex : SubK K "Rejected" "NoIndex") (S_Rejected_NoPerson : SubK K "Rejected" "NoPerson") (S_Rejected_NoVersion : SubK K "Rejected" "NoVersion") (S_Rejected_Rejected : SubK K "Rejected" "Rejected") (S_Rejected_TooLarge : SubK K "Rejected" "TooLarge") (S_Rejected_LineError : SubK K "Rejected" "LineError") (S_BadBatch_BadBatch : SubK K "BadBatch" "BadBatch") (S_BadBatch_Busy : SubK K "BadBatch" "Busy") (S_BadBatch_Empty : SubK K "BadBatch" "Empty") (S_BadBatch_Impossible : SubK K "BadBatch" "Impossible") (S_BadBatch_NoHistory : SubK K "BadBatch" "NoHistory") (S_BadBatch_NoOrder : SubK K "BadBatch" "NoOrder") (S_BadBatch_NothingToUndo : SubK K "BadBatch" "NothingToUndo") (S_BadBatch_TooManyEdits : SubK K "BadBatch" "TooManyEdits") (S_BadBatch_Absent : SubK K "BadBatch" "Absent") (S_BadBatch_BadCount : SubK K "BadBatch" "BadCount") (S_BadBatch_BadDemand : SubK K "BadBatch" "BadDemand") (S_BadBatch_BadHistory : SubK K "BadBatch" "BadHistory") (S_BadBatch_BadText : SubK K "BadBatch" "BadText") (S_BadBatch_BadTimes : SubK K "BadBatch" "BadTimes") (S_BadBatch_BadWord : SubK K "BadBatch" "BadWord") (S_BadBatch_NoGroup : SubK K "BadBatch" "NoGroup") (S_BadBatch_NoIndex : SubK K "BadBatch" "NoIndex") (S_BadBatch_NoPerson : SubK K "BadBatch" "NoPerson") (S_BadBatch_NoVersion : SubK K "BadBatch" "NoVersion") (S_BadBatch_Rejected : SubK K "BadBatch" "Rejected") (S_BadBatch_TooLarge : SubK K "BadBatch" "TooLarge") (S_BadBatch_LineError : SubK K "BadBatch" "LineError") (S_Busy_BadBatch : SubK K "Busy" "BadBatch") (S_Busy_Busy : SubK K "Busy" "Busy") (S_Busy_Empty : SubK K "Busy" "Empty") (S_Busy_Impossible : SubK K "Busy" "Impossible") (S_Busy_NoHistory : SubK K "Busy" "NoHistory") (S_Busy_NoOrder : SubK K "Busy" "NoOrder") (S_Busy_NothingToUndo : SubK K "Busy" "NothingToUndo") (S_Busy_TooManyEdits : SubK K "Busy" "TooManyEdits") (S_Busy_Absent : SubK K "Busy" "Absent") (S_Busy_BadCount : SubK K "Busy" "BadCount") (S_Busy_BadDemand : SubK K "Busy" "BadDemand") (S_Busy_BadHistory : SubK K "Busy" "BadHistory") (S_Busy_BadText : SubK K "Busy" "BadText") (S_Busy_BadTimes : SubK K "Busy" "BadTimes") (S_Busy_BadWord : SubK K "Busy" "BadWord") (S_Busy_NoGroup : SubK K "Busy" "NoGroup") (S_Busy_NoIndex : SubK K "Busy" "NoIndex") (S_Busy_NoPerson : SubK K "Busy" "NoPerson") (S_Busy_NoVersion : SubK K "Busy" "NoVersion") (S_Busy_Rejected : SubK K "Busy" "Rejected") (S_Busy_TooLarge : SubK K "Busy" "TooLarge") (S_Busy_LineError : SubK K "Busy" "LineError") (S_Empty_BadBatch : SubK K "Empty" "BadBatch") (S_Empty_Busy : SubK K "Empty" "Busy") (S_Empty_Empty : SubK K "Empty" "Empty") (S_Empty_Impossible : SubK K "Empty" "Impossible") (S_Empty_NoHistory : SubK K "Empty" "NoHistory") (S_Empty_NoOrder : SubK K "Empty" "NoOrder") (S_Empty_NothingToUndo : SubK K "Empty" "NothingToUndo") (S_Empty_TooManyEdits : SubK K "Empty" "TooManyEdits") (S_Empty_Absent : SubK K "Empty" "Absent") (S_Empty_BadCount : SubK K "Empty" "BadCount") (S_Empty_BadDemand : SubK K "Empty" "BadDemand") (S_Empty_BadHistory : SubK K "Empty" "BadHistory") (S_Empty_BadText : SubK K "Empty" "BadText") (S_Empty_BadTimes : SubK K "Empty" "BadTimes") (S_Empty_BadWord : SubK K "Empty" "BadWord") (S_Empty_NoGroup : SubK K "Empty" "NoGroup") (S_Empty_NoIndex : SubK K "Empty" "NoIndex") (S_Empty_NoPerson : SubK K "Empty" "NoPerson") (S_Empty_NoVersion : SubK K "Empty" "NoVersion") (S_Empty_Rejected : SubK K "Empty" "Rejected") (S_Empty_TooLarge : SubK K "Empty" "TooLarge") (S_Empty_LineError : SubK K "Empty" "LineError") (S_Impossible_BadBatch : SubK K "Impossible" "BadBatch") (S_Impossible_Busy : SubK K "Impossible" "Busy") (S_Impossible_Empty : SubK K "Impossible" "Empty") (S_Impossible_Impossible : SubK K "Impossible" "Impossible") (S_Impossible_NoHistory : SubK K "Impossible" "NoHistory") (S_Impossible_NoOrder : SubK K "Impossible" "NoOrder") (S_Impossible_NothingToUndo : SubK K "Impossible" "NothingToUndo") (S_Impossible_TooManyEdits : SubK K "Impossible" "TooManyEdits") (S_Impossible_Absent : SubK K "Impossible" "Absent") (S_Impossible_BadCount : SubK K "Impossible" "BadCount") (S_Impossible_BadDemand : SubK K "Impossible" "BadDemand") (S_Impossible_BadHistory : SubK K "Impossible" "BadHistory") (S_Impossible_BadText : SubK K "Impossible" "BadText") (S_Impossible_BadTimes : SubK K "Impossible" "BadTimes") (S_Impossible_BadWord : SubK K "Impossible" "BadWord") (S_Impossible_NoGroup : SubK K "Impossible" "NoGroup") (S_Impossible_NoIndex : SubK K "Impossible" "NoIndex") (S_Impossible_NoPerson : SubK K "Impossible" "NoPerson") (S_Impossible_NoVersion : SubK K "Impossible" "NoVersion") (S_Impossible_Rejected : SubK K "Impossible" "Rejected") (S_Impossible_TooLarge : SubK K "Impossible" "TooLarge") (S_Impossible_LineError : SubK K "Impossible" "LineError") (S_NoHistory_BadBatch : SubK K "NoHistory" "BadBatch") (S_NoHistory_Busy : SubK K "NoHistory" "Busy") (S_NoHistory_Empty : SubK K "NoHistory" "Empty") (S_NoHistory_Impossible : SubK K "NoHistory" "Impossible") (S_NoHistory_NoHistory : SubK K "NoHistory" "NoHistory") (S_NoHistory_NoOrder : SubK K "NoHistory" "NoOrder") (S_NoHistory_NothingToUndo : SubK K "NoHistory" "NothingToUndo") (S_NoHistory_TooManyEdits : SubK K "NoHistory" "TooManyEdits") (S_NoHistory_Absent : SubK K "NoHistory" "Absent") (S_NoHistory_BadCount : SubK K "NoHistory" "BadCount") (S_NoHistory_BadDemand : SubK K "NoHistory" "BadDemand") (S_NoHistory_BadHistory : SubK K "NoHistory" "BadHistory") (S_NoHistory_BadText : SubK K "NoHistory" "BadText") (S_NoHistory_BadTimes : SubK K "NoHistory" "BadTimes") (S_NoHistory_BadWord : SubK K "NoHistory" "BadWord") (S_NoHistory_NoGroup : SubK K "NoHistory" "NoGroup") (S_NoHistory_NoIndex : SubK K "NoHistory" "NoIndex") (S_NoHistory_NoPerson : SubK K "NoHistory" "NoPerson") (S_NoHistory_NoVersion : SubK K "NoHistory" "NoVersion") (S_NoHistory_Rejected : SubK K "NoHistory" "Rejected") (S_NoHistory_TooLarge : SubK K "NoHistory" "TooLarge") (S_NoHistory_LineError : SubK K "NoHistory" "LineError") (S_NoOrder_BadBatch : SubK K "NoOrder" "BadBatch") (S_NoOrder_Busy : SubK K "NoOrder" "Busy") (S_NoOrder_Empty : SubK K "NoOrder" "Empty") (S_NoOrder_Impossible : SubK K "NoOrder" "Impossible") (S_NoOrder_NoHistory : SubK K "NoOrder" "NoHistory") (S_NoOrder_NoOrder : SubK K "NoOrder" "NoOrder") (S_NoOrder_NothingToUndo : SubK K "NoOrder" "NothingToUndo") (S_NoOrder_TooManyEdits : SubK K "NoOrder" "TooManyEdits") (S_NoOrder_Absent : SubK K "NoOrder" "Absent") (S_NoOrder_BadCount : SubK K "NoOrder" "BadCount") (S_NoOrder_BadDemand : SubK K "NoOrder" "BadDemand") (S_NoOrder_BadHistory : SubK K "NoOrder" "BadHistory") (S_NoOrder_BadText : SubK K "NoOrder" "BadText") (S_NoOrder_BadTimes : SubK K "NoOrder" "BadTimes") (S_NoOrder_BadWord : SubK K "NoOrder" "BadWord") (S_NoOrder_NoGroup : SubK K "NoOrder" "NoGroup") (S_NoOrder_NoIndex : SubK K "NoOrder" "NoIndex") (S_NoOrder_NoPerson : SubK K "NoOrder" "NoPerson") (S_NoOrder_NoVersion : SubK K "NoOrder" "NoVersion") (S_NoOrder_Rejected : SubK K "NoOrder" "Rejected") (S_NoOrder_TooLarge : SubK K "NoOrder" "TooLarge") (S_NoOrder_LineError : SubK K "NoOrder" "LineError") (S_NothingToUndo_BadBatch : SubK K "NothingToUndo" "BadBatch") (S_NothingToUndo_Busy : SubK K "NothingToUndo" "Busy") (S_NothingToUndo_Empty : SubK K "NothingToUndo" "Empty") (S_NothingToUndo_Impossible : SubK K "NothingToUndo" "Impossible") (S_NothingToUndo_NoHistory : SubK K "NothingToUndo" "NoHistory") (S_NothingToUndo_NoOrder : SubK K "NothingToUndo" "NoOrder") (S_NothingToUndo_NothingToUndo : SubK K "NothingToUndo" "NothingToUndo") (S_NothingToUndo_TooManyEdits : SubK K "NothingToUndo" "TooManyEdits") (S_NothingToUndo_Absent : SubK K "NothingToUndo" "Absent") (S_NothingToUndo_BadCount : SubK K "NothingToUndo" "BadCount") (S_NothingToUndo_BadDemand : SubK K "NothingToUndo" "BadDemand") (S_NothingToUndo_BadHistory : SubK K "NothingToUndo" "BadHistory") (S_NothingToUndo_BadText : SubK K "NothingToUndo" "BadText") (S_NothingToUndo_BadTimes : SubK K "NothingToUndo" "BadTimes") (S_NothingToUndo_BadWord : SubK K "NothingToUndo" "BadWord") (S_NothingToUndo_NoGroup : SubK K "NothingToUndo" "NoGroup") (S_NothingToUndo_NoIndex : SubK K "NothingToUndo" "NoIndex") (S_NothingToUndo_NoPerson : SubK K "NothingToUndo" "NoPerson") (S_NothingToUndo_NoVersion : SubK K "NothingToUndo" "NoVersion") (S_NothingToUndo_Rejected : SubK K "NothingToUndo" "Rejected") (S_NothingToUndo_TooLarge : SubK K "NothingToUndo" "TooLarge") (S_NothingToUndo_LineError : SubK K "NothingToUndo" "LineError") (S_TooManyEdits_BadBatch : SubK K "TooManyEdits" "BadBatch") (S_TooManyEdits_Busy : SubK K "TooManyEdits" "Busy") (S_TooManyEdits_Empty : SubK K "TooManyEdits" "Empty") (S_TooManyEdits_Impossible : SubK K "TooManyEdits" "Impossible") (S_TooManyEdits_NoHistory : SubK K "TooManyEdits" "NoHistory") (S_TooManyEdits_NoOrder : SubK K "TooManyEdits" "NoOrder") (S_TooManyEdits_NothingToUndo : SubK K "TooManyEdits" "NothingToUndo") (S_TooManyEdits_TooManyEdits : SubK K "TooManyEdits" "TooManyEdits") (S_TooManyEdits_Absent : SubK K "TooManyEdits" "Absent") (S_TooManyEdits_BadCount : SubK K "TooManyEdits" "BadCount") (S_TooManyEdits_BadDemand : SubK K "TooManyEdits" "BadDemand") (S_TooManyEdits_BadHistory : SubK K "TooManyEdits" "BadHistory") (S_TooManyEdits_BadText : SubK K "TooManyEdits" "BadText") (S_TooManyEdits_BadTimes : SubK K "TooManyEdits" "BadTimes") (S_TooManyEdits_BadWord : SubK K "TooManyEdits" "BadWord") (S_TooManyEdits_NoGroup : SubK K "TooManyEdits" "NoGroup") (S_TooManyEdits_NoIndex : SubK K "TooManyEdits" "NoIndex") (S_TooManyEdits_NoPerson : SubK K "TooManyEdits" "NoPerson") (S_TooManyEdits_NoVersion : SubK K "TooManyEdits" "NoVersion") (S_TooManyEdits_Rejected : SubK K "TooManyEdits" "Rejected") (S_TooManyEdits_TooLarge : SubK K "TooManyEdits" "TooLarge") (S_TooManyEdits_LineError : SubK K "TooManyEdits" "LineError") :
    ∃ fd : FuncData, (∀ (s : Shared) (v : Value), BindsTo s fd ⟨[v], []⟩ [("_law_script", v)]) ∧ ∀ base : Heap, K.In base → base.Ns mainGlobals mg → FnG l.prog w K mg base 4 fa fd ["_law_script"] (spLaw K) := by
  obtain ⟨f38, oc, kV, doc, pm, cdv, ct, od, an, osl, a, ql, qc, qp⟩ := d38.ex
  have e := hfa.symm.trans (PySem.W.mg_of X G a)
  cases e
  have y_isinstance := PySem.W.mg_none_of X G z_isinstance
  have y_range := PySem.W.mg_none_of X G z_range
  have y_enumerate := PySem.W.mg_none_of X G z_enumerate
  have y_ValueError := PySem.W.mg_none_of X G z_ValueError
  have y_repr := PySem.W.mg_none_of X G z_repr
  have y_len := PySem.W.mg_none_of X G z_len
  have y_abs := PySem.W.mg_none_of X G z_abs
  have y_int := PySem.W.mg_none_of X G z_int
  have c0 := PySem.W.mg_of X G m0
  have c1 := PySem.W.mg_of X G m1
  have c2 := PySem.W.mg_of X G m2
  have c3 := PySem.W.mg_of X G m3
  have c4 := PySem.W.mg_of X G m4
  have c5 := PySem.W.mg_of X G m5
  obtain ⟨f30, v30, F30, g30, p30, e30⟩ := d30.use X G
  have B30 := F30.binds (ps := ["_law_script"]) fun _ _ _ _ _ _ us hl => match us, hl with | [_], _ => rfl
  obtain ⟨f37, v37, F37, g37, p37, e37⟩ := d37.use X G
  have B37 := F37.binds (ps := ["_law_values"]) fun _ _ _ _ _ _ us hl => match us, hl with | [_], _ => rfl
  obtain ⟨f31, v31, F31, g31, p31, e31⟩ := d31.use X G
  have B31 := F31.binds (ps := ["_law_bag", "_law_many"]) fun _ _ _ _ _ _ us hl => match us, hl with | [_, _], _ => rfl
  obtain ⟨f32, v32, F32, g32, p32, e32⟩ := d32.use X G
  have B32 := F32.binds (ps := ["_law_bag", "_law_items"]) fun _ _ _ _ _ _ us hl => match us, hl with | [_, _], _ => rfl
  obtain ⟨f33, v33, F33, g33, p33, e33⟩ := d33.use X G
  have B33 := F33.binds (ps := ["_law_bag"]) fun _ _ _ _ _ _ us hl => match us, hl with | [_], _ => rfl
  obtain ⟨f34, v34, F34, g34, p34, e34⟩ := d34.use X G
  have B34 := F34.binds (ps := ["_law_error"]) fun _ _ _ _ _ _ us hl => match us, hl with | [_], _ => rfl
  obtain ⟨f35, v35, F35, g35, p35, e35⟩ := d35.use X G
  have B35 := F35.binds (ps := ["_law_error"]) fun _ _ _ _ _ _ us hl => match us, hl with | [_], _ => rfl
  obtain ⟨f36, v36, F36, g36, p36, e36⟩ := d36.use X G
  have B36 := F36.binds (ps := ["_law_errors", "_law_others"]) fun _ _ _ _ _ _ us hl => match us, hl with | [_, _], _ => rfl
  obtain ⟨C_TooLarge, R_TooLarge⟩ := R_TooLarge.ex
  obtain ⟨C_Absent, R_Absent⟩ := R_Absent.ex
  obtain ⟨C_BadCount, R_BadCount⟩ := R_BadCount.ex
  obtain ⟨C_BadDemand, R_BadDemand⟩ := R_BadDemand.ex
  obtain ⟨C_BadHistory, R_BadHistory⟩ := R_BadHistory.ex
  obtain ⟨C_BadText, R_BadText⟩ := R_BadText.ex
  obtain ⟨C_BadTimes, R_BadTimes⟩ := R_BadTimes.ex
  obtain ⟨C_BadWord, R_BadWord⟩ := R_BadWord.ex
  obtain ⟨C_NoGroup, R_NoGroup⟩ := R_NoGroup.ex
  obtain ⟨C_NoIndex, R_NoIndex⟩ := R_NoIndex.ex
  obtain ⟨C_NoPerson, R_NoPerson⟩ := R_NoPerson.ex
  obtain ⟨C_NoVersion, R_NoVersion⟩ := R_NoVersion.ex
  obtain ⟨C_Rejected, R_Rejected⟩ := R_Rejected.ex
  obtain ⟨C_BadBatch, R_BadBatch⟩ := R_BadBatch.ex
  obtain ⟨C_Busy, R_Busy⟩ := R_Busy.ex
  obtain ⟨C_Empty, R_Empty⟩ := R_Empty.ex
  obtain ⟨C_Impossible, R_Impossible⟩ := R_Impossible.ex
  obtain ⟨C_NoHistory, R_NoHistory⟩ := R_NoHistory.ex
  obtain ⟨C_NoOrder, R_NoOrder⟩ := R_NoOrder.ex
  obtain ⟨C_NothingToUndo, R_NothingToUndo⟩ := R_NothingToUndo.ex
  obtain ⟨C_TooManyEdits, R_TooManyEdits⟩ := R_TooManyEdits.ex
  have k_TooLarge : (clsOf [("TooLarge", C_TooLarge), ("Absent", C_Absent), ("BadCount", C_BadCount), ("BadDemand", C_BadDemand), ("BadHistory", C_BadHistory), ("BadText", C_BadText), ("BadTimes", C_BadTimes), ("BadWord", C_BadWord), ("NoGroup", C_NoGroup), ("NoIndex", C_NoIndex), ("NoPerson", C_NoPerson), ("NoVersion", C_NoVersion), ("Rejected", C_Rejected), ("BadBatch", C_BadBatch), ("Busy", C_Busy), ("Empty", C_Empty), ("Impossible", C_Impossible), ("NoHistory", C_NoHistory), ("NoOrder", C_NoOrder), ("NothingToUndo", C_NothingToUndo), ("TooManyEdits", C_TooManyEdits)] fa) "TooLarge" = C_TooLarge := clsOf_hd
  have k_Absent : (clsOf [("TooLarge", C_TooLarge), ("Absent", C_Absent), ("BadCount", C_BadCount), ("BadDemand", C_BadDemand), ("BadHistory", C_BadHistory), ("BadText", C_BadText), ("BadTimes", C_BadTimes), ("BadWord", C_BadWord), ("NoGroup", C_NoGroup), ("NoIndex", C_NoIndex), ("NoPerson", C_NoPerson), ("NoVersion", C_NoVersion), ("Rejected", C_Rejected), ("BadBatch", C_BadBatch), ("Busy", C_Busy), ("Empty", C_Empty), ("Impossible", C_Impossible), ("NoHistory", C_NoHistory), ("NoOrder", C_NoOrder), ("NothingToUndo", C_NothingToUndo), ("TooManyEdits", C_TooManyEdits)] fa) "Absent" = C_Absent := (clsOf_tl (by decide +kernel)).trans (clsOf_hd)
  have k_BadCount : (clsOf [("TooLarge", C_TooLarge), ("Absent", C_Absent), ("BadCount", C_BadCount), ("BadDemand", C_BadDemand), ("BadHistory", C_BadHistory), ("BadText", C_BadText), ("BadTimes", C_BadTimes), ("BadWord", C_BadWord), ("NoGroup", C_NoGroup), ("NoIndex", C_NoIndex), ("NoPerson", C_NoPerson), ("NoVersion", C_NoVersion), ("Rejected", C_Rejected), ("BadBatch", C_BadBatch), ("Busy", C_Busy), ("Empty", C_Empty), ("Impossible", C_Impossible), ("NoHistory", C_NoHistory), ("NoOrder", C_NoOrder), ("NothingToUndo", C_NothingToUndo), ("TooManyEdits", C_TooManyEdits)] fa) "BadCount" = C_BadCount := (clsOf_tl (by decide +kernel)).trans ((clsOf_tl (by decide +kernel)).trans (clsOf_hd))
  have k_BadDemand : (clsOf [("TooLarge", C_TooLarge), ("Absent", C_Absent), ("BadCount", C_BadCount), ("BadDemand", C_BadDemand), ("BadHistory", C_BadHistory), ("BadText", C_BadText), ("BadTimes", C_BadTimes), ("BadWord", C_BadWord), ("NoGroup", C_NoGroup), ("NoIndex", C_NoIndex), ("NoPerson", C_NoPerson), ("NoVersion", C_NoVersion), ("Rejected", C_Rejected), ("BadBatch", C_BadBatch), ("Busy", C_Busy), ("Empty", C_Empty), ("Impossible", C_Impossible), ("NoHistory", C_NoHistory), ("NoOrder", C_NoOrder), ("NothingToUndo", C_NothingToUndo), ("TooManyEdits", C_TooManyEdits)] fa) "BadDemand" = C_BadDemand := (clsOf_tl (by decide +kernel)).trans ((clsOf_tl (by decide +kernel)).trans ((clsOf_tl (by decide +kernel)).trans (clsOf_hd)))
  have k_BadHistory : (clsOf [("TooLarge", C_TooLarge), ("Absent", C_Absent), ("BadCount", C_BadCount), ("BadDemand", C_BadDemand), ("BadHistory", C_BadHistory), ("BadText", C_BadText), ("BadTimes", C_BadTimes), ("BadWord", C_BadWord), ("NoGroup", C_NoGroup), ("NoIndex", C_NoIndex), ("NoPerson", C_NoPerson), ("NoVersion", C_NoVersion), ("Rejected", C_Rejected), ("BadBatch", C_BadBatch), ("Busy", C_Busy), ("Empty", C_Empty), ("Impossible", C_Impossible), ("NoHistory", C_NoHistory), ("NoOrder", C_NoOrder), ("NothingToUndo", C_NothingToUndo), ("TooManyEdits", C_TooManyEdits)] fa) "BadHistory" = C_BadHistory := (clsOf_tl (by decide +kernel)).trans ((clsOf_tl (by decide +kernel)).trans ((clsOf_tl (by decide +kernel)).trans ((clsOf_tl (by decide +kernel)).trans (clsOf_hd))))
  have k_BadText : (clsOf [("TooLarge", C_TooLarge), ("Absent", C_Absent), ("BadCount", C_BadCount), ("BadDemand", C_BadDemand), ("BadHistory", C_BadHistory), ("BadText", C_BadText), ("BadTimes", C_BadTimes), ("BadWord", C_BadWord), ("NoGroup", C_NoGroup), ("NoIndex", C_NoIndex), ("NoPerson", C_NoPerson), ("NoVersion", C_NoVersion), ("Rejected", C_Rejected), ("BadBatch", C_BadBatch), ("Busy", C_Busy), ("Empty", C_Empty), ("Impossible", C_Impossible), ("NoHistory", C_NoHistory), ("NoOrder", C_NoOrder), ("NothingToUndo", C_NothingToUndo), ("TooManyEdits", C_TooManyEdits)] fa) "BadText" = C_BadText := (clsOf_tl (by decide +kernel)).trans ((clsOf_tl (by decide +kernel)).trans ((clsOf_tl (by decide +kernel)).trans ((clsOf_tl (by decide +kernel)).trans ((clsOf_tl (by decide +kernel)).trans (clsOf_hd)))))
  have k_BadTimes : (clsOf [("TooLarge", C_TooLarge), ("Absent", C_Absent), ("BadCount", C_BadCount), ("BadDemand", C_BadDemand), ("BadHistory", C_BadHistory), ("BadText", C_BadText), ("BadTimes", C_BadTimes), ("BadWord", C_BadWord), ("NoGroup", C_NoGroup), ("NoIndex", C_NoIndex), ("NoPerson", C_NoPerson), ("NoVersion", C_NoVersion), ("Rejected", C_Rejected), ("BadBatch", C_BadBatch), ("Busy", C_Busy), ("Empty", C_Empty), ("Impossible", C_Impossible), ("NoHistory", C_NoHistory), ("NoOrder", C_NoOrder), ("NothingToUndo", C_NothingToUndo), ("TooManyEdits", C_TooManyEdits)] fa) "BadTimes" = C_BadTimes := (clsOf_tl (by decide +kernel)).trans ((clsOf_tl (by decide +kernel)).trans ((clsOf_tl (by decide +kernel)).trans ((clsOf_tl (by decide +kernel)).trans ((clsOf_tl (by decide +kernel)).trans ((clsOf_tl (by decide +kernel)).trans (clsOf_hd))))))
  have k_BadWord : (clsOf [("TooLarge", C_TooLarge), ("Absent", C_Absent), ("BadCount", C_BadCount), ("BadDemand", C_BadDemand), ("BadHistory", C_BadHistory), ("BadText", C_BadText), ("BadTimes", C_BadTimes), ("BadWord", C_BadWord), ("NoGroup", C_NoGroup), ("NoIndex", C_NoIndex), ("NoPerson", C_NoPerson), ("NoVersion", C_NoVersion), ("Rejected", C_Rejected), ("BadBatch", C_BadBatch), ("Busy", C_Busy), ("Empty", C_Empty), ("Impossible", C_Impossible), ("NoHistory", C_NoHistory), ("NoOrder", C_NoOrder), ("NothingToUndo", C_NothingToUndo), ("TooManyEdits", C_TooManyEdits)] fa) "BadWord" = C_BadWord := (clsOf_tl (by decide +kernel)).trans ((clsOf_tl (by decide +kernel)).trans ((clsOf_tl (by decide +kernel)).trans ((clsOf_tl (by decide +kernel)).trans ((clsOf_tl (by decide +kernel)).trans ((clsOf_tl (by decide +kernel)).trans ((clsOf_tl (by decide +kernel)).trans (clsOf_hd)))))))
  have k_NoGroup : (clsOf [("TooLarge", C_TooLarge), ("Absent", C_Absent), ("BadCount", C_BadCount), ("BadDemand", C_BadDemand), ("BadHistory", C_BadHistory), ("BadText", C_BadText), ("BadTimes", C_BadTimes), ("BadWord", C_BadWord), ("NoGroup", C_NoGroup), ("NoIndex", C_NoIndex), ("NoPerson", C_NoPerson), ("NoVersion", C_NoVersion), ("Rejected", C_Rejected), ("BadBatch", C_BadBatch), ("Busy", C_Busy), ("Empty", C_Empty), ("Impossible", C_Impossible), ("NoHistory", C_NoHistory), ("NoOrder", C_NoOrder), ("NothingToUndo", C_NothingToUndo), ("TooManyEdits", C_TooManyEdits)] fa) "NoGroup" = C_NoGroup := (clsOf_tl (by decide +kernel)).trans ((clsOf_tl (by decide +kernel)).trans ((clsOf_tl (by decide +kernel)).trans ((clsOf_tl (by decide +kernel)).trans ((clsOf_tl (by decide +kernel)).trans ((clsOf_tl (by decide +kernel)).trans ((clsOf_tl (by decide +kernel)).trans ((clsOf_tl (by decide +kernel)).trans (clsOf_hd))))))))
  have k_NoIndex : (clsOf [("TooLarge", C_TooLarge), ("Absent", C_Absent), ("BadCount", C_BadCount), ("BadDemand", C_BadDemand), ("BadHistory", C_BadHistory), ("BadText", C_BadText), ("BadTimes", C_BadTimes), ("BadWord", C_BadWord), ("NoGroup", C_NoGroup), ("NoIndex", C_NoIndex), ("NoPerson", C_NoPerson), ("NoVersion", C_NoVersion), ("Rejected", C_Rejected), ("BadBatch", C_BadBatch), ("Busy", C_Busy), ("Empty", C_Empty), ("Impossible", C_Impossible), ("NoHistory", C_NoHistory), ("NoOrder", C_NoOrder), ("NothingToUndo", C_NothingToUndo), ("TooManyEdits", C_TooManyEdits)] fa) "NoIndex" = C_NoIndex := (clsOf_tl (by decide +kernel)).trans ((clsOf_tl (by decide +kernel)).trans ((clsOf_tl (by decide +kernel)).trans ((clsOf_tl (by decide +kernel)).trans ((clsOf_tl (by decide +kernel)).trans ((clsOf_tl (by decide +kernel)).trans ((clsOf_tl (by decide +kernel)).trans ((clsOf_tl (by decide +kernel)).trans ((clsOf_tl (by decide +kernel)).trans (clsOf_hd)))))))))
  have k_NoPerson : (clsOf [("TooLarge", C_TooLarge), ("Absent", C_Absent), ("BadCount", C_BadCount), ("BadDemand", C_BadDemand), ("BadHistory", C_BadHistory), ("BadText", C_BadText), ("BadTimes", C_BadTimes), ("BadWord", C_BadWord), ("NoGroup", C_NoGroup), ("NoIndex", C_NoIndex), ("NoPerson", C_NoPerson), ("NoVersion", C_NoVersion), ("Rejected", C_Rejected), ("BadBatch", C_BadBatch), ("Busy", C_Busy), ("Empty", C_Empty), ("Impossible", C_Impossible), ("NoHistory", C_NoHistory), ("NoOrder", C_NoOrder), ("NothingToUndo", C_NothingToUndo), ("TooManyEdits", C_TooManyEdits)] fa) "NoPerson" = C_NoPerson := (clsOf_tl (by decide +kernel)).trans ((clsOf_tl (by decide +kernel)).trans ((clsOf_tl (by decide +kernel)).trans ((clsOf_tl (by decide +kernel)).trans ((clsOf_tl (by decide +kernel)).trans ((clsOf_tl (by decide +kernel)).trans ((clsOf_tl (by decide +kernel)).trans ((clsOf_tl (by decide +kernel)).trans ((clsOf_tl (by decide +kernel)).trans ((clsOf_tl (by decide +kernel)).trans (clsOf_hd))))))))))
  have k_NoVersion : (clsOf [("TooLarge", C_TooLarge), ("Absent", C_Absent), ("BadCount", C_BadCount), ("BadDemand", C_BadDemand), ("BadHistory", C_BadHistory), ("BadText", C_BadText), ("BadTimes", C_BadTimes), ("BadWord", C_BadWord), ("NoGroup", C_NoGroup), ("NoIndex", C_NoIndex), ("NoPerson", C_NoPerson), ("NoVersion", C_NoVersion), ("Rejected", C_Rejected), ("BadBatch", C_BadBatch), ("Busy", C_Busy), ("Empty", C_Empty), ("Impossible", C_Impossible), ("NoHistory", C_NoHistory), ("NoOrder", C_NoOrder), ("NothingToUndo", C_NothingToUndo), ("TooManyEdits", C_TooManyEdits)] fa) "NoVersion" = C_NoVersion := (clsOf_tl (by decide +kernel)).trans ((clsOf_tl (by decide +kernel)).trans ((clsOf_tl (by decide +kernel)).trans ((clsOf_tl (by decide +kernel)).trans ((clsOf_tl (by decide +kernel)).trans ((clsOf_tl (by decide +kernel)).trans ((clsOf_tl (by decide +kernel)).trans ((clsOf_tl (by decide +kernel)).trans ((clsOf_tl (by decide +kernel)).trans ((clsOf_tl (by decide +kernel)).trans ((clsOf_tl (by decide +kernel)).trans (clsOf_hd)))))))))))
  have k_Rejected : (clsOf [("TooLarge", C_TooLarge), ("Absent", C_Absent), ("BadCount", C_BadCount), ("BadDemand", C_BadDemand), ("BadHistory", C_BadHistory), ("BadText", C_BadText), ("BadTimes", C_BadTimes), ("BadWord", C_BadWord), ("NoGroup", C_NoGroup), ("NoIndex", C_NoIndex), ("NoPerson", C_NoPerson), ("NoVersion", C_NoVersion), ("Rejected", C_Rejected), ("BadBatch", C_BadBatch), ("Busy", C_Busy), ("Empty", C_Empty), ("Impossible", C_Impossible), ("NoHistory", C_NoHistory), ("NoOrder", C_NoOrder), ("NothingToUndo", C_NothingToUndo), ("TooManyEdits", C_TooManyEdits)] fa) "Rejected" = C_Rejected := (clsOf_tl (by decide +kernel)).trans ((clsOf_tl (by decide +kernel)).trans ((clsOf_tl (by decide +kernel)).trans ((clsOf_tl (by decide +kernel)).trans ((clsOf_tl (by decide +kernel)).trans ((clsOf_tl (by decide +kernel)).trans ((clsOf_tl (by decide +kernel)).trans ((clsOf_tl (by decide +kernel)).trans ((clsOf_tl (by decide +kernel)).trans ((clsOf_tl (by decide +kernel)).trans ((clsOf_tl (by decide +kernel)).trans ((clsOf_tl (by decide +kernel)).trans (clsOf_hd))))))))))))
  have k_BadBatch : (clsOf [("TooLarge", C_TooLarge), ("Absent", C_Absent), ("BadCount", C_BadCount), ("BadDemand", C_BadDemand), ("BadHistory", C_BadHistory), ("BadText", C_BadText), ("BadTimes", C_BadTimes), ("BadWord", C_BadWord), ("NoGroup", C_NoGroup), ("NoIndex", C_NoIndex), ("NoPerson", C_NoPerson), ("NoVersion", C_NoVersion), ("Rejected", C_Rejected), ("BadBatch", C_BadBatch), ("Busy", C_Busy), ("Empty", C_Empty), ("Impossible", C_Impossible), ("NoHistory", C_NoHistory), ("NoOrder", C_NoOrder), ("NothingToUndo", C_NothingToUndo), ("TooManyEdits", C_TooManyEdits)] fa) "BadBatch" = C_BadBatch := (clsOf_tl (by decide +kernel)).trans ((clsOf_tl (by decide +kernel)).trans ((clsOf_tl (by decide +kernel)).trans ((clsOf_tl (by decide +kernel)).trans ((clsOf_tl (by decide +kernel)).trans ((clsOf_tl (by decide +kernel)).trans ((clsOf_tl (by decide +kernel)).trans ((clsOf_tl (by decide +kernel)).trans ((clsOf_tl (by decide +kernel)).trans ((clsOf_tl (by decide +kernel)).trans ((clsOf_tl (by decide +kernel)).trans ((clsOf_tl (by decide +kernel)).trans ((clsOf_tl (by decide +kernel)).trans (clsOf_hd)))))))))))))
  have k_Busy : (clsOf [("TooLarge", C_TooLarge), ("Absent", C_Absent), ("BadCount", C_BadCount), ("BadDemand", C_BadDemand), ("BadHistory", C_BadHistory), ("BadText", C_BadText), ("BadTimes", C_BadTimes), ("BadWord", C_BadWord), ("NoGroup", C_NoGroup), ("NoIndex", C_NoIndex), ("NoPerson", C_NoPerson), ("NoVersion", C_NoVersion), ("Rejected", C_Rejected), ("BadBatch", C_BadBatch), ("Busy", C_Busy), ("Empty", C_Empty), ("Impossible", C_Impossible), ("NoHistory", C_NoHistory), ("NoOrder", C_NoOrder), ("NothingToUndo", C_NothingToUndo), ("TooManyEdits", C_TooManyEdits)] fa) "Busy" = C_Busy := (clsOf_tl (by decide +kernel)).trans ((clsOf_tl (by decide +kernel)).trans ((clsOf_tl (by decide +kernel)).trans ((clsOf_tl (by decide +kernel)).trans ((clsOf_tl (by decide +kernel)).trans ((clsOf_tl (by decide +kernel)).trans ((clsOf_tl (by decide +kernel)).trans ((clsOf_tl (by decide +kernel)).trans ((clsOf_tl (by decide +kernel)).trans ((clsOf_tl (by decide +kernel)).trans ((clsOf_tl (by decide +kernel)).trans ((clsOf_tl (by decide +kernel)).trans ((clsOf_tl (by decide +kernel)).trans ((clsOf_tl (by decide +kernel)).trans (clsOf_hd))))))))))))))
  have k_Empty : (clsOf [("TooLarge", C_TooLarge), ("Absent", C_Absent), ("BadCount", C_BadCount), ("BadDemand", C_BadDemand), ("BadHistory", C_BadHistory), ("BadText", C_BadText), ("BadTimes", C_BadTimes), ("BadWord", C_BadWord), ("NoGroup", C_NoGroup), ("NoIndex", C_NoIndex), ("NoPerson", C_NoPerson), ("NoVersion", C_NoVersion), ("Rejected", C_Rejected), ("BadBatch", C_BadBatch), ("Busy", C_Busy), ("Empty", C_Empty), ("Impossible", C_Impossible), ("NoHistory", C_NoHistory), ("NoOrder", C_NoOrder), ("NothingToUndo", C_NothingToUndo), ("TooManyEdits", C_TooManyEdits)] fa) "Empty" = C_Empty := (clsOf_tl (by decide +kernel)).trans ((clsOf_tl (by decide +kernel)).trans ((clsOf_tl (by decide +kernel)).trans ((clsOf_tl (by decide +kernel)).trans ((clsOf_tl (by decide +kernel)).trans ((clsOf_tl (by decide +kernel)).trans ((clsOf_tl (by decide +kernel)).trans ((clsOf_tl (by decide +kernel)).trans ((clsOf_tl (by decide +kernel)).trans ((clsOf_tl (by decide +kernel)).trans ((clsOf_tl (by decide +kernel)).trans ((clsOf_tl (by decide +kernel)).trans ((clsOf_tl (by decide +kernel)).trans ((clsOf_tl (by decide +kernel)).trans ((clsOf_tl (by decide +kernel)).trans (clsOf_hd)))))))))))))))
  have k_Impossible : (clsOf [("TooLarge", C_TooLarge), ("Absent", C_Absent), ("BadCount", C_BadCount), ("BadDemand", C_BadDemand), ("BadHistory", C_BadHistory), ("BadText", C_BadText), ("BadTimes", C_BadTimes), ("BadWord", C_BadWord), ("NoGroup", C_NoGroup), ("NoIndex", C_NoIndex), ("NoPerson", C_NoPerson), ("NoVersion", C_NoVersion), ("Rejected", C_Rejected), ("BadBatch", C_BadBatch), ("Busy", C_Busy), ("Empty", C_Empty), ("Impossible", C_Impossible), ("NoHistory", C_NoHistory), ("NoOrder", C_NoOrder), ("NothingToUndo", C_NothingToUndo), ("TooManyEdits", C_TooManyEdits)] fa) "Impossible" = C_Impossible := (clsOf_tl (by decide +kernel)).trans ((clsOf_tl (by decide +kernel)).trans ((clsOf_tl (by decide +kernel)).trans ((clsOf_tl (by decide +kernel)).trans ((clsOf_tl (by decide +kernel)).trans ((clsOf_tl (by decide +kernel)).trans ((clsOf_tl (by decide +kernel)).trans ((clsOf_tl (by decide +kernel)).trans ((clsOf_tl (by decide +kernel)).trans ((clsOf_tl (by decide +kernel)).trans ((clsOf_tl (by decide +kernel)).trans ((clsOf_tl (by decide +kernel)).trans ((clsOf_tl (by decide +kernel)).trans ((clsOf_tl (by decide +kernel)).trans ((clsOf_tl (by decide +kernel)).trans ((clsOf_tl (by decide +kernel)).trans (clsOf_hd))))))))))))))))
  have k_NoHistory : (clsOf [("TooLarge", C_TooLarge), ("Absent", C_Absent), ("BadCount", C_BadCount), ("BadDemand", C_BadDemand), ("BadHistory", C_BadHistory), ("BadText", C_BadText), ("BadTimes", C_BadTimes), ("BadWord", C_BadWord), ("NoGroup", C_NoGroup), ("NoIndex", C_NoIndex), ("NoPerson", C_NoPerson), ("NoVersion", C_NoVersion), ("Rejected", C_Rejected), ("BadBatch", C_BadBatch), ("Busy", C_Busy), ("Empty", C_Empty), ("Impossible", C_Impossible), ("NoHistory", C_NoHistory), ("NoOrder", C_NoOrder), ("NothingToUndo", C_NothingToUndo), ("TooManyEdits", C_TooManyEdits)] fa) "NoHistory" = C_NoHistory := (clsOf_tl (by decide +kernel)).trans ((clsOf_tl (by decide +kernel)).trans ((clsOf_tl (by decide +kernel)).trans ((clsOf_tl (by decide +kernel)).trans ((clsOf_tl (by decide +kernel)).trans ((clsOf_tl (by decide +kernel)).trans ((clsOf_tl (by decide +kernel)).trans ((clsOf_tl (by decide +kernel)).trans ((clsOf_tl (by decide +kernel)).trans ((clsOf_tl (by decide +kernel)).trans ((clsOf_tl (by decide +kernel)).trans ((clsOf_tl (by decide +kernel)).trans ((clsOf_tl (by decide +kernel)).trans ((clsOf_tl (by decide +kernel)).trans ((clsOf_tl (by decide +kernel)).trans ((clsOf_tl (by decide +kernel)).trans ((clsOf_tl (by decide +kernel)).trans (clsOf_hd)))))))))))))))))
  have k_NoOrder : (clsOf [("TooLarge", C_TooLarge), ("Absent", C_Absent), ("BadCount", C_BadCount), ("BadDemand", C_BadDemand), ("BadHistory", C_BadHistory), ("BadText", C_BadText), ("BadTimes", C_BadTimes), ("BadWord", C_BadWord), ("NoGroup", C_NoGroup), ("NoIndex", C_NoIndex), ("NoPerson", C_NoPerson), ("NoVersion", C_NoVersion), ("Rejected", C_Rejected), ("BadBatch", C_BadBatch), ("Busy", C_Busy), ("Empty", C_Empty), ("Impossible", C_Impossible), ("NoHistory", C_NoHistory), ("NoOrder", C_NoOrder), ("NothingToUndo", C_NothingToUndo), ("TooManyEdits", C_TooManyEdits)] fa) "NoOrder" = C_NoOrder := (clsOf_tl (by decide +kernel)).trans ((clsOf_tl (by decide +kernel)).trans ((clsOf_tl (by decide +kernel)).trans ((clsOf_tl (by decide +kernel)).trans ((clsOf_tl (by decide +kernel)).trans ((clsOf_tl (by decide +kernel)).trans ((clsOf_tl (by decide +kernel)).trans ((clsOf_tl (by decide +kernel)).trans ((clsOf_tl (by decide +kernel)).trans ((clsOf_tl (by decide +kernel)).trans ((clsOf_tl (by decide +kernel)).trans ((clsOf_tl (by decide +kernel)).trans ((clsOf_tl (by decide +kernel)).trans ((clsOf_tl (by decide +kernel)).trans ((clsOf_tl (by decide +kernel)).trans ((clsOf_tl (by decide +kernel)).trans ((clsOf_tl (by decide +kernel)).trans ((clsOf_tl (by decide +kernel)).trans (clsOf_hd))))))))))))))))))
  have k_NothingToUndo : (clsOf [("TooLarge", C_TooLarge), ("Absent", C_Absent), ("BadCount", C_BadCount), ("BadDemand", C_BadDemand), ("BadHistory", C_BadHistory), ("BadText", C_BadText), ("BadTimes", C_BadTimes), ("BadWord", C_BadWord), ("NoGroup", C_NoGroup), ("NoIndex", C_NoIndex), ("NoPerson", C_NoPerson), ("NoVersion", C_NoVersion), ("Rejected", C_Rejected), ("BadBatch", C_BadBatch), ("Busy", C_Busy), ("Empty", C_Empty), ("Impossible", C_Impossible), ("NoHistory", C_NoHistory), ("NoOrder", C_NoOrder), ("NothingToUndo", C_NothingToUndo), ("TooManyEdits", C_TooManyEdits)] fa) "NothingToUndo" = C_NothingToUndo := (clsOf_tl (by decide +kernel)).trans ((clsOf_tl (by decide +kernel)).trans ((clsOf_tl (by decide +kernel)).trans ((clsOf_tl (by decide +kernel)).trans ((clsOf_tl (by decide +kernel)).trans ((clsOf_tl (by decide +kernel)).trans ((clsOf_tl (by decide +kernel)).trans ((clsOf_tl (by decide +kernel)).trans ((clsOf_tl (by decide +kernel)).trans ((clsOf_tl (by decide +kernel)).trans ((clsOf_tl (by decide +kernel)).trans ((clsOf_tl (by decide +kernel)).trans ((clsOf_tl (by decide +kernel)).trans ((clsOf_tl (by decide +kernel)).trans ((clsOf_tl (by decide +kernel)).trans ((clsOf_tl (by decide +kernel)).trans ((clsOf_tl (by decide +kernel)).trans ((clsOf_tl (by decide +kernel)).trans ((clsOf_tl (by decide +kernel)).trans (clsOf_hd)))))))))))))))))))
  have k_TooManyEdits : (clsOf [("TooLarge", C_TooLarge), ("Absent", C_Absent), ("BadCount", C_BadCount), ("BadDemand", C_BadDemand), ("BadHistory", C_BadHistory), ("BadText", C_BadText), ("BadTimes", C_BadTimes), ("BadWord", C_BadWord), ("NoGroup", C_NoGroup), ("NoIndex", C_NoIndex), ("NoPerson", C_NoPerson), ("NoVersion", C_NoVersion), ("Rejected", C_Rejected), ("BadBatch", C_BadBatch), ("Busy", C_Busy), ("Empty", C_Empty), ("Impossible", C_Impossible), ("NoHistory", C_NoHistory), ("NoOrder", C_NoOrder), ("NothingToUndo", C_NothingToUndo), ("TooManyEdits", C_TooManyEdits)] fa) "TooManyEdits" = C_TooManyEdits := (clsOf_tl (by decide +kernel)).trans ((clsOf_tl (by decide +kernel)).trans ((clsOf_tl (by decide +kernel)).trans ((clsOf_tl (by decide +kernel)).trans ((clsOf_tl (by decide +kernel)).trans ((clsOf_tl (by decide +kernel)).trans ((clsOf_tl (by decide +kernel)).trans ((clsOf_tl (by decide +kernel)).trans ((clsOf_tl (by decide +kernel)).trans ((clsOf_tl (by decide +kernel)).trans ((clsOf_tl (by decide +kernel)).trans ((clsOf_tl (by decide +kernel)).trans ((clsOf_tl (by decide +kernel)).trans ((clsOf_tl (by decide +kernel)).trans ((clsOf_tl (by decide +kernel)).trans ((clsOf_tl (by decide +kernel)).trans ((clsOf_tl (by decide +kernel)).trans ((clsOf_tl (by decide +kernel)).trans ((clsOf_tl (by decide +kernel)).trans ((clsOf_tl (by decide +kernel)).trans (clsOf_hd))))))))))))))))))))
  refine ⟨PySem.W.fnOf "law" "law" (defArgs (topS 38)) (defBody (topS 38)) (defScope (topS 38)) .none kV doc pm an cdv ct, fun s v => .of_eq rfl, fun base _ _ => ?_⟩
  have O31 : FnOk l.prog w K mg base (L2.CX l.prog w) 1 f31 v31 ["_law_bag", "_law_many"] spTake := ok_take F31 y_len
  have O30 : FnOk l.prog w K mg base (L2.CX l.prog w) 1 f30 v30 ["_law_script"] (spOpened K) := ok_opened (k := 0) F30 y_abs y_int
  refine lawV (cls := (clsOf [("TooLarge", C_TooLarge), ("Absent", C_Absent), ("BadCount", C_BadCount), ("BadDemand", C_BadDemand), ("BadHistory", C_BadHistory), ("BadText", C_BadText), ("BadTimes", C_BadTimes), ("BadWord", C_BadWord), ("NoGroup", C_NoGroup), ("NoIndex", C_NoIndex), ("NoPerson", C_NoPerson), ("NoVersion", C_NoVersion), ("Rejected", C_Rejected), ("BadBatch", C_BadBatch), ("Busy", C_Busy), ("Empty", C_Empty), ("Impossible", C_Impossible), ("NoHistory", C_NoHistory), ("NoOrder", C_NoOrder), ("NothingToUndo", C_NothingToUndo), ("TooManyEdits", C_TooManyEdits)] fa)) (i := 1) (k := 3) (t := fun r => t_law (S_law_odd r) S_law_made S_law_alone) (fun_mk (st := topS 38) ql qc qp) sc_law rfl O30 g30 p30 B30 (by omega) rfl rfl (by first | exact .inl rfl | exact .inr rfl) rfl rfl (fun r l1 l2 cdv A outer s H E hr hgd tk => ?_) l_law
  have RI_TooLarge : RaiI K ((bagB (clsOf [("TooLarge", C_TooLarge), ("Absent", C_Absent), ("BadCount", C_BadCount), ("BadDemand", C_BadDemand), ("BadHistory", C_BadHistory), ("BadText", C_BadText), ("BadTimes", C_BadTimes), ("BadWord", C_BadWord), ("NoGroup", C_NoGroup), ("NoIndex", C_NoIndex), ("NoPerson", C_NoPerson), ("NoVersion", C_NoVersion), ("Rejected", C_Rejected), ("BadBatch", C_BadBatch), ("Busy", C_Busy), ("Empty", C_Empty), ("Impossible", C_Impossible), ("NoHistory", C_NoHistory), ("NoOrder", C_NoOrder), ("NothingToUndo", C_NothingToUndo), ("TooManyEdits", C_TooManyEdits)] fa) r l1 l2).cls "TooLarge") "TooLarge" "TooLarge.__init__" "limit" s_TooLarge := by
    show RaiI K ((clsOf [("TooLarge", C_TooLarge), ("Absent", C_Absent), ("BadCount", C_BadCount), ("BadDemand", C_BadDemand), ("BadHistory", C_BadHistory), ("BadText", C_BadText), ("BadTimes", C_BadTimes), ("BadWord", C_BadWord), ("NoGroup", C_NoGroup), ("NoIndex", C_NoIndex), ("NoPerson", C_NoPerson), ("NoVersion", C_NoVersion), ("Rejected", C_Rejected), ("BadBatch", C_BadBatch), ("Busy", C_Busy), ("Empty", C_Empty), ("Impossible", C_Impossible), ("NoHistory", C_NoHistory), ("NoOrder", C_NoOrder), ("NothingToUndo", C_NothingToUndo), ("TooManyEdits", C_TooManyEdits)] fa) "TooLarge") _ _ _ _
    rw [k_TooLarge]; exact R_TooLarge
  have RB_TooLarge := RI_TooLarge.b
  obtain ⟨M_TooLarge⟩ := RI_TooLarge.mk1 (P := l.prog) (w := w) (base := base) (prm := "limit") X G (fun fa fd F => wi_TooLarge F) (fun _ _ _ _ _ _ us hl => match us, hl with | [_, _], _ => rfl)
  have RI_Absent : RaiI K ((bagB (clsOf [("TooLarge", C_TooLarge), ("Absent", C_Absent), ("BadCount", C_BadCount), ("BadDemand", C_BadDemand), ("BadHistory", C_BadHistory), ("BadText", C_BadText), ("BadTimes", C_BadTimes), ("BadWord", C_BadWord), ("NoGroup", C_NoGroup), ("NoIndex", C_NoIndex), ("NoPerson", C_NoPerson), ("NoVersion", C_NoVersion), ("Rejected", C_Rejected), ("BadBatch", C_BadBatch), ("Busy", C_Busy), ("Empty", C_Empty), ("Impossible", C_Impossible), ("NoHistory", C_NoHistory), ("NoOrder", C_NoOrder), ("NothingToUndo", C_NothingToUndo), ("TooManyEdits", C_TooManyEdits)] fa) r l1 l2).cls "Absent") "Absent" "Absent.__init__" "person" s_Absent := by
    show RaiI K ((clsOf [("TooLarge", C_TooLarge), ("Absent", C_Absent), ("BadCount", C_BadCount), ("BadDemand", C_BadDemand), ("BadHistory", C_BadHistory), ("BadText", C_BadText), ("BadTimes", C_BadTimes), ("BadWord", C_BadWord), ("NoGroup", C_NoGroup), ("NoIndex", C_NoIndex), ("NoPerson", C_NoPerson), ("NoVersion", C_NoVersion), ("Rejected", C_Rejected), ("BadBatch", C_BadBatch), ("Busy", C_Busy), ("Empty", C_Empty), ("Impossible", C_Impossible), ("NoHistory", C_NoHistory), ("NoOrder", C_NoOrder), ("NothingToUndo", C_NothingToUndo), ("TooManyEdits", C_TooManyEdits)] fa) "Absent") _ _ _ _
    rw [k_Absent]; exact R_Absent
  have RB_Absent := RI_Absent.b
  obtain ⟨M_Absent⟩ := RI_Absent.mk1 (P := l.prog) (w := w) (base := base) (prm := "person") X G (fun fa fd F => wi_Absent F) (fun _ _ _ _ _ _ us hl => match us, hl with | [_, _], _ => rfl)
  have RI_BadCount : RaiI K ((bagB (clsOf [("TooLarge", C_TooLarge), ("Absent", C_Absent), ("BadCount", C_BadCount), ("BadDemand", C_BadDemand), ("BadHistory", C_BadHistory), ("BadText", C_BadText), ("BadTimes", C_BadTimes), ("BadWord", C_BadWord), ("NoGroup", C_NoGroup), ("NoIndex", C_NoIndex), ("NoPerson", C_NoPerson), ("NoVersion", C_NoVersion), ("Rejected", C_Rejected), ("BadBatch", C_BadBatch), ("Busy", C_Busy), ("Empty", C_Empty), ("Impossible", C_Impossible), ("NoHistory", C_NoHistory), ("NoOrder", C_NoOrder), ("NothingToUndo", C_NothingToUndo), ("TooManyEdits", C_TooManyEdits)] fa) r l1 l2).cls "BadCount") "BadCount" "BadCount.__init__" "index" s_BadCount := by
    show RaiI K ((clsOf [("TooLarge", C_TooLarge), ("Absent", C_Absent), ("BadCount", C_BadCount), ("BadDemand", C_BadDemand), ("BadHistory", C_BadHistory), ("BadText", C_BadText), ("BadTimes", C_BadTimes), ("BadWord", C_BadWord), ("NoGroup", C_NoGroup), ("NoIndex", C_NoIndex), ("NoPerson", C_NoPerson), ("NoVersion", C_NoVersion), ("Rejected", C_Rejected), ("BadBatch", C_BadBatch), ("Busy", C_Busy), ("Empty", C_Empty), ("Impossible", C_Impossible), ("NoHistory", C_NoHistory), ("NoOrder", C_NoOrder), ("NothingToUndo", C_NothingToUndo), ("TooManyEdits", C_TooManyEdits)] fa) "BadCount") _ _ _ _
    rw [k_BadCount]; exact R_BadCount
  have RB_BadCount := RI_BadCount.b
  obtain ⟨M_BadCount⟩ := RI_BadCount.mk1 (P := l.prog) (w := w) (base := base) (prm := "index") X G (fun fa fd F => wi_BadCount F) (fun _ _ _ _ _ _ us hl => match us, hl with | [_, _], _ => rfl)
  have RI_BadDemand : RaiI K ((bagB (clsOf [("TooLarge", C_TooLarge), ("Absent", C_Absent), ("BadCount", C_BadCount), ("BadDemand", C_BadDemand), ("BadHistory", C_BadHistory), ("BadText", C_BadText), ("BadTimes", C_BadTimes), ("BadWord", C_BadWord), ("NoGroup", C_NoGroup), ("NoIndex", C_NoIndex), ("NoPerson", C_NoPerson), ("NoVersion", C_NoVersion), ("Rejected", C_Rejected), ("BadBatch", C_BadBatch), ("Busy", C_Busy), ("Empty", C_Empty), ("Impossible", C_Impossible), ("NoHistory", C_NoHistory), ("NoOrder", C_NoOrder), ("NothingToUndo", C_NothingToUndo), ("TooManyEdits", C_TooManyEdits)] fa) r l1 l2).cls "BadDemand") "BadDemand" "BadDemand.__init__" "index" s_BadDemand := by
    show RaiI K ((clsOf [("TooLarge", C_TooLarge), ("Absent", C_Absent), ("BadCount", C_BadCount), ("BadDemand", C_BadDemand), ("BadHistory", C_BadHistory), ("BadText", C_BadText), ("BadTimes", C_BadTimes), ("BadWord", C_BadWord), ("NoGroup", C_NoGroup), ("NoIndex", C_NoIndex), ("NoPerson", C_NoPerson), ("NoVersion", C_NoVersion), ("Rejected", C_Rejected), ("BadBatch", C_BadBatch), ("Busy", C_Busy), ("Empty", C_Empty), ("Impossible", C_Impossible), ("NoHistory", C_NoHistory), ("NoOrder", C_NoOrder), ("NothingToUndo", C_NothingToUndo), ("TooManyEdits", C_TooManyEdits)] fa) "BadDemand") _ _ _ _
    rw [k_BadDemand]; exact R_BadDemand
  have RB_BadDemand := RI_BadDemand.b
  obtain ⟨M_BadDemand⟩ := RI_BadDemand.mk1 (P := l.prog) (w := w) (base := base) (prm := "index") X G (fun fa fd F => wi_BadDemand F) (fun _ _ _ _ _ _ us hl => match us, hl with | [_, _], _ => rfl)
  have RI_BadHistory : RaiI K ((bagB (clsOf [("TooLarge", C_TooLarge), ("Absent", C_Absent), ("BadCount", C_BadCount), ("BadDemand", C_BadDemand), ("BadHistory", C_BadHistory), ("BadText", C_BadText), ("BadTimes", C_BadTimes), ("BadWord", C_BadWord), ("NoGroup", C_NoGroup), ("NoIndex", C_NoIndex), ("NoPerson", C_NoPerson), ("NoVersion", C_NoVersion), ("Rejected", C_Rejected), ("BadBatch", C_BadBatch), ("Busy", C_Busy), ("Empty", C_Empty), ("Impossible", C_Impossible), ("NoHistory", C_NoHistory), ("NoOrder", C_NoOrder), ("NothingToUndo", C_NothingToUndo), ("TooManyEdits", C_TooManyEdits)] fa) r l1 l2).cls "BadHistory") "BadHistory" "BadHistory.__init__" "index" s_BadHistory := by
    show RaiI K ((clsOf [("TooLarge", C_TooLarge), ("Absent", C_Absent), ("BadCount", C_BadCount), ("BadDemand", C_BadDemand), ("BadHistory", C_BadHistory), ("BadText", C_BadText), ("BadTimes", C_BadTimes), ("BadWord", C_BadWord), ("NoGroup", C_NoGroup), ("NoIndex", C_NoIndex), ("NoPerson", C_NoPerson), ("NoVersion", C_NoVersion), ("Rejected", C_Rejected), ("BadBatch", C_BadBatch), ("Busy", C_Busy), ("Empty", C_Empty), ("Impossible", C_Impossible), ("NoHistory", C_NoHistory), ("NoOrder", C_NoOrder), ("NothingToUndo", C_NothingToUndo), ("TooManyEdits", C_TooManyEdits)] fa) "BadHistory") _ _ _ _
    rw [k_BadHistory]; exact R_BadHistory
  have RB_BadHistory := RI_BadHistory.b
  obtain ⟨M_BadHistory⟩ := RI_BadHistory.mk1 (P := l.prog) (w := w) (base := base) (prm := "index") X G (fun fa fd F => wi_BadHistory F) (fun _ _ _ _ _ _ us hl => match us, hl with | [_, _], _ => rfl)
  have RI_BadText : RaiI K ((bagB (clsOf [("TooLarge", C_TooLarge), ("Absent", C_Absent), ("BadCount", C_BadCount), ("BadDemand", C_BadDemand), ("BadHistory", C_BadHistory), ("BadText", C_BadText), ("BadTimes", C_BadTimes), ("BadWord", C_BadWord), ("NoGroup", C_NoGroup), ("NoIndex", C_NoIndex), ("NoPerson", C_NoPerson), ("NoVersion", C_NoVersion), ("Rejected", C_Rejected), ("BadBatch", C_BadBatch), ("Busy", C_Busy), ("Empty", C_Empty), ("Impossible", C_Impossible), ("NoHistory", C_NoHistory), ("NoOrder", C_NoOrder), ("NothingToUndo", C_NothingToUndo), ("TooManyEdits", C_TooManyEdits)] fa) r l1 l2).cls "BadText") "BadText" "BadText.__init__" "index" s_BadText := by
    show RaiI K ((clsOf [("TooLarge", C_TooLarge), ("Absent", C_Absent), ("BadCount", C_BadCount), ("BadDemand", C_BadDemand), ("BadHistory", C_BadHistory), ("BadText", C_BadText), ("BadTimes", C_BadTimes), ("BadWord", C_BadWord), ("NoGroup", C_NoGroup), ("NoIndex", C_NoIndex), ("NoPerson", C_NoPerson), ("NoVersion", C_NoVersion), ("Rejected", C_Rejected), ("BadBatch", C_BadBatch), ("Busy", C_Busy), ("Empty", C_Empty), ("Impossible", C_Impossible), ("NoHistory", C_NoHistory), ("NoOrder", C_NoOrder), ("NothingToUndo", C_NothingToUndo), ("TooManyEdits", C_TooManyEdits)] fa) "BadText") _ _ _ _
    rw [k_BadText]; exact R_BadText
  have RB_BadText := RI_BadText.b
  obtain ⟨M_BadText⟩ := RI_BadText.mk1 (P := l.prog) (w := w) (base := base) (prm := "index") X G (fun fa fd F => wi_BadText F) (fun _ _ _ _ _ _ us hl => match us, hl with | [_, _], _ => rfl)
  have RI_BadTimes : RaiI K ((bagB (clsOf [("TooLarge", C_TooLarge), ("Absent", C_Absent), ("BadCount", C_BadCount), ("BadDemand", C_BadDemand), ("BadHistory", C_BadHistory), ("BadText", C_BadText), ("BadTimes", C_BadTimes), ("BadWord", C_BadWord), ("NoGroup", C_NoGroup), ("NoIndex", C_NoIndex), ("NoPerson", C_NoPerson), ("NoVersion", C_NoVersion), ("Rejected", C_Rejected), ("BadBatch", C_BadBatch), ("Busy", C_Busy), ("Empty", C_Empty), ("Impossible", C_Impossible), ("NoHistory", C_NoHistory), ("NoOrder", C_NoOrder), ("NothingToUndo", C_NothingToUndo), ("TooManyEdits", C_TooManyEdits)] fa) r l1 l2).cls "BadTimes") "BadTimes" "BadTimes.__init__" "value" s_BadTimes := by
    show RaiI K ((clsOf [("TooLarge", C_TooLarge), ("Absent", C_Absent), ("BadCount", C_BadCount), ("BadDemand", C_BadDemand), ("BadHistory", C_BadHistory), ("BadText", C_BadText), ("BadTimes", C_BadTimes), ("BadWord", C_BadWord), ("NoGroup", C_NoGroup), ("NoIndex", C_NoIndex), ("NoPerson", C_NoPerson), ("NoVersion", C_NoVersion), ("Rejected", C_Rejected), ("BadBatch", C_BadBatch), ("Busy", C_Busy), ("Empty", C_Empty), ("Impossible", C_Impossible), ("NoHistory", C_NoHistory), ("NoOrder", C_NoOrder), ("NothingToUndo", C_NothingToUndo), ("TooManyEdits", C_TooManyEdits)] fa) "BadTimes") _ _ _ _
    rw [k_BadTimes]; exact R_BadTimes
  have RB_BadTimes := RI_BadTimes.b
  obtain ⟨M_BadTimes⟩ := RI_BadTimes.mk1 (P := l.prog) (w := w) (base := base) (prm := "value") X G (fun fa fd F => wi_BadTimes F) (fun _ _ _ _ _ _ us hl => match us, hl with | [_, _], _ => rfl)
  have RI_BadWord : RaiI K ((bagB (clsOf [("TooLarge", C_TooLarge), ("Absent", C_Absent), ("BadCount", C_BadCount), ("BadDemand", C_BadDemand), ("BadHistory", C_BadHistory), ("BadText", C_BadText), ("BadTimes", C_BadTimes), ("BadWord", C_BadWord), ("NoGroup", C_NoGroup), ("NoIndex", C_NoIndex), ("NoPerson", C_NoPerson), ("NoVersion", C_NoVersion), ("Rejected", C_Rejected), ("BadBatch", C_BadBatch), ("Busy", C_Busy), ("Empty", C_Empty), ("Impossible", C_Impossible), ("NoHistory", C_NoHistory), ("NoOrder", C_NoOrder), ("NothingToUndo", C_NothingToUndo), ("TooManyEdits", C_TooManyEdits)] fa) r l1 l2).cls "BadWord") "BadWord" "BadWord.__init__" "error" s_BadWord := by
    show RaiI K ((clsOf [("TooLarge", C_TooLarge), ("Absent", C_Absent), ("BadCount", C_BadCount), ("BadDemand", C_BadDemand), ("BadHistory", C_BadHistory), ("BadText", C_BadText), ("BadTimes", C_BadTimes), ("BadWord", C_BadWord), ("NoGroup", C_NoGroup), ("NoIndex", C_NoIndex), ("NoPerson", C_NoPerson), ("NoVersion", C_NoVersion), ("Rejected", C_Rejected), ("BadBatch", C_BadBatch), ("Busy", C_Busy), ("Empty", C_Empty), ("Impossible", C_Impossible), ("NoHistory", C_NoHistory), ("NoOrder", C_NoOrder), ("NothingToUndo", C_NothingToUndo), ("TooManyEdits", C_TooManyEdits)] fa) "BadWord") _ _ _ _
    rw [k_BadWord]; exact R_BadWord
  have RB_BadWord := RI_BadWord.b
  obtain ⟨M_BadWord⟩ := RI_BadWord.mk1 (P := l.prog) (w := w) (base := base) (prm := "error") X G (fun fa fd F => wi_BadWord F) (fun _ _ _ _ _ _ us hl => match us, hl with | [_, _], _ => rfl)
  have RI_NoGroup : RaiI K ((bagB (clsOf [("TooLarge", C_TooLarge), ("Absent", C_Absent), ("BadCount", C_BadCount), ("BadDemand", C_BadDemand), ("BadHistory", C_BadHistory), ("BadText", C_BadText), ("BadTimes", C_BadTimes), ("BadWord", C_BadWord), ("NoGroup", C_NoGroup), ("NoIndex", C_NoIndex), ("NoPerson", C_NoPerson), ("NoVersion", C_NoVersion), ("Rejected", C_Rejected), ("BadBatch", C_BadBatch), ("Busy", C_Busy), ("Empty", C_Empty), ("Impossible", C_Impossible), ("NoHistory", C_NoHistory), ("NoOrder", C_NoOrder), ("NothingToUndo", C_NothingToUndo), ("TooManyEdits", C_TooManyEdits)] fa) r l1 l2).cls "NoGroup") "NoGroup" "NoGroup.__init__" "value" s_NoGroup := by
    show RaiI K ((clsOf [("TooLarge", C_TooLarge), ("Absent", C_Absent), ("BadCount", C_BadCount), ("BadDemand", C_BadDemand), ("BadHistory", C_BadHistory), ("BadText", C_BadText), ("BadTimes", C_BadTimes), ("BadWord", C_BadWord), ("NoGroup", C_NoGroup), ("NoIndex", C_NoIndex), ("NoPerson", C_NoPerson), ("NoVersion", C_NoVersion), ("Rejected", C_Rejected), ("BadBatch", C_BadBatch), ("Busy", C_Busy), ("Empty", C_Empty), ("Impossible", C_Impossible), ("NoHistory", C_NoHistory), ("NoOrder", C_NoOrder), ("NothingToUndo", C_NothingToUndo), ("TooManyEdits", C_TooManyEdits)] fa) "NoGroup") _ _ _ _
    rw [k_NoGroup]; exact R_NoGroup
  have RB_NoGroup := RI_NoGroup.b
  obtain ⟨M_NoGroup⟩ := RI_NoGroup.mk1 (P := l.prog) (w := w) (base := base) (prm := "value") X G (fun fa fd F => wi_NoGroup F) (fun _ _ _ _ _ _ us hl => match us, hl with | [_, _], _ => rfl)
  have RI_NoIndex : RaiI K ((bagB (clsOf [("TooLarge", C_TooLarge), ("Absent", C_Absent), ("BadCount", C_BadCount), ("BadDemand", C_BadDemand), ("BadHistory", C_BadHistory), ("BadText", C_BadText), ("BadTimes", C_BadTimes), ("BadWord", C_BadWord), ("NoGroup", C_NoGroup), ("NoIndex", C_NoIndex), ("NoPerson", C_NoPerson), ("NoVersion", C_NoVersion), ("Rejected", C_Rejected), ("BadBatch", C_BadBatch), ("Busy", C_Busy), ("Empty", C_Empty), ("Impossible", C_Impossible), ("NoHistory", C_NoHistory), ("NoOrder", C_NoOrder), ("NothingToUndo", C_NothingToUndo), ("TooManyEdits", C_TooManyEdits)] fa) r l1 l2).cls "NoIndex") "NoIndex" "NoIndex.__init__" "index" s_NoIndex := by
    show RaiI K ((clsOf [("TooLarge", C_TooLarge), ("Absent", C_Absent), ("BadCount", C_BadCount), ("BadDemand", C_BadDemand), ("BadHistory", C_BadHistory), ("BadText", C_BadText), ("BadTimes", C_BadTimes), ("BadWord", C_BadWord), ("NoGroup", C_NoGroup), ("NoIndex", C_NoIndex), ("NoPerson", C_NoPerson), ("NoVersion", C_NoVersion), ("Rejected", C_Rejected), ("BadBatch", C_BadBatch), ("Busy", C_Busy), ("Empty", C_Empty), ("Impossible", C_Impossible), ("NoHistory", C_NoHistory), ("NoOrder", C_NoOrder), ("NothingToUndo", C_NothingToUndo), ("TooManyEdits", C_TooManyEdits)] fa) "NoIndex") _ _ _ _
    rw [k_NoIndex]; exact R_NoIndex
  have RB_NoIndex := RI_NoIndex.b
  obtain ⟨M_NoIndex⟩ := RI_NoIndex.mk1 (P := l.prog) (w := w) (base := base) (prm := "index") X G (fun fa fd F => wi_NoIndex F) (fun _ _ _ _ _ _ us hl => match us, hl with | [_, _], _ => rfl)
  have RI_NoPerson : RaiI K ((bagB (clsOf [("TooLarge", C_TooLarge), ("Absent", C_Absent), ("BadCount", C_BadCount), ("BadDemand", C_BadDemand), ("BadHistory", C_BadHistory), ("BadText", C_BadText), ("BadTimes", C_BadTimes), ("BadWord", C_BadWord), ("NoGroup", C_NoGroup), ("NoIndex", C_NoIndex), ("NoPerson", C_NoPerson), ("NoVersion", C_NoVersion), ("Rejected", C_Rejected), ("BadBatch", C_BadBatch), ("Busy", C_Busy), ("Empty", C_Empty), ("Impossible", C_Impossible), ("NoHistory", C_NoHistory), ("NoOrder", C_NoOrder), ("NothingToUndo", C_NothingToUndo), ("TooManyEdits", C_TooManyEdits)] fa) r l1 l2).cls "NoPerson") "NoPerson" "NoPerson.__init__" "value" s_NoPerson := by
    show RaiI K ((clsOf [("TooLarge", C_TooLarge), ("Absent", C_Absent), ("BadCount", C_BadCount), ("BadDemand", C_BadDemand), ("BadHistory", C_BadHistory), ("BadText", C_BadText), ("BadTimes", C_BadTimes), ("BadWord", C_BadWord), ("NoGroup", C_NoGroup), ("NoIndex", C_NoIndex), ("NoPerson", C_NoPerson), ("NoVersion", C_NoVersion), ("Rejected", C_Rejected), ("BadBatch", C_BadBatch), ("Busy", C_Busy), ("Empty", C_Empty), ("Impossible", C_Impossible), ("NoHistory", C_NoHistory), ("NoOrder", C_NoOrder), ("NothingToUndo", C_NothingToUndo), ("TooManyEdits", C_TooManyEdits)] fa) "NoPerson") _ _ _ _
    rw [k_NoPerson]; exact R_NoPerson
  have RB_NoPerson := RI_NoPerson.b
  obtain ⟨M_NoPerson⟩ := RI_NoPerson.mk1 (P := l.prog) (w := w) (base := base) (prm := "value") X G (fun fa fd F => wi_NoPerson F) (fun _ _ _ _ _ _ us hl => match us, hl with | [_, _], _ => rfl)
  have RI_NoVersion : RaiI K ((bagB (clsOf [("TooLarge", C_TooLarge), ("Absent", C_Absent), ("BadCount", C_BadCount), ("BadDemand", C_BadDemand), ("BadHistory", C_BadHistory), ("BadText", C_BadText), ("BadTimes", C_BadTimes), ("BadWord", C_BadWord), ("NoGroup", C_NoGroup), ("NoIndex", C_NoIndex), ("NoPerson", C_NoPerson), ("NoVersion", C_NoVersion), ("Rejected", C_Rejected), ("BadBatch", C_BadBatch), ("Busy", C_Busy), ("Empty", C_Empty), ("Impossible", C_Impossible), ("NoHistory", C_NoHistory), ("NoOrder", C_NoOrder), ("NothingToUndo", C_NothingToUndo), ("TooManyEdits", C_TooManyEdits)] fa) r l1 l2).cls "NoVersion") "NoVersion" "NoVersion.__init__" "version" s_NoVersion := by
    show RaiI K ((clsOf [("TooLarge", C_TooLarge), ("Absent", C_Absent), ("BadCount", C_BadCount), ("BadDemand", C_BadDemand), ("BadHistory", C_BadHistory), ("BadText", C_BadText), ("BadTimes", C_BadTimes), ("BadWord", C_BadWord), ("NoGroup", C_NoGroup), ("NoIndex", C_NoIndex), ("NoPerson", C_NoPerson), ("NoVersion", C_NoVersion), ("Rejected", C_Rejected), ("BadBatch", C_BadBatch), ("Busy", C_Busy), ("Empty", C_Empty), ("Impossible", C_Impossible), ("NoHistory", C_NoHistory), ("NoOrder", C_NoOrder), ("NothingToUndo", C_NothingToUndo), ("TooManyEdits", C_TooManyEdits)] fa) "NoVersion") _ _ _ _
    rw [k_NoVersion]; exact R_NoVersion
  have RB_NoVersion := RI_NoVersion.b
  obtain ⟨M_NoVersion⟩ := RI_NoVersion.mk1 (P := l.prog) (w := w) (base := base) (prm := "version") X G (fun fa fd F => wi_NoVersion F) (fun _ _ _ _ _ _ us hl => match us, hl with | [_, _], _ => rfl)
  have RI_Rejected : RaiI K ((bagB (clsOf [("TooLarge", C_TooLarge), ("Absent", C_Absent), ("BadCount", C_BadCount), ("BadDemand", C_BadDemand), ("BadHistory", C_BadHistory), ("BadText", C_BadText), ("BadTimes", C_BadTimes), ("BadWord", C_BadWord), ("NoGroup", C_NoGroup), ("NoIndex", C_NoIndex), ("NoPerson", C_NoPerson), ("NoVersion", C_NoVersion), ("Rejected", C_Rejected), ("BadBatch", C_BadBatch), ("Busy", C_Busy), ("Empty", C_Empty), ("Impossible", C_Impossible), ("NoHistory", C_NoHistory), ("NoOrder", C_NoOrder), ("NothingToUndo", C_NothingToUndo), ("TooManyEdits", C_TooManyEdits)] fa) r l1 l2).cls "Rejected") "Rejected" "Rejected.__init__" "index" s_Rejected := by
    show RaiI K ((clsOf [("TooLarge", C_TooLarge), ("Absent", C_Absent), ("BadCount", C_BadCount), ("BadDemand", C_BadDemand), ("BadHistory", C_BadHistory), ("BadText", C_BadText), ("BadTimes", C_BadTimes), ("BadWord", C_BadWord), ("NoGroup", C_NoGroup), ("NoIndex", C_NoIndex), ("NoPerson", C_NoPerson), ("NoVersion", C_NoVersion), ("Rejected", C_Rejected), ("BadBatch", C_BadBatch), ("Busy", C_Busy), ("Empty", C_Empty), ("Impossible", C_Impossible), ("NoHistory", C_NoHistory), ("NoOrder", C_NoOrder), ("NothingToUndo", C_NothingToUndo), ("TooManyEdits", C_TooManyEdits)] fa) "Rejected") _ _ _ _
    rw [k_Rejected]; exact R_Rejected
  have RB_Rejected := RI_Rejected.b
  obtain ⟨M_Rejected⟩ := RI_Rejected.mk1 (P := l.prog) (w := w) (base := base) (prm := "index") X G (fun fa fd F => wi_Rejected F) (fun _ _ _ _ _ _ us hl => match us, hl with | [_, _], _ => rfl)
  have RZ_BadBatch : RaiB K ((bagB (clsOf [("TooLarge", C_TooLarge), ("Absent", C_Absent), ("BadCount", C_BadCount), ("BadDemand", C_BadDemand), ("BadHistory", C_BadHistory), ("BadText", C_BadText), ("BadTimes", C_BadTimes), ("BadWord", C_BadWord), ("NoGroup", C_NoGroup), ("NoIndex", C_NoIndex), ("NoPerson", C_NoPerson), ("NoVersion", C_NoVersion), ("Rejected", C_Rejected), ("BadBatch", C_BadBatch), ("Busy", C_Busy), ("Empty", C_Empty), ("Impossible", C_Impossible), ("NoHistory", C_NoHistory), ("NoOrder", C_NoOrder), ("NothingToUndo", C_NothingToUndo), ("TooManyEdits", C_TooManyEdits)] fa) r l1 l2).cls "BadBatch") "BadBatch" ∧ PySem.W.excIn K ((bagB (clsOf [("TooLarge", C_TooLarge), ("Absent", C_Absent), ("BadCount", C_BadCount), ("BadDemand", C_BadDemand), ("BadHistory", C_BadHistory), ("BadText", C_BadText), ("BadTimes", C_BadTimes), ("BadWord", C_BadWord), ("NoGroup", C_NoGroup), ("NoIndex", C_NoIndex), ("NoPerson", C_NoPerson), ("NoVersion", C_NoVersion), ("Rejected", C_Rejected), ("BadBatch", C_BadBatch), ("Busy", C_Busy), ("Empty", C_Empty), ("Impossible", C_Impossible), ("NoHistory", C_NoHistory), ("NoOrder", C_NoOrder), ("NothingToUndo", C_NothingToUndo), ("TooManyEdits", C_TooManyEdits)] fa) r l1 l2).cls "BadBatch") veB "ValueError.__new__" = true := by
    show RaiB K ((clsOf [("TooLarge", C_TooLarge), ("Absent", C_Absent), ("BadCount", C_BadCount), ("BadDemand", C_BadDemand), ("BadHistory", C_BadHistory), ("BadText", C_BadText), ("BadTimes", C_BadTimes), ("BadWord", C_BadWord), ("NoGroup", C_NoGroup), ("NoIndex", C_NoIndex), ("NoPerson", C_NoPerson), ("NoVersion", C_NoVersion), ("Rejected", C_Rejected), ("BadBatch", C_BadBatch), ("Busy", C_Busy), ("Empty", C_Empty), ("Impossible", C_Impossible), ("NoHistory", C_NoHistory), ("NoOrder", C_NoOrder), ("NothingToUndo", C_NothingToUndo), ("TooManyEdits", C_TooManyEdits)] fa) "BadBatch") _ ∧ PySem.W.excIn K ((clsOf [("TooLarge", C_TooLarge), ("Absent", C_Absent), ("BadCount", C_BadCount), ("BadDemand", C_BadDemand), ("BadHistory", C_BadHistory), ("BadText", C_BadText), ("BadTimes", C_BadTimes), ("BadWord", C_BadWord), ("NoGroup", C_NoGroup), ("NoIndex", C_NoIndex), ("NoPerson", C_NoPerson), ("NoVersion", C_NoVersion), ("Rejected", C_Rejected), ("BadBatch", C_BadBatch), ("Busy", C_Busy), ("Empty", C_Empty), ("Impossible", C_Impossible), ("NoHistory", C_NoHistory), ("NoOrder", C_NoOrder), ("NothingToUndo", C_NothingToUndo), ("TooManyEdits", C_TooManyEdits)] fa) "BadBatch") _ _ = true
    rw [k_BadBatch]; exact R_BadBatch
  have RB_BadBatch := RZ_BadBatch.1
  have M_BadBatch := RB_BadBatch.mk0 RZ_BadBatch.2 X G
  have RZ_Busy : RaiB K ((bagB (clsOf [("TooLarge", C_TooLarge), ("Absent", C_Absent), ("BadCount", C_BadCount), ("BadDemand", C_BadDemand), ("BadHistory", C_BadHistory), ("BadText", C_BadText), ("BadTimes", C_BadTimes), ("BadWord", C_BadWord), ("NoGroup", C_NoGroup), ("NoIndex", C_NoIndex), ("NoPerson", C_NoPerson), ("NoVersion", C_NoVersion), ("Rejected", C_Rejected), ("BadBatch", C_BadBatch), ("Busy", C_Busy), ("Empty", C_Empty), ("Impossible", C_Impossible), ("NoHistory", C_NoHistory), ("NoOrder", C_NoOrder), ("NothingToUndo", C_NothingToUndo), ("TooManyEdits", C_TooManyEdits)] fa) r l1 l2).cls "Busy") "Busy" ∧ PySem.W.excIn K ((bagB (clsOf [("TooLarge", C_TooLarge), ("Absent", C_Absent), ("BadCount", C_BadCount), ("BadDemand", C_BadDemand), ("BadHistory", C_BadHistory), ("BadText", C_BadText), ("BadTimes", C_BadTimes), ("BadWord", C_BadWord), ("NoGroup", C_NoGroup), ("NoIndex", C_NoIndex), ("NoPerson", C_NoPerson), ("NoVersion", C_NoVersion), ("Rejected", C_Rejected), ("BadBatch", C_BadBatch), ("Busy", C_Busy), ("Empty", C_Empty), ("Impossible", C_Impossible), ("NoHistory", C_NoHistory), ("NoOrder", C_NoOrder), ("NothingToUndo", C_NothingToUndo), ("TooManyEdits", C_TooManyEdits)] fa) r l1 l2).cls "Busy") veB "ValueError.__new__" = true := by
    show RaiB K ((clsOf [("TooLarge", C_TooLarge), ("Absent", C_Absent), ("BadCount", C_BadCount), ("BadDemand", C_BadDemand), ("BadHistory", C_BadHistory), ("BadText", C_BadText), ("BadTimes", C_BadTimes), ("BadWord", C_BadWord), ("NoGroup", C_NoGroup), ("NoIndex", C_NoIndex), ("NoPerson", C_NoPerson), ("NoVersion", C_NoVersion), ("Rejected", C_Rejected), ("BadBatch", C_BadBatch), ("Busy", C_Busy), ("Empty", C_Empty), ("Impossible", C_Impossible), ("NoHistory", C_NoHistory), ("NoOrder", C_NoOrder), ("NothingToUndo", C_NothingToUndo), ("TooManyEdits", C_TooManyEdits)] fa) "Busy") _ ∧ PySem.W.excIn K ((clsOf [("TooLarge", C_TooLarge), ("Absent", C_Absent), ("BadCount", C_BadCount), ("BadDemand", C_BadDemand), ("BadHistory", C_BadHistory), ("BadText", C_BadText), ("BadTimes", C_BadTimes), ("BadWord", C_BadWord), ("NoGroup", C_NoGroup), ("NoIndex", C_NoIndex), ("NoPerson", C_NoPerson), ("NoVersion", C_NoVersion), ("Rejected", C_Rejected), ("BadBatch", C_BadBatch), ("Busy", C_Busy), ("Empty", C_Empty), ("Impossible", C_Impossible), ("NoHistory", C_NoHistory), ("NoOrder", C_NoOrder), ("NothingToUndo", C_NothingToUndo), ("TooManyEdits", C_TooManyEdits)] fa) "Busy") _ _ = true
    rw [k_Busy]; exact R_Busy
  have RB_Busy := RZ_Busy.1
  have M_Busy := RB_Busy.mk0 RZ_Busy.2 X G
  have RZ_Empty : RaiB K ((bagB (clsOf [("TooLarge", C_TooLarge), ("Absent", C_Absent), ("BadCount", C_BadCount), ("BadDemand", C_BadDemand), ("BadHistory", C_BadHistory), ("BadText", C_BadText), ("BadTimes", C_BadTimes), ("BadWord", C_BadWord), ("NoGroup", C_NoGroup), ("NoIndex", C_NoIndex), ("NoPerson", C_NoPerson), ("NoVersion", C_NoVersion), ("Rejected", C_Rejected), ("BadBatch", C_BadBatch), ("Busy", C_Busy), ("Empty", C_Empty), ("Impossible", C_Impossible), ("NoHistory", C_NoHistory), ("NoOrder", C_NoOrder), ("NothingToUndo", C_NothingToUndo), ("TooManyEdits", C_TooManyEdits)] fa) r l1 l2).cls "Empty") "Empty" ∧ PySem.W.excIn K ((bagB (clsOf [("TooLarge", C_TooLarge), ("Absent", C_Absent), ("BadCount", C_BadCount), ("BadDemand", C_BadDemand), ("BadHistory", C_BadHistory), ("BadText", C_BadText), ("BadTimes", C_BadTimes), ("BadWord", C_BadWord), ("NoGroup", C_NoGroup), ("NoIndex", C_NoIndex), ("NoPerson", C_NoPerson), ("NoVersion", C_NoVersion), ("Rejected", C_Rejected), ("BadBatch", C_BadBatch), ("Busy", C_Busy), ("Empty", C_Empty), ("Impossible", C_Impossible), ("NoHistory", C_NoHistory), ("NoOrder", C_NoOrder), ("NothingToUndo", C_NothingToUndo), ("TooManyEdits", C_TooManyEdits)] fa) r l1 l2).cls "Empty") veB "ValueError.__new__" = true := by
    show RaiB K ((clsOf [("TooLarge", C_TooLarge), ("Absent", C_Absent), ("BadCount", C_BadCount), ("BadDemand", C_BadDemand), ("BadHistory", C_BadHistory), ("BadText", C_BadText), ("BadTimes", C_BadTimes), ("BadWord", C_BadWord), ("NoGroup", C_NoGroup), ("NoIndex", C_NoIndex), ("NoPerson", C_NoPerson), ("NoVersion", C_NoVersion), ("Rejected", C_Rejected), ("BadBatch", C_BadBatch), ("Busy", C_Busy), ("Empty", C_Empty), ("Impossible", C_Impossible), ("NoHistory", C_NoHistory), ("NoOrder", C_NoOrder), ("NothingToUndo", C_NothingToUndo), ("TooManyEdits", C_TooManyEdits)] fa) "Empty") _ ∧ PySem.W.excIn K ((clsOf [("TooLarge", C_TooLarge), ("Absent", C_Absent), ("BadCount", C_BadCount), ("BadDemand", C_BadDemand), ("BadHistory", C_BadHistory), ("BadText", C_BadText), ("BadTimes", C_BadTimes), ("BadWord", C_BadWord), ("NoGroup", C_NoGroup), ("NoIndex", C_NoIndex), ("NoPerson", C_NoPerson), ("NoVersion", C_NoVersion), ("Rejected", C_Rejected), ("BadBatch", C_BadBatch), ("Busy", C_Busy), ("Empty", C_Empty), ("Impossible", C_Impossible), ("NoHistory", C_NoHistory), ("NoOrder", C_NoOrder), ("NothingToUndo", C_NothingToUndo), ("TooManyEdits", C_TooManyEdits)] fa) "Empty") _ _ = true
    rw [k_Empty]; exact R_Empty
  have RB_Empty := RZ_Empty.1
  have M_Empty := RB_Empty.mk0 RZ_Empty.2 X G
  have RZ_Impossible : RaiB K ((bagB (clsOf [("TooLarge", C_TooLarge), ("Absent", C_Absent), ("BadCount", C_BadCount), ("BadDemand", C_BadDemand), ("BadHistory", C_BadHistory), ("BadText", C_BadText), ("BadTimes", C_BadTimes), ("BadWord", C_BadWord), ("NoGroup", C_NoGroup), ("NoIndex", C_NoIndex), ("NoPerson", C_NoPerson), ("NoVersion", C_NoVersion), ("Rejected", C_Rejected), ("BadBatch", C_BadBatch), ("Busy", C_Busy), ("Empty", C_Empty), ("Impossible", C_Impossible), ("NoHistory", C_NoHistory), ("NoOrder", C_NoOrder), ("NothingToUndo", C_NothingToUndo), ("TooManyEdits", C_TooManyEdits)] fa) r l1 l2).cls "Impossible") "Impossible" ∧ PySem.W.excIn K ((bagB (clsOf [("TooLarge", C_TooLarge), ("Absent", C_Absent), ("BadCount", C_BadCount), ("BadDemand", C_BadDemand), ("BadHistory", C_BadHistory), ("BadText", C_BadText), ("BadTimes", C_BadTimes), ("BadWord", C_BadWord), ("NoGroup", C_NoGroup), ("NoIndex", C_NoIndex), ("NoPerson", C_NoPerson), ("NoVersion", C_NoVersion), ("Rejected", C_Rejected), ("BadBatch", C_BadBatch), ("Busy", C_Busy), ("Empty", C_Empty), ("Impossible", C_Impossible), ("NoHistory", C_NoHistory), ("NoOrder", C_NoOrder), ("NothingToUndo", C_NothingToUndo), ("TooManyEdits", C_TooManyEdits)] fa) r l1 l2).cls "Impossible") veB "ValueError.__new__" = true := by
    show RaiB K ((clsOf [("TooLarge", C_TooLarge), ("Absent", C_Absent), ("BadCount", C_BadCount), ("BadDemand", C_BadDemand), ("BadHistory", C_BadHistory), ("BadText", C_BadText), ("BadTimes", C_BadTimes), ("BadWord", C_BadWord), ("NoGroup", C_NoGroup), ("NoIndex", C_NoIndex), ("NoPerson", C_NoPerson), ("NoVersion", C_NoVersion), ("Rejected", C_Rejected), ("BadBatch", C_BadBatch), ("Busy", C_Busy), ("Empty", C_Empty), ("Impossible", C_Impossible), ("NoHistory", C_NoHistory), ("NoOrder", C_NoOrder), ("NothingToUndo", C_NothingToUndo), ("TooManyEdits", C_TooManyEdits)] fa) "Impossible") _ ∧ PySem.W.excIn K ((clsOf [("TooLarge", C_TooLarge), ("Absent", C_Absent), ("BadCount", C_BadCount), ("BadDemand", C_BadDemand), ("BadHistory", C_BadHistory), ("BadText", C_BadText), ("BadTimes", C_BadTimes), ("BadWord", C_BadWord), ("NoGroup", C_NoGroup), ("NoIndex", C_NoIndex), ("NoPerson", C_NoPerson), ("NoVersion", C_NoVersion), ("Rejected", C_Rejected), ("BadBatch", C_BadBatch), ("Busy", C_Busy), ("Empty", C_Empty), ("Impossible", C_Impossible), ("NoHistory", C_NoHistory), ("NoOrder", C_NoOrder), ("NothingToUndo", C_NothingToUndo), ("TooManyEdits", C_TooManyEdits)] fa) "Impossible") _ _ = true
    rw [k_Impossible]; exact R_Impossible
  have RB_Impossible := RZ_Impossible.1
  have M_Impossible := RB_Impossible.mk0 RZ_Impossible.2 X G
  have RZ_NoHistory : RaiB K ((bagB (clsOf [("TooLarge", C_TooLarge), ("Absent", C_Absent), ("BadCount", C_BadCount), ("BadDemand", C_BadDemand), ("BadHistory", C_BadHistory), ("BadText", C_BadText), ("BadTimes", C_BadTimes), ("BadWord", C_BadWord), ("NoGroup", C_NoGroup), ("NoIndex", C_NoIndex), ("NoPerson", C_NoPerson), ("NoVersion", C_NoVersion), ("Rejected", C_Rejected), ("BadBatch", C_BadBatch), ("Busy", C_Busy), ("Empty", C_Empty), ("Impossible", C_Impossible), ("NoHistory", C_NoHistory), ("NoOrder", C_NoOrder), ("NothingToUndo", C_NothingToUndo), ("TooManyEdits", C_TooManyEdits)] fa) r l1 l2).cls "NoHistory") "NoHistory" ∧ PySem.W.excIn K ((bagB (clsOf [("TooLarge", C_TooLarge), ("Absent", C_Absent), ("BadCount", C_BadCount), ("BadDemand", C_BadDemand), ("BadHistory", C_BadHistory), ("BadText", C_BadText), ("BadTimes", C_BadTimes), ("BadWord", C_BadWord), ("NoGroup", C_NoGroup), ("NoIndex", C_NoIndex), ("NoPerson", C_NoPerson), ("NoVersion", C_NoVersion), ("Rejected", C_Rejected), ("BadBatch", C_BadBatch), ("Busy", C_Busy), ("Empty", C_Empty), ("Impossible", C_Impossible), ("NoHistory", C_NoHistory), ("NoOrder", C_NoOrder), ("NothingToUndo", C_NothingToUndo), ("TooManyEdits", C_TooManyEdits)] fa) r l1 l2).cls "NoHistory") veB "ValueError.__new__" = true := by
    show RaiB K ((clsOf [("TooLarge", C_TooLarge), ("Absent", C_Absent), ("BadCount", C_BadCount), ("BadDemand", C_BadDemand), ("BadHistory", C_BadHistory), ("BadText", C_BadText), ("BadTimes", C_BadTimes), ("BadWord", C_BadWord), ("NoGroup", C_NoGroup), ("NoIndex", C_NoIndex), ("NoPerson", C_NoPerson), ("NoVersion", C_NoVersion), ("Rejected", C_Rejected), ("BadBatch", C_BadBatch), ("Busy", C_Busy), ("Empty", C_Empty), ("Impossible", C_Impossible), ("NoHistory", C_NoHistory), ("NoOrder", C_NoOrder), ("NothingToUndo", C_NothingToUndo), ("TooManyEdits", C_TooManyEdits)] fa) "NoHistory") _ ∧ PySem.W.excIn K ((clsOf [("TooLarge", C_TooLarge), ("Absent", C_Absent), ("BadCount", C_BadCount), ("BadDemand", C_BadDemand), ("BadHistory", C_BadHistory), ("BadText", C_BadText), ("BadTimes", C_BadTimes), ("BadWord", C_BadWord), ("NoGroup", C_NoGroup), ("NoIndex", C_NoIndex), ("NoPerson", C_NoPerson), ("NoVersion", C_NoVersion), ("Rejected", C_Rejected), ("BadBatch", C_BadBatch), ("Busy", C_Busy), ("Empty", C_Empty), ("Impossible", C_Impossible), ("NoHistory", C_NoHistory), ("NoOrder", C_NoOrder), ("NothingToUndo", C_NothingToUndo), ("TooManyEdits", C_TooManyEdits)] fa) "NoHistory") _ _ = true
    rw [k_NoHistory]; exact R_NoHistory
  have RB_NoHistory := RZ_NoHistory.1
  have M_NoHistory := RB_NoHistory.mk0 RZ_NoHistory.2 X G
  have RZ_NoOrder : RaiB K ((bagB (clsOf [("TooLarge", C_TooLarge), ("Absent", C_Absent), ("BadCount", C_BadCount), ("BadDemand", C_BadDemand), ("BadHistory", C_BadHistory), ("BadText", C_BadText), ("BadTimes", C_BadTimes), ("BadWord", C_BadWord), ("NoGroup", C_NoGroup), ("NoIndex", C_NoIndex), ("NoPerson", C_NoPerson), ("NoVersion", C_NoVersion), ("Rejected", C_Rejected), ("BadBatch", C_BadBatch), ("Busy", C_Busy), ("Empty", C_Empty), ("Impossible", C_Impossible), ("NoHistory", C_NoHistory), ("NoOrder", C_NoOrder), ("NothingToUndo", C_NothingToUndo), ("TooManyEdits", C_TooManyEdits)] fa) r l1 l2).cls "NoOrder") "NoOrder" ∧ PySem.W.excIn K ((bagB (clsOf [("TooLarge", C_TooLarge), ("Absent", C_Absent), ("BadCount", C_BadCount), ("BadDemand", C_BadDemand), ("BadHistory", C_BadHistory), ("BadText", C_BadText), ("BadTimes", C_BadTimes), ("BadWord", C_BadWord), ("NoGroup", C_NoGroup), ("NoIndex", C_NoIndex), ("NoPerson", C_NoPerson), ("NoVersion", C_NoVersion), ("Rejected", C_Rejected), ("BadBatch", C_BadBatch), ("Busy", C_Busy), ("Empty", C_Empty), ("Impossible", C_Impossible), ("NoHistory", C_NoHistory), ("NoOrder", C_NoOrder), ("NothingToUndo", C_NothingToUndo), ("TooManyEdits", C_TooManyEdits)] fa) r l1 l2).cls "NoOrder") veB "ValueError.__new__" = true := by
    show RaiB K ((clsOf [("TooLarge", C_TooLarge), ("Absent", C_Absent), ("BadCount", C_BadCount), ("BadDemand", C_BadDemand), ("BadHistory", C_BadHistory), ("BadText", C_BadText), ("BadTimes", C_BadTimes), ("BadWord", C_BadWord), ("NoGroup", C_NoGroup), ("NoIndex", C_NoIndex), ("NoPerson", C_NoPerson), ("NoVersion", C_NoVersion), ("Rejected", C_Rejected), ("BadBatch", C_BadBatch), ("Busy", C_Busy), ("Empty", C_Empty), ("Impossible", C_Impossible), ("NoHistory", C_NoHistory), ("NoOrder", C_NoOrder), ("NothingToUndo", C_NothingToUndo), ("TooManyEdits", C_TooManyEdits)] fa) "NoOrder") _ ∧ PySem.W.excIn K ((clsOf [("TooLarge", C_TooLarge), ("Absent", C_Absent), ("BadCount", C_BadCount), ("BadDemand", C_BadDemand), ("BadHistory", C_BadHistory), ("BadText", C_BadText), ("BadTimes", C_BadTimes), ("BadWord", C_BadWord), ("NoGroup", C_NoGroup), ("NoIndex", C_NoIndex), ("NoPerson", C_NoPerson), ("NoVersion", C_NoVersion), ("Rejected", C_Rejected), ("BadBatch", C_BadBatch), ("Busy", C_Busy), ("Empty", C_Empty), ("Impossible", C_Impossible), ("NoHistory", C_NoHistory), ("NoOrder", C_NoOrder), ("NothingToUndo", C_NothingToUndo), ("TooManyEdits", C_TooManyEdits)] fa) "NoOrder") _ _ = true
    rw [k_NoOrder]; exact R_NoOrder
  have RB_NoOrder := RZ_NoOrder.1
  have M_NoOrder := RB_NoOrder.mk0 RZ_NoOrder.2 X G
  have RZ_NothingToUndo : RaiB K ((bagB (clsOf [("TooLarge", C_TooLarge), ("Absent", C_Absent), ("BadCount", C_BadCount), ("BadDemand", C_BadDemand), ("BadHistory", C_BadHistory), ("BadText", C_BadText), ("BadTimes", C_BadTimes), ("BadWord", C_BadWord), ("NoGroup", C_NoGroup), ("NoIndex", C_NoIndex), ("NoPerson", C_NoPerson), ("NoVersion", C_NoVersion), ("Rejected", C_Rejected), ("BadBatch", C_BadBatch), ("Busy", C_Busy), ("Empty", C_Empty), ("Impossible", C_Impossible), ("NoHistory", C_NoHistory), ("NoOrder", C_NoOrder), ("NothingToUndo", C_NothingToUndo), ("TooManyEdits", C_TooManyEdits)] fa) r l1 l2).cls "NothingToUndo") "NothingToUndo" ∧ PySem.W.excIn K ((bagB (clsOf [("TooLarge", C_TooLarge), ("Absent", C_Absent), ("BadCount", C_BadCount), ("BadDemand", C_BadDemand), ("BadHistory", C_BadHistory), ("BadText", C_BadText), ("BadTimes", C_BadTimes), ("BadWord", C_BadWord), ("NoGroup", C_NoGroup), ("NoIndex", C_NoIndex), ("NoPerson", C_NoPerson), ("NoVersion", C_NoVersion), ("Rejected", C_Rejected), ("BadBatch", C_BadBatch), ("Busy", C_Busy), ("Empty", C_Empty), ("Impossible", C_Impossible), ("NoHistory", C_NoHistory), ("NoOrder", C_NoOrder), ("NothingToUndo", C_NothingToUndo), ("TooManyEdits", C_TooManyEdits)] fa) r l1 l2).cls "NothingToUndo") veB "ValueError.__new__" = true := by
    show RaiB K ((clsOf [("TooLarge", C_TooLarge), ("Absent", C_Absent), ("BadCount", C_BadCount), ("BadDemand", C_BadDemand), ("BadHistory", C_BadHistory), ("BadText", C_BadText), ("BadTimes", C_BadTimes), ("BadWord", C_BadWord), ("NoGroup", C_NoGroup), ("NoIndex", C_NoIndex), ("NoPerson", C_NoPerson), ("NoVersion", C_NoVersion), ("Rejected", C_Rejected), ("BadBatch", C_BadBatch), ("Busy", C_Busy), ("Empty", C_Empty), ("Impossible", C_Impossible), ("NoHistory", C_NoHistory), ("NoOrder", C_NoOrder), ("NothingToUndo", C_NothingToUndo), ("TooManyEdits", C_TooManyEdits)] fa) "NothingToUndo") _ ∧ PySem.W.excIn K ((clsOf [("TooLarge", C_TooLarge), ("Absent", C_Absent), ("BadCount", C_BadCount), ("BadDemand", C_BadDemand), ("BadHistory", C_BadHistory), ("BadText", C_BadText), ("BadTimes", C_BadTimes), ("BadWord", C_BadWord), ("NoGroup", C_NoGroup), ("NoIndex", C_NoIndex), ("NoPerson", C_NoPerson), ("NoVersion", C_NoVersion), ("Rejected", C_Rejected), ("BadBatch", C_BadBatch), ("Busy", C_Busy), ("Empty", C_Empty), ("Impossible", C_Impossible), ("NoHistory", C_NoHistory), ("NoOrder", C_NoOrder), ("NothingToUndo", C_NothingToUndo), ("TooManyEdits", C_TooManyEdits)] fa) "NothingToUndo") _ _ = true
    rw [k_NothingToUndo]; exact R_NothingToUndo
  have RB_NothingToUndo := RZ_NothingToUndo.1
  have M_NothingToUndo := RB_NothingToUndo.mk0 RZ_NothingToUndo.2 X G
  have RZ_TooManyEdits : RaiB K ((bagB (clsOf [("TooLarge", C_TooLarge), ("Absent", C_Absent), ("BadCount", C_BadCount), ("BadDemand", C_BadDemand), ("BadHistory", C_BadHistory), ("BadText", C_BadText), ("BadTimes", C_BadTimes), ("BadWord", C_BadWord), ("NoGroup", C_NoGroup), ("NoIndex", C_NoIndex), ("NoPerson", C_NoPerson), ("NoVersion", C_NoVersion), ("Rejected", C_Rejected), ("BadBatch", C_BadBatch), ("Busy", C_Busy), ("Empty", C_Empty), ("Impossible", C_Impossible), ("NoHistory", C_NoHistory), ("NoOrder", C_NoOrder), ("NothingToUndo", C_NothingToUndo), ("TooManyEdits", C_TooManyEdits)] fa) r l1 l2).cls "TooManyEdits") "TooManyEdits" ∧ PySem.W.excIn K ((bagB (clsOf [("TooLarge", C_TooLarge), ("Absent", C_Absent), ("BadCount", C_BadCount), ("BadDemand", C_BadDemand), ("BadHistory", C_BadHistory), ("BadText", C_BadText), ("BadTimes", C_BadTimes), ("BadWord", C_BadWord), ("NoGroup", C_NoGroup), ("NoIndex", C_NoIndex), ("NoPerson", C_NoPerson), ("NoVersion", C_NoVersion), ("Rejected", C_Rejected), ("BadBatch", C_BadBatch), ("Busy", C_Busy), ("Empty", C_Empty), ("Impossible", C_Impossible), ("NoHistory", C_NoHistory), ("NoOrder", C_NoOrder), ("NothingToUndo", C_NothingToUndo), ("TooManyEdits", C_TooManyEdits)] fa) r l1 l2).cls "TooManyEdits") veB "ValueError.__new__" = true := by
    show RaiB K ((clsOf [("TooLarge", C_TooLarge), ("Absent", C_Absent), ("BadCount", C_BadCount), ("BadDemand", C_BadDemand), ("BadHistory", C_BadHistory), ("BadText", C_BadText), ("BadTimes", C_BadTimes), ("BadWord", C_BadWord), ("NoGroup", C_NoGroup), ("NoIndex", C_NoIndex), ("NoPerson", C_NoPerson), ("NoVersion", C_NoVersion), ("Rejected", C_Rejected), ("BadBatch", C_BadBatch), ("Busy", C_Busy), ("Empty", C_Empty), ("Impossible", C_Impossible), ("NoHistory", C_NoHistory), ("NoOrder", C_NoOrder), ("NothingToUndo", C_NothingToUndo), ("TooManyEdits", C_TooManyEdits)] fa) "TooManyEdits") _ ∧ PySem.W.excIn K ((clsOf [("TooLarge", C_TooLarge), ("Absent", C_Absent), ("BadCount", C_BadCount), ("BadDemand", C_BadDemand), ("BadHistory", C_BadHistory), ("BadText", C_BadText), ("BadTimes", C_BadTimes), ("BadWord", C_BadWord), ("NoGroup", C_NoGroup), ("NoIndex", C_NoIndex), ("NoPerson", C_NoPerson), ("NoVersion", C_NoVersion), ("Rejected", C_Rejected), ("BadBatch", C_BadBatch), ("Busy", C_Busy), ("Empty", C_Empty), ("Impossible", C_Impossible), ("NoHistory", C_NoHistory), ("NoOrder", C_NoOrder), ("NothingToUndo", C_NothingToUndo), ("TooManyEdits", C_TooManyEdits)] fa) "TooManyEdits") _ _ = true
    rw [k_TooManyEdits]; exact R_TooManyEdits
  have RB_TooManyEdits := RZ_TooManyEdits.1
  have M_TooManyEdits := RB_TooManyEdits.mk0 RZ_TooManyEdits.2 X G
  have EB : ∀ n ∈ (["TooLarge", "Absent", "BadCount", "BadDemand", "BadHistory", "BadText", "BadTimes", "BadWord", "NoGroup", "NoIndex", "NoPerson", "NoVersion", "Rejected", "BadBatch", "Busy", "Empty", "Impossible", "NoHistory", "NoOrder", "NothingToUndo", "TooManyEdits"] : List Str), RaiB K ((bagB (clsOf [("TooLarge", C_TooLarge), ("Absent", C_Absent), ("BadCount", C_BadCount), ("BadDemand", C_BadDemand), ("BadHistory", C_BadHistory), ("BadText", C_BadText), ("BadTimes", C_BadTimes), ("BadWord", C_BadWord), ("NoGroup", C_NoGroup), ("NoIndex", C_NoIndex), ("NoPerson", C_NoPerson), ("NoVersion", C_NoVersion), ("Rejected", C_Rejected), ("BadBatch", C_BadBatch), ("Busy", C_Busy), ("Empty", C_Empty), ("Impossible", C_Impossible), ("NoHistory", C_NoHistory), ("NoOrder", C_NoOrder), ("NothingToUndo", C_NothingToUndo), ("TooManyEdits", C_TooManyEdits)] fa) r l1 l2).cls n) n := fun n hn => by
    simp only [List.mem_cons, List.not_mem_nil, or_false] at hn
    rcases hn with rfl | rfl | rfl | rfl | rfl | rfl | rfl | rfl | rfl | rfl | rfl | rfl | rfl | rfl | rfl | rfl | rfl | rfl | rfl | rfl | rfl
    · exact RB_TooLarge
    · exact RB_Absent
    · exact RB_BadCount
    · exact RB_BadDemand
    · exact RB_BadHistory
    · exact RB_BadText
    · exact RB_BadTimes
    · exact RB_BadWord
    · exact RB_NoGroup
    · exact RB_NoIndex
    · exact RB_NoPerson
    · exact RB_NoVersion
    · exact RB_Rejected
    · exact RB_BadBatch
    · exact RB_Busy
    · exact RB_Empty
    · exact RB_Impossible
    · exact RB_NoHistory
    · exact RB_NoOrder
    · exact RB_NothingToUndo
    · exact RB_TooManyEdits
  have EC : ∀ n ∈ (["TooLarge", "Absent", "BadCount", "BadDemand", "BadHistory", "BadText", "BadTimes", "BadWord", "NoGroup", "NoIndex", "NoPerson", "NoVersion", "Rejected", "BadBatch", "Busy", "Empty", "Impossible", "NoHistory", "NoOrder", "NothingToUndo", "TooManyEdits"] : List Str), ErrC K ((bagB (clsOf [("TooLarge", C_TooLarge), ("Absent", C_Absent), ("BadCount", C_BadCount), ("BadDemand", C_BadDemand), ("BadHistory", C_BadHistory), ("BadText", C_BadText), ("BadTimes", C_BadTimes), ("BadWord", C_BadWord), ("NoGroup", C_NoGroup), ("NoIndex", C_NoIndex), ("NoPerson", C_NoPerson), ("NoVersion", C_NoVersion), ("Rejected", C_Rejected), ("BadBatch", C_BadBatch), ("Busy", C_Busy), ("Empty", C_Empty), ("Impossible", C_Impossible), ("NoHistory", C_NoHistory), ("NoOrder", C_NoOrder), ("NothingToUndo", C_NothingToUndo), ("TooManyEdits", C_TooManyEdits)] fa) r l1 l2).cls n) := fun n hn => (EB n hn).ec
  have EV := errV EB
  have T_BadBatch : ErrT K mg (bagB (clsOf [("TooLarge", C_TooLarge), ("Absent", C_Absent), ("BadCount", C_BadCount), ("BadDemand", C_BadDemand), ("BadHistory", C_BadHistory), ("BadText", C_BadText), ("BadTimes", C_BadTimes), ("BadWord", C_BadWord), ("NoGroup", C_NoGroup), ("NoIndex", C_NoIndex), ("NoPerson", C_NoPerson), ("NoVersion", C_NoVersion), ("Rejected", C_Rejected), ("BadBatch", C_BadBatch), ("Busy", C_Busy), ("Empty", C_Empty), ("Impossible", C_Impossible), ("NoHistory", C_NoHistory), ("NoOrder", C_NoOrder), ("NothingToUndo", C_NothingToUndo), ("TooManyEdits", C_TooManyEdits)] fa) r l1 l2) ["TooLarge", "Absent", "BadCount", "BadDemand", "BadHistory", "BadText", "BadTimes", "BadWord", "NoGroup", "NoIndex", "NoPerson", "NoVersion", "Rejected", "BadBatch", "Busy", "Empty", "Impossible", "NoHistory", "NoOrder", "NothingToUndo", "TooManyEdits"] "BadBatch" := errT X G Q_BadBatch (fun n hn => by
    simp only [List.mem_cons, List.not_mem_nil, or_false] at hn
    rcases hn with rfl | rfl | rfl | rfl | rfl | rfl | rfl | rfl | rfl | rfl | rfl | rfl | rfl | rfl | rfl | rfl | rfl | rfl | rfl | rfl | rfl
    · exact ⟨S_TooLarge_BadBatch, RB_TooLarge⟩
    · exact ⟨S_Absent_BadBatch, RB_Absent⟩
    · exact ⟨S_BadCount_BadBatch, RB_BadCount⟩
    · exact ⟨S_BadDemand_BadBatch, RB_BadDemand⟩
    · exact ⟨S_BadHistory_BadBatch, RB_BadHistory⟩
    · exact ⟨S_BadText_BadBatch, RB_BadText⟩
    · exact ⟨S_BadTimes_BadBatch, RB_BadTimes⟩
    · exact ⟨S_BadWord_BadBatch, RB_BadWord⟩
    · exact ⟨S_NoGroup_BadBatch, RB_NoGroup⟩
    · exact ⟨S_NoIndex_BadBatch, RB_NoIndex⟩
    · exact ⟨S_NoPerson_BadBatch, RB_NoPerson⟩
    · exact ⟨S_NoVersion_BadBatch, RB_NoVersion⟩
    · exact ⟨S_Rejected_BadBatch, RB_Rejected⟩
    · exact ⟨S_BadBatch_BadBatch, RB_BadBatch⟩
    · exact ⟨S_Busy_BadBatch, RB_Busy⟩
    · exact ⟨S_Empty_BadBatch, RB_Empty⟩
    · exact ⟨S_Impossible_BadBatch, RB_Impossible⟩
    · exact ⟨S_NoHistory_BadBatch, RB_NoHistory⟩
    · exact ⟨S_NoOrder_BadBatch, RB_NoOrder⟩
    · exact ⟨S_NothingToUndo_BadBatch, RB_NothingToUndo⟩
    · exact ⟨S_TooManyEdits_BadBatch, RB_TooManyEdits⟩)
  have T_Busy : ErrT K mg (bagB (clsOf [("TooLarge", C_TooLarge), ("Absent", C_Absent), ("BadCount", C_BadCount), ("BadDemand", C_BadDemand), ("BadHistory", C_BadHistory), ("BadText", C_BadText), ("BadTimes", C_BadTimes), ("BadWord", C_BadWord), ("NoGroup", C_NoGroup), ("NoIndex", C_NoIndex), ("NoPerson", C_NoPerson), ("NoVersion", C_NoVersion), ("Rejected", C_Rejected), ("BadBatch", C_BadBatch), ("Busy", C_Busy), ("Empty", C_Empty), ("Impossible", C_Impossible), ("NoHistory", C_NoHistory), ("NoOrder", C_NoOrder), ("NothingToUndo", C_NothingToUndo), ("TooManyEdits", C_TooManyEdits)] fa) r l1 l2) ["TooLarge", "Absent", "BadCount", "BadDemand", "BadHistory", "BadText", "BadTimes", "BadWord", "NoGroup", "NoIndex", "NoPerson", "NoVersion", "Rejected", "BadBatch", "Busy", "Empty", "Impossible", "NoHistory", "NoOrder", "NothingToUndo", "TooManyEdits"] "Busy" := errT X G Q_Busy (fun n hn => by
    simp only [List.mem_cons, List.not_mem_nil, or_false] at hn
    rcases hn with rfl | rfl | rfl | rfl | rfl | rfl | rfl | rfl | rfl | rfl | rfl | rfl | rfl | rfl | rfl | rfl | rfl | rfl | rfl | rfl | rfl
    · exact ⟨S_TooLarge_Busy, RB_TooLarge⟩
    · exact ⟨S_Absent_Busy, RB_Absent⟩
    · exact ⟨S_BadCount_Busy, RB_BadCount⟩
    · exact ⟨S_BadDemand_Busy, RB_BadDemand⟩
    · exact ⟨S_BadHistory_Busy, RB_BadHistory⟩
    · exact ⟨S_BadText_Busy, RB_BadText⟩
    · exact ⟨S_BadTimes_Busy, RB_BadTimes⟩
    · exact ⟨S_BadWord_Busy, RB_BadWord⟩
    · exact ⟨S_NoGroup_Busy, RB_NoGroup⟩
    · exact ⟨S_NoIndex_Busy, RB_NoIndex⟩
    · exact ⟨S_NoPerson_Busy, RB_NoPerson⟩
    · exact ⟨S_NoVersion_Busy, RB_NoVersion⟩
    · exact ⟨S_Rejected_Busy, RB_Rejected⟩
    · exact ⟨S_BadBatch_Busy, RB_BadBatch⟩
    · exact ⟨S_Busy_Busy, RB_Busy⟩
    · exact ⟨S_Empty_Busy, RB_Empty⟩
    · exact ⟨S_Impossible_Busy, RB_Impossible⟩
    · exact ⟨S_NoHistory_Busy, RB_NoHistory⟩
    · exact ⟨S_NoOrder_Busy, RB_NoOrder⟩
    · exact ⟨S_NothingToUndo_Busy, RB_NothingToUndo⟩
    · exact ⟨S_TooManyEdits_Busy, RB_TooManyEdits⟩)
  have T_Empty : ErrT K mg (bagB (clsOf [("TooLarge", C_TooLarge), ("Absent", C_Absent), ("BadCount", C_BadCount), ("BadDemand", C_BadDemand), ("BadHistory", C_BadHistory), ("BadText", C_BadText), ("BadTimes", C_BadTimes), ("BadWord", C_BadWord), ("NoGroup", C_NoGroup), ("NoIndex", C_NoIndex), ("NoPerson", C_NoPerson), ("NoVersion", C_NoVersion), ("Rejected", C_Rejected), ("BadBatch", C_BadBatch), ("Busy", C_Busy), ("Empty", C_Empty), ("Impossible", C_Impossible), ("NoHistory", C_NoHistory), ("NoOrder", C_NoOrder), ("NothingToUndo", C_NothingToUndo), ("TooManyEdits", C_TooManyEdits)] fa) r l1 l2) ["TooLarge", "Absent", "BadCount", "BadDemand", "BadHistory", "BadText", "BadTimes", "BadWord", "NoGroup", "NoIndex", "NoPerson", "NoVersion", "Rejected", "BadBatch", "Busy", "Empty", "Impossible", "NoHistory", "NoOrder", "NothingToUndo", "TooManyEdits"] "Empty" := errT X G Q_Empty (fun n hn => by
    simp only [List.mem_cons, List.not_mem_nil, or_false] at hn
    rcases hn with rfl | rfl | rfl | rfl | rfl | rfl | rfl | rfl | rfl | rfl | rfl | rfl | rfl | rfl | rfl | rfl | rfl | rfl | rfl | rfl | rfl
    · exact ⟨S_TooLarge_Empty, RB_TooLarge⟩
    · exact ⟨S_Absent_Empty, RB_Absent⟩
    · exact ⟨S_BadCount_Empty, RB_BadCount⟩
    · exact ⟨S_BadDemand_Empty, RB_BadDemand⟩
    · exact ⟨S_BadHistory_Empty, RB_BadHistory⟩
    · exact ⟨S_BadText_Empty, RB_BadText⟩
    · exact ⟨S_BadTimes_Empty, RB_BadTimes⟩
    · exact ⟨S_BadWord_Empty, RB_BadWord⟩
    · exact ⟨S_NoGroup_Empty, RB_NoGroup⟩
    · exact ⟨S_NoIndex_Empty, RB_NoIndex⟩
    · exact ⟨S_NoPerson_Empty, RB_NoPerson⟩
    · exact ⟨S_NoVersion_Empty, RB_NoVersion⟩
    · exact ⟨S_Rejected_Empty, RB_Rejected⟩
    · exact ⟨S_BadBatch_Empty, RB_BadBatch⟩
    · exact ⟨S_Busy_Empty, RB_Busy⟩
    · exact ⟨S_Empty_Empty, RB_Empty⟩
    · exact ⟨S_Impossible_Empty, RB_Impossible⟩
    · exact ⟨S_NoHistory_Empty, RB_NoHistory⟩
    · exact ⟨S_NoOrder_Empty, RB_NoOrder⟩
    · exact ⟨S_NothingToUndo_Empty, RB_NothingToUndo⟩
    · exact ⟨S_TooManyEdits_Empty, RB_TooManyEdits⟩)
  have T_Impossible : ErrT K mg (bagB (clsOf [("TooLarge", C_TooLarge), ("Absent", C_Absent), ("BadCount", C_BadCount), ("BadDemand", C_BadDemand), ("BadHistory", C_BadHistory), ("BadText", C_BadText), ("BadTimes", C_BadTimes), ("BadWord", C_BadWord), ("NoGroup", C_NoGroup), ("NoIndex", C_NoIndex), ("NoPerson", C_NoPerson), ("NoVersion", C_NoVersion), ("Rejected", C_Rejected), ("BadBatch", C_BadBatch), ("Busy", C_Busy), ("Empty", C_Empty), ("Impossible", C_Impossible), ("NoHistory", C_NoHistory), ("NoOrder", C_NoOrder), ("NothingToUndo", C_NothingToUndo), ("TooManyEdits", C_TooManyEdits)] fa) r l1 l2) ["TooLarge", "Absent", "BadCount", "BadDemand", "BadHistory", "BadText", "BadTimes", "BadWord", "NoGroup", "NoIndex", "NoPerson", "NoVersion", "Rejected", "BadBatch", "Busy", "Empty", "Impossible", "NoHistory", "NoOrder", "NothingToUndo", "TooManyEdits"] "Impossible" := errT X G Q_Impossible (fun n hn => by
    simp only [List.mem_cons, List.not_mem_nil, or_false] at hn
    rcases hn with rfl | rfl | rfl | rfl | rfl | rfl | rfl | rfl | rfl | rfl | rfl | rfl | rfl | rfl | rfl | rfl | rfl | rfl | rfl | rfl | rfl
    · exact ⟨S_TooLarge_Impossible, RB_TooLarge⟩
    · exact ⟨S_Absent_Impossible, RB_Absent⟩
    · exact ⟨S_BadCount_Impossible, RB_BadCount⟩
    · exact ⟨S_BadDemand_Impossible, RB_BadDemand⟩
    · exact ⟨S_BadHistory_Impossible, RB_BadHistory⟩
    · exact ⟨S_BadText_Impossible, RB_BadText⟩
    · exact ⟨S_BadTimes_Impossible, RB_BadTimes⟩
    · exact ⟨S_BadWord_Impossible, RB_BadWord⟩
    · exact ⟨S_NoGroup_Impossible, RB_NoGroup⟩
    · exact ⟨S_NoIndex_Impossible, RB_NoIndex⟩
    · exact ⟨S_NoPerson_Impossible, RB_NoPerson⟩
    · exact ⟨S_NoVersion_Impossible, RB_NoVersion⟩
    · exact ⟨S_Rejected_Impossible, RB_Rejected⟩
    · exact ⟨S_BadBatch_Impossible, RB_BadBatch⟩
    · exact ⟨S_Busy_Impossible, RB_Busy⟩
    · exact ⟨S_Empty_Impossible, RB_Empty⟩
    · exact ⟨S_Impossible_Impossible, RB_Impossible⟩
    · exact ⟨S_NoHistory_Impossible, RB_NoHistory⟩
    · exact ⟨S_NoOrder_Impossible, RB_NoOrder⟩
    · exact ⟨S_NothingToUndo_Impossible, RB_NothingToUndo⟩
    · exact ⟨S_TooManyEdits_Impossible, RB_TooManyEdits⟩)
  have T_NoHistory : ErrT K mg (bagB (clsOf [("TooLarge", C_TooLarge), ("Absent", C_Absent), ("BadCount", C_BadCount), ("BadDemand", C_BadDemand), ("BadHistory", C_BadHistory), ("BadText", C_BadText), ("BadTimes", C_BadTimes), ("BadWord", C_BadWord), ("NoGroup", C_NoGroup), ("NoIndex", C_NoIndex), ("NoPerson", C_NoPerson), ("NoVersion", C_NoVersion), ("Rejected", C_Rejected), ("BadBatch", C_BadBatch), ("Busy", C_Busy), ("Empty", C_Empty), ("Impossible", C_Impossible), ("NoHistory", C_NoHistory), ("NoOrder", C_NoOrder), ("NothingToUndo", C_NothingToUndo), ("TooManyEdits", C_TooManyEdits)] fa) r l1 l2) ["TooLarge", "Absent", "BadCount", "BadDemand", "BadHistory", "BadText", "BadTimes", "BadWord", "NoGroup", "NoIndex", "NoPerson", "NoVersion", "Rejected", "BadBatch", "Busy", "Empty", "Impossible", "NoHistory", "NoOrder", "NothingToUndo", "TooManyEdits"] "NoHistory" := errT X G Q_NoHistory (fun n hn => by
    simp only [List.mem_cons, List.not_mem_nil, or_false] at hn
    rcases hn with rfl | rfl | rfl | rfl | rfl | rfl | rfl | rfl | rfl | rfl | rfl | rfl | rfl | rfl | rfl | rfl | rfl | rfl | rfl | rfl | rfl
    · exact ⟨S_TooLarge_NoHistory, RB_TooLarge⟩
    · exact ⟨S_Absent_NoHistory, RB_Absent⟩
    · exact ⟨S_BadCount_NoHistory, RB_BadCount⟩
    · exact ⟨S_BadDemand_NoHistory, RB_BadDemand⟩
    · exact ⟨S_BadHistory_NoHistory, RB_BadHistory⟩
    · exact ⟨S_BadText_NoHistory, RB_BadText⟩
    · exact ⟨S_BadTimes_NoHistory, RB_BadTimes⟩
    · exact ⟨S_BadWord_NoHistory, RB_BadWord⟩
    · exact ⟨S_NoGroup_NoHistory, RB_NoGroup⟩
    · exact ⟨S_NoIndex_NoHistory, RB_NoIndex⟩
    · exact ⟨S_NoPerson_NoHistory, RB_NoPerson⟩
    · exact ⟨S_NoVersion_NoHistory, RB_NoVersion⟩
    · exact ⟨S_Rejected_NoHistory, RB_Rejected⟩
    · exact ⟨S_BadBatch_NoHistory, RB_BadBatch⟩
    · exact ⟨S_Busy_NoHistory, RB_Busy⟩
    · exact ⟨S_Empty_NoHistory, RB_Empty⟩
    · exact ⟨S_Impossible_NoHistory, RB_Impossible⟩
    · exact ⟨S_NoHistory_NoHistory, RB_NoHistory⟩
    · exact ⟨S_NoOrder_NoHistory, RB_NoOrder⟩
    · exact ⟨S_NothingToUndo_NoHistory, RB_NothingToUndo⟩
    · exact ⟨S_TooManyEdits_NoHistory, RB_TooManyEdits⟩)
  have T_NoOrder : ErrT K mg (bagB (clsOf [("TooLarge", C_TooLarge), ("Absent", C_Absent), ("BadCount", C_BadCount), ("BadDemand", C_BadDemand), ("BadHistory", C_BadHistory), ("BadText", C_BadText), ("BadTimes", C_BadTimes), ("BadWord", C_BadWord), ("NoGroup", C_NoGroup), ("NoIndex", C_NoIndex), ("NoPerson", C_NoPerson), ("NoVersion", C_NoVersion), ("Rejected", C_Rejected), ("BadBatch", C_BadBatch), ("Busy", C_Busy), ("Empty", C_Empty), ("Impossible", C_Impossible), ("NoHistory", C_NoHistory), ("NoOrder", C_NoOrder), ("NothingToUndo", C_NothingToUndo), ("TooManyEdits", C_TooManyEdits)] fa) r l1 l2) ["TooLarge", "Absent", "BadCount", "BadDemand", "BadHistory", "BadText", "BadTimes", "BadWord", "NoGroup", "NoIndex", "NoPerson", "NoVersion", "Rejected", "BadBatch", "Busy", "Empty", "Impossible", "NoHistory", "NoOrder", "NothingToUndo", "TooManyEdits"] "NoOrder" := errT X G Q_NoOrder (fun n hn => by
    simp only [List.mem_cons, List.not_mem_nil, or_false] at hn
    rcases hn with rfl | rfl | rfl | rfl | rfl | rfl | rfl | rfl | rfl | rfl | rfl | rfl | rfl | rfl | rfl | rfl | rfl | rfl | rfl | rfl | rfl
    · exact ⟨S_TooLarge_NoOrder, RB_TooLarge⟩
    · exact ⟨S_Absent_NoOrder, RB_Absent⟩
    · exact ⟨S_BadCount_NoOrder, RB_BadCount⟩
    · exact ⟨S_BadDemand_NoOrder, RB_BadDemand⟩
    · exact ⟨S_BadHistory_NoOrder, RB_BadHistory⟩
    · exact ⟨S_BadText_NoOrder, RB_BadText⟩
    · exact ⟨S_BadTimes_NoOrder, RB_BadTimes⟩
    · exact ⟨S_BadWord_NoOrder, RB_BadWord⟩
    · exact ⟨S_NoGroup_NoOrder, RB_NoGroup⟩
    · exact ⟨S_NoIndex_NoOrder, RB_NoIndex⟩
    · exact ⟨S_NoPerson_NoOrder, RB_NoPerson⟩
    · exact ⟨S_NoVersion_NoOrder, RB_NoVersion⟩
    · exact ⟨S_Rejected_NoOrder, RB_Rejected⟩
    · exact ⟨S_BadBatch_NoOrder, RB_BadBatch⟩
    · exact ⟨S_Busy_NoOrder, RB_Busy⟩
    · exact ⟨S_Empty_NoOrder, RB_Empty⟩
    · exact ⟨S_Impossible_NoOrder, RB_Impossible⟩
    · exact ⟨S_NoHistory_NoOrder, RB_NoHistory⟩
    · exact ⟨S_NoOrder_NoOrder, RB_NoOrder⟩
    · exact ⟨S_NothingToUndo_NoOrder, RB_NothingToUndo⟩
    · exact ⟨S_TooManyEdits_NoOrder, RB_TooManyEdits⟩)
  have T_NothingToUndo : ErrT K mg (bagB (clsOf [("TooLarge", C_TooLarge), ("Absent", C_Absent), ("BadCount", C_BadCount), ("BadDemand", C_BadDemand), ("BadHistory", C_BadHistory), ("BadText", C_BadText), ("BadTimes", C_BadTimes), ("BadWord", C_BadWord), ("NoGroup", C_NoGroup), ("NoIndex", C_NoIndex), ("NoPerson", C_NoPerson), ("NoVersion", C_NoVersion), ("Rejected", C_Rejected), ("BadBatch", C_BadBatch), ("Busy", C_Busy), ("Empty", C_Empty), ("Impossible", C_Impossible), ("NoHistory", C_NoHistory), ("NoOrder", C_NoOrder), ("NothingToUndo", C_NothingToUndo), ("TooManyEdits", C_TooManyEdits)] fa) r l1 l2) ["TooLarge", "Absent", "BadCount", "BadDemand", "BadHistory", "BadText", "BadTimes", "BadWord", "NoGroup", "NoIndex", "NoPerson", "NoVersion", "Rejected", "BadBatch", "Busy", "Empty", "Impossible", "NoHistory", "NoOrder", "NothingToUndo", "TooManyEdits"] "NothingToUndo" := errT X G Q_NothingToUndo (fun n hn => by
    simp only [List.mem_cons, List.not_mem_nil, or_false] at hn
    rcases hn with rfl | rfl | rfl | rfl | rfl | rfl | rfl | rfl | rfl | rfl | rfl | rfl | rfl | rfl | rfl | rfl | rfl | rfl | rfl | rfl | rfl
    · exact ⟨S_TooLarge_NothingToUndo, RB_TooLarge⟩
    · exact ⟨S_Absent_NothingToUndo, RB_Absent⟩
    · exact ⟨S_BadCount_NothingToUndo, RB_BadCount⟩
    · exact ⟨S_BadDemand_NothingToUndo, RB_BadDemand⟩
    · exact ⟨S_BadHistory_NothingToUndo, RB_BadHistory⟩
    · exact ⟨S_BadText_NothingToUndo, RB_BadText⟩
    · exact ⟨S_BadTimes_NothingToUndo, RB_BadTimes⟩
    · exact ⟨S_BadWord_NothingToUndo, RB_BadWord⟩
    · exact ⟨S_NoGroup_NothingToUndo, RB_NoGroup⟩
    · exact ⟨S_NoIndex_NothingToUndo, RB_NoIndex⟩
    · exact ⟨S_NoPerson_NothingToUndo, RB_NoPerson⟩
    · exact ⟨S_NoVersion_NothingToUndo, RB_NoVersion⟩
    · exact ⟨S_Rejected_NothingToUndo, RB_Rejected⟩
    · exact ⟨S_BadBatch_NothingToUndo, RB_BadBatch⟩
    · exact ⟨S_Busy_NothingToUndo, RB_Busy⟩
    · exact ⟨S_Empty_NothingToUndo, RB_Empty⟩
    · exact ⟨S_Impossible_NothingToUndo, RB_Impossible⟩
    · exact ⟨S_NoHistory_NothingToUndo, RB_NoHistory⟩
    · exact ⟨S_NoOrder_NothingToUndo, RB_NoOrder⟩
    · exact ⟨S_NothingToUndo_NothingToUndo, RB_NothingToUndo⟩
    · exact ⟨S_TooManyEdits_NothingToUndo, RB_TooManyEdits⟩)
  have T_TooManyEdits : ErrT K mg (bagB (clsOf [("TooLarge", C_TooLarge), ("Absent", C_Absent), ("BadCount", C_BadCount), ("BadDemand", C_BadDemand), ("BadHistory", C_BadHistory), ("BadText", C_BadText), ("BadTimes", C_BadTimes), ("BadWord", C_BadWord), ("NoGroup", C_NoGroup), ("NoIndex", C_NoIndex), ("NoPerson", C_NoPerson), ("NoVersion", C_NoVersion), ("Rejected", C_Rejected), ("BadBatch", C_BadBatch), ("Busy", C_Busy), ("Empty", C_Empty), ("Impossible", C_Impossible), ("NoHistory", C_NoHistory), ("NoOrder", C_NoOrder), ("NothingToUndo", C_NothingToUndo), ("TooManyEdits", C_TooManyEdits)] fa) r l1 l2) ["TooLarge", "Absent", "BadCount", "BadDemand", "BadHistory", "BadText", "BadTimes", "BadWord", "NoGroup", "NoIndex", "NoPerson", "NoVersion", "Rejected", "BadBatch", "Busy", "Empty", "Impossible", "NoHistory", "NoOrder", "NothingToUndo", "TooManyEdits"] "TooManyEdits" := errT X G Q_TooManyEdits (fun n hn => by
    simp only [List.mem_cons, List.not_mem_nil, or_false] at hn
    rcases hn with rfl | rfl | rfl | rfl | rfl | rfl | rfl | rfl | rfl | rfl | rfl | rfl | rfl | rfl | rfl | rfl | rfl | rfl | rfl | rfl | rfl
    · exact ⟨S_TooLarge_TooManyEdits, RB_TooLarge⟩
    · exact ⟨S_Absent_TooManyEdits, RB_Absent⟩
    · exact ⟨S_BadCount_TooManyEdits, RB_BadCount⟩
    · exact ⟨S_BadDemand_TooManyEdits, RB_BadDemand⟩
    · exact ⟨S_BadHistory_TooManyEdits, RB_BadHistory⟩
    · exact ⟨S_BadText_TooManyEdits, RB_BadText⟩
    · exact ⟨S_BadTimes_TooManyEdits, RB_BadTimes⟩
    · exact ⟨S_BadWord_TooManyEdits, RB_BadWord⟩
    · exact ⟨S_NoGroup_TooManyEdits, RB_NoGroup⟩
    · exact ⟨S_NoIndex_TooManyEdits, RB_NoIndex⟩
    · exact ⟨S_NoPerson_TooManyEdits, RB_NoPerson⟩
    · exact ⟨S_NoVersion_TooManyEdits, RB_NoVersion⟩
    · exact ⟨S_Rejected_TooManyEdits, RB_Rejected⟩
    · exact ⟨S_BadBatch_TooManyEdits, RB_BadBatch⟩
    · exact ⟨S_Busy_TooManyEdits, RB_Busy⟩
    · exact ⟨S_Empty_TooManyEdits, RB_Empty⟩
    · exact ⟨S_Impossible_TooManyEdits, RB_Impossible⟩
    · exact ⟨S_NoHistory_TooManyEdits, RB_NoHistory⟩
    · exact ⟨S_NoOrder_TooManyEdits, RB_NoOrder⟩
    · exact ⟨S_NothingToUndo_TooManyEdits, RB_NothingToUndo⟩
    · exact ⟨S_TooManyEdits_TooManyEdits, RB_TooManyEdits⟩)
  have T_Absent : ErrT K mg (bagB (clsOf [("TooLarge", C_TooLarge), ("Absent", C_Absent), ("BadCount", C_BadCount), ("BadDemand", C_BadDemand), ("BadHistory", C_BadHistory), ("BadText", C_BadText), ("BadTimes", C_BadTimes), ("BadWord", C_BadWord), ("NoGroup", C_NoGroup), ("NoIndex", C_NoIndex), ("NoPerson", C_NoPerson), ("NoVersion", C_NoVersion), ("Rejected", C_Rejected), ("BadBatch", C_BadBatch), ("Busy", C_Busy), ("Empty", C_Empty), ("Impossible", C_Impossible), ("NoHistory", C_NoHistory), ("NoOrder", C_NoOrder), ("NothingToUndo", C_NothingToUndo), ("TooManyEdits", C_TooManyEdits)] fa) r l1 l2) ["TooLarge", "Absent", "BadCount", "BadDemand", "BadHistory", "BadText", "BadTimes", "BadWord", "NoGroup", "NoIndex", "NoPerson", "NoVersion", "Rejected", "BadBatch", "Busy", "Empty", "Impossible", "NoHistory", "NoOrder", "NothingToUndo", "TooManyEdits"] "Absent" := errT X G Q_Absent (fun n hn => by
    simp only [List.mem_cons, List.not_mem_nil, or_false] at hn
    rcases hn with rfl | rfl | rfl | rfl | rfl | rfl | rfl | rfl | rfl | rfl | rfl | rfl | rfl | rfl | rfl | rfl | rfl | rfl | rfl | rfl | rfl
    · exact ⟨S_TooLarge_Absent, RB_TooLarge⟩
    · exact ⟨S_Absent_Absent, RB_Absent⟩
    · exact ⟨S_BadCount_Absent, RB_BadCount⟩
    · exact ⟨S_BadDemand_Absent, RB_BadDemand⟩
    · exact ⟨S_BadHistory_Absent, RB_BadHistory⟩
    · exact ⟨S_BadText_Absent, RB_BadText⟩
    · exact ⟨S_BadTimes_Absent, RB_BadTimes⟩
    · exact ⟨S_BadWord_Absent, RB_BadWord⟩
    · exact ⟨S_NoGroup_Absent, RB_NoGroup⟩
    · exact ⟨S_NoIndex_Absent, RB_NoIndex⟩
    · exact ⟨S_NoPerson_Absent, RB_NoPerson⟩
    · exact ⟨S_NoVersion_Absent, RB_NoVersion⟩
    · exact ⟨S_Rejected_Absent, RB_Rejected⟩
    · exact ⟨S_BadBatch_Absent, RB_BadBatch⟩
    · exact ⟨S_Busy_Absent, RB_Busy⟩
    · exact ⟨S_Empty_Absent, RB_Empty⟩
    · exact ⟨S_Impossible_Absent, RB_Impossible⟩
    · exact ⟨S_NoHistory_Absent, RB_NoHistory⟩
    · exact ⟨S_NoOrder_Absent, RB_NoOrder⟩
    · exact ⟨S_NothingToUndo_Absent, RB_NothingToUndo⟩
    · exact ⟨S_TooManyEdits_Absent, RB_TooManyEdits⟩)
  have T_BadCount : ErrT K mg (bagB (clsOf [("TooLarge", C_TooLarge), ("Absent", C_Absent), ("BadCount", C_BadCount), ("BadDemand", C_BadDemand), ("BadHistory", C_BadHistory), ("BadText", C_BadText), ("BadTimes", C_BadTimes), ("BadWord", C_BadWord), ("NoGroup", C_NoGroup), ("NoIndex", C_NoIndex), ("NoPerson", C_NoPerson), ("NoVersion", C_NoVersion), ("Rejected", C_Rejected), ("BadBatch", C_BadBatch), ("Busy", C_Busy), ("Empty", C_Empty), ("Impossible", C_Impossible), ("NoHistory", C_NoHistory), ("NoOrder", C_NoOrder), ("NothingToUndo", C_NothingToUndo), ("TooManyEdits", C_TooManyEdits)] fa) r l1 l2) ["TooLarge", "Absent", "BadCount", "BadDemand", "BadHistory", "BadText", "BadTimes", "BadWord", "NoGroup", "NoIndex", "NoPerson", "NoVersion", "Rejected", "BadBatch", "Busy", "Empty", "Impossible", "NoHistory", "NoOrder", "NothingToUndo", "TooManyEdits"] "BadCount" := errT X G Q_BadCount (fun n hn => by
    simp only [List.mem_cons, List.not_mem_nil, or_false] at hn
    rcases hn with rfl | rfl | rfl | rfl | rfl | rfl | rfl | rfl | rfl | rfl | rfl | rfl | rfl | rfl | rfl | rfl | rfl | rfl | rfl | rfl | rfl
    · exact ⟨S_TooLarge_BadCount, RB_TooLarge⟩
    · exact ⟨S_Absent_BadCount, RB_Absent⟩
    · exact ⟨S_BadCount_BadCount, RB_BadCount⟩
    · exact ⟨S_BadDemand_BadCount, RB_BadDemand⟩
    · exact ⟨S_BadHistory_BadCount, RB_BadHistory⟩
    · exact ⟨S_BadText_BadCount, RB_BadText⟩
    · exact ⟨S_BadTimes_BadCount, RB_BadTimes⟩
    · exact ⟨S_BadWord_BadCount, RB_BadWord⟩
    · exact ⟨S_NoGroup_BadCount, RB_NoGroup⟩
    · exact ⟨S_NoIndex_BadCount, RB_NoIndex⟩
    · exact ⟨S_NoPerson_BadCount, RB_NoPerson⟩
    · exact ⟨S_NoVersion_BadCount, RB_NoVersion⟩
    · exact ⟨S_Rejected_BadCount, RB_Rejected⟩
    · exact ⟨S_BadBatch_BadCount, RB_BadBatch⟩
    · exact ⟨S_Busy_BadCount, RB_Busy⟩
    · exact ⟨S_Empty_BadCount, RB_Empty⟩
    · exact ⟨S_Impossible_BadCount, RB_Impossible⟩
    · exact ⟨S_NoHistory_BadCount, RB_NoHistory⟩
    · exact ⟨S_NoOrder_BadCount, RB_NoOrder⟩
    · exact ⟨S_NothingToUndo_BadCount, RB_NothingToUndo⟩
    · exact ⟨S_TooManyEdits_BadCount, RB_TooManyEdits⟩)
  have T_BadDemand : ErrT K mg (bagB (clsOf [("TooLarge", C_TooLarge), ("Absent", C_Absent), ("BadCount", C_BadCount), ("BadDemand", C_BadDemand), ("BadHistory", C_BadHistory), ("BadText", C_BadText), ("BadTimes", C_BadTimes), ("BadWord", C_BadWord), ("NoGroup", C_NoGroup), ("NoIndex", C_NoIndex), ("NoPerson", C_NoPerson), ("NoVersion", C_NoVersion), ("Rejected", C_Rejected), ("BadBatch", C_BadBatch), ("Busy", C_Busy), ("Empty", C_Empty), ("Impossible", C_Impossible), ("NoHistory", C_NoHistory), ("NoOrder", C_NoOrder), ("NothingToUndo", C_NothingToUndo), ("TooManyEdits", C_TooManyEdits)] fa) r l1 l2) ["TooLarge", "Absent", "BadCount", "BadDemand", "BadHistory", "BadText", "BadTimes", "BadWord", "NoGroup", "NoIndex", "NoPerson", "NoVersion", "Rejected", "BadBatch", "Busy", "Empty", "Impossible", "NoHistory", "NoOrder", "NothingToUndo", "TooManyEdits"] "BadDemand" := errT X G Q_BadDemand (fun n hn => by
    simp only [List.mem_cons, List.not_mem_nil, or_false] at hn
    rcases hn with rfl | rfl | rfl | rfl | rfl | rfl | rfl | rfl | rfl | rfl | rfl | rfl | rfl | rfl | rfl | rfl | rfl | rfl | rfl | rfl | rfl
    · exact ⟨S_TooLarge_BadDemand, RB_TooLarge⟩
    · exact ⟨S_Absent_BadDemand, RB_Absent⟩
    · exact ⟨S_BadCount_BadDemand, RB_BadCount⟩
    · exact ⟨S_BadDemand_BadDemand, RB_BadDemand⟩
    · exact ⟨S_BadHistory_BadDemand, RB_BadHistory⟩
    · exact ⟨S_BadText_BadDemand, RB_BadText⟩
    · exact ⟨S_BadTimes_BadDemand, RB_BadTimes⟩
    · exact ⟨S_BadWord_BadDemand, RB_BadWord⟩
    · exact ⟨S_NoGroup_BadDemand, RB_NoGroup⟩
    · exact ⟨S_NoIndex_BadDemand, RB_NoIndex⟩
    · exact ⟨S_NoPerson_BadDemand, RB_NoPerson⟩
    · exact ⟨S_NoVersion_BadDemand, RB_NoVersion⟩
    · exact ⟨S_Rejected_BadDemand, RB_Rejected⟩
    · exact ⟨S_BadBatch_BadDemand, RB_BadBatch⟩
    · exact ⟨S_Busy_BadDemand, RB_Busy⟩
    · exact ⟨S_Empty_BadDemand, RB_Empty⟩
    · exact ⟨S_Impossible_BadDemand, RB_Impossible⟩
    · exact ⟨S_NoHistory_BadDemand, RB_NoHistory⟩
    · exact ⟨S_NoOrder_BadDemand, RB_NoOrder⟩
    · exact ⟨S_NothingToUndo_BadDemand, RB_NothingToUndo⟩
    · exact ⟨S_TooManyEdits_BadDemand, RB_TooManyEdits⟩)
  have T_BadHistory : ErrT K mg (bagB (clsOf [("TooLarge", C_TooLarge), ("Absent", C_Absent), ("BadCount", C_BadCount), ("BadDemand", C_BadDemand), ("BadHistory", C_BadHistory), ("BadText", C_BadText), ("BadTimes", C_BadTimes), ("BadWord", C_BadWord), ("NoGroup", C_NoGroup), ("NoIndex", C_NoIndex), ("NoPerson", C_NoPerson), ("NoVersion", C_NoVersion), ("Rejected", C_Rejected), ("BadBatch", C_BadBatch), ("Busy", C_Busy), ("Empty", C_Empty), ("Impossible", C_Impossible), ("NoHistory", C_NoHistory), ("NoOrder", C_NoOrder), ("NothingToUndo", C_NothingToUndo), ("TooManyEdits", C_TooManyEdits)] fa) r l1 l2) ["TooLarge", "Absent", "BadCount", "BadDemand", "BadHistory", "BadText", "BadTimes", "BadWord", "NoGroup", "NoIndex", "NoPerson", "NoVersion", "Rejected", "BadBatch", "Busy", "Empty", "Impossible", "NoHistory", "NoOrder", "NothingToUndo", "TooManyEdits"] "BadHistory" := errT X G Q_BadHistory (fun n hn => by
    simp only [List.mem_cons, List.not_mem_nil, or_false] at hn
    rcases hn with rfl | rfl | rfl | rfl | rfl | rfl | rfl | rfl | rfl | rfl | rfl | rfl | rfl | rfl | rfl | rfl | rfl | rfl | rfl | rfl | rfl
    · exact ⟨S_TooLarge_BadHistory, RB_TooLarge⟩
    · exact ⟨S_Absent_BadHistory, RB_Absent⟩
    · exact ⟨S_BadCount_BadHistory, RB_BadCount⟩
    · exact ⟨S_BadDemand_BadHistory, RB_BadDemand⟩
    · exact ⟨S_BadHistory_BadHistory, RB_BadHistory⟩
    · exact ⟨S_BadText_BadHistory, RB_BadText⟩
    · exact ⟨S_BadTimes_BadHistory, RB_BadTimes⟩
    · exact ⟨S_BadWord_BadHistory, RB_BadWord⟩
    · exact ⟨S_NoGroup_BadHistory, RB_NoGroup⟩
    · exact ⟨S_NoIndex_BadHistory, RB_NoIndex⟩
    · exact ⟨S_NoPerson_BadHistory, RB_NoPerson⟩
    · exact ⟨S_NoVersion_BadHistory, RB_NoVersion⟩
    · exact ⟨S_Rejected_BadHistory, RB_Rejected⟩
    · exact ⟨S_BadBatch_BadHistory, RB_BadBatch⟩
    · exact ⟨S_Busy_BadHistory, RB_Busy⟩
    · exact ⟨S_Empty_BadHistory, RB_Empty⟩
    · exact ⟨S_Impossible_BadHistory, RB_Impossible⟩
    · exact ⟨S_NoHistory_BadHistory, RB_NoHistory⟩
    · exact ⟨S_NoOrder_BadHistory, RB_NoOrder⟩
    · exact ⟨S_NothingToUndo_BadHistory, RB_NothingToUndo⟩
    · exact ⟨S_TooManyEdits_BadHistory, RB_TooManyEdits⟩)
  have T_BadText : ErrT K mg (bagB (clsOf [("TooLarge", C_TooLarge), ("Absent", C_Absent), ("BadCount", C_BadCount), ("BadDemand", C_BadDemand), ("BadHistory", C_BadHistory), ("BadText", C_BadText), ("BadTimes", C_BadTimes), ("BadWord", C_BadWord), ("NoGroup", C_NoGroup), ("NoIndex", C_NoIndex), ("NoPerson", C_NoPerson), ("NoVersion", C_NoVersion), ("Rejected", C_Rejected), ("BadBatch", C_BadBatch), ("Busy", C_Busy), ("Empty", C_Empty), ("Impossible", C_Impossible), ("NoHistory", C_NoHistory), ("NoOrder", C_NoOrder), ("NothingToUndo", C_NothingToUndo), ("TooManyEdits", C_TooManyEdits)] fa) r l1 l2) ["TooLarge", "Absent", "BadCount", "BadDemand", "BadHistory", "BadText", "BadTimes", "BadWord", "NoGroup", "NoIndex", "NoPerson", "NoVersion", "Rejected", "BadBatch", "Busy", "Empty", "Impossible", "NoHistory", "NoOrder", "NothingToUndo", "TooManyEdits"] "BadText" := errT X G Q_BadText (fun n hn => by
    simp only [List.mem_cons, List.not_mem_nil, or_false] at hn
    rcases hn with rfl | rfl | rfl | rfl | rfl | rfl | rfl | rfl | rfl | rfl | rfl | rfl | rfl | rfl | rfl | rfl | rfl | rfl | rfl | rfl | rfl
    · exact ⟨S_TooLarge_BadText, RB_TooLarge⟩
    · exact ⟨S_Absent_BadText, RB_Absent⟩
    · exact ⟨S_BadCount_BadText, RB_BadCount⟩
    · exact ⟨S_BadDemand_BadText, RB_BadDemand⟩
    · exact ⟨S_BadHistory_BadText, RB_BadHistory⟩
    · exact ⟨S_BadText_BadText, RB_BadText⟩
    · exact ⟨S_BadTimes_BadText, RB_BadTimes⟩
    · exact ⟨S_BadWord_BadText, RB_BadWord⟩
    · exact ⟨S_NoGroup_BadText, RB_NoGroup⟩
    · exact ⟨S_NoIndex_BadText, RB_NoIndex⟩
    · exact ⟨S_NoPerson_BadText, RB_NoPerson⟩
    · exact ⟨S_NoVersion_BadText, RB_NoVersion⟩
    · exact ⟨S_Rejected_BadText, RB_Rejected⟩
    · exact ⟨S_BadBatch_BadText, RB_BadBatch⟩
    · exact ⟨S_Busy_BadText, RB_Busy⟩
    · exact ⟨S_Empty_BadText, RB_Empty⟩
    · exact ⟨S_Impossible_BadText, RB_Impossible⟩
    · exact ⟨S_NoHistory_BadText, RB_NoHistory⟩
    · exact ⟨S_NoOrder_BadText, RB_NoOrder⟩
    · exact ⟨S_NothingToUndo_BadText, RB_NothingToUndo⟩
    · exact ⟨S_TooManyEdits_BadText, RB_TooManyEdits⟩)
  have T_BadTimes : ErrT K mg (bagB (clsOf [("TooLarge", C_TooLarge), ("Absent", C_Absent), ("BadCount", C_BadCount), ("BadDemand", C_BadDemand), ("BadHistory", C_BadHistory), ("BadText", C_BadText), ("BadTimes", C_BadTimes), ("BadWord", C_BadWord), ("NoGroup", C_NoGroup), ("NoIndex", C_NoIndex), ("NoPerson", C_NoPerson), ("NoVersion", C_NoVersion), ("Rejected", C_Rejected), ("BadBatch", C_BadBatch), ("Busy", C_Busy), ("Empty", C_Empty), ("Impossible", C_Impossible), ("NoHistory", C_NoHistory), ("NoOrder", C_NoOrder), ("NothingToUndo", C_NothingToUndo), ("TooManyEdits", C_TooManyEdits)] fa) r l1 l2) ["TooLarge", "Absent", "BadCount", "BadDemand", "BadHistory", "BadText", "BadTimes", "BadWord", "NoGroup", "NoIndex", "NoPerson", "NoVersion", "Rejected", "BadBatch", "Busy", "Empty", "Impossible", "NoHistory", "NoOrder", "NothingToUndo", "TooManyEdits"] "BadTimes" := errT X G Q_BadTimes (fun n hn => by
    simp only [List.mem_cons, List.not_mem_nil, or_false] at hn
    rcases hn with rfl | rfl | rfl | rfl | rfl | rfl | rfl | rfl | rfl | rfl | rfl | rfl | rfl | rfl | rfl | rfl | rfl | rfl | rfl | rfl | rfl
    · exact ⟨S_TooLarge_BadTimes, RB_TooLarge⟩
    · exact ⟨S_Absent_BadTimes, RB_Absent⟩
    · exact ⟨S_BadCount_BadTimes, RB_BadCount⟩
    · exact ⟨S_BadDemand_BadTimes, RB_BadDemand⟩
    · exact ⟨S_BadHistory_BadTimes, RB_BadHistory⟩
    · exact ⟨S_BadText_BadTimes, RB_BadText⟩
    · exact ⟨S_BadTimes_BadTimes, RB_BadTimes⟩
    · exact ⟨S_BadWord_BadTimes, RB_BadWord⟩
    · exact ⟨S_NoGroup_BadTimes, RB_NoGroup⟩
    · exact ⟨S_NoIndex_BadTimes, RB_NoIndex⟩
    · exact ⟨S_NoPerson_BadTimes, RB_NoPerson⟩
    · exact ⟨S_NoVersion_BadTimes, RB_NoVersion⟩
    · exact ⟨S_Rejected_BadTimes, RB_Rejected⟩
    · exact ⟨S_BadBatch_BadTimes, RB_BadBatch⟩
    · exact ⟨S_Busy_BadTimes, RB_Busy⟩
    · exact ⟨S_Empty_BadTimes, RB_Empty⟩
    · exact ⟨S_Impossible_BadTimes, RB_Impossible⟩
    · exact ⟨S_NoHistory_BadTimes, RB_NoHistory⟩
    · exact ⟨S_NoOrder_BadTimes, RB_NoOrder⟩
    · exact ⟨S_NothingToUndo_BadTimes, RB_NothingToUndo⟩
    · exact ⟨S_TooManyEdits_BadTimes, RB_TooManyEdits⟩)
  have T_BadWord : ErrT K mg (bagB (clsOf [("TooLarge", C_TooLarge), ("Absent", C_Absent), ("BadCount", C_BadCount), ("BadDemand", C_BadDemand), ("BadHistory", C_BadHistory), ("BadText", C_BadText), ("BadTimes", C_BadTimes), ("BadWord", C_BadWord), ("NoGroup", C_NoGroup), ("NoIndex", C_NoIndex), ("NoPerson", C_NoPerson), ("NoVersion", C_NoVersion), ("Rejected", C_Rejected), ("BadBatch", C_BadBatch), ("Busy", C_Busy), ("Empty", C_Empty), ("Impossible", C_Impossible), ("NoHistory", C_NoHistory), ("NoOrder", C_NoOrder), ("NothingToUndo", C_NothingToUndo), ("TooManyEdits", C_TooManyEdits)] fa) r l1 l2) ["TooLarge", "Absent", "BadCount", "BadDemand", "BadHistory", "BadText", "BadTimes", "BadWord", "NoGroup", "NoIndex", "NoPerson", "NoVersion", "Rejected", "BadBatch", "Busy", "Empty", "Impossible", "NoHistory", "NoOrder", "NothingToUndo", "TooManyEdits"] "BadWord" := errT X G Q_BadWord (fun n hn => by
    simp only [List.mem_cons, List.not_mem_nil, or_false] at hn
    rcases hn with rfl | rfl | rfl | rfl | rfl | rfl | rfl | rfl | rfl | rfl | rfl | rfl | rfl | rfl | rfl | rfl | rfl | rfl | rfl | rfl | rfl
    · exact ⟨S_TooLarge_BadWord, RB_TooLarge⟩
    · exact ⟨S_Absent_BadWord, RB_Absent⟩
    · exact ⟨S_BadCount_BadWord, RB_BadCount⟩
    · exact ⟨S_BadDemand_BadWord, RB_BadDemand⟩
    · exact ⟨S_BadHistory_BadWord, RB_BadHistory⟩
    · exact ⟨S_BadText_BadWord, RB_BadText⟩
    · exact ⟨S_BadTimes_BadWord, RB_BadTimes⟩
    · exact ⟨S_BadWord_BadWord, RB_BadWord⟩
    · exact ⟨S_NoGroup_BadWord, RB_NoGroup⟩
    · exact ⟨S_NoIndex_BadWord, RB_NoIndex⟩
    · exact ⟨S_NoPerson_BadWord, RB_NoPerson⟩
    · exact ⟨S_NoVersion_BadWord, RB_NoVersion⟩
    · exact ⟨S_Rejected_BadWord, RB_Rejected⟩
    · exact ⟨S_BadBatch_BadWord, RB_BadBatch⟩
    · exact ⟨S_Busy_BadWord, RB_Busy⟩
    · exact ⟨S_Empty_BadWord, RB_Empty⟩
    · exact ⟨S_Impossible_BadWord, RB_Impossible⟩
    · exact ⟨S_NoHistory_BadWord, RB_NoHistory⟩
    · exact ⟨S_NoOrder_BadWord, RB_NoOrder⟩
    · exact ⟨S_NothingToUndo_BadWord, RB_NothingToUndo⟩
    · exact ⟨S_TooManyEdits_BadWord, RB_TooManyEdits⟩)
  have T_NoGroup : ErrT K mg (bagB (clsOf [("TooLarge", C_TooLarge), ("Absent", C_Absent), ("BadCount", C_BadCount), ("BadDemand", C_BadDemand), ("BadHistory", C_BadHistory), ("BadText", C_BadText), ("BadTimes", C_BadTimes), ("BadWord", C_BadWord), ("NoGroup", C_NoGroup), ("NoIndex", C_NoIndex), ("NoPerson", C_NoPerson), ("NoVersion", C_NoVersion), ("Rejected", C_Rejected), ("BadBatch", C_BadBatch), ("Busy", C_Busy), ("Empty", C_Empty), ("Impossible", C_Impossible), ("NoHistory", C_NoHistory), ("NoOrder", C_NoOrder), ("NothingToUndo", C_NothingToUndo), ("TooManyEdits", C_TooManyEdits)] fa) r l1 l2) ["TooLarge", "Absent", "BadCount", "BadDemand", "BadHistory", "BadText", "BadTimes", "BadWord", "NoGroup", "NoIndex", "NoPerson", "NoVersion", "Rejected", "BadBatch", "Busy", "Empty", "Impossible", "NoHistory", "NoOrder", "NothingToUndo", "TooManyEdits"] "NoGroup" := errT X G Q_NoGroup (fun n hn => by
    simp only [List.mem_cons, List.not_mem_nil, or_false] at hn
    rcases hn with rfl | rfl | rfl | rfl | rfl | rfl | rfl | rfl | rfl | rfl | rfl | rfl | rfl | rfl | rfl | rfl | rfl | rfl | rfl | rfl | rfl
    · exact ⟨S_TooLarge_NoGroup, RB_TooLarge⟩
    · exact ⟨S_Absent_NoGroup, RB_Absent⟩
    · exact ⟨S_BadCount_NoGroup, RB_BadCount⟩
    · exact ⟨S_BadDemand_NoGroup, RB_BadDemand⟩
    · exact ⟨S_BadHistory_NoGroup, RB_BadHistory⟩
    · exact ⟨S_BadText_NoGroup, RB_BadText⟩
    · exact ⟨S_BadTimes_NoGroup, RB_BadTimes⟩
    · exact ⟨S_BadWord_NoGroup, RB_BadWord⟩
    · exact ⟨S_NoGroup_NoGroup, RB_NoGroup⟩
    · exact ⟨S_NoIndex_NoGroup, RB_NoIndex⟩
    · exact ⟨S_NoPerson_NoGroup, RB_NoPerson⟩
    · exact ⟨S_NoVersion_NoGroup, RB_NoVersion⟩
    · exact ⟨S_Rejected_NoGroup, RB_Rejected⟩
    · exact ⟨S_BadBatch_NoGroup, RB_BadBatch⟩
    · exact ⟨S_Busy_NoGroup, RB_Busy⟩
    · exact ⟨S_Empty_NoGroup, RB_Empty⟩
    · exact ⟨S_Impossible_NoGroup, RB_Impossible⟩
    · exact ⟨S_NoHistory_NoGroup, RB_NoHistory⟩
    · exact ⟨S_NoOrder_NoGroup, RB_NoOrder⟩
    · exact ⟨S_NothingToUndo_NoGroup, RB_NothingToUndo⟩
    · exact ⟨S_TooManyEdits_NoGroup, RB_TooManyEdits⟩)
  have T_NoIndex : ErrT K mg (bagB (clsOf [("TooLarge", C_TooLarge), ("Absent", C_Absent), ("BadCount", C_BadCount), ("BadDemand", C_BadDemand), ("BadHistory", C_BadHistory), ("BadText", C_BadText), ("BadTimes", C_BadTimes), ("BadWord", C_BadWord), ("NoGroup", C_NoGroup), ("NoIndex", C_NoIndex), ("NoPerson", C_NoPerson), ("NoVersion", C_NoVersion), ("Rejected", C_Rejected), ("BadBatch", C_BadBatch), ("Busy", C_Busy), ("Empty", C_Empty), ("Impossible", C_Impossible), ("NoHistory", C_NoHistory), ("NoOrder", C_NoOrder), ("NothingToUndo", C_NothingToUndo), ("TooManyEdits", C_TooManyEdits)] fa) r l1 l2) ["TooLarge", "Absent", "BadCount", "BadDemand", "BadHistory", "BadText", "BadTimes", "BadWord", "NoGroup", "NoIndex", "NoPerson", "NoVersion", "Rejected", "BadBatch", "Busy", "Empty", "Impossible", "NoHistory", "NoOrder", "NothingToUndo", "TooManyEdits"] "NoIndex" := errT X G Q_NoIndex (fun n hn => by
    simp only [List.mem_cons, List.not_mem_nil, or_false] at hn
    rcases hn with rfl | rfl | rfl | rfl | rfl | rfl | rfl | rfl | rfl | rfl | rfl | rfl | rfl | rfl | rfl | rfl | rfl | rfl | rfl | rfl | rfl
    · exact ⟨S_TooLarge_NoIndex, RB_TooLarge⟩
    · exact ⟨S_Absent_NoIndex, RB_Absent⟩
    · exact ⟨S_BadCount_NoIndex, RB_BadCount⟩
    · exact ⟨S_BadDemand_NoIndex, RB_BadDemand⟩
    · exact ⟨S_BadHistory_NoIndex, RB_BadHistory⟩
    · exact ⟨S_BadText_NoIndex, RB_BadText⟩
    · exact ⟨S_BadTimes_NoIndex, RB_BadTimes⟩
    · exact ⟨S_BadWord_NoIndex, RB_BadWord⟩
    · exact ⟨S_NoGroup_NoIndex, RB_NoGroup⟩
    · exact ⟨S_NoIndex_NoIndex, RB_NoIndex⟩
    · exact ⟨S_NoPerson_NoIndex, RB_NoPerson⟩
    · exact ⟨S_NoVersion_NoIndex, RB_NoVersion⟩
    · exact ⟨S_Rejected_NoIndex, RB_Rejected⟩
    · exact ⟨S_BadBatch_NoIndex, RB_BadBatch⟩
    · exact ⟨S_Busy_NoIndex, RB_Busy⟩
    · exact ⟨S_Empty_NoIndex, RB_Empty⟩
    · exact ⟨S_Impossible_NoIndex, RB_Impossible⟩
    · exact ⟨S_NoHistory_NoIndex, RB_NoHistory⟩
    · exact ⟨S_NoOrder_NoIndex, RB_NoOrder⟩
    · exact ⟨S_NothingToUndo_NoIndex, RB_NothingToUndo⟩
    · exact ⟨S_TooManyEdits_NoIndex, RB_TooManyEdits⟩)
  have T_NoPerson : ErrT K mg (bagB (clsOf [("TooLarge", C_TooLarge), ("Absent", C_Absent), ("BadCount", C_BadCount), ("BadDemand", C_BadDemand), ("BadHistory", C_BadHistory), ("BadText", C_BadText), ("BadTimes", C_BadTimes), ("BadWord", C_BadWord), ("NoGroup", C_NoGroup), ("NoIndex", C_NoIndex), ("NoPerson", C_NoPerson), ("NoVersion", C_NoVersion), ("Rejected", C_Rejected), ("BadBatch", C_BadBatch), ("Busy", C_Busy), ("Empty", C_Empty), ("Impossible", C_Impossible), ("NoHistory", C_NoHistory), ("NoOrder", C_NoOrder), ("NothingToUndo", C_NothingToUndo), ("TooManyEdits", C_TooManyEdits)] fa) r l1 l2) ["TooLarge", "Absent", "BadCount", "BadDemand", "BadHistory", "BadText", "BadTimes", "BadWord", "NoGroup", "NoIndex", "NoPerson", "NoVersion", "Rejected", "BadBatch", "Busy", "Empty", "Impossible", "NoHistory", "NoOrder", "NothingToUndo", "TooManyEdits"] "NoPerson" := errT X G Q_NoPerson (fun n hn => by
    simp only [List.mem_cons, List.not_mem_nil, or_false] at hn
    rcases hn with rfl | rfl | rfl | rfl | rfl | rfl | rfl | rfl | rfl | rfl | rfl | rfl | rfl | rfl | rfl | rfl | rfl | rfl | rfl | rfl | rfl
    · exact ⟨S_TooLarge_NoPerson, RB_TooLarge⟩
    · exact ⟨S_Absent_NoPerson, RB_Absent⟩
    · exact ⟨S_BadCount_NoPerson, RB_BadCount⟩
    · exact ⟨S_BadDemand_NoPerson, RB_BadDemand⟩
    · exact ⟨S_BadHistory_NoPerson, RB_BadHistory⟩
    · exact ⟨S_BadText_NoPerson, RB_BadText⟩
    · exact ⟨S_BadTimes_NoPerson, RB_BadTimes⟩
    · exact ⟨S_BadWord_NoPerson, RB_BadWord⟩
    · exact ⟨S_NoGroup_NoPerson, RB_NoGroup⟩
    · exact ⟨S_NoIndex_NoPerson, RB_NoIndex⟩
    · exact ⟨S_NoPerson_NoPerson, RB_NoPerson⟩
    · exact ⟨S_NoVersion_NoPerson, RB_NoVersion⟩
    · exact ⟨S_Rejected_NoPerson, RB_Rejected⟩
    · exact ⟨S_BadBatch_NoPerson, RB_BadBatch⟩
    · exact ⟨S_Busy_NoPerson, RB_Busy⟩
    · exact ⟨S_Empty_NoPerson, RB_Empty⟩
    · exact ⟨S_Impossible_NoPerson, RB_Impossible⟩
    · exact ⟨S_NoHistory_NoPerson, RB_NoHistory⟩
    · exact ⟨S_NoOrder_NoPerson, RB_NoOrder⟩
    · exact ⟨S_NothingToUndo_NoPerson, RB_NothingToUndo⟩
    · exact ⟨S_TooManyEdits_NoPerson, RB_TooManyEdits⟩)
  have T_NoVersion : ErrT K mg (bagB (clsOf [("TooLarge", C_TooLarge), ("Absent", C_Absent), ("BadCount", C_BadCount), ("BadDemand", C_BadDemand), ("BadHistory", C_BadHistory), ("BadText", C_BadText), ("BadTimes", C_BadTimes), ("BadWord", C_BadWord), ("NoGroup", C_NoGroup), ("NoIndex", C_NoIndex), ("NoPerson", C_NoPerson), ("NoVersion", C_NoVersion), ("Rejected", C_Rejected), ("BadBatch", C_BadBatch), ("Busy", C_Busy), ("Empty", C_Empty), ("Impossible", C_Impossible), ("NoHistory", C_NoHistory), ("NoOrder", C_NoOrder), ("NothingToUndo", C_NothingToUndo), ("TooManyEdits", C_TooManyEdits)] fa) r l1 l2) ["TooLarge", "Absent", "BadCount", "BadDemand", "BadHistory", "BadText", "BadTimes", "BadWord", "NoGroup", "NoIndex", "NoPerson", "NoVersion", "Rejected", "BadBatch", "Busy", "Empty", "Impossible", "NoHistory", "NoOrder", "NothingToUndo", "TooManyEdits"] "NoVersion" := errT X G Q_NoVersion (fun n hn => by
    simp only [List.mem_cons, List.not_mem_nil, or_false] at hn
    rcases hn with rfl | rfl | rfl | rfl | rfl | rfl | rfl | rfl | rfl | rfl | rfl | rfl | rfl | rfl | rfl | rfl | rfl | rfl | rfl | rfl | rfl
    · exact ⟨S_TooLarge_NoVersion, RB_TooLarge⟩
    · exact ⟨S_Absent_NoVersion, RB_Absent⟩
    · exact ⟨S_BadCount_NoVersion, RB_BadCount⟩
    · exact ⟨S_BadDemand_NoVersion, RB_BadDemand⟩
    · exact ⟨S_BadHistory_NoVersion, RB_BadHistory⟩
    · exact ⟨S_BadText_NoVersion, RB_BadText⟩
    · exact ⟨S_BadTimes_NoVersion, RB_BadTimes⟩
    · exact ⟨S_BadWord_NoVersion, RB_BadWord⟩
    · exact ⟨S_NoGroup_NoVersion, RB_NoGroup⟩
    · exact ⟨S_NoIndex_NoVersion, RB_NoIndex⟩
    · exact ⟨S_NoPerson_NoVersion, RB_NoPerson⟩
    · exact ⟨S_NoVersion_NoVersion, RB_NoVersion⟩
    · exact ⟨S_Rejected_NoVersion, RB_Rejected⟩
    · exact ⟨S_BadBatch_NoVersion, RB_BadBatch⟩
    · exact ⟨S_Busy_NoVersion, RB_Busy⟩
    · exact ⟨S_Empty_NoVersion, RB_Empty⟩
    · exact ⟨S_Impossible_NoVersion, RB_Impossible⟩
    · exact ⟨S_NoHistory_NoVersion, RB_NoHistory⟩
    · exact ⟨S_NoOrder_NoVersion, RB_NoOrder⟩
    · exact ⟨S_NothingToUndo_NoVersion, RB_NothingToUndo⟩
    · exact ⟨S_TooManyEdits_NoVersion, RB_TooManyEdits⟩)
  have T_Rejected : ErrT K mg (bagB (clsOf [("TooLarge", C_TooLarge), ("Absent", C_Absent), ("BadCount", C_BadCount), ("BadDemand", C_BadDemand), ("BadHistory", C_BadHistory), ("BadText", C_BadText), ("BadTimes", C_BadTimes), ("BadWord", C_BadWord), ("NoGroup", C_NoGroup), ("NoIndex", C_NoIndex), ("NoPerson", C_NoPerson), ("NoVersion", C_NoVersion), ("Rejected", C_Rejected), ("BadBatch", C_BadBatch), ("Busy", C_Busy), ("Empty", C_Empty), ("Impossible", C_Impossible), ("NoHistory", C_NoHistory), ("NoOrder", C_NoOrder), ("NothingToUndo", C_NothingToUndo), ("TooManyEdits", C_TooManyEdits)] fa) r l1 l2) ["TooLarge", "Absent", "BadCount", "BadDemand", "BadHistory", "BadText", "BadTimes", "BadWord", "NoGroup", "NoIndex", "NoPerson", "NoVersion", "Rejected", "BadBatch", "Busy", "Empty", "Impossible", "NoHistory", "NoOrder", "NothingToUndo", "TooManyEdits"] "Rejected" := errT X G Q_Rejected (fun n hn => by
    simp only [List.mem_cons, List.not_mem_nil, or_false] at hn
    rcases hn with rfl | rfl | rfl | rfl | rfl | rfl | rfl | rfl | rfl | rfl | rfl | rfl | rfl | rfl | rfl | rfl | rfl | rfl | rfl | rfl | rfl
    · exact ⟨S_TooLarge_Rejected, RB_TooLarge⟩
    · exact ⟨S_Absent_Rejected, RB_Absent⟩
    · exact ⟨S_BadCount_Rejected, RB_BadCount⟩
    · exact ⟨S_BadDemand_Rejected, RB_BadDemand⟩
    · exact ⟨S_BadHistory_Rejected, RB_BadHistory⟩
    · exact ⟨S_BadText_Rejected, RB_BadText⟩
    · exact ⟨S_BadTimes_Rejected, RB_BadTimes⟩
    · exact ⟨S_BadWord_Rejected, RB_BadWord⟩
    · exact ⟨S_NoGroup_Rejected, RB_NoGroup⟩
    · exact ⟨S_NoIndex_Rejected, RB_NoIndex⟩
    · exact ⟨S_NoPerson_Rejected, RB_NoPerson⟩
    · exact ⟨S_NoVersion_Rejected, RB_NoVersion⟩
    · exact ⟨S_Rejected_Rejected, RB_Rejected⟩
    · exact ⟨S_BadBatch_Rejected, RB_BadBatch⟩
    · exact ⟨S_Busy_Rejected, RB_Busy⟩
    · exact ⟨S_Empty_Rejected, RB_Empty⟩
    · exact ⟨S_Impossible_Rejected, RB_Impossible⟩
    · exact ⟨S_NoHistory_Rejected, RB_NoHistory⟩
    · exact ⟨S_NoOrder_Rejected, RB_NoOrder⟩
    · exact ⟨S_NothingToUndo_Rejected, RB_NothingToUndo⟩
    · exact ⟨S_TooManyEdits_Rejected, RB_TooManyEdits⟩)
  have T_TooLarge : ErrT K mg (bagB (clsOf [("TooLarge", C_TooLarge), ("Absent", C_Absent), ("BadCount", C_BadCount), ("BadDemand", C_BadDemand), ("BadHistory", C_BadHistory), ("BadText", C_BadText), ("BadTimes", C_BadTimes), ("BadWord", C_BadWord), ("NoGroup", C_NoGroup), ("NoIndex", C_NoIndex), ("NoPerson", C_NoPerson), ("NoVersion", C_NoVersion), ("Rejected", C_Rejected), ("BadBatch", C_BadBatch), ("Busy", C_Busy), ("Empty", C_Empty), ("Impossible", C_Impossible), ("NoHistory", C_NoHistory), ("NoOrder", C_NoOrder), ("NothingToUndo", C_NothingToUndo), ("TooManyEdits", C_TooManyEdits)] fa) r l1 l2) ["TooLarge", "Absent", "BadCount", "BadDemand", "BadHistory", "BadText", "BadTimes", "BadWord", "NoGroup", "NoIndex", "NoPerson", "NoVersion", "Rejected", "BadBatch", "Busy", "Empty", "Impossible", "NoHistory", "NoOrder", "NothingToUndo", "TooManyEdits"] "TooLarge" := errT X G Q_TooLarge (fun n hn => by
    simp only [List.mem_cons, List.not_mem_nil, or_false] at hn
    rcases hn with rfl | rfl | rfl | rfl | rfl | rfl | rfl | rfl | rfl | rfl | rfl | rfl | rfl | rfl | rfl | rfl | rfl | rfl | rfl | rfl | rfl
    · exact ⟨S_TooLarge_TooLarge, RB_TooLarge⟩
    · exact ⟨S_Absent_TooLarge, RB_Absent⟩
    · exact ⟨S_BadCount_TooLarge, RB_BadCount⟩
    · exact ⟨S_BadDemand_TooLarge, RB_BadDemand⟩
    · exact ⟨S_BadHistory_TooLarge, RB_BadHistory⟩
    · exact ⟨S_BadText_TooLarge, RB_BadText⟩
    · exact ⟨S_BadTimes_TooLarge, RB_BadTimes⟩
    · exact ⟨S_BadWord_TooLarge, RB_BadWord⟩
    · exact ⟨S_NoGroup_TooLarge, RB_NoGroup⟩
    · exact ⟨S_NoIndex_TooLarge, RB_NoIndex⟩
    · exact ⟨S_NoPerson_TooLarge, RB_NoPerson⟩
    · exact ⟨S_NoVersion_TooLarge, RB_NoVersion⟩
    · exact ⟨S_Rejected_TooLarge, RB_Rejected⟩
    · exact ⟨S_BadBatch_TooLarge, RB_BadBatch⟩
    · exact ⟨S_Busy_TooLarge, RB_Busy⟩
    · exact ⟨S_Empty_TooLarge, RB_Empty⟩
    · exact ⟨S_Impossible_TooLarge, RB_Impossible⟩
    · exact ⟨S_NoHistory_TooLarge, RB_NoHistory⟩
    · exact ⟨S_NoOrder_TooLarge, RB_NoOrder⟩
    · exact ⟨S_NothingToUndo_TooLarge, RB_NothingToUndo⟩
    · exact ⟨S_TooManyEdits_TooLarge, RB_TooManyEdits⟩)
  have T_LineError : ErrT K mg (bagB (clsOf [("TooLarge", C_TooLarge), ("Absent", C_Absent), ("BadCount", C_BadCount), ("BadDemand", C_BadDemand), ("BadHistory", C_BadHistory), ("BadText", C_BadText), ("BadTimes", C_BadTimes), ("BadWord", C_BadWord), ("NoGroup", C_NoGroup), ("NoIndex", C_NoIndex), ("NoPerson", C_NoPerson), ("NoVersion", C_NoVersion), ("Rejected", C_Rejected), ("BadBatch", C_BadBatch), ("Busy", C_Busy), ("Empty", C_Empty), ("Impossible", C_Impossible), ("NoHistory", C_NoHistory), ("NoOrder", C_NoOrder), ("NothingToUndo", C_NothingToUndo), ("TooManyEdits", C_TooManyEdits)] fa) r l1 l2) ["TooLarge", "Absent", "BadCount", "BadDemand", "BadHistory", "BadText", "BadTimes", "BadWord", "NoGroup", "NoIndex", "NoPerson", "NoVersion", "Rejected", "BadBatch", "Busy", "Empty", "Impossible", "NoHistory", "NoOrder", "NothingToUndo", "TooManyEdits"] "LineError" := errT X G Q_LineError (fun n hn => by
    simp only [List.mem_cons, List.not_mem_nil, or_false] at hn
    rcases hn with rfl | rfl | rfl | rfl | rfl | rfl | rfl | rfl | rfl | rfl | rfl | rfl | rfl | rfl | rfl | rfl | rfl | rfl | rfl | rfl | rfl
    · exact ⟨S_TooLarge_LineError, RB_TooLarge⟩
    · exact ⟨S_Absent_LineError, RB_Absent⟩
    · exact ⟨S_BadCount_LineError, RB_BadCount⟩
    · exact ⟨S_BadDemand_LineError, RB_BadDemand⟩
    · exact ⟨S_BadHistory_LineError, RB_BadHistory⟩
    · exact ⟨S_BadText_LineError, RB_BadText⟩
    · exact ⟨S_BadTimes_LineError, RB_BadTimes⟩
    · exact ⟨S_BadWord_LineError, RB_BadWord⟩
    · exact ⟨S_NoGroup_LineError, RB_NoGroup⟩
    · exact ⟨S_NoIndex_LineError, RB_NoIndex⟩
    · exact ⟨S_NoPerson_LineError, RB_NoPerson⟩
    · exact ⟨S_NoVersion_LineError, RB_NoVersion⟩
    · exact ⟨S_Rejected_LineError, RB_Rejected⟩
    · exact ⟨S_BadBatch_LineError, RB_BadBatch⟩
    · exact ⟨S_Busy_LineError, RB_Busy⟩
    · exact ⟨S_Empty_LineError, RB_Empty⟩
    · exact ⟨S_Impossible_LineError, RB_Impossible⟩
    · exact ⟨S_NoHistory_LineError, RB_NoHistory⟩
    · exact ⟨S_NoOrder_LineError, RB_NoOrder⟩
    · exact ⟨S_NothingToUndo_LineError, RB_NothingToUndo⟩
    · exact ⟨S_TooManyEdits_LineError, RB_TooManyEdits⟩)
  have FE_person : ∀ n ∈ (["Absent"] : List Str), FldC K ((bagB (clsOf [("TooLarge", C_TooLarge), ("Absent", C_Absent), ("BadCount", C_BadCount), ("BadDemand", C_BadDemand), ("BadHistory", C_BadHistory), ("BadText", C_BadText), ("BadTimes", C_BadTimes), ("BadWord", C_BadWord), ("NoGroup", C_NoGroup), ("NoIndex", C_NoIndex), ("NoPerson", C_NoPerson), ("NoVersion", C_NoVersion), ("Rejected", C_Rejected), ("BadBatch", C_BadBatch), ("Busy", C_Busy), ("Empty", C_Empty), ("Impossible", C_Impossible), ("NoHistory", C_NoHistory), ("NoOrder", C_NoOrder), ("NothingToUndo", C_NothingToUndo), ("TooManyEdits", C_TooManyEdits)] fa) r l1 l2).cls n) "person" := fun n hn => by
    simp only [List.mem_cons, List.not_mem_nil, or_false] at hn
    rcases hn with rfl
    · exact RI_Absent.fld
  have FE_index : ∀ n ∈ (["BadCount", "BadDemand", "BadHistory", "BadText", "NoIndex", "Rejected"] : List Str), FldC K ((bagB (clsOf [("TooLarge", C_TooLarge), ("Absent", C_Absent), ("BadCount", C_BadCount), ("BadDemand", C_BadDemand), ("BadHistory", C_BadHistory), ("BadText", C_BadText), ("BadTimes", C_BadTimes), ("BadWord", C_BadWord), ("NoGroup", C_NoGroup), ("NoIndex", C_NoIndex), ("NoPerson", C_NoPerson), ("NoVersion", C_NoVersion), ("Rejected", C_Rejected), ("BadBatch", C_BadBatch), ("Busy", C_Busy), ("Empty", C_Empty), ("Impossible", C_Impossible), ("NoHistory", C_NoHistory), ("NoOrder", C_NoOrder), ("NothingToUndo", C_NothingToUndo), ("TooManyEdits", C_TooManyEdits)] fa) r l1 l2).cls n) "index" := fun n hn => by
    simp only [List.mem_cons, List.not_mem_nil, or_false] at hn
    rcases hn with rfl | rfl | rfl | rfl | rfl | rfl
    · exact RI_BadCount.fld
    · exact RI_BadDemand.fld
    · exact RI_BadHistory.fld
    · exact RI_BadText.fld
    · exact RI_NoIndex.fld
    · exact RI_Rejected.fld
  have FE_value : ∀ n ∈ (["BadTimes", "NoGroup", "NoPerson"] : List Str), FldC K ((bagB (clsOf [("TooLarge", C_TooLarge), ("Absent", C_Absent), ("BadCount", C_BadCount), ("BadDemand", C_BadDemand), ("BadHistory", C_BadHistory), ("BadText", C_BadText), ("BadTimes", C_BadTimes), ("BadWord", C_BadWord), ("NoGroup", C_NoGroup), ("NoIndex", C_NoIndex), ("NoPerson", C_NoPerson), ("NoVersion", C_NoVersion), ("Rejected", C_Rejected), ("BadBatch", C_BadBatch), ("Busy", C_Busy), ("Empty", C_Empty), ("Impossible", C_Impossible), ("NoHistory", C_NoHistory), ("NoOrder", C_NoOrder), ("NothingToUndo", C_NothingToUndo), ("TooManyEdits", C_TooManyEdits)] fa) r l1 l2).cls n) "value" := fun n hn => by
    simp only [List.mem_cons, List.not_mem_nil, or_false] at hn
    rcases hn with rfl | rfl | rfl
    · exact RI_BadTimes.fld
    · exact RI_NoGroup.fld
    · exact RI_NoPerson.fld
  have FE_error : ∀ n ∈ (["BadWord"] : List Str), FldC K ((bagB (clsOf [("TooLarge", C_TooLarge), ("Absent", C_Absent), ("BadCount", C_BadCount), ("BadDemand", C_BadDemand), ("BadHistory", C_BadHistory), ("BadText", C_BadText), ("BadTimes", C_BadTimes), ("BadWord", C_BadWord), ("NoGroup", C_NoGroup), ("NoIndex", C_NoIndex), ("NoPerson", C_NoPerson), ("NoVersion", C_NoVersion), ("Rejected", C_Rejected), ("BadBatch", C_BadBatch), ("Busy", C_Busy), ("Empty", C_Empty), ("Impossible", C_Impossible), ("NoHistory", C_NoHistory), ("NoOrder", C_NoOrder), ("NothingToUndo", C_NothingToUndo), ("TooManyEdits", C_TooManyEdits)] fa) r l1 l2).cls n) "error" := fun n hn => by
    simp only [List.mem_cons, List.not_mem_nil, or_false] at hn
    rcases hn with rfl
    · exact RI_BadWord.fld
  have FE_version : ∀ n ∈ (["NoVersion"] : List Str), FldC K ((bagB (clsOf [("TooLarge", C_TooLarge), ("Absent", C_Absent), ("BadCount", C_BadCount), ("BadDemand", C_BadDemand), ("BadHistory", C_BadHistory), ("BadText", C_BadText), ("BadTimes", C_BadTimes), ("BadWord", C_BadWord), ("NoGroup", C_NoGroup), ("NoIndex", C_NoIndex), ("NoPerson", C_NoPerson), ("NoVersion", C_NoVersion), ("Rejected", C_Rejected), ("BadBatch", C_BadBatch), ("Busy", C_Busy), ("Empty", C_Empty), ("Impossible", C_Impossible), ("NoHistory", C_NoHistory), ("NoOrder", C_NoOrder), ("NothingToUndo", C_NothingToUndo), ("TooManyEdits", C_TooManyEdits)] fa) r l1 l2).cls n) "version" := fun n hn => by
    simp only [List.mem_cons, List.not_mem_nil, or_false] at hn
    rcases hn with rfl
    · exact RI_NoVersion.fld
  have FE_limit : ∀ n ∈ (["TooLarge"] : List Str), FldC K ((bagB (clsOf [("TooLarge", C_TooLarge), ("Absent", C_Absent), ("BadCount", C_BadCount), ("BadDemand", C_BadDemand), ("BadHistory", C_BadHistory), ("BadText", C_BadText), ("BadTimes", C_BadTimes), ("BadWord", C_BadWord), ("NoGroup", C_NoGroup), ("NoIndex", C_NoIndex), ("NoPerson", C_NoPerson), ("NoVersion", C_NoVersion), ("Rejected", C_Rejected), ("BadBatch", C_BadBatch), ("Busy", C_Busy), ("Empty", C_Empty), ("Impossible", C_Impossible), ("NoHistory", C_NoHistory), ("NoOrder", C_NoOrder), ("NothingToUndo", C_NothingToUndo), ("TooManyEdits", C_TooManyEdits)] fa) r l1 l2).cls n) "limit" := fun n hn => by
    simp only [List.mem_cons, List.not_mem_nil, or_false] at hn
    rcases hn with rfl
    · exact RI_TooLarge.fld
  have C37 : Cal l.prog w K mg base (bagB (clsOf [("TooLarge", C_TooLarge), ("Absent", C_Absent), ("BadCount", C_BadCount), ("BadDemand", C_BadDemand), ("BadHistory", C_BadHistory), ("BadText", C_BadText), ("BadTimes", C_BadTimes), ("BadWord", C_BadWord), ("NoGroup", C_NoGroup), ("NoIndex", C_NoIndex), ("NoPerson", C_NoPerson), ("NoVersion", C_NoVersion), ("Rejected", C_Rejected), ("BadBatch", C_BadBatch), ("Busy", C_Busy), ("Empty", C_Empty), ("Impossible", C_Impossible), ("NoHistory", C_NoHistory), ("NoOrder", C_NoOrder), ("NothingToUndo", C_NothingToUndo), ("TooManyEdits", C_TooManyEdits)] fa) r l1 l2) 3 "_law_made" ["_law_values"] S_law_made := ⟨f37, v37, w_law_made F37 M_BadDemand M_BadCount M_Absent M_BadTimes M_BadText M_BadHistory M_NoIndex M_NoGroup M_BadWord M_Rejected M_NoVersion M_NoPerson M_TooLarge FE_person FE_index FE_value FE_error FE_version FE_limit (fun ds Q E h => by first | (simp only [S_law_made] at h; split at h <;> first | rfl | exact h.elim) | (obtain ⟨rfl, _⟩ := h; rfl) | (obtain ⟨_, rfl, _⟩ := h; rfl) | (obtain ⟨_, _, rfl, _⟩ := h; rfl) | (obtain ⟨_, _, _, rfl, _⟩ := h; rfl) | (obtain ⟨_, _, _, _, rfl, _⟩ := h; rfl) | (obtain ⟨_, _, _, _, _, rfl, _⟩ := h; rfl) | (obtain ⟨_, _, _, _, _, _, rfl, _⟩ := h; rfl) | (obtain ⟨_, _, _, _, _, _, _, rfl, _⟩ := h; rfl) | (obtain ⟨_, _, _, _, _, _, _, _, _, _, _, _, _, rfl, _⟩ := h; rfl)) l_law_made, g37, p37, B37⟩
  have T31 := take_v (cls := (clsOf [("TooLarge", C_TooLarge), ("Absent", C_Absent), ("BadCount", C_BadCount), ("BadDemand", C_BadDemand), ("BadHistory", C_BadHistory), ("BadText", C_BadText), ("BadTimes", C_BadTimes), ("BadWord", C_BadWord), ("NoGroup", C_NoGroup), ("NoIndex", C_NoIndex), ("NoPerson", C_NoPerson), ("NoVersion", C_NoVersion), ("Rejected", C_Rejected), ("BadBatch", C_BadBatch), ("Busy", C_Busy), ("Empty", C_Empty), ("Impossible", C_Impossible), ("NoHistory", C_NoHistory), ("NoOrder", C_NoOrder), ("NothingToUndo", C_NothingToUndo), ("TooManyEdits", C_TooManyEdits)] fa)) (r := r) (l1 := l1) (l2 := l2) O31
  have C31 : Cal l.prog w K mg base (bagB (clsOf [("TooLarge", C_TooLarge), ("Absent", C_Absent), ("BadCount", C_BadCount), ("BadDemand", C_BadDemand), ("BadHistory", C_BadHistory), ("BadText", C_BadText), ("BadTimes", C_BadTimes), ("BadWord", C_BadWord), ("NoGroup", C_NoGroup), ("NoIndex", C_NoIndex), ("NoPerson", C_NoPerson), ("NoVersion", C_NoVersion), ("Rejected", C_Rejected), ("BadBatch", C_BadBatch), ("Busy", C_Busy), ("Empty", C_Empty), ("Impossible", C_Impossible), ("NoHistory", C_NoHistory), ("NoOrder", C_NoOrder), ("NothingToUndo", C_NothingToUndo), ("TooManyEdits", C_TooManyEdits)] fa) r l1 l2) 1 "_law_take" ["_law_bag", "_law_many"] (svTake r) := ⟨f31, v31, T31, g31, p31, B31⟩
  have C32 : Cal l.prog w K mg base (bagB (clsOf [("TooLarge", C_TooLarge), ("Absent", C_Absent), ("BadCount", C_BadCount), ("BadDemand", C_BadDemand), ("BadHistory", C_BadHistory), ("BadText", C_BadText), ("BadTimes", C_BadTimes), ("BadWord", C_BadWord), ("NoGroup", C_NoGroup), ("NoIndex", C_NoIndex), ("NoPerson", C_NoPerson), ("NoVersion", C_NoVersion), ("Rejected", C_Rejected), ("BadBatch", C_BadBatch), ("Busy", C_Busy), ("Empty", C_Empty), ("Impossible", C_Impossible), ("NoHistory", C_NoHistory), ("NoOrder", C_NoOrder), ("NothingToUndo", C_NothingToUndo), ("TooManyEdits", C_TooManyEdits)] fa) r l1 l2) 2 "_law_pick" ["_law_bag", "_law_items"] (svPick r) := ⟨f32, v32, ok_pick F32 T31 g31 p31 B31 y_len, g32, p32, B32⟩
  have C33 : Cal l.prog w K mg base (bagB (clsOf [("TooLarge", C_TooLarge), ("Absent", C_Absent), ("BadCount", C_BadCount), ("BadDemand", C_BadDemand), ("BadHistory", C_BadHistory), ("BadText", C_BadText), ("BadTimes", C_BadTimes), ("BadWord", C_BadWord), ("NoGroup", C_NoGroup), ("NoIndex", C_NoIndex), ("NoPerson", C_NoPerson), ("NoVersion", C_NoVersion), ("Rejected", C_Rejected), ("BadBatch", C_BadBatch), ("Busy", C_Busy), ("Empty", C_Empty), ("Impossible", C_Impossible), ("NoHistory", C_NoHistory), ("NoOrder", C_NoOrder), ("NothingToUndo", C_NothingToUndo), ("TooManyEdits", C_TooManyEdits)] fa) r l1 l2) 3 "_law_odd" ["_law_bag"] (S_law_odd r) := ⟨f33, v33, w_law_odd F33 C32 (fun ds Q E h => by first | (simp only [S_law_odd] at h; split at h <;> first | rfl | exact h.elim) | (obtain ⟨rfl, _⟩ := h; rfl) | (obtain ⟨_, rfl, _⟩ := h; rfl) | (obtain ⟨_, _, rfl, _⟩ := h; rfl) | (obtain ⟨_, _, _, rfl, _⟩ := h; rfl) | (obtain ⟨_, _, _, _, rfl, _⟩ := h; rfl) | (obtain ⟨_, _, _, _, _, rfl, _⟩ := h; rfl) | (obtain ⟨_, _, _, _, _, _, rfl, _⟩ := h; rfl) | (obtain ⟨_, _, _, _, _, _, _, rfl, _⟩ := h; rfl) | (obtain ⟨_, _, _, _, _, _, _, _, _, _, _, _, _, rfl, _⟩ := h; rfl)) (l_law_odd r), g33, p33, B33⟩
  have C34 : Cal l.prog w K mg base (bagB (clsOf [("TooLarge", C_TooLarge), ("Absent", C_Absent), ("BadCount", C_BadCount), ("BadDemand", C_BadDemand), ("BadHistory", C_BadHistory), ("BadText", C_BadText), ("BadTimes", C_BadTimes), ("BadWord", C_BadWord), ("NoGroup", C_NoGroup), ("NoIndex", C_NoIndex), ("NoPerson", C_NoPerson), ("NoVersion", C_NoVersion), ("Rejected", C_Rejected), ("BadBatch", C_BadBatch), ("Busy", C_Busy), ("Empty", C_Empty), ("Impossible", C_Impossible), ("NoHistory", C_NoHistory), ("NoOrder", C_NoOrder), ("NothingToUndo", C_NothingToUndo), ("TooManyEdits", C_TooManyEdits)] fa) r l1 l2) 1 "_law_plain" ["_law_error"] S_law_plain := ⟨f34, v34, w_law_plain F34 y_isinstance y_range T_BadBatch EC T_Busy T_Empty T_Impossible T_NoHistory T_NoOrder T_NothingToUndo T_TooManyEdits (fun ds Q E h => by first | (simp only [S_law_plain] at h; split at h <;> first | rfl | exact h.elim) | (obtain ⟨rfl, _⟩ := h; rfl) | (obtain ⟨_, rfl, _⟩ := h; rfl) | (obtain ⟨_, _, rfl, _⟩ := h; rfl) | (obtain ⟨_, _, _, rfl, _⟩ := h; rfl) | (obtain ⟨_, _, _, _, rfl, _⟩ := h; rfl) | (obtain ⟨_, _, _, _, _, rfl, _⟩ := h; rfl) | (obtain ⟨_, _, _, _, _, _, rfl, _⟩ := h; rfl) | (obtain ⟨_, _, _, _, _, _, _, rfl, _⟩ := h; rfl) | (obtain ⟨_, _, _, _, _, _, _, _, _, _, _, _, _, rfl, _⟩ := h; rfl)) l_law_plain, g34, p34, B34⟩
  have C35 : Cal l.prog w K mg base (bagB (clsOf [("TooLarge", C_TooLarge), ("Absent", C_Absent), ("BadCount", C_BadCount), ("BadDemand", C_BadDemand), ("BadHistory", C_BadHistory), ("BadText", C_BadText), ("BadTimes", C_BadTimes), ("BadWord", C_BadWord), ("NoGroup", C_NoGroup), ("NoIndex", C_NoIndex), ("NoPerson", C_NoPerson), ("NoVersion", C_NoVersion), ("Rejected", C_Rejected), ("BadBatch", C_BadBatch), ("Busy", C_Busy), ("Empty", C_Empty), ("Impossible", C_Impossible), ("NoHistory", C_NoHistory), ("NoOrder", C_NoOrder), ("NothingToUndo", C_NothingToUndo), ("TooManyEdits", C_TooManyEdits)] fa) r l1 l2) 1 "_law_filled" ["_law_error"] S_law_filled := ⟨f35, v35, w_law_filled F35 y_isinstance y_range T_Absent EC T_BadCount T_BadDemand T_BadHistory T_BadText T_BadTimes T_BadWord T_NoGroup T_NoIndex T_NoPerson T_NoVersion T_Rejected T_TooLarge (fun ds Q E h => by first | (simp only [S_law_filled] at h; split at h <;> first | rfl | exact h.elim) | (obtain ⟨rfl, _⟩ := h; rfl) | (obtain ⟨_, rfl, _⟩ := h; rfl) | (obtain ⟨_, _, rfl, _⟩ := h; rfl) | (obtain ⟨_, _, _, rfl, _⟩ := h; rfl) | (obtain ⟨_, _, _, _, rfl, _⟩ := h; rfl) | (obtain ⟨_, _, _, _, _, rfl, _⟩ := h; rfl) | (obtain ⟨_, _, _, _, _, _, rfl, _⟩ := h; rfl) | (obtain ⟨_, _, _, _, _, _, _, rfl, _⟩ := h; rfl) | (obtain ⟨_, _, _, _, _, _, _, _, _, _, _, _, _, rfl, _⟩ := h; rfl)) l_law_filled, g35, p35, B35⟩
  have C36 : Cal l.prog w K mg base (bagB (clsOf [("TooLarge", C_TooLarge), ("Absent", C_Absent), ("BadCount", C_BadCount), ("BadDemand", C_BadDemand), ("BadHistory", C_BadHistory), ("BadText", C_BadText), ("BadTimes", C_BadTimes), ("BadWord", C_BadWord), ("NoGroup", C_NoGroup), ("NoIndex", C_NoIndex), ("NoPerson", C_NoPerson), ("NoVersion", C_NoVersion), ("Rejected", C_Rejected), ("BadBatch", C_BadBatch), ("Busy", C_Busy), ("Empty", C_Empty), ("Impossible", C_Impossible), ("NoHistory", C_NoHistory), ("NoOrder", C_NoOrder), ("NothingToUndo", C_NothingToUndo), ("TooManyEdits", C_TooManyEdits)] fa) r l1 l2) 2 "_law_alone" ["_law_errors", "_law_others"] S_law_alone := ⟨f36, v36, w_law_alone F36 C34 C35 y_enumerate y_isinstance y_ValueError T_LineError EC EV (fun ds Q E h => by first | (simp only [S_law_alone] at h; split at h <;> first | rfl | exact h.elim) | (obtain ⟨rfl, _⟩ := h; rfl) | (obtain ⟨_, rfl, _⟩ := h; rfl) | (obtain ⟨_, _, rfl, _⟩ := h; rfl) | (obtain ⟨_, _, _, rfl, _⟩ := h; rfl) | (obtain ⟨_, _, _, _, rfl, _⟩ := h; rfl) | (obtain ⟨_, _, _, _, _, rfl, _⟩ := h; rfl) | (obtain ⟨_, _, _, _, _, _, rfl, _⟩ := h; rfl) | (obtain ⟨_, _, _, _, _, _, _, rfl, _⟩ := h; rfl) | (obtain ⟨_, _, _, _, _, _, _, _, _, _, _, _, _, rfl, _⟩ := h; rfl)) l_law_alone, g36, p36, B36⟩
  exact w_law C33 C37 C36 ⟨_, c0⟩ ⟨_, c1⟩ ⟨_, c2⟩ ⟨_, c3⟩ ⟨_, c4⟩ ⟨_, c5⟩ y_range y_repr M_BadBatch M_Busy M_Empty M_Impossible M_NoHistory M_NoOrder M_NothingToUndo M_TooManyEdits cdv A outer s H E hr hgd tk
end LawP
set_option linter.all false
set_option maxRecDepth 100000
set_option maxHeartbeats 0
open PySem PySem.W PyProof.Rows in
theorem PySem.Challenge.cw_matesline_k01_limits_and_errors_holds : PySem.Challenge.rw_matesline_k01_limits_and_errors.Holds := by
  w_on; o_law; k_head; (case hw => w_witness2)
  k_fill
  refine VL.walkG (l := PySem.Challenge.rw_matesline_k01_limits_and_errors) (n := 63) (k := 4) (x := "_law_script") (sp := fun w => VL.spLaw _) rfl (by decide) rfl ⟨rfl, by decide, by decide⟩ (fun w h Y => PySem.W.kIn_of Y) ?F (fun _ _ a ns hl _ hS => ⟨a, ns, rfl, hS, hl, fun _ => rfl⟩)
  case F =>
    intro w mg fa h KX G hmg
    refine' LawP.all_mk KX G hmg ?d30 ?d37 ?d31 ?d32 ?d33 ?d34 ?d35 ?d36 ?d38 ?m0 ?m1 ?m2 ?m3 ?m4 ?m5 ?z0 ?z1 ?z2 ?z3 ?z4 ?z5 ?z6 ?z7 ?r0 ?r1 ?r2 ?r3 ?r4 ?r5 ?r6 ?r7 ?r8 ?r9 ?r10 ?r11 ?r12 ?r13 ?r14 ?r15 ?r16 ?r17 ?r18 ?r19 ?r20 ?q0 ?q1 ?q2 ?q3 ?q4 ?q5 ?q6 ?q7 ?q8 ?q9 ?q10 ?q11 ?q12 ?q13 ?q14 ?q15 ?q16 ?q17 ?q18 ?q19 ?q20 ?q21 ?s0 ?s1 ?s2 ?s3 ?s4 ?s5 ?s6 ?s7 ?s8 ?s9 ?s10 ?s11 ?s12 ?s13 ?s14 ?s15 ?s16 ?s17 ?s18 ?s19 ?s20 ?s21 ?s22 ?s23 ?s24 ?s25 ?s26 ?s27 ?s28 ?s29 ?s30 ?s31 ?s32 ?s33 ?s34 ?s35 ?s36 ?s37 ?s38 ?s39 ?s40 ?s41 ?s42 ?s43 ?s44 ?s45 ?s46 ?s47 ?s48 ?s49 ?s50 ?s51 ?s52 ?s53 ?s54 ?s55 ?s56 ?s57 ?s58 ?s59 ?s60 ?s61 ?s62 ?s63 ?s64 ?s65 ?s66 ?s67 ?s68 ?s69 ?s70 ?s71 ?s72 ?s73 ?s74 ?s75 ?s76 ?s77 ?s78 ?s79 ?s80 ?s81 ?s82 ?s83 ?s84 ?s85 ?s86 ?s87 ?s88 ?s89 ?s90 ?s91 ?s92 ?s93 ?s94 ?s95 ?s96 ?s97 ?s98 ?s99 ?s100 ?s101 ?s102 ?s103 ?s104 ?s105 ?s106 ?s107 ?s108 ?s109 ?s110 ?s111 ?s112 ?s113 ?s114 ?s115 ?s116 ?s117 ?s118 ?s119 ?s120 ?s121 ?s122 ?s123 ?s124 ?s125 ?s126 ?s127 ?s128 ?s129 ?s130 ?s131 ?s132 ?s133 ?s134 ?s135 ?s136 ?s137 ?s138 ?s139 ?s140 ?s141 ?s142 ?s143 ?s144 ?s145 ?s146 ?s147 ?s148 ?s149 ?s150 ?s151 ?s152 ?s153 ?s154 ?s155 ?s156 ?s157 ?s158 ?s159 ?s160 ?s161 ?s162 ?s163 ?s164 ?s165 ?s166 ?s167 ?s168 ?s169 ?s170 ?s171 ?s172 ?s173 ?s174 ?s175 ?s176 ?s177 ?s178 ?s179 ?s180 ?s181 ?s182 ?s183 ?s184 ?s185 ?s186 ?s187 ?s188 ?s189 ?s190 ?s191 ?s192 ?s193 ?s194 ?s195 ?s196 ?s197 ?s198 ?s199 ?s200 ?s201 ?s202 ?s203 ?s204 ?s205 ?s206 ?s207 ?s208 ?s209 ?s210 ?s211 ?s212 ?s213 ?s214 ?s215 ?s216 ?s217 ?s218 ?s219 ?s220 ?s221 ?s222 ?s223 ?s224 ?s225 ?s226 ?s227 ?s228 ?s229 ?s230 ?s231 ?s232 ?s233 ?s234 ?s235 ?s236 ?s237 ?s238 ?s239 ?s240 ?s241 ?s242 ?s243 ?s244 ?s245 ?s246 ?s247 ?s248 ?s249 ?s250 ?s251 ?s252 ?s253 ?s254 ?s255 ?s256 ?s257 ?s258 ?s259 ?s260 ?s261 ?s262 ?s263 ?s264 ?s265 ?s266 ?s267 ?s268 ?s269 ?s270 ?s271 ?s272 ?s273 ?s274 ?s275 ?s276 ?s277 ?s278 ?s279 ?s280 ?s281 ?s282 ?s283 ?s284 ?s285 ?s286 ?s287 ?s288 ?s289 ?s290 ?s291 ?s292 ?s293 ?s294 ?s295 ?s296 ?s297 ?s298 ?s299 ?s300 ?s301 ?s302 ?s303 ?s304 ?s305 ?s306 ?s307 ?s308 ?s309 ?s310 ?s311 ?s312 ?s313 ?s314 ?s315 ?s316 ?s317 ?s318 ?s319 ?s320 ?s321 ?s322 ?s323 ?s324 ?s325 ?s326 ?s327 ?s328 ?s329 ?s330 ?s331 ?s332 ?s333 ?s334 ?s335 ?s336 ?s337 ?s338 ?s339 ?s340 ?s341 ?s342 ?s343 ?s344 ?s345 ?s346 ?s347 ?s348 ?s349 ?s350 ?s351 ?s352 ?s353 ?s354 ?s355 ?s356 ?s357 ?s358 ?s359 ?s360 ?s361 ?s362 ?s363 ?s364 ?s365 ?s366 ?s367 ?s368 ?s369 ?s370 ?s371 ?s372 ?s373 ?s374 ?s375 ?s376 ?s377 ?s378 ?s379 ?s380 ?s381 ?s382 ?s383 ?s384 ?s385 ?s386 ?s387 ?s388 ?s389 ?s390 ?s391 ?s392 ?s393 ?s394 ?s395 ?s396 ?s397 ?s398 ?s399 ?s400 ?s401 ?s402 ?s403 ?s404 ?s405 ?s406 ?s407 ?s408 ?s409 ?s410 ?s411 ?s412 ?s413 ?s414 ?s415 ?s416 ?s417 ?s418 ?s419 ?s420 ?s421 ?s422 ?s423 ?s424 ?s425 ?s426 ?s427 ?s428 ?s429 ?s430 ?s431 ?s432 ?s433 ?s434 ?s435 ?s436 ?s437 ?s438 ?s439 ?s440 ?s441 ?s442 ?s443 ?s444 ?s445 ?s446 ?s447 ?s448 ?s449 ?s450 ?s451 ?s452 ?s453 ?s454 ?s455 ?s456 ?s457 ?s458 ?s459 ?s460 ?s461
    (case d30 => refine' VL.defK ?a ?l ?c ?k; (case a => k_is); (case l => k_is); (case c => k_is); (case k => k_is))
    (case d37 => refine' VL.defK ?a ?l ?c ?k; (case a => k_is); (case l => k_is); (case c => k_is); (case k => k_is))
    (case d31 => refine' VL.defK ?a ?l ?c ?k; (case a => k_is); (case l => k_is); (case c => k_is); (case k => k_is))
    (case d32 => refine' VL.defK ?a ?l ?c ?k; (case a => k_is); (case l => k_is); (case c => k_is); (case k => k_is))
    (case d33 => refine' VL.defK ?a ?l ?c ?k; (case a => k_is); (case l => k_is); (case c => k_is); (case k => k_is))
    (case d34 => refine' VL.defK ?a ?l ?c ?k; (case a => k_is); (case l => k_is); (case c => k_is); (case k => k_is))
    (case d35 => refine' VL.defK ?a ?l ?c ?k; (case a => k_is); (case l => k_is); (case c => k_is); (case k => k_is))
    (case d36 => refine' VL.defK ?a ?l ?c ?k; (case a => k_is); (case l => k_is); (case c => k_is); (case k => k_is))
    (case d38 => refine' VL.defK ?a ?l ?c ?k; (case a => k_is); (case l => k_is); (case c => k_is); (case k => k_is))
    (case m0 => k_is)
    (case m1 => k_is)
    (case m2 => k_is)
    (case m3 => k_is)
    (case m4 => k_is)
    (case m5 => k_is)
    (case z0 => k_is)
    (case z1 => k_is)
    (case z2 => k_is)
    (case z3 => k_is)
    (case z4 => k_is)
    (case z5 => k_is)
    (case z6 => k_is)
    (case z7 => k_is)
    (case r0 => refine' VL.rai1 (VL.raiB ?a1 ?a2 ?a3 ?a4 ?a5 ?b1 ?b2 ?b3 ?b4 ?b5 ?b6 ?b7 ?b8) ?c1 ?c2 ?c3 ?c4 ?d1 ?d2 ?d3 ?d4 ?d5; (case a1 => k_is); (case a2 => k_is); (case a3 => k_is); (case a4 => k_is); (case a5 => k_is); (case b1 => k_is); (case b2 => k_is); (case b3 => k_is); (case b4 => k_is); (case b5 => k_is); (case b6 => k_is); (case b7 => k_is); (case b8 => k_is); (case c1 => k_is); (case c2 => decide +kernel); (case c3 => k_is); (case c4 => k_is); (case d1 => k_is); (case d2 => k_is); (case d3 => k_is); (case d4 => k_is); (case d5 => k_is))
    (case r1 => refine' VL.rai1 (VL.raiB ?a1 ?a2 ?a3 ?a4 ?a5 ?b1 ?b2 ?b3 ?b4 ?b5 ?b6 ?b7 ?b8) ?c1 ?c2 ?c3 ?c4 ?d1 ?d2 ?d3 ?d4 ?d5; (case a1 => k_is); (case a2 => k_is); (case a3 => k_is); (case a4 => k_is); (case a5 => k_is); (case b1 => k_is); (case b2 => k_is); (case b3 => k_is); (case b4 => k_is); (case b5 => k_is); (case b6 => k_is); (case b7 => k_is); (case b8 => k_is); (case c1 => k_is); (case c2 => decide +kernel); (case c3 => k_is); (case c4 => k_is); (case d1 => k_is); (case d2 => k_is); (case d3 => k_is); (case d4 => k_is); (case d5 => k_is))
    (case r2 => refine' VL.rai1 (VL.raiB ?a1 ?a2 ?a3 ?a4 ?a5 ?b1 ?b2 ?b3 ?b4 ?b5 ?b6 ?b7 ?b8) ?c1 ?c2 ?c3 ?c4 ?d1 ?d2 ?d3 ?d4 ?d5; (case a1 => k_is); (case a2 => k_is); (case a3 => k_is); (case a4 => k_is); (case a5 => k_is); (case b1 => k_is); (case b2 => k_is); (case b3 => k_is); (case b4 => k_is); (case b5 => k_is); (case b6 => k_is); (case b7 => k_is); (case b8 => k_is); (case c1 => k_is); (case c2 => decide +kernel); (case c3 => k_is); (case c4 => k_is); (case d1 => k_is); (case d2 => k_is); (case d3 => k_is); (case d4 => k_is); (case d5 => k_is))
    (case r3 => refine' VL.rai1 (VL.raiB ?a1 ?a2 ?a3 ?a4 ?a5 ?b1 ?b2 ?b3 ?b4 ?b5 ?b6 ?b7 ?b8) ?c1 ?c2 ?c3 ?c4 ?d1 ?d2 ?d3 ?d4 ?d5; (case a1 => k_is); (case a2 => k_is); (case a3 => k_is); (case a4 => k_is); (case a5 => k_is); (case b1 => k_is); (case b2 => k_is); (case b3 => k_is); (case b4 => k_is); (case b5 => k_is); (case b6 => k_is); (case b7 => k_is); (case b8 => k_is); (case c1 => k_is); (case c2 => decide +kernel); (case c3 => k_is); (case c4 => k_is); (case d1 => k_is); (case d2 => k_is); (case d3 => k_is); (case d4 => k_is); (case d5 => k_is))
    (case r4 => refine' VL.rai1 (VL.raiB ?a1 ?a2 ?a3 ?a4 ?a5 ?b1 ?b2 ?b3 ?b4 ?b5 ?b6 ?b7 ?b8) ?c1 ?c2 ?c3 ?c4 ?d1 ?d2 ?d3 ?d4 ?d5; (case a1 => k_is); (case a2 => k_is); (case a3 => k_is); (case a4 => k_is); (case a5 => k_is); (case b1 => k_is); (case b2 => k_is); (case b3 => k_is); (case b4 => k_is); (case b5 => k_is); (case b6 => k_is); (case b7 => k_is); (case b8 => k_is); (case c1 => k_is); (case c2 => decide +kernel); (case c3 => k_is); (case c4 => k_is); (case d1 => k_is); (case d2 => k_is); (case d3 => k_is); (case d4 => k_is); (case d5 => k_is))
    (case r5 => refine' VL.rai1 (VL.raiB ?a1 ?a2 ?a3 ?a4 ?a5 ?b1 ?b2 ?b3 ?b4 ?b5 ?b6 ?b7 ?b8) ?c1 ?c2 ?c3 ?c4 ?d1 ?d2 ?d3 ?d4 ?d5; (case a1 => k_is); (case a2 => k_is); (case a3 => k_is); (case a4 => k_is); (case a5 => k_is); (case b1 => k_is); (case b2 => k_is); (case b3 => k_is); (case b4 => k_is); (case b5 => k_is); (case b6 => k_is); (case b7 => k_is); (case b8 => k_is); (case c1 => k_is); (case c2 => decide +kernel); (case c3 => k_is); (case c4 => k_is); (case d1 => k_is); (case d2 => k_is); (case d3 => k_is); (case d4 => k_is); (case d5 => k_is))
    (case r6 => refine' VL.rai1 (VL.raiB ?a1 ?a2 ?a3 ?a4 ?a5 ?b1 ?b2 ?b3 ?b4 ?b5 ?b6 ?b7 ?b8) ?c1 ?c2 ?c3 ?c4 ?d1 ?d2 ?d3 ?d4 ?d5; (case a1 => k_is); (case a2 => k_is); (case a3 => k_is); (case a4 => k_is); (case a5 => k_is); (case b1 => k_is); (case b2 => k_is); (case b3 => k_is); (case b4 => k_is); (case b5 => k_is); (case b6 => k_is); (case b7 => k_is); (case b8 => k_is); (case c1 => k_is); (case c2 => decide +kernel); (case c3 => k_is); (case c4 => k_is); (case d1 => k_is); (case d2 => k_is); (case d3 => k_is); (case d4 => k_is); (case d5 => k_is))
    (case r7 => refine' VL.rai1 (VL.raiB ?a1 ?a2 ?a3 ?a4 ?a5 ?b1 ?b2 ?b3 ?b4 ?b5 ?b6 ?b7 ?b8) ?c1 ?c2 ?c3 ?c4 ?d1 ?d2 ?d3 ?d4 ?d5; (case a1 => k_is); (case a2 => k_is); (case a3 => k_is); (case a4 => k_is); (case a5 => k_is); (case b1 => k_is); (case b2 => k_is); (case b3 => k_is); (case b4 => k_is); (case b5 => k_is); (case b6 => k_is); (case b7 => k_is); (case b8 => k_is); (case c1 => k_is); (case c2 => decide +kernel); (case c3 => k_is); (case c4 => k_is); (case d1 => k_is); (case d2 => k_is); (case d3 => k_is); (case d4 => k_is); (case d5 => k_is))
    (case r8 => refine' VL.rai1 (VL.raiB ?a1 ?a2 ?a3 ?a4 ?a5 ?b1 ?b2 ?b3 ?b4 ?b5 ?b6 ?b7 ?b8) ?c1 ?c2 ?c3 ?c4 ?d1 ?d2 ?d3 ?d4 ?d5; (case a1 => k_is); (case a2 => k_is); (case a3 => k_is); (case a4 => k_is); (case a5 => k_is); (case b1 => k_is); (case b2 => k_is); (case b3 => k_is); (case b4 => k_is); (case b5 => k_is); (case b6 => k_is); (case b7 => k_is); (case b8 => k_is); (case c1 => k_is); (case c2 => decide +kernel); (case c3 => k_is); (case c4 => k_is); (case d1 => k_is); (case d2 => k_is); (case d3 => k_is); (case d4 => k_is); (case d5 => k_is))
    (case r9 => refine' VL.rai1 (VL.raiB ?a1 ?a2 ?a3 ?a4 ?a5 ?b1 ?b2 ?b3 ?b4 ?b5 ?b6 ?b7 ?b8) ?c1 ?c2 ?c3 ?c4 ?d1 ?d2 ?d3 ?d4 ?d5; (case a1 => k_is); (case a2 => k_is); (case a3 => k_is); (case a4 => k_is); (case a5 => k_is); (case b1 => k_is); (case b2 => k_is); (case b3 => k_is); (case b4 => k_is); (case b5 => k_is); (case b6 => k_is); (case b7 => k_is); (case b8 => k_is); (case c1 => k_is); (case c2 => decide +kernel); (case c3 => k_is); (case c4 => k_is); (case d1 => k_is); (case d2 => k_is); (case d3 => k_is); (case d4 => k_is); (case d5 => k_is))
    (case r10 => refine' VL.rai1 (VL.raiB ?a1 ?a2 ?a3 ?a4 ?a5 ?b1 ?b2 ?b3 ?b4 ?b5 ?b6 ?b7 ?b8) ?c1 ?c2 ?c3 ?c4 ?d1 ?d2 ?d3 ?d4 ?d5; (case a1 => k_is); (case a2 => k_is); (case a3 => k_is); (case a4 => k_is); (case a5 => k_is); (case b1 => k_is); (case b2 => k_is); (case b3 => k_is); (case b4 => k_is); (case b5 => k_is); (case b6 => k_is); (case b7 => k_is); (case b8 => k_is); (case c1 => k_is); (case c2 => decide +kernel); (case c3 => k_is); (case c4 => k_is); (case d1 => k_is); (case d2 => k_is); (case d3 => k_is); (case d4 => k_is); (case d5 => k_is))
    (case r11 => refine' VL.rai1 (VL.raiB ?a1 ?a2 ?a3 ?a4 ?a5 ?b1 ?b2 ?b3 ?b4 ?b5 ?b6 ?b7 ?b8) ?c1 ?c2 ?c3 ?c4 ?d1 ?d2 ?d3 ?d4 ?d5; (case a1 => k_is); (case a2 => k_is); (case a3 => k_is); (case a4 => k_is); (case a5 => k_is); (case b1 => k_is); (case b2 => k_is); (case b3 => k_is); (case b4 => k_is); (case b5 => k_is); (case b6 => k_is); (case b7 => k_is); (case b8 => k_is); (case c1 => k_is); (case c2 => decide +kernel); (case c3 => k_is); (case c4 => k_is); (case d1 => k_is); (case d2 => k_is); (case d3 => k_is); (case d4 => k_is); (case d5 => k_is))
    (case r12 => refine' VL.rai1 (VL.raiB ?a1 ?a2 ?a3 ?a4 ?a5 ?b1 ?b2 ?b3 ?b4 ?b5 ?b6 ?b7 ?b8) ?c1 ?c2 ?c3 ?c4 ?d1 ?d2 ?d3 ?d4 ?d5; (case a1 => k_is); (case a2 => k_is); (case a3 => k_is); (case a4 => k_is); (case a5 => k_is); (case b1 => k_is); (case b2 => k_is); (case b3 => k_is); (case b4 => k_is); (case b5 => k_is); (case b6 => k_is); (case b7 => k_is); (case b8 => k_is); (case c1 => k_is); (case c2 => decide +kernel); (case c3 => k_is); (case c4 => k_is); (case d1 => k_is); (case d2 => k_is); (case d3 => k_is); (case d4 => k_is); (case d5 => k_is))
    (case r13 => refine' VL.rai0 (VL.raiB ?a1 ?a2 ?a3 ?a4 ?a5 ?b1 ?b2 ?b3 ?b4 ?b5 ?b6 ?b7 ?b8) ?e1; (case a1 => k_is); (case a2 => k_is); (case a3 => k_is); (case a4 => k_is); (case a5 => k_is); (case b1 => k_is); (case b2 => k_is); (case b3 => k_is); (case b4 => k_is); (case b5 => k_is); (case b6 => k_is); (case b7 => k_is); (case b8 => k_is); (case e1 => first | rfl | decide +kernel | k_exc))
    (case r14 => refine' VL.rai0 (VL.raiB ?a1 ?a2 ?a3 ?a4 ?a5 ?b1 ?b2 ?b3 ?b4 ?b5 ?b6 ?b7 ?b8) ?e1; (case a1 => k_is); (case a2 => k_is); (case a3 => k_is); (case a4 => k_is); (case a5 => k_is); (case b1 => k_is); (case b2 => k_is); (case b3 => k_is); (case b4 => k_is); (case b5 => k_is); (case b6 => k_is); (case b7 => k_is); (case b8 => k_is); (case e1 => first | rfl | decide +kernel | k_exc))
    (case r15 => refine' VL.rai0 (VL.raiB ?a1 ?a2 ?a3 ?a4 ?a5 ?b1 ?b2 ?b3 ?b4 ?b5 ?b6 ?b7 ?b8) ?e1; (case a1 => k_is); (case a2 => k_is); (case a3 => k_is); (case a4 => k_is); (case a5 => k_is); (case b1 => k_is); (case b2 => k_is); (case b3 => k_is); (case b4 => k_is); (case b5 => k_is); (case b6 => k_is); (case b7 => k_is); (case b8 => k_is); (case e1 => first | rfl | decide +kernel | k_exc))
    (case r16 => refine' VL.rai0 (VL.raiB ?a1 ?a2 ?a3 ?a4 ?a5 ?b1 ?b2 ?b3 ?b4 ?b5 ?b6 ?b7 ?b8) ?e1; (case a1 => k_is); (case a2 => k_is); (case a3 => k_is); (case a4 => k_is); (case a5 => k_is); (case b1 => k_is); (case b2 => k_is); (case b3 => k_is); (case b4 => k_is); (case b5 => k_is); (case b6 => k_is); (case b7 => k_is); (case b8 => k_is); (case e1 => first | rfl | decide +kernel | k_exc))
    (case r17 => refine' VL.rai0 (VL.raiB ?a1 ?a2 ?a3 ?a4 ?a5 ?b1 ?b2 ?b3 ?b4 ?b5 ?b6 ?b7 ?b8) ?e1; (case a1 => k_is); (case a2 => k_is); (case a3 => k_is); (case a4 => k_is); (case a5 => k_is); (case b1 => k_is); (case b2 => k_is); (case b3 => k_is); (case b4 => k_is); (case b5 => k_is); (case b6 => k_is); (case b7 => k_is); (case b8 => k_is); (case e1 => first | rfl | decide +kernel | k_exc))
    (case r18 => refine' VL.rai0 (VL.raiB ?a1 ?a2 ?a3 ?a4 ?a5 ?b1 ?b2 ?b3 ?b4 ?b5 ?b6 ?b7 ?b8) ?e1; (case a1 => k_is); (case a2 => k_is); (case a3 => k_is); (case a4 => k_is); (case a5 => k_is); (case b1 => k_is); (case b2 => k_is); (case b3 => k_is); (case b4 => k_is); (case b5 => k_is); (case b6 => k_is); (case b7 => k_is); (case b8 => k_is); (case e1 => first | rfl | decide +kernel | k_exc))
    (case r19 => refine' VL.rai0 (VL.raiB ?a1 ?a2 ?a3 ?a4 ?a5 ?b1 ?b2 ?b3 ?b4 ?b5 ?b6 ?b7 ?b8) ?e1; (case a1 => k_is); (case a2 => k_is); (case a3 => k_is); (case a4 => k_is); (case a5 => k_is); (case b1 => k_is); (case b2 => k_is); (case b3 => k_is); (case b4 => k_is); (case b5 => k_is); (case b6 => k_is); (case b7 => k_is); (case b8 => k_is); (case e1 => first | rfl | decide +kernel | k_exc))
    (case r20 => refine' VL.rai0 (VL.raiB ?a1 ?a2 ?a3 ?a4 ?a5 ?b1 ?b2 ?b3 ?b4 ?b5 ?b6 ?b7 ?b8) ?e1; (case a1 => k_is); (case a2 => k_is); (case a3 => k_is); (case a4 => k_is); (case a5 => k_is); (case b1 => k_is); (case b2 => k_is); (case b3 => k_is); (case b4 => k_is); (case b5 => k_is); (case b6 => k_is); (case b7 => k_is); (case b8 => k_is); (case e1 => first | rfl | decide +kernel | k_exc))
    (case q0 => refine' VL.tstK ?a1 ?a2 ?a3 ?a4; (case a1 => k_is); (case a2 => k_is); (case a3 => k_is); (case a4 => k_is))
    (case q1 => refine' VL.tstK ?a1 ?a2 ?a3 ?a4; (case a1 => k_is); (case a2 => k_is); (case a3 => k_is); (case a4 => k_is))
    (case q2 => refine' VL.tstK ?a1 ?a2 ?a3 ?a4; (case a1 => k_is); (case a2 => k_is); (case a3 => k_is); (case a4 => k_is))
    (case q3 => refine' VL.tstK ?a1 ?a2 ?a3 ?a4; (case a1 => k_is); (case a2 => k_is); (case a3 => k_is); (case a4 => k_is))
    (case q4 => refine' VL.tstK ?a1 ?a2 ?a3 ?a4; (case a1 => k_is); (case a2 => k_is); (case a3 => k_is); (case a4 => k_is))
    (case q5 => refine' VL.tstK ?a1 ?a2 ?a3 ?a4; (case a1 => k_is); (case a2 => k_is); (case a3 => k_is); (case a4 => k_is))
    (case q6 => refine' VL.tstK ?a1 ?a2 ?a3 ?a4; (case a1 => k_is); (case a2 => k_is); (case a3 => k_is); (case a4 => k_is))
    (case q7 => refine' VL.tstK ?a1 ?a2 ?a3 ?a4; (case a1 => k_is); (case a2 => k_is); (case a3 => k_is); (case a4 => k_is))
    (case q8 => refine' VL.tstK ?a1 ?a2 ?a3 ?a4; (case a1 => k_is); (case a2 => k_is); (case a3 => k_is); (case a4 => k_is))
    (case q9 => refine' VL.tstK ?a1 ?a2 ?a3 ?a4; (case a1 => k_is); (case a2 => k_is); (case a3 => k_is); (case a4 => k_is))
    (case q10 => refine' VL.tstK ?a1 ?a2 ?a3 ?a4; (case a1 => k_is); (case a2 => k_is); (case a3 => k_is); (case a4 => k_is))
    (case q11 => refine' VL.tstK ?a1 ?a2 ?a3 ?a4; (case a1 => k_is); (case a2 => k_is); (case a3 => k_is); (case a4 => k_is))
    (case q12 => refine' VL.tstK ?a1 ?a2 ?a3 ?a4; (case a1 => k_is); (case a2 => k_is); (case a3 => k_is); (case a4 => k_is))
    (case q13 => refine' VL.tstK ?a1 ?a2 ?a3 ?a4; (case a1 => k_is); (case a2 => k_is); (case a3 => k_is); (case a4 => k_is))
    (case q14 => refine' VL.tstK ?a1 ?a2 ?a3 ?a4; (case a1 => k_is); (case a2 => k_is); (case a3 => k_is); (case a4 => k_is))
    (case q15 => refine' VL.tstK ?a1 ?a2 ?a3 ?a4; (case a1 => k_is); (case a2 => k_is); (case a3 => k_is); (case a4 => k_is))
    (case q16 => refine' VL.tstK ?a1 ?a2 ?a3 ?a4; (case a1 => k_is); (case a2 => k_is); (case a3 => k_is); (case a4 => k_is))
    (case q17 => refine' VL.tstK ?a1 ?a2 ?a3 ?a4; (case a1 => k_is); (case a2 => k_is); (case a3 => k_is); (case a4 => k_is))
    (case q18 => refine' VL.tstK ?a1 ?a2 ?a3 ?a4; (case a1 => k_is); (case a2 => k_is); (case a3 => k_is); (case a4 => k_is))
    (case q19 => refine' VL.tstK ?a1 ?a2 ?a3 ?a4; (case a1 => k_is); (case a2 => k_is); (case a3 => k_is); (case a4 => k_is))
    (case q20 => refine' VL.tstK ?a1 ?a2 ?a3 ?a4; (case a1 => k_is); (case a2 => k_is); (case a3 => k_is); (case a4 => k_is))
    (case q21 => refine' VL.tstK ?a1 ?a2 ?a3 ?a4; (case a1 => k_is); (case a2 => k_is); (case a3 => k_is); (case a4 => k_is))
    (case s0 => refine' VL.subK ?a1 ?a2 ?a3 ?a4; (case a1 => k_is); (case a2 => k_is); (case a3 => k_is); (case a4 => decide +kernel))
    (case s1 => refine' VL.subK ?a1 ?a2 ?a3 ?a4; (case a1 => k_is); (case a2 => k_is); (case a3 => k_is); (case a4 => decide +kernel))
    (case s2 => refine' VL.subK ?a1 ?a2 ?a3 ?a4; (case a1 => k_is); (case a2 => k_is); (case a3 => k_is); (case a4 => decide +kernel))
    (case s3 => refine' VL.subK ?a1 ?a2 ?a3 ?a4; (case a1 => k_is); (case a2 => k_is); (case a3 => k_is); (case a4 => decide +kernel))
    (case s4 => refine' VL.subK ?a1 ?a2 ?a3 ?a4; (case a1 => k_is); (case a2 => k_is); (case a3 => k_is); (case a4 => decide +kernel))
    (case s5 => refine' VL.subK ?a1 ?a2 ?a3 ?a4; (case a1 => k_is); (case a2 => k_is); (case a3 => k_is); (case a4 => decide +kernel))
    (case s6 => refine' VL.subK ?a1 ?a2 ?a3 ?a4; (case a1 => k_is); (case a2 => k_is); (case a3 => k_is); (case a4 => decide +kernel))
    (case s7 => refine' VL.subK ?a1 ?a2 ?a3 ?a4; (case a1 => k_is); (case a2 => k_is); (case a3 => k_is); (case a4 => decide +kernel))
    (case s8 => refine' VL.subK ?a1 ?a2 ?a3 ?a4; (case a1 => k_is); (case a2 => k_is); (case a3 => k_is); (case a4 => decide +kernel))
    (case s9 => refine' VL.subK ?a1 ?a2 ?a3 ?a4; (case a1 => k_is); (case a2 => k_is); (case a3 => k_is); (case a4 => decide +kernel))
    (case s10 => refine' VL.subK ?a1 ?a2 ?a3 ?a4; (case a1 => k_is); (case a2 => k_is); (case a3 => k_is); (case a4 => decide +kernel))
    (case s11 => refine' VL.subK ?a1 ?a2 ?a3 ?a4; (case a1 => k_is); (case a2 => k_is); (case a3 => k_is); (case a4 => decide +kernel))
    (case s12 => refine' VL.subK ?a1 ?a2 ?a3 ?a4; (case a1 => k_is); (case a2 => k_is); (case a3 => k_is); (case a4 => decide +kernel))
    (case s13 => refine' VL.subK ?a1 ?a2 ?a3 ?a4; (case a1 => k_is); (case a2 => k_is); (case a3 => k_is); (case a4 => decide +kernel))
    (case s14 => refine' VL.subK ?a1 ?a2 ?a3 ?a4; (case a1 => k_is); (case a2 => k_is); (case a3 => k_is); (case a4 => decide +kernel))
    (case s15 => refine' VL.subK ?a1 ?a2 ?a3 ?a4; (case a1 => k_is); (case a2 => k_is); (case a3 => k_is); (case a4 => decide +kernel))
    (case s16 => refine' VL.subK ?a1 ?a2 ?a3 ?a4; (case a1 => k_is); (case a2 => k_is); (case a3 => k_is); (case a4 => decide +kernel))
    (case s17 => refine' VL.subK ?a1 ?a2 ?a3 ?a4; (case a1 => k_is); (case a2 => k_is); (case a3 => k_is); (case a4 => decide +kernel))
    (case s18 => refine' VL.subK ?a1 ?a2 ?a3 ?a4; (case a1 => k_is); (case a2 => k_is); (case a3 => k_is); (case a4 => decide +kernel))
    (case s19 => refine' VL.subK ?a1 ?a2 ?a3 ?a4; (case a1 => k_is); (case a2 => k_is); (case a3 => k_is); (case a4 => decide +kernel))
    (case s20 => refine' VL.subK ?a1 ?a2 ?a3 ?a4; (case a1 => k_is); (case a2 => k_is); (case a3 => k_is); (case a4 => decide +kernel))
    (case s21 => refine' VL.subK ?a1 ?a2 ?a3 ?a4; (case a1 => k_is); (case a2 => k_is); (case a3 => k_is); (case a4 => decide +kernel))
    (case s22 => refine' VL.subK ?a1 ?a2 ?a3 ?a4; (case a1 => k_is); (case a2 => k_is); (case a3 => k_is); (case a4 => decide +kernel))
    (case s23 => refine' VL.subK ?a1 ?a2 ?a3 ?a4; (case a1 => k_is); (case a2 => k_is); (case a3 => k_is); (case a4 => decide +kernel))
    (case s24 => refine' VL.subK ?a1 ?a2 ?a3 ?a4; (case a1 => k_is); (case a2 => k_is); (case a3 => k_is); (case a4 => decide +kernel))
    (case s25 => refine' VL.subK ?a1 ?a2 ?a3 ?a4; (case a1 => k_is); (case a2 => k_is); (case a3 => k_is); (case a4 => decide +kernel))
    (case s26 => refine' VL.subK ?a1 ?a2 ?a3 ?a4; (case a1 => k_is); (case a2 => k_is); (case a3 => k_is); (case a4 => decide +kernel))
    (case s27 => refine' VL.subK ?a1 ?a2 ?a3 ?a4; (case a1 => k_is); (case a2 => k_is); (case a3 => k_is); (case a4 => decide +kernel))
    (case s28 => refine' VL.subK ?a1 ?a2 ?a3 ?a4; (case a1 => k_is); (case a2 => k_is); (case a3 => k_is); (case a4 => decide +kernel))
    (case s29 => refine' VL.subK ?a1 ?a2 ?a3 ?a4; (case a1 => k_is); (case a2 => k_is); (case a3 => k_is); (case a4 => decide +kernel))
    (case s30 => refine' VL.subK ?a1 ?a2 ?a3 ?a4; (case a1 => k_is); (case a2 => k_is); (case a3 => k_is); (case a4 => decide +kernel))
    (case s31 => refine' VL.subK ?a1 ?a2 ?a3 ?a4; (case a1 => k_is); (case a2 => k_is); (case a3 => k_is); (case a4 => decide +kernel))
    (case s32 => refine' VL.subK ?a1 ?a2 ?a3 ?a4; (case a1 => k_is); (case a2 => k_is); (case a3 => k_is); (case a4 => decide +kernel))
    (case s33 => refine' VL.subK ?a1 ?a2 ?a3 ?a4; (case a1 => k_is); (case a2 => k_is); (case a3 => k_is); (case a4 => decide +kernel))
    (case s34 => refine' VL.subK ?a1 ?a2 ?a3 ?a4; (case a1 => k_is); (case a2 => k_is); (case a3 => k_is); (case a4 => decide +kernel))
    (case s35 => refine' VL.subK ?a1 ?a2 ?a3 ?a4; (case a1 => k_is); (case a2 => k_is); (case a3 => k_is); (case a4 => decide +kernel))
    (case s36 => refine' VL.subK ?a1 ?a2 ?a3 ?a4; (case a1 => k_is); (case a2 => k_is); (case a3 => k_is); (case a4 => decide +kernel))
    (case s37 => refine' VL.subK ?a1 ?a2 ?a3 ?a4; (case a1 => k_is); (case a2 => k_is); (case a3 => k_is); (case a4 => decide +kernel))
    (case s38 => refine' VL.subK ?a1 ?a2 ?a3 ?a4; (case a1 => k_is); (case a2 => k_is); (case a3 => k_is); (case a4 => decide +kernel))
    (case s39 => refine' VL.subK ?a1 ?a2 ?a3 ?a4; (case a1 => k_is); (case a2 => k_is); (case a3 => k_is); (case a4 => decide +kernel))
    (case s40 => refine' VL.subK ?a1 ?a2 ?a3 ?a4; (case a1 => k_is); (case a2 => k_is); (case a3 => k_is); (case a4 => decide +kernel))
    (case s41 => refine' VL.subK ?a1 ?a2 ?a3 ?a4; (case a1 => k_is); (case a2 => k_is); (case a3 => k_is); (case a4 => decide +kernel))
    (case s42 => refine' VL.subK ?a1 ?a2 ?a3 ?a4; (case a1 => k_is); (case a2 => k_is); (case a3 => k_is); (case a4 => decide +kernel))
    (case s43 => refine' VL.subK ?a1 ?a2 ?a3 ?a4; (case a1 => k_is); (case a2 => k_is); (case a3 => k_is); (case a4 => decide +kernel))
    (case s44 => refine' VL.subK ?a1 ?a2 ?a3 ?a4; (case a1 => k_is); (case a2 => k_is); (case a3 => k_is); (case a4 => decide +kernel))
    (case s45 => refine' VL.subK ?a1 ?a2 ?a3 ?a4; (case a1 => k_is); (case a2 => k_is); (case a3 => k_is); (case a4 => decide +kernel))
    (case s46 => refine' VL.subK ?a1 ?a2 ?a3 ?a4; (case a1 => k_is); (case a2 => k_is); (case a3 => k_is); (case a4 => decide +kernel))
    (case s47 => refine' VL.subK ?a1 ?a2 ?a3 ?a4; (case a1 => k_is); (case a2 => k_is); (case a3 => k_is); (case a4 => decide +kernel))
    (case s48 => refine' VL.subK ?a1 ?a2 ?a3 ?a4; (case a1 => k_is); (case a2 => k_is); (case a3 => k_is); (case a4 => decide +kernel))
    (case s49 => refine' VL.subK ?a1 ?a2 ?a3 ?a4; (case a1 => k_is); (case a2 => k_is); (case a3 => k_is); (case a4 => decide +kernel))
    (case s50 => refine' VL.subK ?a1 ?a2 ?a3 ?a4; (case a1 => k_is); (case a2 => k_is); (case a3 => k_is); (case a4 => decide +kernel))
    (case s51 => refine' VL.subK ?a1 ?a2 ?a3 ?a4; (case a1 => k_is); (case a2 => k_is); (case a3 => k_is); (case a4 => decide +kernel))
    (case s52 => refine' VL.subK ?a1 ?a2 ?a3 ?a4; (case a1 => k_is); (case a2 => k_is); (case a3 => k_is); (case a4 => decide +kernel))
    (case s53 => refine' VL.subK ?a1 ?a2 ?a3 ?a4; (case a1 => k_is); (case a2 => k_is); (case a3 => k_is); (case a4 => decide +kernel))
    (case s54 => refine' VL.subK ?a1 ?a2 ?a3 ?a4; (case a1 => k_is); (case a2 => k_is); (case a3 => k_is); (case a4 => decide +kernel))
    (case s55 => refine' VL.subK ?a1 ?a2 ?a3 ?a4; (case a1 => k_is); (case a2 => k_is); (case a3 => k_is); (case a4 => decide +kernel))
    (case s56 => refine' VL.subK ?a1 ?a2 ?a3 ?a4; (case a1 => k_is); (case a2 => k_is); (case a3 => k_is); (case a4 => decide +kernel))
    (case s57 => refine' VL.subK ?a1 ?a2 ?a3 ?a4; (case a1 => k_is); (case a2 => k_is); (case a3 => k_is); (case a4 => decide +kernel))
    (case s58 => refine' VL.subK ?a1 ?a2 ?a3 ?a4; (case a1 => k_is); (case a2 => k_is); (case a3 => k_is); (case a4 => decide +kernel))
    (case s59 => refine' VL.subK ?a1 ?a2 ?a3 ?a4; (case a1 => k_is); (case a2 => k_is); (case a3 => k_is); (case a4 => decide +kernel))
    (case s60 => refine' VL.subK ?a1 ?a2 ?a3 ?a4; (case a1 => k_is); (case a2 => k_is); (case a3 => k_is); (case a4 => decide +kernel))
    (case s61 => refine' VL.subK ?a1 ?a2 ?a3 ?a4; (case a1 => k_is); (case a2 => k_is); (case a3 => k_is); (case a4 => decide +kernel))
    (case s62 => refine' VL.subK ?a1 ?a2 ?a3 ?a4; (case a1 => k_is); (case a2 => k_is); (case a3 => k_is); (case a4 => decide +kernel))
    (case s63 => refine' VL.subK ?a1 ?a2 ?a3 ?a4; (case a1 => k_is); (case a2 => k_is); (case a3 => k_is); (case a4 => decide +kernel))
    (case s64 => refine' VL.subK ?a1 ?a2 ?a3 ?a4; (case a1 => k_is); (case a2 => k_is); (case a3 => k_is); (case a4 => decide +kernel))
    (case s65 => refine' VL.subK ?a1 ?a2 ?a3 ?a4; (case a1 => k_is); (case a2 => k_is); (case a3 => k_is); (case a4 => decide +kernel))
    (case s66 => refine' VL.subK ?a1 ?a2 ?a3 ?a4; (case a1 => k_is); (case a2 => k_is); (case a3 => k_is); (case a4 => decide +kernel))
    (case s67 => refine' VL.subK ?a1 ?a2 ?a3 ?a4; (case a1 => k_is); (case a2 => k_is); (case a3 => k_is); (case a4 => decide +kernel))
    (case s68 => refine' VL.subK ?a1 ?a2 ?a3 ?a4; (case a1 => k_is); (case a2 => k_is); (case a3 => k_is); (case a4 => decide +kernel))
    (case s69 => refine' VL.subK ?a1 ?a2 ?a3 ?a4; (case a1 => k_is); (case a2 => k_is); (case a3 => k_is); (case a4 => decide +kernel))
    (case s70 => refine' VL.subK ?a1 ?a2 ?a3 ?a4; (case a1 => k_is); (case a2 => k_is); (case a3 => k_is); (case a4 => decide +kernel))
    (case s71 => refine' VL.subK ?a1 ?a2 ?a3 ?a4; (case a1 => k_is); (case a2 => k_is); (case a3 => k_is); (case a4 => decide +kernel))
    (case s72 => refine' VL.subK ?a1 ?a2 ?a3 ?a4; (case a1 => k_is); (case a2 => k_is); (case a3 => k_is); (case a4 => decide +kernel))
    (case s73 => refine' VL.subK ?a1 ?a2 ?a3 ?a4; (case a1 => k_is); (case a2 => k_is); (case a3 => k_is); (case a4 => decide +kernel))
    (case s74 => refine' VL.subK ?a1 ?a2 ?a3 ?a4; (case a1 => k_is); (case a2 => k_is); (case a3 => k_is); (case a4 => decide +kernel))
    (case s75 => refine' VL.subK ?a1 ?a2 ?a3 ?a4; (case a1 => k_is); (case a2 => k_is); (case a3 => k_is); (case a4 => decide +kernel))
    (case s76 => refine' VL.subK ?a1 ?a2 ?a3 ?a4; (case a1 => k_is); (case a2 => k_is); (case a3 => k_is); (case a4 => decide +kernel))
    (case s77 => refine' VL.subK ?a1 ?a2 ?a3 ?a4; (case a1 => k_is); (case a2 => k_is); (case a3 => k_is); (case a4 => decide +kernel))
    (case s78 => refine' VL.subK ?a1 ?a2 ?a3 ?a4; (case a1 => k_is); (case a2 => k_is); (case a3 => k_is); (case a4 => decide +kernel))
    (case s79 => refine' VL.subK ?a1 ?a2 ?a3 ?a4; (case a1 => k_is); (case a2 => k_is); (case a3 => k_is); (case a4 => decide +kernel))
    (case s80 => refine' VL.subK ?a1 ?a2 ?a3 ?a4; (case a1 => k_is); (case a2 => k_is); (case a3 => k_is); (case a4 => decide +kernel))
    (case s81 => refine' VL.subK ?a1 ?a2 ?a3 ?a4; (case a1 => k_is); (case a2 => k_is); (case a3 => k_is); (case a4 => decide +kernel))
    (case s82 => refine' VL.subK ?a1 ?a2 ?a3 ?a4; (case a1 => k_is); (case a2 => k_is); (case a3 => k_is); (case a4 => decide +kernel))
    (case s83 => refine' VL.subK ?a1 ?a2 ?a3 ?a4; (case a1 => k_is); (case a2 => k_is); (case a3 => k_is); (case a4 => decide +kernel))
    (case s84 => refine' VL.subK ?a1 ?a2 ?a3 ?a4; (case a1 => k_is); (case a2 => k_is); (case a3 => k_is); (case a4 => decide +kernel))
    (case s85 => refine' VL.subK ?a1 ?a2 ?a3 ?a4; (case a1 => k_is); (case a2 => k_is); (case a3 => k_is); (case a4 => decide +kernel))
    (case s86 => refine' VL.subK ?a1 ?a2 ?a3 ?a4; (case a1 => k_is); (case a2 => k_is); (case a3 => k_is); (case a4 => decide +kernel))
    (case s87 => refine' VL.subK ?a1 ?a2 ?a3 ?a4; (case a1 => k_is); (case a2 => k_is); (case a3 => k_is); (case a4 => decide +kernel))
    (case s88 => refine' VL.subK ?a1 ?a2 ?a3 ?a4; (case a1 => k_is); (case a2 => k_is); (case a3 => k_is); (case a4 => decide +kernel))
    (case s89 => refine' VL.subK ?a1 ?a2 ?a3 ?a4; (case a1 => k_is); (case a2 => k_is); (case a3 => k_is); (case a4 => decide +kernel))
    (case s90 => refine' VL.subK ?a1 ?a2 ?a3 ?a4; (case a1 => k_is); (case a2 => k_is); (case a3 => k_is); (case a4 => decide +kernel))
    (case s91 => refine' VL.subK ?a1 ?a2 ?a3 ?a4; (case a1 => k_is); (case a2 => k_is); (case a3 => k_is); (case a4 => decide +kernel))
    (case s92 => refine' VL.subK ?a1 ?a2 ?a3 ?a4; (case a1 => k_is); (case a2 => k_is); (case a3 => k_is); (case a4 => decide +kernel))
    (case s93 => refine' VL.subK ?a1 ?a2 ?a3 ?a4; (case a1 => k_is); (case a2 => k_is); (case a3 => k_is); (case a4 => decide +kernel))
    (case s94 => refine' VL.subK ?a1 ?a2 ?a3 ?a4; (case a1 => k_is); (case a2 => k_is); (case a3 => k_is); (case a4 => decide +kernel))
    (case s95 => refine' VL.subK ?a1 ?a2 ?a3 ?a4; (case a1 => k_is); (case a2 => k_is); (case a3 => k_is); (case a4 => decide +kernel))
    (case s96 => refine' VL.subK ?a1 ?a2 ?a3 ?a4; (case a1 => k_is); (case a2 => k_is); (case a3 => k_is); (case a4 => decide +kernel))
    (case s97 => refine' VL.subK ?a1 ?a2 ?a3 ?a4; (case a1 => k_is); (case a2 => k_is); (case a3 => k_is); (case a4 => decide +kernel))
    (case s98 => refine' VL.subK ?a1 ?a2 ?a3 ?a4; (case a1 => k_is); (case a2 => k_is); (case a3 => k_is); (case a4 => decide +kernel))
    (case s99 => refine' VL.subK ?a1 ?a2 ?a3 ?a4; (case a1 => k_is); (case a2 => k_is); (case a3 => k_is); (case a4 => decide +kernel))
    (case s100 => refine' VL.subK ?a1 ?a2 ?a3 ?a4; (case a1 => k_is); (case a2 => k_is); (case a3 => k_is); (case a4 => decide +kernel))
    (case s101 => refine' VL.subK ?a1 ?a2 ?a3 ?a4; (case a1 => k_is); (case a2 => k_is); (case a3 => k_is); (case a4 => decide +kernel))
    (case s102 => refine' VL.subK ?a1 ?a2 ?a3 ?a4; (case a1 => k_is); (case a2 => k_is); (case a3 => k_is); (case a4 => decide +kernel))
    (case s103 => refine' VL.subK ?a1 ?a2 ?a3 ?a4; (case a1 => k_is); (case a2 => k_is); (case a3 => k_is); (case a4 => decide +kernel))
    (case s104 => refine' VL.subK ?a1 ?a2 ?a3 ?a4; (case a1 => k_is); (case a2 => k_is); (case a3 => k_is); (case a4 => decide +kernel))
    (case s105 => refine' VL.subK ?a1 ?a2 ?a3 ?a4; (case a1 => k_is); (case a2 => k_is); (case a3 => k_is); (case a4 => decide +kernel))
    (case s106 => refine' VL.subK ?a1 ?a2 ?a3 ?a4; (case a1 => k_is); (case a2 => k_is); (case a3 => k_is); (case a4 => decide +kernel))
    (case s107 => refine' VL.subK ?a1 ?a2 ?a3 ?a4; (case a1 => k_is); (case a2 => k_is); (case a3 => k_is); (case a4 => decide +kernel))
    (case s108 => refine' VL.subK ?a1 ?a2 ?a3 ?a4; (case a1 => k_is); (case a2 => k_is); (case a3 => k_is); (case a4 => decide +kernel))
    (case s109 => refine' VL.subK ?a1 ?a2 ?a3 ?a4; (case a1 => k_is); (case a2 => k_is); (case a3 => k_is); (case a4 => decide +kernel))
    (case s110 => refine' VL.subK ?a1 ?a2 ?a3 ?a4; (case a1 => k_is); (case a2 => k_is); (case a3 => k_is); (case a4 => decide +kernel))
    (case s111 => refine' VL.subK ?a1 ?a2 ?a3 ?a4; (case a1 => k_is); (case a2 => k_is); (case a3 => k_is); (case a4 => decide +kernel))
    (case s112 => refine' VL.subK ?a1 ?a2 ?a3 ?a4; (case a1 => k_is); (case a2 => k_is); (case a3 => k_is); (case a4 => decide +kernel))
    (case s113 => refine' VL.subK ?a1 ?a2 ?a3 ?a4; (case a1 => k_is); (case a2 => k_is); (case a3 => k_is); (case a4 => decide +kernel))
    (case s114 => refine' VL.subK ?a1 ?a2 ?a3 ?a4; (case a1 => k_is); (case a2 => k_is); (case a3 => k_is); (case a4 => decide +kernel))
    (case s115 => refine' VL.subK ?a1 ?a2 ?a3 ?a4; (case a1 => k_is); (case a2 => k_is); (case a3 => k_is); (case a4 => decide +kernel))
    (case s116 => refine' VL.subK ?a1 ?a2 ?a3 ?a4; (case a1 => k_is); (case a2 => k_is); (case a3 => k_is); (case a4 => decide +kernel))
    (case s117 => refine' VL.subK ?a1 ?a2 ?a3 ?a4; (case a1 => k_is); (case a2 => k_is); (case a3 => k_is); (case a4 => decide +kernel))
    (case s118 => refine' VL.subK ?a1 ?a2 ?a3 ?a4; (case a1 => k_is); (case a2 => k_is); (case a3 => k_is); (case a4 => decide +kernel))
    (case s119 => refine' VL.subK ?a1 ?a2 ?a3 ?a4; (case a1 => k_is); (case a2 => k_is); (case a3 => k_is); (case a4 => decide +kernel))
    (case s120 => refine' VL.subK ?a1 ?a2 ?a3 ?a4; (case a1 => k_is); (case a2 => k_is); (case a3 => k_is); (case a4 => decide +kernel))
    (case s121 => refine' VL.subK ?a1 ?a2 ?a3 ?a4; (case a1 => k_is); (case a2 => k_is); (case a3 => k_is); (case a4 => decide +kernel))
    (case s122 => refine' VL.subK ?a1 ?a2 ?a3 ?a4; (case a1 => k_is); (case a2 => k_is); (case a3 => k_is); (case a4 => decide +kernel))
    (case s123 => refine' VL.subK ?a1 ?a2 ?a3 ?a4; (case a1 => k_is); (case a2 => k_is); (case a3 => k_is); (case a4 => decide +kernel))
    (case s124 => refine' VL.subK ?a1 ?a2 ?a3 ?a4; (case a1 => k_is); (case a2 => k_is); (case a3 => k_is); (case a4 => decide +kernel))
    (case s125 => refine' VL.subK ?a1 ?a2 ?a3 ?a4; (case a1 => k_is); (case a2 => k_is); (case a3 => k_is); (case a4 => decide +kernel))
    (case s126 => refine' VL.subK ?a1 ?a2 ?a3 ?a4; (case a1 => k_is); (case a2 => k_is); (case a3 => k_is); (case a4 => decide +kernel))
    (case s127 => refine' VL.subK ?a1 ?a2 ?a3 ?a4; (case a1 => k_is); (case a2 => k_is); (case a3 => k_is); (case a4 => decide +kernel))
    (case s128 => refine' VL.subK ?a1 ?a2 ?a3 ?a4; (case a1 => k_is); (case a2 => k_is); (case a3 => k_is); (case a4 => decide +kernel))
    (case s129 => refine' VL.subK ?a1 ?a2 ?a3 ?a4; (case a1 => k_is); (case a2 => k_is); (case a3 => k_is); (case a4 => decide +kernel))
    (case s130 => refine' VL.subK ?a1 ?a2 ?a3 ?a4; (case a1 => k_is); (case a2 => k_is); (case a3 => k_is); (case a4 => decide +kernel))
    (case s131 => refine' VL.subK ?a1 ?a2 ?a3 ?a4; (case a1 => k_is); (case a2 => k_is); (case a3 => k_is); (case a4 => decide +kernel))
    (case s132 => refine' VL.subK ?a1 ?a2 ?a3 ?a4; (case a1 => k_is); (case a2 => k_is); (case a3 => k_is); (case a4 => decide +kernel))
    (case s133 => refine' VL.subK ?a1 ?a2 ?a3 ?a4; (case a1 => k_is); (case a2 => k_is); (case a3 => k_is); (case a4 => decide +kernel))
    (case s134 => refine' VL.subK ?a1 ?a2 ?a3 ?a4; (case a1 => k_is); (case a2 => k_is); (case a3 => k_is); (case a4 => decide +kernel))
    (case s135 => refine' VL.subK ?a1 ?a2 ?a3 ?a4; (case a1 => k_is); (case a2 => k_is); (case a3 => k_is); (case a4 => decide +kernel))
    (case s136 => refine' VL.subK ?a1 ?a2 ?a3 ?a4; (case a1 => k_is); (case a2 => k_is); (case a3 => k_is); (case a4 => decide +kernel))
    (case s137 => refine' VL.subK ?a1 ?a2 ?a3 ?a4; (case a1 => k_is); (case a2 => k_is); (case a3 => k_is); (case a4 => decide +kernel))
    (case s138 => refine' VL.subK ?a1 ?a2 ?a3 ?a4; (case a1 => k_is); (case a2 => k_is); (case a3 => k_is); (case a4 => decide +kernel))
    (case s139 => refine' VL.subK ?a1 ?a2 ?a3 ?a4; (case a1 => k_is); (case a2 => k_is); (case a3 => k_is); (case a4 => decide +kernel))
    (case s140 => refine' VL.subK ?a1 ?a2 ?a3 ?a4; (case a1 => k_is); (case a2 => k_is); (case a3 => k_is); (case a4 => decide +kernel))
    (case s141 => refine' VL.subK ?a1 ?a2 ?a3 ?a4; (case a1 => k_is); (case a2 => k_is); (case a3 => k_is); (case a4 => decide +kernel))
    (case s142 => refine' VL.subK ?a1 ?a2 ?a3 ?a4; (case a1 => k_is); (case a2 => k_is); (case a3 => k_is); (case a4 => decide +kernel))
    (case s143 => refine' VL.subK ?a1 ?a2 ?a3 ?a4; (case a1 => k_is); (case a2 => k_is); (case a3 => k_is); (case a4 => decide +kernel))
    (case s144 => refine' VL.subK ?a1 ?a2 ?a3 ?a4; (case a1 => k_is); (case a2 => k_is); (case a3 => k_is); (case a4 => decide +kernel))
    (case s145 => refine' VL.subK ?a1 ?a2 ?a3 ?a4; (case a1 => k_is); (case a2 => k_is); (case a3 => k_is); (case a4 => decide +kernel))
    (case s146 => refine' VL.subK ?a1 ?a2 ?a3 ?a4; (case a1 => k_is); (case a2 => k_is); (case a3 => k_is); (case a4 => decide +kernel))
    (case s147 => refine' VL.subK ?a1 ?a2 ?a3 ?a4; (case a1 => k_is); (case a2 => k_is); (case a3 => k_is); (case a4 => decide +kernel))
    (case s148 => refine' VL.subK ?a1 ?a2 ?a3 ?a4; (case a1 => k_is); (case a2 => k_is); (case a3 => k_is); (case a4 => decide +kernel))
    (case s149 => refine' VL.subK ?a1 ?a2 ?a3 ?a4; (case a1 => k_is); (case a2 => k_is); (case a3 => k_is); (case a4 => decide +kernel))
    (case s150 => refine' VL.subK ?a1 ?a2 ?a3 ?a4; (case a1 => k_is); (case a2 => k_is); (case a3 => k_is); (case a4 => decide +kernel))
    (case s151 => refine' VL.subK ?a1 ?a2 ?a3 ?a4; (case a1 => k_is); (case a2 => k_is); (case a3 => k_is); (case a4 => decide +kernel))
    (case s152 => refine' VL.subK ?a1 ?a2 ?a3 ?a4; (case a1 => k_is); (case a2 => k_is); (case a3 => k_is); (case a4 => decide +kernel))
    (case s153 => refine' VL.subK ?a1 ?a2 ?a3 ?a4; (case a1 => k_is); (case a2 => k_is); (case a3 => k_is); (case a4 => decide +kernel))
    (case s154 => refine' VL.subK ?a1 ?a2 ?a3 ?a4; (case a1 => k_is); (case a2 => k_is); (case a3 => k_is); (case a4 => decide +kernel))
    (case s155 => refine' VL.subK ?a1 ?a2 ?a3 ?a4; (case a1 => k_is); (case a2 => k_is); (case a3 => k_is); (case a4 => decide +kernel))
    (case s156 => refine' VL.subK ?a1 ?a2 ?a3 ?a4; (case a1 => k_is); (case a2 => k_is); (case a3 => k_is); (case a4 => decide +kernel))
    (case s157 => refine' VL.subK ?a1 ?a2 ?a3 ?a4; (case a1 => k_is); (case a2 => k_is); (case a3 => k_is); (case a4 => decide +kernel))
    (case s158 => refine' VL.subK ?a1 ?a2 ?a3 ?a4; (case a1 => k_is); (case a2 => k_is); (case a3 => k_is); (case a4 => decide +kernel))
    (case s159 => refine' VL.subK ?a1 ?a2 ?a3 ?a4; (case a1 => k_is); (case a2 => k_is); (case a3 => k_is); (case a4 => decide +kernel))
    (case s160 => refine' VL.subK ?a1 ?a2 ?a3 ?a4; (case a1 => k_is); (case a2 => k_is); (case a3 => k_is); (case a4 => decide +kernel))
    (case s161 => refine' VL.subK ?a1 ?a2 ?a3 ?a4; (case a1 => k_is); (case a2 => k_is); (case a3 => k_is); (case a4 => decide +kernel))
    (case s162 => refine' VL.subK ?a1 ?a2 ?a3 ?a4; (case a1 => k_is); (case a2 => k_is); (case a3 => k_is); (case a4 => decide +kernel))
    (case s163 => refine' VL.subK ?a1 ?a2 ?a3 ?a4; (case a1 => k_is); (case a2 => k_is); (case a3 => k_is); (case a4 => decide +kernel))
    (case s164 => refine' VL.subK ?a1 ?a2 ?a3 ?a4; (case a1 => k_is); (case a2 => k_is); (case a3 => k_is); (case a4 => decide +kernel))
    (case s165 => refine' VL.subK ?a1 ?a2 ?a3 ?a4; (case a1 => k_is); (case a2 => k_is); (case a3 => k_is); (case a4 => decide +kernel))
    (case s166 => refine' VL.subK ?a1 ?a2 ?a3 ?a4; (case a1 => k_is); (case a2 => k_is); (case a3 => k_is); (case a4 => decide +kernel))
    (case s167 => refine' VL.subK ?a1 ?a2 ?a3 ?a4; (case a1 => k_is); (case a2 => k_is); (case a3 => k_is); (case a4 => decide +kernel))
    (case s168 => refine' VL.subK ?a1 ?a2 ?a3 ?a4; (case a1 => k_is); (case a2 => k_is); (case a3 => k_is); (case a4 => decide +kernel))
    (case s169 => refine' VL.subK ?a1 ?a2 ?a3 ?a4; (case a1 => k_is); (case a2 => k_is); (case a3 => k_is); (case a4 => decide +kernel))
    (case s170 => refine' VL.subK ?a1 ?a2 ?a3 ?a4; (case a1 => k_is); (case a2 => k_is); (case a3 => k_is); (case a4 => decide +kernel))
    (case s171 => refine' VL.subK ?a1 ?a2 ?a3 ?a4; (case a1 => k_is); (case a2 => k_is); (case a3 => k_is); (case a4 => decide +kernel))
    (case s172 => refine' VL.subK ?a1 ?a2 ?a3 ?a4; (case a1 => k_is); (case a2 => k_is); (case a3 => k_is); (case a4 => decide +kernel))
    (case s173 => refine' VL.subK ?a1 ?a2 ?a3 ?a4; (case a1 => k_is); (case a2 => k_is); (case a3 => k_is); (case a4 => decide +kernel))
    (case s174 => refine' VL.subK ?a1 ?a2 ?a3 ?a4; (case a1 => k_is); (case a2 => k_is); (case a3 => k_is); (case a4 => decide +kernel))
    (case s175 => refine' VL.subK ?a1 ?a2 ?a3 ?a4; (case a1 => k_is); (case a2 => k_is); (case a3 => k_is); (case a4 => decide +kernel))
    (case s176 => refine' VL.subK ?a1 ?a2 ?a3 ?a4; (case a1 => k_is); (case a2 => k_is); (case a3 => k_is); (case a4 => decide +kernel))
    (case s177 => refine' VL.subK ?a1 ?a2 ?a3 ?a4; (case a1 => k_is); (case a2 => k_is); (case a3 => k_is); (case a4 => decide +kernel))
    (case s178 => refine' VL.subK ?a1 ?a2 ?a3 ?a4; (case a1 => k_is); (case a2 => k_is); (case a3 => k_is); (case a4 => decide +kernel))
    (case s179 => refine' VL.subK ?a1 ?a2 ?a3 ?a4; (case a1 => k_is); (case a2 => k_is); (case a3 => k_is); (case a4 => decide +kernel))
    (case s180 => refine' VL.subK ?a1 ?a2 ?a3 ?a4; (case a1 => k_is); (case a2 => k_is); (case a3 => k_is); (case a4 => decide +kernel))
    (case s181 => refine' VL.subK ?a1 ?a2 ?a3 ?a4; (case a1 => k_is); (case a2 => k_is); (case a3 => k_is); (case a4 => decide +kernel))
    (case s182 => refine' VL.subK ?a1 ?a2 ?a3 ?a4; (case a1 => k_is); (case a2 => k_is); (case a3 => k_is); (case a4 => decide +kernel))
    (case s183 => refine' VL.subK ?a1 ?a2 ?a3 ?a4; (case a1 => k_is); (case a2 => k_is); (case a3 => k_is); (case a4 => decide +kernel))
    (case s184 => refine' VL.subK ?a1 ?a2 ?a3 ?a4; (case a1 => k_is); (case a2 => k_is); (case a3 => k_is); (case a4 => decide +kernel))
    (case s185 => refine' VL.subK ?a1 ?a2 ?a3 ?a4; (case a1 => k_is); (case a2 => k_is); (case a3 => k_is); (case a4 => decide +kernel))
    (case s186 => refine' VL.subK ?a1 ?a2 ?a3 ?a4; (case a1 => k_is); (case a2 => k_is); (case a3 => k_is); (case a4 => decide +kernel))
    (case s187 => refine' VL.subK ?a1 ?a2 ?a3 ?a4; (case a1 => k_is); (case a2 => k_is); (case a3 => k_is); (case a4 => decide +kernel))
    (case s188 => refine' VL.subK ?a1 ?a2 ?a3 ?a4; (case a1 => k_is); (case a2 => k_is); (case a3 => k_is); (case a4 => decide +kernel))
    (case s189 => refine' VL.subK ?a1 ?a2 ?a3 ?a4; (case a1 => k_is); (case a2 => k_is); (case a3 => k_is); (case a4 => decide +kernel))
    (case s190 => refine' VL.subK ?a1 ?a2 ?a3 ?a4; (case a1 => k_is); (case a2 => k_is); (case a3 => k_is); (case a4 => decide +kernel))
    (case s191 => refine' VL.subK ?a1 ?a2 ?a3 ?a4; (case a1 => k_is); (case a2 => k_is); (case a3 => k_is); (case a4 => decide +kernel))
    (case s192 => refine' VL.subK ?a1 ?a2 ?a3 ?a4; (case a1 => k_is); (case a2 => k_is); (case a3 => k_is); (case a4 => decide +kernel))
    (case s193 => refine' VL.subK ?a1 ?a2 ?a3 ?a4; (case a1 => k_is); (case a2 => k_is); (case a3 => k_is); (case a4 => decide +kernel))
    (case s194 => refine' VL.subK ?a1 ?a2 ?a3 ?a4; (case a1 => k_is); (case a2 => k_is); (case a3 => k_is); (case a4 => decide +kernel))
    (case s195 => refine' VL.subK ?a1 ?a2 ?a3 ?a4; (case a1 => k_is); (case a2 => k_is); (case a3 => k_is); (case a4 => decide +kernel))
    (case s196 => refine' VL.subK ?a1 ?a2 ?a3 ?a4; (case a1 => k_is); (case a2 => k_is); (case a3 => k_is); (case a4 => decide +kernel))
    (case s197 => refine' VL.subK ?a1 ?a2 ?a3 ?a4; (case a1 => k_is); (case a2 => k_is); (case a3 => k_is); (case a4 => decide +kernel))
    (case s198 => refine' VL.subK ?a1 ?a2 ?a3 ?a4; (case a1 => k_is); (case a2 => k_is); (case a3 => k_is); (case a4 => decide +kernel))
    (case s199 => refine' VL.subK ?a1 ?a2 ?a3 ?a4; (case a1 => k_is); (case a2 => k_is); (case a3 => k_is); (case a4 => decide +kernel))
    (case s200 => refine' VL.subK ?a1 ?a2 ?a3 ?a4; (case a1 => k_is); (case a2 => k_is); (case a3 => k_is); (case a4 => decide +kernel))
    (case s201 => refine' VL.subK ?a1 ?a2 ?a3 ?a4; (case a1 => k_is); (case a2 => k_is); (case a3 => k_is); (case a4 => decide +kernel))
    (case s202 => refine' VL.subK ?a1 ?a2 ?a3 ?a4; (case a1 => k_is); (case a2 => k_is); (case a3 => k_is); (case a4 => decide +kernel))
    (case s203 => refine' VL.subK ?a1 ?a2 ?a3 ?a4; (case a1 => k_is); (case a2 => k_is); (case a3 => k_is); (case a4 => decide +kernel))
    (case s204 => refine' VL.subK ?a1 ?a2 ?a3 ?a4; (case a1 => k_is); (case a2 => k_is); (case a3 => k_is); (case a4 => decide +kernel))
    (case s205 => refine' VL.subK ?a1 ?a2 ?a3 ?a4; (case a1 => k_is); (case a2 => k_is); (case a3 => k_is); (case a4 => decide +kernel))
    (case s206 => refine' VL.subK ?a1 ?a2 ?a3 ?a4; (case a1 => k_is); (case a2 => k_is); (case a3 => k_is); (case a4 => decide +kernel))
    (case s207 => refine' VL.subK ?a1 ?a2 ?a3 ?a4; (case a1 => k_is); (case a2 => k_is); (case a3 => k_is); (case a4 => decide +kernel))
    (case s208 => refine' VL.subK ?a1 ?a2 ?a3 ?a4; (case a1 => k_is); (case a2 => k_is); (case a3 => k_is); (case a4 => decide +kernel))
    (case s209 => refine' VL.subK ?a1 ?a2 ?a3 ?a4; (case a1 => k_is); (case a2 => k_is); (case a3 => k_is); (case a4 => decide +kernel))
    (case s210 => refine' VL.subK ?a1 ?a2 ?a3 ?a4; (case a1 => k_is); (case a2 => k_is); (case a3 => k_is); (case a4 => decide +kernel))
    (case s211 => refine' VL.subK ?a1 ?a2 ?a3 ?a4; (case a1 => k_is); (case a2 => k_is); (case a3 => k_is); (case a4 => decide +kernel))
    (case s212 => refine' VL.subK ?a1 ?a2 ?a3 ?a4; (case a1 => k_is); (case a2 => k_is); (case a3 => k_is); (case a4 => decide +kernel))
    (case s213 => refine' VL.subK ?a1 ?a2 ?a3 ?a4; (case a1 => k_is); (case a2 => k_is); (case a3 => k_is); (case a4 => decide +kernel))
    (case s214 => refine' VL.subK ?a1 ?a2 ?a3 ?a4; (case a1 => k_is); (case a2 => k_is); (case a3 => k_is); (case a4 => decide +kernel))
    (case s215 => refine' VL.subK ?a1 ?a2 ?a3 ?a4; (case a1 => k_is); (case a2 => k_is); (case a3 => k_is); (case a4 => decide +kernel))
    (case s216 => refine' VL.subK ?a1 ?a2 ?a3 ?a4; (case a1 => k_is); (case a2 => k_is); (case a3 => k_is); (case a4 => decide +kernel))
    (case s217 => refine' VL.subK ?a1 ?a2 ?a3 ?a4; (case a1 => k_is); (case a2 => k_is); (case a3 => k_is); (case a4 => decide +kernel))
    (case s218 => refine' VL.subK ?a1 ?a2 ?a3 ?a4; (case a1 => k_is); (case a2 => k_is); (case a3 => k_is); (case a4 => decide +kernel))
    (case s219 => refine' VL.subK ?a1 ?a2 ?a3 ?a4; (case a1 => k_is); (case a2 => k_is); (case a3 => k_is); (case a4 => decide +kernel))
    (case s220 => refine' VL.subK ?a1 ?a2 ?a3 ?a4; (case a1 => k_is); (case a2 => k_is); (case a3 => k_is); (case a4 => decide +kernel))
    (case s221 => refine' VL.subK ?a1 ?a2 ?a3 ?a4; (case a1 => k_is); (case a2 => k_is); (case a3 => k_is); (case a4 => decide +kernel))
    (case s222 => refine' VL.subK ?a1 ?a2 ?a3 ?a4; (case a1 => k_is); (case a2 => k_is); (case a3 => k_is); (case a4 => decide +kernel))
    (case s223 => refine' VL.subK ?a1 ?a2 ?a3 ?a4; (case a1 => k_is); (case a2 => k_is); (case a3 => k_is); (case a4 => decide +kernel))
    (case s224 => refine' VL.subK ?a1 ?a2 ?a3 ?a4; (case a1 => k_is); (case a2 => k_is); (case a3 => k_is); (case a4 => decide +kernel))
    (case s225 => refine' VL.subK ?a1 ?a2 ?a3 ?a4; (case a1 => k_is); (case a2 => k_is); (case a3 => k_is); (case a4 => decide +kernel))
    (case s226 => refine' VL.subK ?a1 ?a2 ?a3 ?a4; (case a1 => k_is); (case a2 => k_is); (case a3 => k_is); (case a4 => decide +kernel))
    (case s227 => refine' VL.subK ?a1 ?a2 ?a3 ?a4; (case a1 => k_is); (case a2 => k_is); (case a3 => k_is); (case a4 => decide +kernel))
    (case s228 => refine' VL.subK ?a1 ?a2 ?a3 ?a4; (case a1 => k_is); (case a2 => k_is); (case a3 => k_is); (case a4 => decide +kernel))
    (case s229 => refine' VL.subK ?a1 ?a2 ?a3 ?a4; (case a1 => k_is); (case a2 => k_is); (case a3 => k_is); (case a4 => decide +kernel))
    (case s230 => refine' VL.subK ?a1 ?a2 ?a3 ?a4; (case a1 => k_is); (case a2 => k_is); (case a3 => k_is); (case a4 => decide +kernel))
    (case s231 => refine' VL.subK ?a1 ?a2 ?a3 ?a4; (case a1 => k_is); (case a2 => k_is); (case a3 => k_is); (case a4 => decide +kernel))
    (case s232 => refine' VL.subK ?a1 ?a2 ?a3 ?a4; (case a1 => k_is); (case a2 => k_is); (case a3 => k_is); (case a4 => decide +kernel))
    (case s233 => refine' VL.subK ?a1 ?a2 ?a3 ?a4; (case a1 => k_is); (case a2 => k_is); (case a3 => k_is); (case a4 => decide +kernel))
    (case s234 => refine' VL.subK ?a1 ?a2 ?a3 ?a4; (case a1 => k_is); (case a2 => k_is); (case a3 => k_is); (case a4 => decide +kernel))
    (case s235 => refine' VL.subK ?a1 ?a2 ?a3 ?a4; (case a1 => k_is); (case a2 => k_is); (case a3 => k_is); (case a4 => decide +kernel))
    (case s236 => refine' VL.subK ?a1 ?a2 ?a3 ?a4; (case a1 => k_is); (case a2 => k_is); (case a3 => k_is); (case a4 => decide +kernel))
    (case s237 => refine' VL.subK ?a1 ?a2 ?a3 ?a4; (case a1 => k_is); (case a2 => k_is); (case a3 => k_is); (case a4 => decide +kernel))
    (case s238 => refine' VL.subK ?a1 ?a2 ?a3 ?a4; (case a1 => k_is); (case a2 => k_is); (case a3 => k_is); (case a4 => decide +kernel))
    (case s239 => refine' VL.subK ?a1 ?a2 ?a3 ?a4; (case a1 => k_is); (case a2 => k_is); (case a3 => k_is); (case a4 => decide +kernel))
    (case s240 => refine' VL.subK ?a1 ?a2 ?a3 ?a4; (case a1 => k_is); (case a2 => k_is); (case a3 => k_is); (case a4 => decide +kernel))
    (case s241 => refine' VL.subK ?a1 ?a2 ?a3 ?a4; (case a1 => k_is); (case a2 => k_is); (case a3 => k_is); (case a4 => decide +kernel))
    (case s242 => refine' VL.subK ?a1 ?a2 ?a3 ?a4; (case a1 => k_is); (case a2 => k_is); (case a3 => k_is); (case a4 => decide +kernel))
    (case s243 => refine' VL.subK ?a1 ?a2 ?a3 ?a4; (case a1 => k_is); (case a2 => k_is); (case a3 => k_is); (case a4 => decide +kernel))
    (case s244 => refine' VL.subK ?a1 ?a2 ?a3 ?a4; (case a1 => k_is); (case a2 => k_is); (case a3 => k_is); (case a4 => decide +kernel))
    (case s245 => refine' VL.subK ?a1 ?a2 ?a3 ?a4; (case a1 => k_is); (case a2 => k_is); (case a3 => k_is); (case a4 => decide +kernel))
    (case s246 => refine' VL.subK ?a1 ?a2 ?a3 ?a4; (case a1 => k_is); (case a2 => k_is); (case a3 => k_is); (case a4 => decide +kernel))
    (case s247 => refine' VL.subK ?a1 ?a2 ?a3 ?a4; (case a1 => k_is); (case a2 => k_is); (case a3 => k_is); (case a4 => decide +kernel))
    (case s248 => refine' VL.subK ?a1 ?a2 ?a3 ?a4; (case a1 => k_is); (case a2 => k_is); (case a3 => k_is); (case a4 => decide +kernel))
    (case s249 => refine' VL.subK ?a1 ?a2 ?a3 ?a4; (case a1 => k_is); (case a2 => k_is); (case a3 => k_is); (case a4 => decide +kernel))
    (case s250 => refine' VL.subK ?a1 ?a2 ?a3 ?a4; (case a1 => k_is); (case a2 => k_is); (case a3 => k_is); (case a4 => decide +kernel))
    (case s251 => refine' VL.subK ?a1 ?a2 ?a3 ?a4; (case a1 => k_is); (case a2 => k_is); (case a3 => k_is); (case a4 => decide +kernel))
    (case s252 => refine' VL.subK ?a1 ?a2 ?a3 ?a4; (case a1 => k_is); (case a2 => k_is); (case a3 => k_is); (case a4 => decide +kernel))
    (case s253 => refine' VL.subK ?a1 ?a2 ?a3 ?a4; (case a1 => k_is); (case a2 => k_is); (case a3 => k_is); (case a4 => decide +kernel))
    (case s254 => refine' VL.subK ?a1 ?a2 ?a3 ?a4; (case a1 => k_is); (case a2 => k_is); (case a3 => k_is); (case a4 => decide +kernel))
    (case s255 => refine' VL.subK ?a1 ?a2 ?a3 ?a4; (case a1 => k_is); (case a2 => k_is); (case a3 => k_is); (case a4 => decide +kernel))
    (case s256 => refine' VL.subK ?a1 ?a2 ?a3 ?a4; (case a1 => k_is); (case a2 => k_is); (case a3 => k_is); (case a4 => decide +kernel))
    (case s257 => refine' VL.subK ?a1 ?a2 ?a3 ?a4; (case a1 => k_is); (case a2 => k_is); (case a3 => k_is); (case a4 => decide +kernel))
    (case s258 => refine' VL.subK ?a1 ?a2 ?a3 ?a4; (case a1 => k_is); (case a2 => k_is); (case a3 => k_is); (case a4 => decide +kernel))
    (case s259 => refine' VL.subK ?a1 ?a2 ?a3 ?a4; (case a1 => k_is); (case a2 => k_is); (case a3 => k_is); (case a4 => decide +kernel))
    (case s260 => refine' VL.subK ?a1 ?a2 ?a3 ?a4; (case a1 => k_is); (case a2 => k_is); (case a3 => k_is); (case a4 => decide +kernel))
    (case s261 => refine' VL.subK ?a1 ?a2 ?a3 ?a4; (case a1 => k_is); (case a2 => k_is); (case a3 => k_is); (case a4 => decide +kernel))
    (case s262 => refine' VL.subK ?a1 ?a2 ?a3 ?a4; (case a1 => k_is); (case a2 => k_is); (case a3 => k_is); (case a4 => decide +kernel))
    (case s263 => refine' VL.subK ?a1 ?a2 ?a3 ?a4; (case a1 => k_is); (case a2 => k_is); (case a3 => k_is); (case a4 => decide +kernel))
    (case s264 => refine' VL.subK ?a1 ?a2 ?a3 ?a4; (case a1 => k_is); (case a2 => k_is); (case a3 => k_is); (case a4 => decide +kernel))
    (case s265 => refine' VL.subK ?a1 ?a2 ?a3 ?a4; (case a1 => k_is); (case a2 => k_is); (case a3 => k_is); (case a4 => decide +kernel))
    (case s266 => refine' VL.subK ?a1 ?a2 ?a3 ?a4; (case a1 => k_is); (case a2 => k_is); (case a3 => k_is); (case a4 => decide +kernel))
    (case s267 => refine' VL.subK ?a1 ?a2 ?a3 ?a4; (case a1 => k_is); (case a2 => k_is); (case a3 => k_is); (case a4 => decide +kernel))
    (case s268 => refine' VL.subK ?a1 ?a2 ?a3 ?a4; (case a1 => k_is); (case a2 => k_is); (case a3 => k_is); (case a4 => decide +kernel))
    (case s269 => refine' VL.subK ?a1 ?a2 ?a3 ?a4; (case a1 => k_is); (case a2 => k_is); (case a3 => k_is); (case a4 => decide +kernel))
    (case s270 => refine' VL.subK ?a1 ?a2 ?a3 ?a4; (case a1 => k_is); (case a2 => k_is); (case a3 => k_is); (case a4 => decide +kernel))
    (case s271 => refine' VL.subK ?a1 ?a2 ?a3 ?a4; (case a1 => k_is); (case a2 => k_is); (case a3 => k_is); (case a4 => decide +kernel))
    (case s272 => refine' VL.subK ?a1 ?a2 ?a3 ?a4; (case a1 => k_is); (case a2 => k_is); (case a3 => k_is); (case a4 => decide +kernel))
    (case s273 => refine' VL.subK ?a1 ?a2 ?a3 ?a4; (case a1 => k_is); (case a2 => k_is); (case a3 => k_is); (case a4 => decide +kernel))
    (case s274 => refine' VL.subK ?a1 ?a2 ?a3 ?a4; (case a1 => k_is); (case a2 => k_is); (case a3 => k_is); (case a4 => decide +kernel))
    (case s275 => refine' VL.subK ?a1 ?a2 ?a3 ?a4; (case a1 => k_is); (case a2 => k_is); (case a3 => k_is); (case a4 => decide +kernel))
    (case s276 => refine' VL.subK ?a1 ?a2 ?a3 ?a4; (case a1 => k_is); (case a2 => k_is); (case a3 => k_is); (case a4 => decide +kernel))
    (case s277 => refine' VL.subK ?a1 ?a2 ?a3 ?a4; (case a1 => k_is); (case a2 => k_is); (case a3 => k_is); (case a4 => decide +kernel))
    (case s278 => refine' VL.subK ?a1 ?a2 ?a3 ?a4; (case a1 => k_is); (case a2 => k_is); (case a3 => k_is); (case a4 => decide +kernel))
    (case s279 => refine' VL.subK ?a1 ?a2 ?a3 ?a4; (case a1 => k_is); (case a2 => k_is); (case a3 => k_is); (case a4 => decide +kernel))
    (case s280 => refine' VL.subK ?a1 ?a2 ?a3 ?a4; (case a1 => k_is); (case a2 => k_is); (case a3 => k_is); (case a4 => decide +kernel))
    (case s281 => refine' VL.subK ?a1 ?a2 ?a3 ?a4; (case a1 => k_is); (case a2 => k_is); (case a3 => k_is); (case a4 => decide +kernel))
    (case s282 => refine' VL.subK ?a1 ?a2 ?a3 ?a4; (case a1 => k_is); (case a2 => k_is); (case a3 => k_is); (case a4 => decide +kernel))
    (case s283 => refine' VL.subK ?a1 ?a2 ?a3 ?a4; (case a1 => k_is); (case a2 => k_is); (case a3 => k_is); (case a4 => decide +kernel))
    (case s284 => refine' VL.subK ?a1 ?a2 ?a3 ?a4; (case a1 => k_is); (case a2 => k_is); (case a3 => k_is); (case a4 => decide +kernel))
    (case s285 => refine' VL.subK ?a1 ?a2 ?a3 ?a4; (case a1 => k_is); (case a2 => k_is); (case a3 => k_is); (case a4 => decide +kernel))
    (case s286 => refine' VL.subK ?a1 ?a2 ?a3 ?a4; (case a1 => k_is); (case a2 => k_is); (case a3 => k_is); (case a4 => decide +kernel))
    (case s287 => refine' VL.subK ?a1 ?a2 ?a3 ?a4; (case a1 => k_is); (case a2 => k_is); (case a3 => k_is); (case a4 => decide +kernel))
    (case s288 => refine' VL.subK ?a1 ?a2 ?a3 ?a4; (case a1 => k_is); (case a2 => k_is); (case a3 => k_is); (case a4 => decide +kernel))
    (case s289 => refine' VL.subK ?a1 ?a2 ?a3 ?a4; (case a1 => k_is); (case a2 => k_is); (case a3 => k_is); (case a4 => decide +kernel))
    (case s290 => refine' VL.subK ?a1 ?a2 ?a3 ?a4; (case a1 => k_is); (case a2 => k_is); (case a3 => k_is); (case a4 => decide +kernel))
    (case s291 => refine' VL.subK ?a1 ?a2 ?a3 ?a4; (case a1 => k_is); (case a2 => k_is); (case a3 => k_is); (case a4 => decide +kernel))
    (case s292 => refine' VL.subK ?a1 ?a2 ?a3 ?a4; (case a1 => k_is); (case a2 => k_is); (case a3 => k_is); (case a4 => decide +kernel))
    (case s293 => refine' VL.subK ?a1 ?a2 ?a3 ?a4; (case a1 => k_is); (case a2 => k_is); (case a3 => k_is); (case a4 => decide +kernel))
    (case s294 => refine' VL.subK ?a1 ?a2 ?a3 ?a4; (case a1 => k_is); (case a2 => k_is); (case a3 => k_is); (case a4 => decide +kernel))
    (case s295 => refine' VL.subK ?a1 ?a2 ?a3 ?a4; (case a1 => k_is); (case a2 => k_is); (case a3 => k_is); (case a4 => decide +kernel))
    (case s296 => refine' VL.subK ?a1 ?a2 ?a3 ?a4; (case a1 => k_is); (case a2 => k_is); (case a3 => k_is); (case a4 => decide +kernel))
    (case s297 => refine' VL.subK ?a1 ?a2 ?a3 ?a4; (case a1 => k_is); (case a2 => k_is); (case a3 => k_is); (case a4 => decide +kernel))
    (case s298 => refine' VL.subK ?a1 ?a2 ?a3 ?a4; (case a1 => k_is); (case a2 => k_is); (case a3 => k_is); (case a4 => decide +kernel))
    (case s299 => refine' VL.subK ?a1 ?a2 ?a3 ?a4; (case a1 => k_is); (case a2 => k_is); (case a3 => k_is); (case a4 => decide +kernel))
    (case s300 => refine' VL.subK ?a1 ?a2 ?a3 ?a4; (case a1 => k_is); (case a2 => k_is); (case a3 => k_is); (case a4 => decide +kernel))
    (case s301 => refine' VL.subK ?a1 ?a2 ?a3 ?a4; (case a1 => k_is); (case a2 => k_is); (case a3 => k_is); (case a4 => decide +kernel))
    (case s302 => refine' VL.subK ?a1 ?a2 ?a3 ?a4; (case a1 => k_is); (case a2 => k_is); (case a3 => k_is); (case a4 => decide +kernel))
    (case s303 => refine' VL.subK ?a1 ?a2 ?a3 ?a4; (case a1 => k_is); (case a2 => k_is); (case a3 => k_is); (case a4 => decide +kernel))
    (case s304 => refine' VL.subK ?a1 ?a2 ?a3 ?a4; (case a1 => k_is); (case a2 => k_is); (case a3 => k_is); (case a4 => decide +kernel))
    (case s305 => refine' VL.subK ?a1 ?a2 ?a3 ?a4; (case a1 => k_is); (case a2 => k_is); (case a3 => k_is); (case a4 => decide +kernel))
    (case s306 => refine' VL.subK ?a1 ?a2 ?a3 ?a4; (case a1 => k_is); (case a2 => k_is); (case a3 => k_is); (case a4 => decide +kernel))
    (case s307 => refine' VL.subK ?a1 ?a2 ?a3 ?a4; (case a1 => k_is); (case a2 => k_is); (case a3 => k_is); (case a4 => decide +kernel))
    (case s308 => refine' VL.subK ?a1 ?a2 ?a3 ?a4; (case a1 => k_is); (case a2 => k_is); (case a3 => k_is); (case a4 => decide +kernel))
    (case s309 => refine' VL.subK ?a1 ?a2 ?a3 ?a4; (case a1 => k_is); (case a2 => k_is); (case a3 => k_is); (case a4 => decide +kernel))
    (case s310 => refine' VL.subK ?a1 ?a2 ?a3 ?a4; (case a1 => k_is); (case a2 => k_is); (case a3 => k_is); (case a4 => decide +kernel))
    (case s311 => refine' VL.subK ?a1 ?a2 ?a3 ?a4; (case a1 => k_is); (case a2 => k_is); (case a3 => k_is); (case a4 => decide +kernel))
    (case s312 => refine' VL.subK ?a1 ?a2 ?a3 ?a4; (case a1 => k_is); (case a2 => k_is); (case a3 => k_is); (case a4 => decide +kernel))
    (case s313 => refine' VL.subK ?a1 ?a2 ?a3 ?a4; (case a1 => k_is); (case a2 => k_is); (case a3 => k_is); (case a4 => decide +kernel))
    (case s314 => refine' VL.subK ?a1 ?a2 ?a3 ?a4; (case a1 => k_is); (case a2 => k_is); (case a3 => k_is); (case a4 => decide +kernel))
    (case s315 => refine' VL.subK ?a1 ?a2 ?a3 ?a4; (case a1 => k_is); (case a2 => k_is); (case a3 => k_is); (case a4 => decide +kernel))
    (case s316 => refine' VL.subK ?a1 ?a2 ?a3 ?a4; (case a1 => k_is); (case a2 => k_is); (case a3 => k_is); (case a4 => decide +kernel))
    (case s317 => refine' VL.subK ?a1 ?a2 ?a3 ?a4; (case a1 => k_is); (case a2 => k_is); (case a3 => k_is); (case a4 => decide +kernel))
    (case s318 => refine' VL.subK ?a1 ?a2 ?a3 ?a4; (case a1 => k_is); (case a2 => k_is); (case a3 => k_is); (case a4 => decide +kernel))
    (case s319 => refine' VL.subK ?a1 ?a2 ?a3 ?a4; (case a1 => k_is); (case a2 => k_is); (case a3 => k_is); (case a4 => decide +kernel))
    (case s320 => refine' VL.subK ?a1 ?a2 ?a3 ?a4; (case a1 => k_is); (case a2 => k_is); (case a3 => k_is); (case a4 => decide +kernel))
    (case s321 => refine' VL.subK ?a1 ?a2 ?a3 ?a4; (case a1 => k_is); (case a2 => k_is); (case a3 => k_is); (case a4 => decide +kernel))
    (case s322 => refine' VL.subK ?a1 ?a2 ?a3 ?a4; (case a1 => k_is); (case a2 => k_is); (case a3 => k_is); (case a4 => decide +kernel))
    (case s323 => refine' VL.subK ?a1 ?a2 ?a3 ?a4; (case a1 => k_is); (case a2 => k_is); (case a3 => k_is); (case a4 => decide +kernel))
    (case s324 => refine' VL.subK ?a1 ?a2 ?a3 ?a4; (case a1 => k_is); (case a2 => k_is); (case a3 => k_is); (case a4 => decide +kernel))
    (case s325 => refine' VL.subK ?a1 ?a2 ?a3 ?a4; (case a1 => k_is); (case a2 => k_is); (case a3 => k_is); (case a4 => decide +kernel))
    (case s326 => refine' VL.subK ?a1 ?a2 ?a3 ?a4; (case a1 => k_is); (case a2 => k_is); (case a3 => k_is); (case a4 => decide +kernel))
    (case s327 => refine' VL.subK ?a1 ?a2 ?a3 ?a4; (case a1 => k_is); (case a2 => k_is); (case a3 => k_is); (case a4 => decide +kernel))
    (case s328 => refine' VL.subK ?a1 ?a2 ?a3 ?a4; (case a1 => k_is); (case a2 => k_is); (case a3 => k_is); (case a4 => decide +kernel))
    (case s329 => refine' VL.subK ?a1 ?a2 ?a3 ?a4; (case a1 => k_is); (case a2 => k_is); (case a3 => k_is); (case a4 => decide +kernel))
    (case s330 => refine' VL.subK ?a1 ?a2 ?a3 ?a4; (case a1 => k_is); (case a2 => k_is); (case a3 => k_is); (case a4 => decide +kernel))
    (case s331 => refine' VL.subK ?a1 ?a2 ?a3 ?a4; (case a1 => k_is); (case a2 => k_is); (case a3 => k_is); (case a4 => decide +kernel))
    (case s332 => refine' VL.subK ?a1 ?a2 ?a3 ?a4; (case a1 => k_is); (case a2 => k_is); (case a3 => k_is); (case a4 => decide +kernel))
    (case s333 => refine' VL.subK ?a1 ?a2 ?a3 ?a4; (case a1 => k_is); (case a2 => k_is); (case a3 => k_is); (case a4 => decide +kernel))
    (case s334 => refine' VL.subK ?a1 ?a2 ?a3 ?a4; (case a1 => k_is); (case a2 => k_is); (case a3 => k_is); (case a4 => decide +kernel))
    (case s335 => refine' VL.subK ?a1 ?a2 ?a3 ?a4; (case a1 => k_is); (case a2 => k_is); (case a3 => k_is); (case a4 => decide +kernel))
    (case s336 => refine' VL.subK ?a1 ?a2 ?a3 ?a4; (case a1 => k_is); (case a2 => k_is); (case a3 => k_is); (case a4 => decide +kernel))
    (case s337 => refine' VL.subK ?a1 ?a2 ?a3 ?a4; (case a1 => k_is); (case a2 => k_is); (case a3 => k_is); (case a4 => decide +kernel))
    (case s338 => refine' VL.subK ?a1 ?a2 ?a3 ?a4; (case a1 => k_is); (case a2 => k_is); (case a3 => k_is); (case a4 => decide +kernel))
    (case s339 => refine' VL.subK ?a1 ?a2 ?a3 ?a4; (case a1 => k_is); (case a2 => k_is); (case a3 => k_is); (case a4 => decide +kernel))
    (case s340 => refine' VL.subK ?a1 ?a2 ?a3 ?a4; (case a1 => k_is); (case a2 => k_is); (case a3 => k_is); (case a4 => decide +kernel))
    (case s341 => refine' VL.subK ?a1 ?a2 ?a3 ?a4; (case a1 => k_is); (case a2 => k_is); (case a3 => k_is); (case a4 => decide +kernel))
    (case s342 => refine' VL.subK ?a1 ?a2 ?a3 ?a4; (case a1 => k_is); (case a2 => k_is); (case a3 => k_is); (case a4 => decide +kernel))
    (case s343 => refine' VL.subK ?a1 ?a2 ?a3 ?a4; (case a1 => k_is); (case a2 => k_is); (case a3 => k_is); (case a4 => decide +kernel))
    (case s344 => refine' VL.subK ?a1 ?a2 ?a3 ?a4; (case a1 => k_is); (case a2 => k_is); (case a3 => k_is); (case a4 => decide +kernel))
    (case s345 => refine' VL.subK ?a1 ?a2 ?a3 ?a4; (case a1 => k_is); (case a2 => k_is); (case a3 => k_is); (case a4 => decide +kernel))
    (case s346 => refine' VL.subK ?a1 ?a2 ?a3 ?a4; (case a1 => k_is); (case a2 => k_is); (case a3 => k_is); (case a4 => decide +kernel))
    (case s347 => refine' VL.subK ?a1 ?a2 ?a3 ?a4; (case a1 => k_is); (case a2 => k_is); (case a3 => k_is); (case a4 => decide +kernel))
    (case s348 => refine' VL.subK ?a1 ?a2 ?a3 ?a4; (case a1 => k_is); (case a2 => k_is); (case a3 => k_is); (case a4 => decide +kernel))
    (case s349 => refine' VL.subK ?a1 ?a2 ?a3 ?a4; (case a1 => k_is); (case a2 => k_is); (case a3 => k_is); (case a4 => decide +kernel))
    (case s350 => refine' VL.subK ?a1 ?a2 ?a3 ?a4; (case a1 => k_is); (case a2 => k_is); (case a3 => k_is); (case a4 => decide +kernel))
    (case s351 => refine' VL.subK ?a1 ?a2 ?a3 ?a4; (case a1 => k_is); (case a2 => k_is); (case a3 => k_is); (case a4 => decide +kernel))
    (case s352 => refine' VL.subK ?a1 ?a2 ?a3 ?a4; (case a1 => k_is); (case a2 => k_is); (case a3 => k_is); (case a4 => decide +kernel))
    (case s353 => refine' VL.subK ?a1 ?a2 ?a3 ?a4; (case a1 => k_is); (case a2 => k_is); (case a3 => k_is); (case a4 => decide +kernel))
    (case s354 => refine' VL.subK ?a1 ?a2 ?a3 ?a4; (case a1 => k_is); (case a2 => k_is); (case a3 => k_is); (case a4 => decide +kernel))
    (case s355 => refine' VL.subK ?a1 ?a2 ?a3 ?a4; (case a1 => k_is); (case a2 => k_is); (case a3 => k_is); (case a4 => decide +kernel))
    (case s356 => refine' VL.subK ?a1 ?a2 ?a3 ?a4; (case a1 => k_is); (case a2 => k_is); (case a3 => k_is); (case a4 => decide +kernel))
    (case s357 => refine' VL.subK ?a1 ?a2 ?a3 ?a4; (case a1 => k_is); (case a2 => k_is); (case a3 => k_is); (case a4 => decide +kernel))
    (case s358 => refine' VL.subK ?a1 ?a2 ?a3 ?a4; (case a1 => k_is); (case a2 => k_is); (case a3 => k_is); (case a4 => decide +kernel))
    (case s359 => refine' VL.subK ?a1 ?a2 ?a3 ?a4; (case a1 => k_is); (case a2 => k_is); (case a3 => k_is); (case a4 => decide +kernel))
    (case s360 => refine' VL.subK ?a1 ?a2 ?a3 ?a4; (case a1 => k_is); (case a2 => k_is); (case a3 => k_is); (case a4 => decide +kernel))
    (case s361 => refine' VL.subK ?a1 ?a2 ?a3 ?a4; (case a1 => k_is); (case a2 => k_is); (case a3 => k_is); (case a4 => decide +kernel))
    (case s362 => refine' VL.subK ?a1 ?a2 ?a3 ?a4; (case a1 => k_is); (case a2 => k_is); (case a3 => k_is); (case a4 => decide +kernel))
    (case s363 => refine' VL.subK ?a1 ?a2 ?a3 ?a4; (case a1 => k_is); (case a2 => k_is); (case a3 => k_is); (case a4 => decide +kernel))
    (case s364 => refine' VL.subK ?a1 ?a2 ?a3 ?a4; (case a1 => k_is); (case a2 => k_is); (case a3 => k_is); (case a4 => decide +kernel))
    (case s365 => refine' VL.subK ?a1 ?a2 ?a3 ?a4; (case a1 => k_is); (case a2 => k_is); (case a3 => k_is); (case a4 => decide +kernel))
    (case s366 => refine' VL.subK ?a1 ?a2 ?a3 ?a4; (case a1 => k_is); (case a2 => k_is); (case a3 => k_is); (case a4 => decide +kernel))
    (case s367 => refine' VL.subK ?a1 ?a2 ?a3 ?a4; (case a1 => k_is); (case a2 => k_is); (case a3 => k_is); (case a4 => decide +kernel))
    (case s368 => refine' VL.subK ?a1 ?a2 ?a3 ?a4; (case a1 => k_is); (case a2 => k_is); (case a3 => k_is); (case a4 => decide +kernel))
    (case s369 => refine' VL.subK ?a1 ?a2 ?a3 ?a4; (case a1 => k_is); (case a2 => k_is); (case a3 => k_is); (case a4 => decide +kernel))
    (case s370 => refine' VL.subK ?a1 ?a2 ?a3 ?a4; (case a1 => k_is); (case a2 => k_is); (case a3 => k_is); (case a4 => decide +kernel))
    (case s371 => refine' VL.subK ?a1 ?a2 ?a3 ?a4; (case a1 => k_is); (case a2 => k_is); (case a3 => k_is); (case a4 => decide +kernel))
    (case s372 => refine' VL.subK ?a1 ?a2 ?a3 ?a4; (case a1 => k_is); (case a2 => k_is); (case a3 => k_is); (case a4 => decide +kernel))
    (case s373 => refine' VL.subK ?a1 ?a2 ?a3 ?a4; (case a1 => k_is); (case a2 => k_is); (case a3 => k_is); (case a4 => decide +kernel))
    (case s374 => refine' VL.subK ?a1 ?a2 ?a3 ?a4; (case a1 => k_is); (case a2 => k_is); (case a3 => k_is); (case a4 => decide +kernel))
    (case s375 => refine' VL.subK ?a1 ?a2 ?a3 ?a4; (case a1 => k_is); (case a2 => k_is); (case a3 => k_is); (case a4 => decide +kernel))
    (case s376 => refine' VL.subK ?a1 ?a2 ?a3 ?a4; (case a1 => k_is); (case a2 => k_is); (case a3 => k_is); (case a4 => decide +kernel))
    (case s377 => refine' VL.subK ?a1 ?a2 ?a3 ?a4; (case a1 => k_is); (case a2 => k_is); (case a3 => k_is); (case a4 => decide +kernel))
    (case s378 => refine' VL.subK ?a1 ?a2 ?a3 ?a4; (case a1 => k_is); (case a2 => k_is); (case a3 => k_is); (case a4 => decide +kernel))
    (case s379 => refine' VL.subK ?a1 ?a2 ?a3 ?a4; (case a1 => k_is); (case a2 => k_is); (case a3 => k_is); (case a4 => decide +kernel))
    (case s380 => refine' VL.subK ?a1 ?a2 ?a3 ?a4; (case a1 => k_is); (case a2 => k_is); (case a3 => k_is); (case a4 => decide +kernel))
    (case s381 => refine' VL.subK ?a1 ?a2 ?a3 ?a4; (case a1 => k_is); (case a2 => k_is); (case a3 => k_is); (case a4 => decide +kernel))
    (case s382 => refine' VL.subK ?a1 ?a2 ?a3 ?a4; (case a1 => k_is); (case a2 => k_is); (case a3 => k_is); (case a4 => decide +kernel))
    (case s383 => refine' VL.subK ?a1 ?a2 ?a3 ?a4; (case a1 => k_is); (case a2 => k_is); (case a3 => k_is); (case a4 => decide +kernel))
    (case s384 => refine' VL.subK ?a1 ?a2 ?a3 ?a4; (case a1 => k_is); (case a2 => k_is); (case a3 => k_is); (case a4 => decide +kernel))
    (case s385 => refine' VL.subK ?a1 ?a2 ?a3 ?a4; (case a1 => k_is); (case a2 => k_is); (case a3 => k_is); (case a4 => decide +kernel))
    (case s386 => refine' VL.subK ?a1 ?a2 ?a3 ?a4; (case a1 => k_is); (case a2 => k_is); (case a3 => k_is); (case a4 => decide +kernel))
    (case s387 => refine' VL.subK ?a1 ?a2 ?a3 ?a4; (case a1 => k_is); (case a2 => k_is); (case a3 => k_is); (case a4 => decide +kernel))
    (case s388 => refine' VL.subK ?a1 ?a2 ?a3 ?a4; (case a1 => k_is); (case a2 => k_is); (case a3 => k_is); (case a4 => decide +kernel))
    (case s389 => refine' VL.subK ?a1 ?a2 ?a3 ?a4; (case a1 => k_is); (case a2 => k_is); (case a3 => k_is); (case a4 => decide +kernel))
    (case s390 => refine' VL.subK ?a1 ?a2 ?a3 ?a4; (case a1 => k_is); (case a2 => k_is); (case a3 => k_is); (case a4 => decide +kernel))
    (case s391 => refine' VL.subK ?a1 ?a2 ?a3 ?a4; (case a1 => k_is); (case a2 => k_is); (case a3 => k_is); (case a4 => decide +kernel))
    (case s392 => refine' VL.subK ?a1 ?a2 ?a3 ?a4; (case a1 => k_is); (case a2 => k_is); (case a3 => k_is); (case a4 => decide +kernel))
    (case s393 => refine' VL.subK ?a1 ?a2 ?a3 ?a4; (case a1 => k_is); (case a2 => k_is); (case a3 => k_is); (case a4 => decide +kernel))
    (case s394 => refine' VL.subK ?a1 ?a2 ?a3 ?a4; (case a1 => k_is); (case a2 => k_is); (case a3 => k_is); (case a4 => decide +kernel))
    (case s395 => refine' VL.subK ?a1 ?a2 ?a3 ?a4; (case a1 => k_is); (case a2 => k_is); (case a3 => k_is); (case a4 => decide +kernel))
    (case s396 => refine' VL.subK ?a1 ?a2 ?a3 ?a4; (case a1 => k_is); (case a2 => k_is); (case a3 => k_is); (case a4 => decide +kernel))
    (case s397 => refine' VL.subK ?a1 ?a2 ?a3 ?a4; (case a1 => k_is); (case a2 => k_is); (case a3 => k_is); (case a4 => decide +kernel))
    (case s398 => refine' VL.subK ?a1 ?a2 ?a3 ?a4; (case a1 => k_is); (case a2 => k_is); (case a3 => k_is); (case a4 => decide +kernel))
    (case s399 => refine' VL.subK ?a1 ?a2 ?a3 ?a4; (case a1 => k_is); (case a2 => k_is); (case a3 => k_is); (case a4 => decide +kernel))
    (case s400 => refine' VL.subK ?a1 ?a2 ?a3 ?a4; (case a1 => k_is); (case a2 => k_is); (case a3 => k_is); (case a4 => decide +kernel))
    (case s401 => refine' VL.subK ?a1 ?a2 ?a3 ?a4; (case a1 => k_is); (case a2 => k_is); (case a3 => k_is); (case a4 => decide +kernel))
    (case s402 => refine' VL.subK ?a1 ?a2 ?a3 ?a4; (case a1 => k_is); (case a2 => k_is); (case a3 => k_is); (case a4 => decide +kernel))
    (case s403 => refine' VL.subK ?a1 ?a2 ?a3 ?a4; (case a1 => k_is); (case a2 => k_is); (case a3 => k_is); (case a4 => decide +kernel))
    (case s404 => refine' VL.subK ?a1 ?a2 ?a3 ?a4; (case a1 => k_is); (case a2 => k_is); (case a3 => k_is); (case a4 => decide +kernel))
    (case s405 => refine' VL.subK ?a1 ?a2 ?a3 ?a4; (case a1 => k_is); (case a2 => k_is); (case a3 => k_is); (case a4 => decide +kernel))
    (case s406 => refine' VL.subK ?a1 ?a2 ?a3 ?a4; (case a1 => k_is); (case a2 => k_is); (case a3 => k_is); (case a4 => decide +kernel))
    (case s407 => refine' VL.subK ?a1 ?a2 ?a3 ?a4; (case a1 => k_is); (case a2 => k_is); (case a3 => k_is); (case a4 => decide +kernel))
    (case s408 => refine' VL.subK ?a1 ?a2 ?a3 ?a4; (case a1 => k_is); (case a2 => k_is); (case a3 => k_is); (case a4 => decide +kernel))
    (case s409 => refine' VL.subK ?a1 ?a2 ?a3 ?a4; (case a1 => k_is); (case a2 => k_is); (case a3 => k_is); (case a4 => decide +kernel))
    (case s410 => refine' VL.subK ?a1 ?a2 ?a3 ?a4; (case a1 => k_is); (case a2 => k_is); (case a3 => k_is); (case a4 => decide +kernel))
    (case s411 => refine' VL.subK ?a1 ?a2 ?a3 ?a4; (case a1 => k_is); (case a2 => k_is); (case a3 => k_is); (case a4 => decide +kernel))
    (case s412 => refine' VL.subK ?a1 ?a2 ?a3 ?a4; (case a1 => k_is); (case a2 => k_is); (case a3 => k_is); (case a4 => decide +kernel))
    (case s413 => refine' VL.subK ?a1 ?a2 ?a3 ?a4; (case a1 => k_is); (case a2 => k_is); (case a3 => k_is); (case a4 => decide +kernel))
    (case s414 => refine' VL.subK ?a1 ?a2 ?a3 ?a4; (case a1 => k_is); (case a2 => k_is); (case a3 => k_is); (case a4 => decide +kernel))
    (case s415 => refine' VL.subK ?a1 ?a2 ?a3 ?a4; (case a1 => k_is); (case a2 => k_is); (case a3 => k_is); (case a4 => decide +kernel))
    (case s416 => refine' VL.subK ?a1 ?a2 ?a3 ?a4; (case a1 => k_is); (case a2 => k_is); (case a3 => k_is); (case a4 => decide +kernel))
    (case s417 => refine' VL.subK ?a1 ?a2 ?a3 ?a4; (case a1 => k_is); (case a2 => k_is); (case a3 => k_is); (case a4 => decide +kernel))
    (case s418 => refine' VL.subK ?a1 ?a2 ?a3 ?a4; (case a1 => k_is); (case a2 => k_is); (case a3 => k_is); (case a4 => decide +kernel))
    (case s419 => refine' VL.subK ?a1 ?a2 ?a3 ?a4; (case a1 => k_is); (case a2 => k_is); (case a3 => k_is); (case a4 => decide +kernel))
    (case s420 => refine' VL.subK ?a1 ?a2 ?a3 ?a4; (case a1 => k_is); (case a2 => k_is); (case a3 => k_is); (case a4 => decide +kernel))
    (case s421 => refine' VL.subK ?a1 ?a2 ?a3 ?a4; (case a1 => k_is); (case a2 => k_is); (case a3 => k_is); (case a4 => decide +kernel))
    (case s422 => refine' VL.subK ?a1 ?a2 ?a3 ?a4; (case a1 => k_is); (case a2 => k_is); (case a3 => k_is); (case a4 => decide +kernel))
    (case s423 => refine' VL.subK ?a1 ?a2 ?a3 ?a4; (case a1 => k_is); (case a2 => k_is); (case a3 => k_is); (case a4 => decide +kernel))
    (case s424 => refine' VL.subK ?a1 ?a2 ?a3 ?a4; (case a1 => k_is); (case a2 => k_is); (case a3 => k_is); (case a4 => decide +kernel))
    (case s425 => refine' VL.subK ?a1 ?a2 ?a3 ?a4; (case a1 => k_is); (case a2 => k_is); (case a3 => k_is); (case a4 => decide +kernel))
    (case s426 => refine' VL.subK ?a1 ?a2 ?a3 ?a4; (case a1 => k_is); (case a2 => k_is); (case a3 => k_is); (case a4 => decide +kernel))
    (case s427 => refine' VL.subK ?a1 ?a2 ?a3 ?a4; (case a1 => k_is); (case a2 => k_is); (case a3 => k_is); (case a4 => decide +kernel))
    (case s428 => refine' VL.subK ?a1 ?a2 ?a3 ?a4; (case a1 => k_is); (case a2 => k_is); (case a3 => k_is); (case a4 => decide +kernel))
    (case s429 => refine' VL.subK ?a1 ?a2 ?a3 ?a4; (case a1 => k_is); (case a2 => k_is); (case a3 => k_is); (case a4 => decide +kernel))
    (case s430 => refine' VL.subK ?a1 ?a2 ?a3 ?a4; (case a1 => k_is); (case a2 => k_is); (case a3 => k_is); (case a4 => decide +kernel))
    (case s431 => refine' VL.subK ?a1 ?a2 ?a3 ?a4; (case a1 => k_is); (case a2 => k_is); (case a3 => k_is); (case a4 => decide +kernel))
    (case s432 => refine' VL.subK ?a1 ?a2 ?a3 ?a4; (case a1 => k_is); (case a2 => k_is); (case a3 => k_is); (case a4 => decide +kernel))
    (case s433 => refine' VL.subK ?a1 ?a2 ?a3 ?a4; (case a1 => k_is); (case a2 => k_is); (case a3 => k_is); (case a4 => decide +kernel))
    (case s434 => refine' VL.subK ?a1 ?a2 ?a3 ?a4; (case a1 => k_is); (case a2 => k_is); (case a3 => k_is); (case a4 => decide +kernel))
    (case s435 => refine' VL.subK ?a1 ?a2 ?a3 ?a4; (case a1 => k_is); (case a2 => k_is); (case a3 => k_is); (case a4 => decide +kernel))
    (case s436 => refine' VL.subK ?a1 ?a2 ?a3 ?a4; (case a1 => k_is); (case a2 => k_is); (case a3 => k_is); (case a4 => decide +kernel))
    (case s437 => refine' VL.subK ?a1 ?a2 ?a3 ?a4; (case a1 => k_is); (case a2 => k_is); (case a3 => k_is); (case a4 => decide +kernel))
    (case s438 => refine' VL.subK ?a1 ?a2 ?a3 ?a4; (case a1 => k_is); (case a2 => k_is); (case a3 => k_is); (case a4 => decide +kernel))
    (case s439 => refine' VL.subK ?a1 ?a2 ?a3 ?a4; (case a1 => k_is); (case a2 => k_is); (case a3 => k_is); (case a4 => decide +kernel))
    (case s440 => refine' VL.subK ?a1 ?a2 ?a3 ?a4; (case a1 => k_is); (case a2 => k_is); (case a3 => k_is); (case a4 => decide +kernel))
    (case s441 => refine' VL.subK ?a1 ?a2 ?a3 ?a4; (case a1 => k_is); (case a2 => k_is); (case a3 => k_is); (case a4 => decide +kernel))
    (case s442 => refine' VL.subK ?a1 ?a2 ?a3 ?a4; (case a1 => k_is); (case a2 => k_is); (case a3 => k_is); (case a4 => decide +kernel))
    (case s443 => refine' VL.subK ?a1 ?a2 ?a3 ?a4; (case a1 => k_is); (case a2 => k_is); (case a3 => k_is); (case a4 => decide +kernel))
    (case s444 => refine' VL.subK ?a1 ?a2 ?a3 ?a4; (case a1 => k_is); (case a2 => k_is); (case a3 => k_is); (case a4 => decide +kernel))
    (case s445 => refine' VL.subK ?a1 ?a2 ?a3 ?a4; (case a1 => k_is); (case a2 => k_is); (case a3 => k_is); (case a4 => decide +kernel))
    (case s446 => refine' VL.subK ?a1 ?a2 ?a3 ?a4; (case a1 => k_is); (case a2 => k_is); (case a3 => k_is); (case a4 => decide +kernel))
    (case s447 => refine' VL.subK ?a1 ?a2 ?a3 ?a4; (case a1 => k_is); (case a2 => k_is); (case a3 => k_is); (case a4 => decide +kernel))
    (case s448 => refine' VL.subK ?a1 ?a2 ?a3 ?a4; (case a1 => k_is); (case a2 => k_is); (case a3 => k_is); (case a4 => decide +kernel))
    (case s449 => refine' VL.subK ?a1 ?a2 ?a3 ?a4; (case a1 => k_is); (case a2 => k_is); (case a3 => k_is); (case a4 => decide +kernel))
    (case s450 => refine' VL.subK ?a1 ?a2 ?a3 ?a4; (case a1 => k_is); (case a2 => k_is); (case a3 => k_is); (case a4 => decide +kernel))
    (case s451 => refine' VL.subK ?a1 ?a2 ?a3 ?a4; (case a1 => k_is); (case a2 => k_is); (case a3 => k_is); (case a4 => decide +kernel))
    (case s452 => refine' VL.subK ?a1 ?a2 ?a3 ?a4; (case a1 => k_is); (case a2 => k_is); (case a3 => k_is); (case a4 => decide +kernel))
    (case s453 => refine' VL.subK ?a1 ?a2 ?a3 ?a4; (case a1 => k_is); (case a2 => k_is); (case a3 => k_is); (case a4 => decide +kernel))
    (case s454 => refine' VL.subK ?a1 ?a2 ?a3 ?a4; (case a1 => k_is); (case a2 => k_is); (case a3 => k_is); (case a4 => decide +kernel))
    (case s455 => refine' VL.subK ?a1 ?a2 ?a3 ?a4; (case a1 => k_is); (case a2 => k_is); (case a3 => k_is); (case a4 => decide +kernel))
    (case s456 => refine' VL.subK ?a1 ?a2 ?a3 ?a4; (case a1 => k_is); (case a2 => k_is); (case a3 => k_is); (case a4 => decide +kernel))
    (case s457 => refine' VL.subK ?a1 ?a2 ?a3 ?a4; (case a1 => k_is); (case a2 => k_is); (case a3 => k_is); (case a4 => decide +kernel))
    (case s458 => refine' VL.subK ?a1 ?a2 ?a3 ?a4; (case a1 => k_is); (case a2 => k_is); (case a3 => k_is); (case a4 => decide +kernel))
    (case s459 => refine' VL.subK ?a1 ?a2 ?a3 ?a4; (case a1 => k_is); (case a2 => k_is); (case a3 => k_is); (case a4 => decide +kernel))
    (case s460 => refine' VL.subK ?a1 ?a2 ?a3 ?a4; (case a1 => k_is); (case a2 => k_is); (case a3 => k_is); (case a4 => decide +kernel))
    (case s461 => refine' VL.subK ?a1 ?a2 ?a3 ?a4; (case a1 => k_is); (case a2 => k_is); (case a3 => k_is); (case a4 => decide +kernel))
