import PyProof.Rows.All
import Wide.All
import OpenK.AllK
import Wide.FinOn
import HandS.ForMost
import HandS.ForExc
import HandS.CallSlots
import HandS.TupAny
import HandS.TupMul
import HandS.IsInst
import KE.KDictKeyed
import HandS.Wide
import KE.SortData
import HandS.Conv
import HandS.Style
import KE.GoesEnum
import HandS.Zip
import HandS.SortRule
import HandS.SortInts
import HandS.SetFor
import HandS.Strs
import HandS.RaiseMore
import HandS.ExcInit
import HandS.ExcField
import HandS.TryMany
import HandS.ClsMeth
import KE.KIsAll
import HandS.ExcIs
import KE.KIndexOf
import HandS.Deep
import KE.KeyNested
import PyProof.DictRoadsH
import KE.KEqDict
import HandS.Iter
import HandS.GenList
import HandS.DictComp
import PySem.Challenge.RW_pilepass_k30_heights_of_orders
set_option Elab.async false
set_option linter.all false
set_option maxRecDepth 100000
set_option maxHeartbeats 4000000
/-! Pz0: new tuples whose object is known (it has no dict): the rules of HandS that make tuples, told so. -/
namespace Pz
open PySem PySem.Spec PyProof.Rows L2
/-- a new tuple at p -/
abbrev nwT (vs : List V) (H : Hp) (Q : VK) : Prop := ∀ (p : Addr) (ob : Obj), H p = none → ob.dict = none → Q (.ref p) (upd H p (.frz ob (.tup vs)))
section
variable {X : Cx} {es : List Expr} {t : TA} {pos : Pos}
def tTupF (t : TA) : TE := fun σ H Q => t σ H fun xs H1 => xs.length ≤ sizeLine ∧ nwT xs H1 Q
theorem frz_new {P : Program} {w : World} {H : Hp} {h : Heap} {its : List Value} {xs : List V} (hz : xs.length ≤ sizeLine) (r : Vals xs its) :
    ObjOk P w H (h.push { cls := .type "tuple", data := .seq its.toArray }) h.objs.size (.frz { cls := .type "tuple", data := .seq its.toArray } (.tup xs)) :=
  ⟨Heap.get?_push_size _ rfl, hz, its, r, IsTup.new _ _⟩
theorem pe_tupF {x1} (h : PA X es t) : PE X (.Tuple es x1 pos) (tTupF t) := by
  refine ⟨fun pins s σ H Q I hq => ?_⟩
  refine wpAny_Tuple_spliced (thn (h.run pos pins s σ H _ I hq) fun us s1 ⟨xs, H1, I1, r, z, q⟩ => ⟨by rw [← r.length]; exact z, ?_⟩)
  have hf : H1 s1.heap.objs.size = none := I1.hok.fresh (Nat.le_refl _)
  exact ⟨.ref s1.heap.objs.size, _, I1.laid (t' := s1.toks) (fun b u e => Heap.get?_push_of_some _ e) (Nat.le_refl _) (frz_new z r), rfl, q _ _ hf rfl⟩
def rCatF (K : PySem.W.Frag) : R2 := fun x y H Q => ∃ a b xs ys, x = .ref a ∧ y = .ref b ∧ SqT K H a xs ∧ SqT K H b ys ∧ xs.length + ys.length ≤ sizeLine ∧
  (xs = [] → Q (.ref b) H) ∧ (xs ≠ [] → ys = [] → Q (.ref a) H) ∧ (xs ≠ [] → ys ≠ [] → nwT (xs ++ ys) H Q)
theorem op_catF : OpR X (binaryOp .Add) (rCatF X.K) := by
  intro pins s σ H x y v u Q I rx ry h
  obtain ⟨a, b, xs, ys, rfl, rfl, ha, hb, hz, q0, q1, q2⟩ := h
  cases rx
  cases ry
  obtain ⟨its, r1, p1, _⟩ := I.tuple ha
  obtain ⟨its2, r2, p2, _⟩ := I.tuple hb
  by_cases hx : xs = []
  · subst hx
    cases r1
    exact cat_tup0 p1 p2 ⟨.ref b, H, I, rfl, q0 rfl⟩
  · refine HT.cat_tup p1 p2 (fun z => hx (r1.nil_iff.mp z)) (fun z => ⟨.ref a, H, I, rfl, q1 hx (r2.nil_iff.mp z)⟩) (fun z => ?_) (by rw [← r1.length, ← r2.length]; exact hz)
    exact ⟨.ref s.heap.objs.size, _, I.laid (t' := s.toks) (fun b ob q => Heap.get?_push_of_some _ q) (Nat.le_refl _) (frz_new (by rw [List.length_append]; exact hz) (r1.append r2)), rfl, q2 hx (fun w => z (r2.nil_iff.mpr w)) _ _ (I.hok.fresh (Nat.le_refl _)) rfl⟩
def rSlF (K : PySem.W.Frag) : V → Option Int → Option Int → Hp → VK → Prop := fun x lo hi H Q => ∃ a xs, x = .ref a ∧ SqT K H a xs ∧
  (HT.sIx xs.length 0 lo = 0 ∧ HT.sIx xs.length xs.length hi = xs.length → Q (.ref a) H) ∧ (¬ (HT.sIx xs.length 0 lo = 0 ∧ HT.sIx xs.length xs.length hi = xs.length) → nwT (cutV xs lo hi) H Q)
theorem sl_tupF : SlR X (rSlF X.K) := by
  intro pins s σ H x v vl vu lo hi sl Q I rx hs pl pu h
  obtain ⟨a, xs, rfl, hx, q1, q2⟩ := h
  cases rx
  obtain ⟨its, r, ht, hz⟩ := I.tuple hx
  have hlen : its.toArray.size = xs.length := by rw [List.size_toArray]; exact r.length.symm
  refine ⟨"tuple", _, PyProof.Rows.slot_tuple_getitem.lookup, ht.typeIs, ?_⟩
  by_cases hw : HT.sIx xs.length 0 lo = 0 ∧ HT.sIx xs.length xs.length hi = xs.length
  · exact getItem_tuple_whole ht hs pl pu (by rw [hlen]; exact hw) ⟨.ref a, H, I, rfl, q1 hw⟩
  · refine HT.getItem_tuple_cut ht hs pl pu (by rw [hlen]; exact hw) ?_ (by rw [hlen]; exact hz)
    rw [hlen]
    exact ⟨.ref s.heap.objs.size, _, I.laid (t' := s.toks) (fun b ob q => Heap.get?_push_of_some _ q) (Nat.le_refl _) (frz_new (Nat.le_trans (cutV_length xs lo hi) hz) ((r.drop (HT.sIx xs.length 0 lo)).take (HT.sIx xs.length xs.length hi - HT.sIx xs.length 0 lo))), rfl, q2 hw _ _ (I.hok.fresh (Nat.le_refl _)) rfl⟩
theorem call_tupleF : CallR X (.type "tuple") (fun xs H Q => ∃ p ys, xs = [.ref p] ∧ ((SqL X.K H p ys ∧ nwT ys H Q) ∨ (SqT X.K H p ys ∧ Q (.ref p) H))) := by
  intro pins s σ H xs us Q I r h
  obtain ⟨p, ys, rfl, h⟩ := h
  obtain ⟨u, rfl, rx⟩ := vals1 r
  cases rx
  rcases h with ⟨hq, q⟩ | ⟨hq, q⟩
  · obtain ⟨its, r', pl, hz⟩ := I.list hq
    have hlen := r'.length
    refine call_tuple_list pl.isList (fun h' kp => ?_) (by simp only [List.size_toArray] <;> omega)
    have I1 : Inv X pins σ H { s with heap := h' } := I.kept (t' := s.toks) kp
    have I2 : Inv X pins σ (upd H h'.objs.size (.frz { cls := .type "tuple", data := .seq its.toArray } (.tup ys))) { s with heap := h'.push { cls := .type "tuple", data := .seq its.toArray } } :=
      I1.laid (t' := s.toks) (fun b o e => Heap.get?_push_of_some _ e) (Nat.le_refl _) (frz_new hz r')
    exact ⟨.ref h'.objs.size, _, I2, rfl, q _ _ (I1.hok.fresh (Nat.le_refl _)) rfl⟩
  · obtain ⟨its, r', pl, hz⟩ := I.tuple hq
    exact call_tuple_same pl ⟨.ref p, H, I, rfl, q⟩
def rRepF (K : PySem.W.Frag) : R2 := fun x y H Q => ∃ l k xs, x = .ref l ∧ y = .int k ∧ SqT K H l xs ∧ xs ≠ [] ∧ 2 ≤ k ∧ k ≤ 1000 ∧ xs.length ≤ 1000 ∧ nwT (List.replicate k.toNat xs).flatten H Q
theorem op_repF : OpR X (binaryOp .Mult) (rRepF X.K) := by
  intro pins s σ H x y v u Q I rx ry h
  obtain ⟨l, k, xs, rfl, rfl, hT, hne, h1, h2, hz, q⟩ := h
  cases rx
  obtain ⟨t, rfl⟩ := ry
  obtain ⟨its, r, ⟨⟨cls, dd, data, sl⟩, ho, hc, n, hd⟩, hs⟩ := I.tuple hT
  simp only at hc hd
  subst hc hd
  have hle : its.length = xs.length := r.length.symm
  have hn : its ≠ [] := fun e => hne (by
    rw [e] at hle
    exact List.eq_nil_of_length_eq_zero hle.symm)
  have hi : its.toArray.isEmpty = false := by
    cases its with
    | nil => exact absurd rfl hn
    | cons a b => rfl
  have hsz0 : its.toArray.size = xs.length := by rw [List.size_toArray, hle]
  have hm : ((its.toArray.size : Nat) : Int) * k ≤ 1000000 := by
    rw [hsz0]
    have a1 : ((xs.length : Nat) : Int) * k ≤ 1000 * k := Int.mul_le_mul_of_nonneg_right (by omega) (by omega)
    omega
  have flen : (List.replicate k.toNat its).flatten.length ≤ sizeLine := by
    rw [PyProof.Rows.lm_len_rep_flat, hle, sizeLine_eq]
    have a1 : k.toNat * xs.length ≤ 1000 * 1000 := Nat.mul_le_mul (by omega) hz
    omega
  have c0 : (decide (k < -(2 ^ 63)) || decide (k ≥ 2 ^ 63)) = false := by
    rw [decide_eq_false (by omega), decide_eq_false (by omega)] <;> rfl
  have c1 : (its.toArray.isEmpty || k == 1) = false := by
    rw [hi, Bool.false_or]
    exact beq_eq_false_iff_ne.mpr (by omega)
  have c2 : (decide (k ≤ 0) || its.toArray.isEmpty) = false := by
    rw [hi, Bool.or_false]
    exact decide_eq_false (by omega)
  have c4 : Builtin.Tuple.tupleTooMany (((its.toArray.size : Nat) : Int) * k) = false := by
    unfold Builtin.Tuple.tupleTooMany
    rw [sizeLine_eq]
    exact decide_eq_false (by omega)
  refine wpAny_binaryOp_repeat_ref (T := "tuple") (U := "int") (by decide) ⟨_, ho, rfl⟩ (fun s' => typeIs_int s' k t) noFill_tuple_mul F.fills_int_mul F.slot_int_rmul repeat_tuple F.slot_int_index.lookup
    (call_meets F.slot_int_rmul (typeIs_int s k t) F.entry_int_rmul (F.args_int_rmul_2 _ _) (int_rmul_tuple k t l its.toArray n dd sl)
      ⟨ho, rfl, ⟨_, ho, rfl⟩, call_meets F.slot_tuple_mul ⟨_, ho, rfl⟩ F.entry_tuple_mul (F.args_tuple_mul_2 _ _) (tuple_mulW l its.toArray n dd sl k t c0 c1 c2 (by omega) c4 (by rw [size_rep, List.size_toArray]; exact flen)) ⟨ho, ?_⟩⟩)
  rw [size_rep]
  exact ⟨.ref s.heap.objs.size, _, I.laid (t' := s.toks) (fun b ob q => Heap.get?_push_of_some _ q) (Nat.le_refl _) (frz_new (by rw [PyProof.Rows.lm_len_rep_flat, sizeLine_eq]; have a1 : k.toNat * xs.length ≤ 1000 * 1000 := Nat.mul_le_mul (by omega) hz; omega) (r.rep k.toNat)), rfl, q _ _ (I.hok.fresh (Nat.le_refl _)) rfl⟩
end
end Pz

set_option Elab.async false
set_option linter.all false
set_option maxRecDepth 100000
set_option maxHeartbeats 4000000
/-! Pz1: data trees, the store, how they lie in the abstract heap; what an expression computes as a Lean function. -/
namespace Pz
open PySem PySem.Spec PyProof.Rows L2

/-! ### data, store, ends -/
inductive D where
  | non | bl (b : Bool) | int (i : Int) | str (s : Str) | tup (xs : List D) | ref (n : Nat) | fn (a : Addr) | rl (xs : List D)

abbrev Loc := List (Option D)
inductive Ob where
  | lst (xs : List D)
  | dk (kvs : List (Key × D))
  | ins (C : Str) (fs : List (Str × D))
  /-- a dict whose keys are nested tuples, its values ints: each pair turned round -/
  | dn (kvs : List (Int × D))
abbrev Sto := List Ob
mutual
/-- the key of a dict that a value is -/
def nkD : D → Option NestedKey
  | .non => some .none
  | .bl b => some (.num (if b = true then 1 else 0))
  | .int i => some (.num i)
  | .tup xs => match nkDs xs with
    | some ks => some (.tup ks)
    | none => none
  | _ => none
def nkDs : List D → Option (List NestedKey)
  | [] => some []
  | x :: xs => match nkD x, nkDs xs with
    | some k, some ks => some (k :: ks)
    | _, _ => none
end
/-- the entries of the dict -/
inductive DnE : List (Int × D) → List (Int × V) → List (NestedKey × Addr × Value) → Prop
  | nil : DnE [] [] []
  | cons {z d k b t r us xs} : nkD d = some k → k.depth ≤ 8 → DnE r us xs → DnE ((z, d) :: r) ((z, .ref b) :: us) ((k, b, .int z t) :: xs)
/-- the dict itself -/
def DnO (a : Addr) (kvs : List (Int × D)) (us : List (Int × V)) : Heap → Prop := fun h => ∃ o es ep xs, h.get? a = some o ∧ o.ExactDict ∧ o.data = .dict es ep ∧ DnE kvs us xs ∧ (xs.map (·.1)).Nodup ∧
  ∀ (P : Program) (w : World), es.toList = xs.map (entryOfKey (nestedKind P w))
inductive Out (α : Type) where
  | ok (a : α) (S : Sto)
  | ex (C : Str) (fs : Option (List (Str × D))) (S : Sto)
  | bad
def Out.bind {α β : Type} (o : Out α) (f : α → Sto → Out β) : Out β := match o with
  | .ok a S => f a S
  | .ex C fs S => .ex C fs S
  | .bad => .bad
inductive OutS where
  | nx (l : Loc) (S : Sto)
  | rt (d : D) (S : Sto)
  | bk (l : Loc) (S : Sto)
  | ct (l : Loc) (S : Sto)
  | ex (l : Loc) (C : Str) (fs : Option (List (Str × D))) (S : Sto)
  | bad

section
variable (K : PySem.W.Frag) (m : List Addr) (H : Hp)
/-- a list that nobody writes at: the script -/
def SqF (a : Addr) (xs : List V) : Prop := (∃ o, H a = some (.frz o (.lst xs))) ∨
    ∃ (o : Obj) (its : Array Value) (n : Nat), K.lookup a = some o ∧ o.cls = .type "list" ∧ o.dict = none ∧ o.data = .seq its n ∧ its.size ≤ sizeLine ∧ Vals xs its.toList
/-- a tuple that has no dict -/
def SqN (a : Addr) (xs : List V) : Prop := (∃ ob : Obj, ob.dict = none ∧ H a = some (.frz ob (.tup xs))) ∨
    ∃ (o : Obj) (its : Array Value) (n : Nat), K.lookup a = some o ∧ o.cls = .type "tuple" ∧ o.dict = none ∧ o.data = .seq its n ∧ its.size ≤ sizeLine ∧ Vals xs its.toList
mutual
def VR : D → V → Prop
  | .non, v => v = .non
  | .bl b, v => v = .bl b
  | .int i, v => v = .int i
  | .str s, v => v = .str s
  | .tup xs, v => ∃ a vs, v = .ref a ∧ SqN K H a vs ∧ VRs xs vs
  | .ref n, v => ∃ a, m[n]? = some a ∧ v = .ref a
  | .fn a, v => v = .ref a
  | .rl xs, v => ∃ a vs, v = .ref a ∧ SqF K H a vs ∧ VRs xs vs
def VRs : List D → List V → Prop
  | [], vs => vs = []
  | x :: xs, vs => ∃ v r, vs = v :: r ∧ VR x v ∧ VRs xs r
end
def AR {κ : Type} : List (κ × D) → List (κ × V) → Prop
  | [], us => us = []
  | (k, d) :: r, us => ∃ v q, us = (k, v) :: q ∧ VR K m H d v ∧ AR r q
/-- where the class of that name stands -/
def clsA (C : Str) : Addr := match PySem.W.nsIn K mainGlobals C with
  | some (some (.ref a)) => a
  | _ => 0
def OR : Ob → Addr → Prop
  | .lst xs, a => ∃ vs, H a = some (.lst vs) ∧ VRs K m H xs vs
  | .dk kvs, a => ∃ us, H a = some (.dK us) ∧ AR K m H kvs us
  | .ins C fs, a => ∃ dx us, H a = some (.ins (clsA K C) dx us) ∧ AR K m H fs us
  | .dn kvs, a => ∃ us, H a = some (.ext (DnO a kvs us)) ∧ AR K m H kvs us
structure SR (S : Sto) : Prop where
  len : m.length = S.length
  nd : m.Nodup
  «at» : ∀ (n : Nat) o, S[n]? = some o → ∃ a, m[n]? = some a ∧ OR K m H o a
  sys : ∃ o u, H sysModules = some (.frz o u)
/-- an exception of the class at C with these fields -/
def XR (C : Str) (fs : Option (List (Str × D))) (cls : Value) (d : Option Addr) : Prop := cls = .ref (clsA K C) ∧ match fs with
  | none => d = none
  | some fs => ∃ a us, d = some a ∧ H a = some (.xd us) ∧ AR K m H fs us
end
structure Ext (m : List Addr) (H : Hp) (m' : List Addr) (H' : Hp) : Prop where
  mu : ∃ ν, m' = m ++ ν ∧ ∀ a ∈ ν, H a = none
  tup : ∀ a xs, H a = some (.tup xs) → H' a = some (.tup xs)
  frz : ∀ a o u, H a = some (.frz o u) → H' a = some (.frz o u)
  oth : ∀ a o, H a = some o → a ∉ m → H' a = some o
  dom : ∀ a, H' a = none → H a = none

section
variable {K : PySem.W.Frag} {m m1 m2 m' : List Addr} {H H1 H2 H' : Hp} {S S' : Sto} {a p : Addr}
theorem Ext.refl : Ext m H m H := ⟨⟨[], by simp, fun _ h => nomatch h⟩, fun _ _ h => h, fun _ _ _ h => h, fun _ _ h _ => h, fun _ h => h⟩
theorem Ext.trans (e : Ext m H m1 H1) (f : Ext m1 H1 m2 H2) : Ext m H m2 H2 := by
  obtain ⟨n1, rfl, q1⟩ := e.mu
  obtain ⟨n2, rfl, q2⟩ := f.mu
  refine ⟨⟨n1 ++ n2, by rw [List.append_assoc], fun a ha => ?_⟩, fun a xs h => f.tup a xs (e.tup a xs h), fun a o u h => f.frz a o u (e.frz a o u h), fun a o h hn => ?_, fun a h => e.dom a (f.dom a h)⟩
  · rcases List.mem_append.mp ha with ha | ha
    · exact q1 a ha
    · exact e.dom a (q2 a ha)
  · refine f.oth a o (e.oth a o h hn) fun hm => ?_
    rcases List.mem_append.mp hm with hm | hm
    · exact hn hm
    · rw [q1 a hm] at h; cases h
theorem Ext.get (e : Ext m H m' H') {n : Nat} (h : m[n]? = some a) : m'[n]? = some a := by
  obtain ⟨ν, rfl, _⟩ := e.mu
  rw [List.getElem?_append_left (List.getElem?_eq_some_iff.mp h).1]; exact h
theorem SqT.ext {vs : List V} (e : Ext m H m' H') (h : SqT K H a vs) : SqT K H' a vs := by
  rcases h with (h | ⟨o, h⟩) | h
  · exact .inl (.inl (e.tup _ _ h))
  · exact .inl (.inr ⟨o, e.frz _ _ _ h⟩)
  · exact .inr h
theorem SqF.ext {vs : List V} (e : Ext m H m' H') (h : SqF K H a vs) : SqF K H' a vs := by
  rcases h with ⟨o, h⟩ | h
  · exact .inl ⟨o, e.frz _ _ _ h⟩
  · exact .inr h
theorem SqF.sql {vs : List V} (h : SqF K H a vs) : SqL K H a vs := by
  rcases h with ⟨o, h⟩ | h
  · exact .inl (.inr ⟨o, h⟩)
  · exact .inr h
theorem SqT.mono {vs : List V} (t : ∀ a xs, H a = some (.tup xs) → H' a = some (.tup xs)) (z : ∀ a o u, H a = some (.frz o u) → H' a = some (.frz o u)) (h : SqT K H a vs) : SqT K H' a vs := by
  rcases h with (h | ⟨o, h⟩) | h
  · exact .inl (.inl (t _ _ h))
  · exact .inl (.inr ⟨o, z _ _ _ h⟩)
  · exact .inr h
theorem SqN.t {vs : List V} (h : SqN K H a vs) : SqT K H a vs := by
  rcases h with ⟨ob, _, h⟩ | ⟨o, its, n, h1, h2, _, h3, h4, h5⟩
  · exact .inl (.inr ⟨ob, h⟩)
  · exact .inr ⟨o, its, n, h1, h2, h3, h4, h5⟩
instance {vs : List V} : Coe (SqN K H a vs) (SqT K H a vs) := ⟨SqN.t⟩
theorem SqN.ext {vs : List V} (e : Ext m H m' H') (h : SqN K H a vs) : SqN K H' a vs := by
  rcases h with ⟨o, h1, h⟩ | h
  · exact .inl ⟨o, h1, e.frz _ _ _ h⟩
  · exact .inr h
theorem SqN.mono {vs : List V} (z : ∀ a o u, H a = some (.frz o u) → H' a = some (.frz o u)) (h : SqN K H a vs) : SqN K H' a vs := by
  rcases h with ⟨o, h1, h⟩ | h
  · exact .inl ⟨o, h1, z _ _ _ h⟩
  · exact .inr h
theorem SqF.mono {vs : List V} (z : ∀ a o u, H a = some (.frz o u) → H' a = some (.frz o u)) (h : SqF K H a vs) : SqF K H' a vs := by
  rcases h with ⟨o, h⟩ | h
  · exact .inl ⟨o, z _ _ _ h⟩
  · exact .inr h
mutual
theorem VR.mono (k : ∀ (n : Nat) (a : Addr), m[n]? = some a → m'[n]? = some a) (t : ∀ a xs, H a = some (.tup xs) → H' a = some (.tup xs)) (z : ∀ a o u, H a = some (.frz o u) → H' a = some (.frz o u)) : ∀ (d : D) (v : V), VR K m H d v → VR K m' H' d v
  | .non, _, h => by simpa only [VR] using h
  | .bl _, _, h => by simpa only [VR] using h
  | .int _, _, h => by simpa only [VR] using h
  | .str _, _, h => by simpa only [VR] using h
  | .fn _, _, h => by simpa only [VR] using h
  | .tup xs, _, h => by
    simp only [VR] at h ⊢
    obtain ⟨a, vs, h1, h2, h3⟩ := h
    exact ⟨a, vs, h1, SqN.mono z h2, VRs.mono k t z xs vs h3⟩
  | .ref _, _, h => by
    simp only [VR] at h ⊢
    obtain ⟨a, h1, h2⟩ := h
    exact ⟨a, k _ _ h1, h2⟩
  | .rl xs, _, h => by
    simp only [VR] at h ⊢
    obtain ⟨a, vs, h1, h2, h3⟩ := h
    exact ⟨a, vs, h1, SqF.mono z h2, VRs.mono k t z xs vs h3⟩
theorem VRs.mono (k : ∀ (n : Nat) (a : Addr), m[n]? = some a → m'[n]? = some a) (t : ∀ a xs, H a = some (.tup xs) → H' a = some (.tup xs)) (z : ∀ a o u, H a = some (.frz o u) → H' a = some (.frz o u)) : ∀ (d : List D) (v : List V), VRs K m H d v → VRs K m' H' d v
  | [], _, h => by simpa only [VRs] using h
  | x :: xs, _, h => by
    simp only [VRs] at h ⊢
    obtain ⟨v, r, h1, h2, h3⟩ := h
    exact ⟨v, r, h1, VR.mono k t z x v h2, VRs.mono k t z xs r h3⟩
end
theorem AR.mono {κ : Type} (k : ∀ (n : Nat) (a : Addr), m[n]? = some a → m'[n]? = some a) (t : ∀ a xs, H a = some (.tup xs) → H' a = some (.tup xs)) (z : ∀ a o u, H a = some (.frz o u) → H' a = some (.frz o u)) : ∀ (d : List (κ × D)) (v : List (κ × V)), AR K m H d v → AR K m' H' d v
  | [], _, h => h
  | (_, x) :: xs, _, h => by
    obtain ⟨v, r, h1, h2, h3⟩ := h
    exact ⟨v, r, h1, VR.mono k t z x v h2, AR.mono k t z xs r h3⟩
theorem VR.ext (e : Ext m H m' H') (d : D) (v : V) (h : VR K m H d v) : VR K m' H' d v := VR.mono (fun _ _ q => e.get q) e.tup e.frz d v h
theorem VRs.ext (e : Ext m H m' H') (d : List D) (v : List V) (h : VRs K m H d v) : VRs K m' H' d v := VRs.mono (fun _ _ q => e.get q) e.tup e.frz d v h
theorem AR.ext {κ : Type} (e : Ext m H m' H') (d : List (κ × D)) (v : List (κ × V)) (h : AR K m H d v) : AR K m' H' d v := AR.mono (fun _ _ q => e.get q) e.tup e.frz d v h
theorem OR.ext (e : Ext m H m' H') (ha : H' a = H a) : ∀ o : Ob, OR K m H o a → OR K m' H' o a
  | .lst xs, ⟨vs, h1, h2⟩ => ⟨vs, ha.trans h1, VRs.ext e _ _ h2⟩
  | .dk kvs, ⟨us, h1, h2⟩ => ⟨us, ha.trans h1, AR.ext e _ _ h2⟩
  | .ins C fs, ⟨dx, us, h1, h2⟩ => ⟨dx, us, ha.trans h1, AR.ext e _ _ h2⟩
  | .dn kvs, ⟨us, h1, h2⟩ => ⟨us, ha.trans h1, AR.ext e _ _ h2⟩
theorem XR.ext {C : Str} {fs : Option (List (Str × D))} {cls : Value} {d : Option Addr} (e : Ext m H m' H') (hn : ∀ a, d = some a → a ∉ m) (h : XR K m H C fs cls d) : XR K m' H' C fs cls d := by
  obtain ⟨h1, h2⟩ := h
  refine ⟨h1, ?_⟩
  cases fs with
  | none => exact h2
  | some fs =>
    obtain ⟨a, us, rfl, h3, h4⟩ := h2
    exact ⟨a, us, rfl, e.oth _ _ h3 (hn a rfl), AR.ext e _ _ h4⟩
theorem OR.here {o : Ob} (h : OR K m H o a) : H a ≠ none := by
  cases o with
  | lst xs => obtain ⟨_, h, _⟩ := h; rw [h]; exact fun q => by cases q
  | dk xs => obtain ⟨_, h, _⟩ := h; rw [h]; exact fun q => by cases q
  | ins C fs => obtain ⟨_, _, h, _⟩ := h; rw [h]; exact fun q => by cases q
  | dn xs => obtain ⟨_, h, _⟩ := h; rw [h]; exact fun q => by cases q
/-- what may be written and stands in the store -/
def Mu (o : Option HO) : Prop := (∀ xs, o ≠ some (.tup xs)) ∧ ∀ ob u, o ≠ some (.frz ob u)
theorem OR.mu {o : Ob} (h : OR K m H o a) : Mu (H a) := by
  cases o with
  | lst xs => obtain ⟨_, h, _⟩ := h; rw [h]; exact ⟨fun _ q => (by cases q), fun _ _ q => (by cases q)⟩
  | dk xs => obtain ⟨_, h, _⟩ := h; rw [h]; exact ⟨fun _ q => (by cases q), fun _ _ q => (by cases q)⟩
  | ins C fs => obtain ⟨_, _, h, _⟩ := h; rw [h]; exact ⟨fun _ q => (by cases q), fun _ _ q => (by cases q)⟩
  | dn xs => obtain ⟨_, h, _⟩ := h; rw [h]; exact ⟨fun _ q => (by cases q), fun _ _ q => (by cases q)⟩
theorem SR.mem (s : SR K m H S) (h : a ∈ m) : ∃ (n : Nat) (o : Ob), S[n]? = some o ∧ m[n]? = some a ∧ OR K m H o a := by
  obtain ⟨n, hn⟩ := List.mem_iff_getElem?.mp h
  have hl := (List.getElem?_eq_some_iff.mp hn).1
  have hl' : n < S.length := by rw [← s.len]; exact hl
  obtain ⟨b, hb, ho⟩ := s.at n S[n] (by simp [hl'])
  rw [hn] at hb; cases hb
  exact ⟨n, _, by simp [hl'], hn, ho⟩
theorem SR.notin (s : SR K m H S) (h : H a = none) : a ∉ m := fun hm => by
  obtain ⟨_, _, _, _, ho⟩ := s.mem hm
  exact ho.here h
theorem SR.keep (s : SR K m H S) (e : Ext m H m H') (h : ∀ a ∈ m, H' a = H a) : SR K m H' S :=
  ⟨s.len, s.nd, fun n o ho => by
    obtain ⟨a, h1, h2⟩ := s.at n o ho
    exact ⟨a, h1, h2.ext e (h a (List.mem_iff_getElem?.mpr ⟨n, h1⟩))⟩, let ⟨o, u, h⟩ := s.sys; ⟨o, u, e.frz _ _ _ h⟩⟩
/-- something new that is not in the store -/
theorem Ext.tmp {ho : HO} (hp : H p = none) : Ext m H m (upd H p ho) := by
  have ne : ∀ {b o}, H b = some o → b ≠ p := fun {b o} h q => by rw [q, hp] at h; cases h
  refine ⟨⟨[], by simp, fun _ h => nomatch h⟩, fun a xs h => by rw [upd_ne (ne h)]; exact h, fun a o u h => by rw [upd_ne (ne h)]; exact h, fun a o h _ => by rw [upd_ne (ne h)]; exact h, fun a h => ?_⟩
  by_cases q : a = p
  · rw [q]; exact hp
  · rw [upd_ne q] at h; exact h
theorem SR.tmp {ho : HO} (s : SR K m H S) (hp : H p = none) : SR K m (upd H p ho) S :=
  s.keep (Ext.tmp hp) fun a ha => upd_ne fun q => s.notin hp (by rw [← q]; exact ha)
/-- a temporary goes into the store -/
theorem Ext.into (hp : H p = none) (e : Ext m H m' H') : Ext m H (m' ++ [p]) H' := by
  obtain ⟨ν, rfl, q⟩ := e.mu
  exact ⟨⟨ν ++ [p], by rw [List.append_assoc], fun a ha => (List.mem_append.mp ha).elim (q a) fun h => by rw [List.mem_singleton.mp h]; exact hp⟩, e.tup, e.frz, e.oth, e.dom⟩
/-- the store grows by what stands already in the heap -/
theorem Ext.grow (hp : ∀ a ∈ m', H a = none) : Ext m H (m ++ m') H := ⟨⟨m', rfl, hp⟩, fun _ _ h => h, fun _ _ _ h => h, fun _ _ h _ => h, fun _ h => h⟩
theorem OR.keys {m m' : List Addr} (key : ∀ (n : Nat) (a : Addr), m[n]? = some a → m'[n]? = some a) : ∀ o : Ob, OR K m H o a → OR K m' H o a
  | .lst xs, ⟨vs, h1, h2⟩ => ⟨vs, h1, VRs.mono key (fun _ _ h => h) (fun _ _ _ h => h) _ _ h2⟩
  | .dk kvs, ⟨us, h1, h2⟩ => ⟨us, h1, AR.mono key (fun _ _ h => h) (fun _ _ _ h => h) _ _ h2⟩
  | .ins C fs, ⟨dx, us, h1, h2⟩ => ⟨dx, us, h1, AR.mono key (fun _ _ h => h) (fun _ _ _ h => h) _ _ h2⟩
  | .dn kvs, ⟨us, h1, h2⟩ => ⟨us, h1, AR.mono key (fun _ _ h => h) (fun _ _ _ h => h) _ _ h2⟩
theorem SR.grow {o : Ob} (s : SR K m H S) (hp : p ∉ m) (ho : OR K m H o p) : SR K (m ++ [p]) H (S ++ [o]) := by
  have key : ∀ (n : Nat) (a : Addr), m[n]? = some a → (m ++ [p])[n]? = some a := fun n a h => by
    rw [List.getElem?_append_left (List.getElem?_eq_some_iff.mp h).1]; exact h
  refine ⟨by simp [s.len], ?_, fun n ob hn => ?_, s.sys⟩
  · rw [List.nodup_append]
    exact ⟨s.nd, by simp, fun a ha b hb q => hp (by rw [List.mem_singleton.mp hb] at q; rw [← q]; exact ha)⟩
  · by_cases hl : n < S.length
    · rw [List.getElem?_append_left hl] at hn
      obtain ⟨a, h1, h2⟩ := s.at n ob hn
      exact ⟨a, key n a h1, OR.keys key _ h2⟩
    · have hl2 := (List.getElem?_eq_some_iff.mp hn).1
      rw [List.length_append, List.length_singleton] at hl2
      have e : n = S.length := by omega
      subst e
      rw [List.getElem?_concat_length] at hn
      cases hn
      exact ⟨p, by rw [← s.len, List.getElem?_concat_length], OR.keys key _ ho⟩
/-- an object of the store is written -/
theorem Ext.wr {ho : HO} (ha : a ∈ m) (mu : Mu (H a)) : Ext m H m (upd H a ho) := by
  refine ⟨⟨[], by simp, fun _ h => nomatch h⟩, fun b xs h => ?_, fun b o u h => ?_, fun b o h hn => ?_, fun b h => ?_⟩
  · rw [upd_ne (show b ≠ a from fun q => mu.1 xs (by rw [← q]; exact h))]; exact h
  · rw [upd_ne (show b ≠ a from fun q => mu.2 o u (by rw [← q]; exact h))]; exact h
  · rw [upd_ne (show b ≠ a from fun q => hn (by rw [q]; exact ha))]; exact h
  · by_cases q : b = a
    · rw [q, upd_same] at h; cases h
    · rw [upd_ne q] at h; exact h
theorem SR.wr {ho : HO} {n : Nat} {o : Ob} (s : SR K m H S) (hn : m[n]? = some a) (mu : Mu (H a)) (new : OR K m (upd H a ho) o a) : SR K m (upd H a ho) (S.set n o) := by
  have ha : a ∈ m := List.mem_iff_getElem?.mpr ⟨n, hn⟩
  have e : Ext m H m (upd H a ho) := Ext.wr ha mu
  have hl := (List.getElem?_eq_some_iff.mp hn).1
  rw [s.len] at hl
  refine ⟨by simp [s.len], s.nd, fun k ob hk => ?_, let ⟨o, u, h⟩ := s.sys; ⟨o, u, e.frz _ _ _ h⟩⟩
  by_cases q : k = n
  · subst q
    rw [List.getElem?_set_self hl] at hk
    cases hk
    exact ⟨a, hn, new⟩
  · rw [List.getElem?_set_ne (Ne.symm q)] at hk
    obtain ⟨b, h1, h2⟩ := s.at k ob hk
    refine ⟨b, h1, h2.ext e (upd_ne fun z => q ?_)⟩
    subst z
    exact (List.getElem?_inj (List.getElem?_eq_some_iff.mp h1).1 s.nd).mp (h1.trans hn.symm)
theorem SR.ref (s : SR K m H S) {n : Nat} {o : Ob} {v : V} (h : S[n]? = some o) (r : VR K m H (.ref n) v) : ∃ a, v = .ref a ∧ m[n]? = some a ∧ a ∈ m ∧ OR K m H o a := by
  simp only [VR] at r
  obtain ⟨a, h1, h2⟩ := r
  obtain ⟨b, h3, h4⟩ := s.at n o h
  rw [h1] at h3; cases h3
  exact ⟨a, h2, h1, List.mem_iff_getElem?.mpr ⟨n, h1⟩, h4⟩
end
section
variable {K : PySem.W.Frag} {m : List Addr} {H : Hp}
theorem VRs.length : ∀ {ds : List D} {vs : List V}, VRs K m H ds vs → vs.length = ds.length
  | [], _, h => by simp only [VRs] at h; rw [h]; rfl
  | x :: xs, _, h => by
    simp only [VRs] at h
    obtain ⟨v, r, rfl, _, h⟩ := h
    simp [VRs.length h]
theorem VRs.nil : VRs K m H [] [] := by simp only [VRs]
theorem VRs.cons {d : D} {ds : List D} {v : V} {vs : List V} (h : VR K m H d v) (t : VRs K m H ds vs) : VRs K m H (d :: ds) (v :: vs) := by
  simp only [VRs]; exact ⟨v, vs, rfl, h, t⟩
theorem VRs.append : ∀ {ds es : List D} {vs us : List V}, VRs K m H ds vs → VRs K m H es us → VRs K m H (ds ++ es) (vs ++ us)
  | [], _, _, _, h, t => by simp only [VRs] at h; rw [h]; exact t
  | x :: xs, _, _, _, h, t => by
    simp only [VRs] at h
    obtain ⟨v, r, rfl, h1, h⟩ := h
    exact .cons h1 (VRs.append h t)
theorem VRs.get : ∀ {ds : List D} {vs : List V} {i : Nat} {d : D}, VRs K m H ds vs → ds[i]? = some d → ∃ v, vs[i]? = some v ∧ VR K m H d v
  | [], _, _, _, _, e => by simp at e
  | x :: xs, _, 0, _, h, e => by
    simp only [VRs] at h
    obtain ⟨v, r, rfl, h1, h⟩ := h
    simp at e; subst e
    exact ⟨v, rfl, h1⟩
  | x :: xs, _, i + 1, d, h, e => by
    simp only [VRs] at h
    obtain ⟨v, r, rfl, h1, h⟩ := h
    obtain ⟨u, h2, h3⟩ := VRs.get (i := i) (d := d) h (by simpa using e)
    exact ⟨u, by simpa using h2, h3⟩
theorem VRs.take : ∀ {ds : List D} {vs : List V} (n : Nat), VRs K m H ds vs → VRs K m H (ds.take n) (vs.take n)
  | _, _, 0, _ => VRs.nil
  | [], _, _ + 1, h => by simp only [VRs] at h; rw [h]; exact VRs.nil
  | x :: xs, _, n + 1, h => by
    simp only [VRs] at h
    obtain ⟨v, r, rfl, h1, h⟩ := h
    exact .cons h1 (VRs.take n h)
theorem VRs.drop : ∀ {ds : List D} {vs : List V} (n : Nat), VRs K m H ds vs → VRs K m H (ds.drop n) (vs.drop n)
  | _, _, 0, h => h
  | [], _, _ + 1, h => by simp only [VRs] at h; rw [h]; exact VRs.nil
  | x :: xs, _, n + 1, h => by
    simp only [VRs] at h
    obtain ⟨v, r, rfl, h1, h⟩ := h
    exact VRs.drop n h
theorem VRs.set {d : D} {v : V} (r : VR K m H d v) : ∀ {ds : List D} {vs : List V} (i : Nat), VRs K m H ds vs → VRs K m H (ds.set i d) (vs.set i v)
  | [], _, _, h => by simp only [VRs] at h; rw [h]; exact VRs.nil
  | x :: xs, _, 0, h => by
    simp only [VRs] at h
    obtain ⟨v', r', rfl, h1, h⟩ := h
    exact .cons r h
  | x :: xs, _, n + 1, h => by
    simp only [VRs] at h
    obtain ⟨v', r', rfl, h1, h⟩ := h
    exact .cons h1 (VRs.set r n h)
theorem VRs.eraseIdx : ∀ {ds : List D} {vs : List V} (i : Nat), VRs K m H ds vs → VRs K m H (ds.eraseIdx i) (vs.eraseIdx i)
  | [], _, _, h => by simp only [VRs] at h; rw [h]; exact VRs.nil
  | x :: xs, _, 0, h => by
    simp only [VRs] at h
    obtain ⟨v, r, rfl, h1, h⟩ := h
    exact h
  | x :: xs, _, n + 1, h => by
    simp only [VRs] at h
    obtain ⟨v, r, rfl, h1, h⟩ := h
    exact .cons h1 (VRs.eraseIdx n h)
theorem VRs.reverse : ∀ {ds : List D} {vs : List V}, VRs K m H ds vs → VRs K m H ds.reverse vs.reverse
  | [], _, h => by simp only [VRs] at h; rw [h]; exact VRs.nil
  | x :: xs, _, h => by
    simp only [VRs] at h
    obtain ⟨v, r, rfl, h1, h⟩ := h
    rw [List.reverse_cons, List.reverse_cons]
    exact (VRs.reverse h).append (.cons h1 .nil)
theorem VRs.replicate {ds : List D} {vs : List V} (h : VRs K m H ds vs) : ∀ k : Nat, VRs K m H (List.replicate k ds).flatten (List.replicate k vs).flatten
  | 0 => .nil
  | k + 1 => by
    rw [List.replicate_succ, List.replicate_succ, List.flatten_cons, List.flatten_cons]
    exact h.append (VRs.replicate h k)
theorem VRs.ints : ∀ {ns : List Int} {vs : List V}, VRs K m H (ns.map D.int) vs → vs = ns.map V.int
  | [], _, h => by simpa only [List.map_nil, VRs] using h
  | n :: ns, _, h => by
    simp only [List.map_cons, VRs, VR] at h
    obtain ⟨v, r, rfl, rfl, h⟩ := h
    rw [VRs.ints h]; rfl
theorem VRs.of_ints : ∀ (ns : List Int), VRs K m H (ns.map D.int) (ns.map V.int)
  | [] => .nil
  | n :: ns => .cons (by simp only [VR]) (VRs.of_ints ns)
theorem VRs.bls : ∀ {ns : List Bool} {vs : List V}, VRs K m H (ns.map D.bl) vs → vs = ns.map V.bl
  | [], _, h => by simpa only [List.map_nil, VRs] using h
  | n :: ns, _, h => by
    simp only [List.map_cons, VRs, VR] at h
    obtain ⟨v, r, rfl, rfl, h⟩ := h
    rw [VRs.bls h]; rfl
theorem VRs.strs : ∀ {ns : List Str} {vs : List V}, VRs K m H (ns.map D.str) vs → vs = ns.map V.str
  | [], _, h => by simpa only [List.map_nil, VRs] using h
  | n :: ns, _, h => by
    simp only [List.map_cons, VRs, VR] at h
    obtain ⟨v, r, rfl, rfl, h⟩ := h
    rw [VRs.strs h]; rfl
theorem AR.lookup {κ : Type} [BEq κ] : ∀ {ds : List (κ × D)} {us : List (κ × V)} {k : κ}, AR K m H ds us → match ds.lookup k with
    | some d => ∃ v, us.lookup k = some v ∧ VR K m H d v
    | none => us.lookup k = none
  | [], _, k, h => by
    simp only [AR] at h
    rw [h]; rfl
  | (j, d) :: ds, _, k, h => by
    obtain ⟨v, q, rfl, h1, h2⟩ := h
    rw [List.lookup_cons, List.lookup_cons]
    cases k == j with
    | true => exact ⟨v, rfl, h1⟩
    | false => exact AR.lookup h2
theorem AR.length {κ : Type} : ∀ {ds : List (κ × D)} {us : List (κ × V)}, AR K m H ds us → us.length = ds.length
  | [], _, h => by simp only [AR] at h; rw [h]; rfl
  | (j, d) :: ds, _, h => by
    obtain ⟨v, q, rfl, h1, h2⟩ := h
    simp [AR.length h2]
end

/-! ### what is wanted behind a computation -/
abbrev PRel (α β : Type) := Hp → List Addr → Hp → α → β → Prop
section
variable {α β γ : Type} (K : PySem.W.Frag) (W : WX) (PR : PRel α β) (σ : L2.St) (m : List Addr) (H : Hp)
def post (Q : β → Hp → Prop) : Out α → Prop
  | .ok d S => ∀ v H' m', Ext m H m' H' → SR K m' H' S → PR H m' H' d v → Q v H'
  | .ex C fs S => ∀ cls dd H' m', Ext m H m' H' → SR K m' H' S → XR K m' H' C fs cls dd → W cls dd σ H'
  | .bad => False
end
/-- the relation leans on the entry's heap only by what was free there -/
def Anti {α β : Type} (PR : PRel α β) : Prop := ∀ H H1 m' H' a b, (∀ x, H1 x = none → H x = none) → PR H1 m' H' a b → PR H m' H' a b
section
variable {α β γ δ : Type} {K : PySem.W.Frag} {W : WX} {PR : PRel α β} {PR' : PRel γ δ} {σ : L2.St} {m m' : List Addr} {H H' : Hp} {S : Sto} {Q : β → Hp → Prop} {Q' : δ → Hp → Prop}
theorem post.mono (ha : Anti PR) (e : Ext m H m' H') : ∀ {o : Out α}, post K W PR σ m H Q o → post K W PR σ m' H' Q o
  | .ok _ _, h => fun v H2 m2 e2 s r => h v H2 m2 (e.trans e2) s (ha _ _ _ _ _ _ e.dom r)
  | .ex _ _ _, h => fun c d H2 m2 e2 s r => h c d H2 m2 (e.trans e2) s r
  | .bad, h => h
theorem post.imp {Q2 : β → Hp → Prop} (i : ∀ v H, Q v H → Q2 v H) : ∀ {o : Out α}, post K W PR σ m H Q o → post K W PR σ m H Q2 o
  | .ok _ _, h => fun v H2 m2 e2 s r => i _ _ (h v H2 m2 e2 s r)
  | .ex _ _ _, h => h
  | .bad, h => h
theorem post.bind (ha : Anti PR') {f : α → Sto → Out γ} : ∀ {o : Out α}, post K W PR' σ m H Q' (o.bind f) →
    (∀ a S1 v H1 m1, Ext m H m1 H1 → SR K m1 H1 S1 → PR H m1 H1 a v → post K W PR' σ m1 H1 Q' (f a S1) → Q v H1) → post K W PR σ m H Q o
  | .ok a S1, h, k => fun v H1 m1 e s r => k a S1 v H1 m1 e s r (post.mono ha e h)
  | .ex _ _ _, h, _ => h
  | .bad, h, _ => h
end
/-- the slots, the store, the heap -/
structure Rel (K : PySem.W.Frag) (l : Loc) (σ : L2.St) (m : List Addr) (S : Sto) (H : Hp) : Prop where
  sr : SR K m H S
  len : σ.length = l.length
  «at» : ∀ (i : Nat) d, l[i]? = some (some d) → ∃ v, σ[i]? = some (some v) ∧ VR K m H d v
theorem Rel.ext {K : PySem.W.Frag} {l : Loc} {σ : L2.St} {m m' : List Addr} {S S' : Sto} {H H' : Hp} (r : Rel K l σ m S H) (e : Ext m H m' H') (s : SR K m' H' S') : Rel K l σ m' S' H' :=
  ⟨s, r.len, fun i d h => let ⟨v, h1, h2⟩ := r.at i d h; ⟨v, h1, VR.ext e _ _ h2⟩⟩
def tX {α β : Type} (K : PySem.W.Frag) (W : WX) (PR : PRel α β) (f : Loc → Sto → Out α) : L2.St → Hp → (β → Hp → Prop) → Prop :=
  fun σ H Q => ∃ l m S, Rel K l σ m S H ∧ post K W PR σ m H Q (f l S)

abbrev pD (K : PySem.W.Frag) : PRel D V := fun _ m H d v => VR K m H d v
abbrev pB : PRel Bool Bool := fun _ _ _ a b => a = b
abbrev pA (K : PySem.W.Frag) : PRel (List D) (List V) := fun _ m H d v => VRs K m H d v
inductive LV where
  | tmp (xs : List D) | «at» (n : Nat)
def pL (K : PySem.W.Frag) : PRel LV V := fun H0 m H x v => match x with
  | .tmp xs => ∃ p vs, v = .ref p ∧ H p = some (.lst vs) ∧ p ∉ m ∧ H0 p = none ∧ VRs K m H xs vs
  | .at n => ∃ a, m[n]? = some a ∧ v = .ref a
def LV.get (S : Sto) : LV → Option (List D)
  | .tmp xs => some xs
  | .at n => match S[n]? with
    | some (.lst xs) => some xs
    | _ => none
theorem anti_D {K : PySem.W.Frag} : Anti (pD K) := fun _ _ _ _ _ _ _ h => h
theorem anti_B : Anti pB := fun _ _ _ _ _ _ _ h => h
theorem anti_A {K : PySem.W.Frag} : Anti (pA K) := fun _ _ _ _ _ _ _ h => h
theorem anti_L {K : PySem.W.Frag} : Anti (pL K) := fun H H1 m' H' a b q h => by
  cases a with
  | tmp xs =>
    obtain ⟨p, vs, h1, h2, h3, h4, h5⟩ := h
    exact ⟨p, vs, h1, h2, h3, q p h4, h5⟩
  | «at» n => exact h
/-- the list behind, later -/
theorem pL.read {K : PySem.W.Frag} {H0 H H' : Hp} {m m' : List Addr} {S : Sto} {x : LV} {v : V} {xs : List D} (r : pL K H0 m H x v) (e : Ext m H m' H') (s : SR K m' H' S) (h : x.get S = some xs) :
    ∃ p vs, v = .ref p ∧ H' p = some (.lst vs) ∧ VRs K m' H' xs vs := by
  cases x with
  | tmp ys =>
    cases h
    obtain ⟨p, vs, h1, h2, h3, h4, h5⟩ := r
    exact ⟨p, vs, h1, e.oth _ _ h2 h3, VRs.ext e _ _ h5⟩
  | «at» n =>
    obtain ⟨a, h1, h2⟩ := r
    simp only [LV.get] at h
    split at h
    · rename_i ys hn
      cases h
      obtain ⟨b, h3, vs, h4, h5⟩ := s.at n _ hn
      rw [e.get h1] at h3; cases h3
      exact ⟨a, vs, h2, h4, h5⟩
    · cases h

theorem _root_.L2.PE.imp {X : Cx} {e : Expr} {t t' : TE} (h : PE X e t) (i : ∀ σ H Q, t' σ H Q → t σ H Q) : PE X e t' := ⟨fun pins s σ H Q I q => h.run pins s σ H Q I (i _ _ _ q)⟩
theorem _root_.L2.PT.imp {X : Cx} {e : Expr} {t t' : TT} (h : PT X e t) (i : ∀ σ H Q, t' σ H Q → t σ H Q) : PT X e t' := ⟨fun pins s σ H Q I q => h.run pins s σ H Q I (i _ _ _ q)⟩
theorem _root_.L2.PW.imp {X : Cx} {e : Expr} {t t' : TT} (h : PW X e t) (i : ∀ σ H Q, t' σ H Q → t σ H Q) : PW X e t' := ⟨fun wh pins s σ H Q I q => h.run wh pins s σ H Q I (i _ _ _ q)⟩
theorem _root_.L2.PA.imp {X : Cx} {e : List Expr} {t t' : TA} (h : PA X e t) (i : ∀ σ H Q, t' σ H Q → t σ H Q) : PA X e t' := ⟨fun pos pins s σ H Q I q => h.run pos pins s σ H Q I (i _ _ _ q)⟩
theorem _root_.L2.PS.imp {X : Cx} {e : Stmt} {t t' : TS} (h : PS X e t) (i : ∀ D σ H, t' D σ H → t D σ H) : PS X e t' := ⟨fun pins s σ H D I q => h.run pins s σ H D I (i _ _ _ q)⟩
theorem _root_.L2.PSs.imp {X : Cx} {e : List Stmt} {t t' : TS} (h : PSs X e t) (i : ∀ D σ H, t' D σ H → t D σ H) : PSs X e t' := ⟨fun pins s σ H D I q => h.run pins s σ H D I (i _ _ _ q)⟩

abbrev FE := Loc → Sto → Out D
abbrev FT := Loc → Sto → Out Bool
abbrev FA := Loc → Sto → Out (List D)
abbrev FL := Loc → Sto → Out LV
abbrev ME (X : Cx) (W : WX) (e : Expr) (f : FE) : Prop := PE X e (tX X.K W (pD X.K) f)
abbrev ML (X : Cx) (W : WX) (e : Expr) (f : FL) : Prop := PE X e (tX X.K W (pL X.K) f)
abbrev MT (X : Cx) (W : WX) (e : Expr) (f : FT) : Prop := PT X e (tX X.K W pB f)
abbrev MW (X : Cx) (W : WX) (e : Expr) (f : FT) : Prop := PW X e (tX X.K W pB f)
abbrev MA (X : Cx) (W : WX) (es : List Expr) (f : FA) : Prop := PA X es (tX X.K W (pA X.K) f)
end Pz

set_option Elab.async false
set_option linter.all false
set_option maxRecDepth 100000
set_option maxHeartbeats 4000000
/-! Pz2: expressions, rule by rule. -/
namespace Pz
open PySem PySem.Spec PyProof.Rows L2
section
variable {X : Cx} {W : WX} {a b c e : Expr} {rest es : List Expr} {f g h : FE} {pos : Pos} {K : PySem.W.Frag}

/-! ### names and constants -/
def eV (i : Nat) : FE := fun l S => match l[i]? with
  | some (some d) => .ok d S
  | _ => .bad
def eC (d : D) : FE := fun _ S => .ok d S
theorem me_of_var {i : Nat} (h : PE X e (tVar i)) : ME X W e (eV i) := h.imp fun σ H Q ⟨l, m, S, R, q⟩ => by
  unfold eV at q
  split at q
  · rename_i d hd
    obtain ⟨v, h1, h2⟩ := R.at i d hd
    exact ⟨v, h1, q v H m .refl R.sr h2⟩
  · exact q.elim
theorem mv (i : Nat) {x : Str} {pos : Pos} (hN : X.N[i]? = some x := by rfl) (hv : Vis X.env.scope x := by first | exact Or.inl rfl | exact Or.inr (Or.inl rfl) | exact Or.inr (Or.inr rfl)) (hd : (x == ("__debug__" : Str)) = false := by decide)
    (hcd : (x == ("__classdict__" : Str)) = false := by decide) : ME X W (.Name x pos) (eV i) := me_of_var (pe_var hN hv hd hcd)
theorem me_c {v : V} {d : D} (h : PE X e (tC v)) (r : ∀ m H, VR X.K m H d v) : ME X W e (eC d) := h.imp fun σ H Q ⟨l, m, S, R, q⟩ => q v H m .refl R.sr (r m H)
theorem me_int {i j pos} : ME X W (.Constant (.int i) j pos) (eC (.int i)) := me_c pe_int fun _ _ => by simp only [VR]
theorem me_bl {i j pos} : ME X W (.Constant (.bool i) j pos) (eC (.bl i)) := me_c pe_bl fun _ _ => by simp only [VR]
theorem me_non {j pos} : ME X W (.Constant .none j pos) (eC .non) := me_c pe_non fun _ _ => by simp only [VR]
theorem me_str {i j pos} : ME X W (.Constant (.str i) j pos) (eC (.str i)) := me_c pe_str fun _ _ => by simp only [VR]
/-- a name of the module -/
theorem me_glob {x : Str} {v : V} {u : Value} {d : D} {pos : Pos} (hg : Gl X x) (hm : X.mg x = some u) (r : RelV v u) (r2 : ∀ m H, VR X.K m H d v) (hd : (x == ("__debug__" : Str)) = false := by decide) : ME X W (.Name x pos) (eC d) :=
  me_c (pe_glob hg hm r hd) r2

/-! ### operators, by values -/
def O1 (K : PySem.W.Frag) (r : V → Hp → VK → Prop) (f : D → Sto → Out D) : Prop := ∀ (W : WX) (σ : L2.St) (m : List Addr) (H : Hp) (S : Sto) (x : D) (v : V) (Q : VK), SR K m H S → VR K m H x v → post K W (pD K) σ m H Q (f x S) → r v H Q
def O2 (K : PySem.W.Frag) (r : R2) (f : D → D → Sto → Out D) : Prop := ∀ (W : WX) (σ : L2.St) (m : List Addr) (H : Hp) (S : Sto) (x y : D) (v u : V) (Q : VK), SR K m H S → VR K m H x v → VR K m H y u → post K W (pD K) σ m H Q (f x y S) → r v u H Q
def e1 (o : D → Sto → Out D) (f : FE) : FE := fun l S => (f l S).bind o
def e2 (o : D → D → Sto → Out D) (f g : FE) : FE := fun l S => (f l S).bind fun x S1 => (g l S1).bind fun y S2 => o x y S2
theorem tX_2 {r : R2} {o : D → D → Sto → Out D} (hf : O2 K r o) {σ : L2.St} {H : Hp} {Q : VK} (q : tX K W (pD K) (e2 o f g) σ H Q) : tOp r (tX K W (pD K) f) (tX K W (pD K) g) σ H Q := by
  obtain ⟨l, m, S, R, q⟩ := q
  refine ⟨l, m, S, R, post.bind (PR := pD K) anti_D q fun x S1 v H1 m1 E1 R1 V1 q1 => ⟨l, m1, S1, R.ext E1 R1, post.bind (PR := pD K) anti_D q1 fun y S2 u H2 m2 E2 R2 V2 q2 => ?_⟩⟩
  exact hf W σ m2 H2 S2 x y v u Q R2 (VR.ext E2 x v V1) V2 q2
theorem me_op {op : Operator} {r : R2} {o : D → D → Sto → Out D} (ho : OpR X (binaryOp op) r) (hf : O2 X.K r o) (ha : ME X W a f) (hb : ME X W b g) : ME X W (.BinOp a op b pos) (e2 o f g) :=
  (pe_op ho ha hb).imp fun σ H Q q => tX_2 hf q
theorem me_cmp {op : CmpOp} {r : R2} {o : D → D → Sto → Out D} (ho : OpR X (compareOp op) r) (hf : O2 X.K r o) (ha : ME X W a f) (hb : ME X W b g) (hm : behindInMarks op b = false) : ME X W (.Compare a [op] [b] pos) (e2 o f g) :=
  (pe_cmpR ho ha hb hm).imp fun σ H Q q => tX_2 hf q
theorem me_un {op : UnaryOp} {r : V → Hp → VK → Prop} {o : D → Sto → Out D} (ho : UnR X (unaryOp op) r) (hf : O1 X.K r o) (ha : ME X W a f) : ME X W (.UnaryOp op a pos) (e1 o f) :=
  (pe_un ho ha).imp fun σ H Q ⟨l, m, S, R, q⟩ => ⟨l, m, S, R, post.bind (PR := pD X.K) anti_D q fun x S1 v H1 m1 E1 R1 V1 q1 => hf W σ m1 H1 S1 x v Q R1 V1 q1⟩

/-! ### tests -/
def tst (d : D) (S : Sto) : Out Bool := match d with
  | .bl b => .ok b S
  | _ => .bad
def eT (f : FE) : FT := fun l S => (f l S).bind tst
theorem tst_post {σ : L2.St} {m : List Addr} {H : Hp} {S : Sto} {Q : Bool → Hp → Prop} {d : D} {v : V} (s : SR K m H S) (r : VR K m H d v) (q : post K W pB σ m H Q (tst d S)) : ∃ k, v = .bl k ∧ Q k H := by
  unfold tst at q
  split at q
  · rename_i b
    simp only [VR] at r
    exact ⟨b, r, q b H m .refl s rfl⟩
  · exact q.elim
theorem tX_tst {σ : L2.St} {H : Hp} {Q : Bool → Hp → Prop} (q : tX K W pB (eT f) σ H Q) : tX K W (pD K) f σ H fun x H' => ∃ k, x = .bl k ∧ Q k H' := by
  obtain ⟨l, m, S, R, q⟩ := q
  exact ⟨l, m, S, R, post.bind (PR := pD K) anti_B q fun x S1 v H1 m1 E1 R1 V1 q1 => tst_post R1 V1 q1⟩
theorem mt_val (h : ME X W e f) (he : ∀ whole, isTrue e X.env whole = (do let v ← whole; standAt e.pos; holding [v] (truthy v)) := by intro _; rfl) : MT X W e (eT f) := (pt_val h he).imp fun σ H Q q => tX_tst q
theorem mt_cmp {op : CmpOp} {r : R2} {o : D → D → Sto → Out D} (ho : OpR X (compareOp op) r) (hf : O2 X.K r o) (ha : ME X W a f) (hb : ME X W b g) (hm : behindInMarks op b = false) : MT X W (.Compare a [op] [b] pos) (eT (e2 o f g)) :=
  (pt_cmpR ho ha hb hm).imp fun σ H Q q => by
    obtain ⟨l, m, S, R, q⟩ := q
    refine tX_2 hf ⟨l, m, S, R, post.bind (PR := pD X.K) anti_B q fun x S1 v H1 m1 E1 R1 V1 q1 => tst_post R1 V1 q1⟩
variable {s t : FT}
def tAndF (s t : FT) : FT := fun l S => (s l S).bind fun k S1 => if k then t l S1 else .ok false S1
def tOrF (s t : FT) : FT := fun l S => (s l S).bind fun k S1 => if k then .ok true S1 else t l S1
def tNotF (s : FT) : FT := fun l S => (s l S).bind fun k S1 => .ok (!k) S1
theorem mw_and1 (ha : MT X W a s) : MW X W (.BoolOp .And [a] pos) s := pw_and1 ha
theorem mw_or1 (ha : MT X W a s) : MW X W (.BoolOp .Or [a] pos) s := pw_or1 ha
theorem mw_and (ha : MT X W a s) (hb : MW X W (.BoolOp .And (b :: rest) pos) t) : MW X W (.BoolOp .And (a :: b :: rest) pos) (tAndF s t) :=
  (pw_and ha hb).imp fun σ H Q ⟨l, m, S, R, q⟩ => ⟨l, m, S, R, post.bind (PR := pB) anti_B q fun k S1 v H1 m1 E1 R1 V1 q1 => by
    subst V1
    cases k with
    | true => exact ⟨l, m1, S1, R.ext E1 R1, q1⟩
    | false => exact q1 _ H1 m1 .refl R1 rfl⟩
theorem mw_or (ha : MT X W a s) (hb : MW X W (.BoolOp .Or (b :: rest) pos) t) : MW X W (.BoolOp .Or (a :: b :: rest) pos) (tOrF s t) :=
  (pw_or ha hb).imp fun σ H Q ⟨l, m, S, R, q⟩ => ⟨l, m, S, R, post.bind (PR := pB) anti_B q fun k S1 v H1 m1 E1 R1 V1 q1 => by
    subst V1
    cases k with
    | false => exact ⟨l, m1, S1, R.ext E1 R1, q1⟩
    | true => exact q1 _ H1 m1 .refl R1 rfl⟩
theorem mt_w (h : MW X W e s) : MT X W e s := PW.pt h
theorem mt_not (ha : MT X W a s) : MT X W (.UnaryOp .Not a pos) (tNotF s) :=
  (pt_not ha).imp fun σ H Q ⟨l, m, S, R, q⟩ => ⟨l, m, S, R, post.bind (PR := pB) anti_B q fun k S1 v H1 m1 E1 R1 V1 q1 => by
    subst V1
    exact q1 _ H1 m1 .refl R1 rfl⟩
/-- .. as values -/
def eAnd (f g : FE) : FE := fun l S => (f l S).bind fun x S1 => match x with
  | .bl true => g l S1
  | .bl false => .ok (.bl false) S1
  | _ => .bad
def eOr (f g : FE) : FE := fun l S => (f l S).bind fun x S1 => match x with
  | .bl false => g l S1
  | .bl true => .ok (.bl true) S1
  | _ => .bad
def eNot (f : FE) : FE := fun l S => (f l S).bind fun x S1 => match x with
  | .bl k => .ok (.bl (!k)) S1
  | _ => .bad
theorem me_one {op} (h : ME X W a f) : ME X W (.BoolOp op [a] pos) f := pe_one h
theorem me_and (ha : ME X W a f) (hb : ME X W (.BoolOp .And (b :: rest) pos) g) : ME X W (.BoolOp .And (a :: b :: rest) pos) (eAnd f g) :=
  (pe_and ha hb).imp fun σ H Q ⟨l, m, S, R, q⟩ => ⟨l, m, S, R, post.bind (PR := pD X.K) anti_D q fun x S1 v H1 m1 E1 R1 V1 q1 => by
    split at q1
    · simp only [VR] at V1
      exact ⟨true, V1, l, m1, S1, R.ext E1 R1, q1⟩
    · simp only [VR] at V1
      exact ⟨false, V1, q1 _ H1 m1 .refl R1 (by simp only [VR])⟩
    · exact q1.elim⟩
theorem me_or (ha : ME X W a f) (hb : ME X W (.BoolOp .Or (b :: rest) pos) g) : ME X W (.BoolOp .Or (a :: b :: rest) pos) (eOr f g) :=
  (pe_or ha hb).imp fun σ H Q ⟨l, m, S, R, q⟩ => ⟨l, m, S, R, post.bind (PR := pD X.K) anti_D q fun x S1 v H1 m1 E1 R1 V1 q1 => by
    split at q1
    · simp only [VR] at V1
      exact ⟨false, V1, l, m1, S1, R.ext E1 R1, q1⟩
    · simp only [VR] at V1
      exact ⟨true, V1, q1 _ H1 m1 .refl R1 (by simp only [VR])⟩
    · exact q1.elim⟩
theorem me_not (ha : ME X W a f) : ME X W (.UnaryOp .Not a pos) (eNot f) :=
  (pe_not ha).imp fun σ H Q ⟨l, m, S, R, q⟩ => ⟨l, m, S, R, post.bind (PR := pD X.K) anti_D q fun x S1 v H1 m1 E1 R1 V1 q1 => by
    split at q1
    · rename_i k
      simp only [VR] at V1
      exact ⟨k, V1, q1 _ H1 m1 .refl R1 (by simp only [VR])⟩
    · exact q1.elim⟩
/-- x if c else y, of any payload -/
def eIf {α : Type} (s : FT) (f g : Loc → Sto → Out α) : Loc → Sto → Out α := fun l S => (s l S).bind fun k S1 => if k then f l S1 else g l S1
theorem pe_if' {α : Type} {PR : PRel α V} (ha : Anti PR) {f g : Loc → Sto → Out α} (hc : MT X W c s) (h1 : PE X a (tX X.K W PR f)) (h2 : PE X b (tX X.K W PR g)) : PE X (.IfExp c a b pos) (tX X.K W PR (eIf s f g)) :=
  (pe_ifExp hc h1 h2).imp fun σ H Q ⟨l, m, S, R, q⟩ => ⟨l, m, S, R, post.bind (PR := pB) ha q fun k S1 v H1 m1 E1 R1 V1 q1 => by
    subst V1
    cases k with
    | true => exact ⟨l, m1, S1, R.ext E1 R1, q1⟩
    | false => exact ⟨l, m1, S1, R.ext E1 R1, q1⟩⟩
theorem me_if (hc : MT X W c s) (ha : ME X W a f) (hb : ME X W b g) : ME X W (.IfExp c a b pos) (eIf s f g) := pe_if' anti_D hc ha hb
theorem ml_if {f g : FL} (hc : MT X W c s) (ha : ML X W a f) (hb : ML X W b g) : ML X W (.IfExp c a b pos) (eIf s f g) := pe_if' anti_L hc ha hb
/-- a op b op' c -/
def eCh (o o' : D → D → Sto → Out D) (f g h : FE) : FE := fun l S => (f l S).bind fun x S1 => (g l S1).bind fun y S2 => (o x y S2).bind fun z S3 => match z with
  | .bl true => (h l S3).bind fun w S4 => o' y w S4
  | .bl false => .ok (.bl false) S3
  | _ => .bad
theorem tX_ch {r r' : R2} {o o' : D → D → Sto → Out D} (hf : O2 K r o) (hf' : O2 K r' o') {σ : L2.St} {H : Hp} {Q : VK} (q : tX K W (pD K) (eCh o o' f g h) σ H Q) : tChain r r' (tX K W (pD K) f) (tX K W (pD K) g) (tX K W (pD K) h) σ H Q := by
  obtain ⟨l, m, S, R, q⟩ := q
  refine ⟨l, m, S, R, post.bind (PR := pD K) anti_D q fun x S1 v H1 m1 E1 R1 V1 q1 => ⟨l, m1, S1, R.ext E1 R1, post.bind (PR := pD K) anti_D q1 fun y S2 u H2 m2 E2 R2 V2 q2 => ?_⟩⟩
  refine hf W σ m2 H2 S2 x y v u _ R2 (VR.ext E2 x v V1) V2 (post.bind (PR := pD K) anti_D q2 fun z S3 w H3 m3 E3 R3 V3 q3 => ?_)
  split at q3
  · simp only [VR] at V3
    refine ⟨true, V3, ?_⟩
    rw [if_pos rfl]
    exact ⟨l, m3, S3, R.ext (E1.trans (E2.trans E3)) R3, post.bind (PR := pD K) anti_D q3 fun z' S4 w' H4 m4 E4 R4 V4 q4 => hf' W σ m4 H4 S4 y z' u w' Q R4 (VR.ext (E3.trans E4) y u V2) V4 q4⟩
  · simp only [VR] at V3
    refine ⟨false, V3, ?_⟩
    rw [if_neg (by decide)]
    exact q3 _ H3 m3 .refl R3 (by simp only [VR])
  · exact q3.elim
theorem me_ch {op op' : CmpOp} {r r' : R2} {o o' : D → D → Sto → Out D} (ho : OpR X (compareOp op) r) (hf : O2 X.K r o) (ho' : OpR X (compareOp op') r') (hf' : O2 X.K r' o') (ha : ME X W a f) (hb : ME X W b g) (hc : ME X W c h)
    (hm : lastMarks [op, op'] [b, c] = false := by with_unfolding_all rfl) : ME X W (.Compare a [op, op'] [b, c] pos) (eCh o o' f g h) := (pe_chain ho ho' ha hb hc hm).imp fun σ H Q q => tX_ch hf hf' q
theorem mt_ch {op op' : CmpOp} {r r' : R2} {o o' : D → D → Sto → Out D} (ho : OpR X (compareOp op) r) (hf : O2 X.K r o) (ho' : OpR X (compareOp op') r') (hf' : O2 X.K r' o') (ha : ME X W a f) (hb : ME X W b g) (hc : ME X W c h)
    (hm : lastMarks [op, op'] [b, c] = false := by with_unfolding_all rfl) : MT X W (.Compare a [op, op'] [b, c] pos) (eT (eCh o o' f g h)) := (pt_chain ho ho' ha hb hc hm).imp fun σ H Q q => by
  obtain ⟨l, m, S, R, q⟩ := q
  exact tX_ch hf hf' ⟨l, m, S, R, post.bind (PR := pD X.K) anti_B q fun x S1 v H1 m1 E1 R1 V1 q1 => tst_post R1 V1 q1⟩

/-! ### arguments, displays -/
def aN : FA := fun _ S => .ok [] S
def aC (f : FE) (g : FA) : FA := fun l S => (f l S).bind fun x S1 => (g l S1).bind fun xs S2 => .ok (x :: xs) S2
def aL (f : FE) (n : Nat) : Prop := True
theorem ma_nil : MA X W [] aN := pa_nil.imp fun σ H Q ⟨l, m, S, R, q⟩ => q [] H m .refl R.sr .nil
theorem ma_cons {g : FA} (ha : ME X W e f) (hr : MA X W es g) (hs : starEach (e :: es) X.env = (false, eval e X.env) :: starEach es X.env := by rfl) : MA X W (e :: es) (aC f g) :=
  (pa_cons ha hr hs).imp fun σ H Q ⟨l, m, S, R, q⟩ => ⟨l, m, S, R, post.bind (PR := pD X.K) anti_A q fun x S1 v H1 m1 E1 R1 V1 q1 => ⟨l, m1, S1, R.ext E1 R1, post.bind (PR := pA X.K) anti_A q1 fun xs S2 vs H2 m2 E2 R2 V2 q2 =>
    q2 _ H2 m2 .refl R2 (.cons (VR.ext E2 x v V1) V2)⟩⟩
/-- so many values come -/
def Len (n : Nat) (f : FA) : Prop := ∀ l S ds S', f l S = .ok ds S' → ds.length = n
theorem len_nil : Len 0 aN := fun l S ds S' h => by cases h; rfl
theorem len_cons {n : Nat} {g : FA} (h : Len n g) : Len (n + 1) (aC f g) := fun l S ds S' q => by
  unfold aC at q
  cases e1 : f l S with
  | bad => rw [e1] at q; cases q
  | ex C fs T => rw [e1] at q; cases q
  | ok x S1 =>
    rw [e1] at q
    cases e2 : g l S1 with
    | bad => simp only [Out.bind, e2] at q; cases q
    | ex C fs T => simp only [Out.bind, e2] at q; cases q
    | ok xs S2 =>
      simp only [Out.bind, e2] at q
      cases q
      simp [h _ _ _ _ e2]
def eTup (f : FA) : FE := fun l S => (f l S).bind fun ds S1 => .ok (.tup ds) S1
theorem post_ok {α β : Type} {PR : PRel α β} {σ : L2.St} {m : List Addr} {H : Hp} {Q : β → Hp → Prop} {o : Out α} {Z : α → Prop} (h : post K W PR σ m H Q o) (z : ∀ a S, o = .ok a S → Z a) : post K W PR σ m H Q o := h
theorem post.with {α β : Type} {PR : PRel α β} {σ : L2.St} {m : List Addr} {H : Hp} {Q Q2 : β → Hp → Prop} {o : Out α} (h : post K W PR σ m H Q o) (i : ∀ a S v H' m', o = .ok a S → Ext m H m' H' → SR K m' H' S → PR H m' H' a v → Q v H' → Q2 v H') : post K W PR σ m H Q2 o := by
  cases o with
  | ok a S => exact fun v H' m' e s r => i a S v H' m' rfl e s r (h v H' m' e s r)
  | ex C fs S => exact h
  | bad => exact h
theorem VR.tupNew {K : PySem.W.Frag} {m : List Addr} {H : Hp} {ds : List D} {vs : List V} {p : Addr} {ob : Obj} (hp : H p = none) (hd : ob.dict = none) (h : VRs K m H ds vs) : VR K m (upd H p (.frz ob (.tup vs))) (.tup ds) (.ref p) := by
  simp only [VR]
  exact ⟨p, vs, rfl, .inl ⟨ob, hd, upd_same⟩, VRs.ext (Ext.tmp hp) _ _ h⟩
theorem me_tup {x1} {n : Nat} {g : FA} (ha : MA X W es g) (hl : Len n g) (hz : n ≤ sizeLine := by decide) : ME X W (.Tuple es x1 pos) (eTup g) :=
  (pe_tupF ha).imp fun σ H Q ⟨l, m, S, R, q⟩ => ⟨l, m, S, R, by
    refine post.with (Q := fun vs H1 => nwT vs H1 Q) (post.bind (PR := pA X.K) anti_D q fun ds S1 vs H1 m1 E1 R1 V1 q1 p ob hp hd => ?_) fun ds S1 vs H1 m1 eo E1 R1 V1 q1 => ⟨?_, q1⟩
    · exact q1 _ _ m1 (Ext.tmp hp) (R1.tmp hp) (VR.tupNew hp hd V1)
    · rw [V1.length, hl _ _ _ _ eo]; exact hz⟩
def lLst (f : FA) : FL := fun l S => (f l S).bind fun ds S1 => .ok (.tmp ds) S1
theorem pL.new {K : PySem.W.Frag} {m m' : List Addr} {H H' : Hp} {S : Sto} {ds : List D} {vs : List V} {p : Addr} (e : Ext m H m' H') (s : SR K m' H' S) (hp : H' p = none) (h : VRs K m' H' ds vs) : pL K H m' (upd H' p (.lst vs)) (.tmp ds) (.ref p) :=
  ⟨p, vs, rfl, upd_same, s.notin hp, e.dom p hp, VRs.ext (Ext.tmp hp) _ _ h⟩
theorem ml_lst {n : Nat} {g : FA} (ha : MA X W es g) (hl : Len n g) (hz : n ≤ sizeLine := by decide) : ML X W (.List es pos) (lLst g) :=
  (pe_lst ha).imp fun σ H Q ⟨l, m, S, R, q⟩ => ⟨l, m, S, R, by
    refine post.with (Q := fun vs H1 => ∀ p, H1 p = none → Q (.ref p) (upd H1 p (.lst vs))) (post.bind (PR := pA X.K) anti_L q fun ds S1 vs H1 m1 E1 R1 V1 q1 p hp => ?_) fun ds S1 vs H1 m1 eo E1 R1 V1 q1 => ⟨?_, q1⟩
    · exact q1 _ _ m1 (Ext.tmp hp) (R1.tmp hp) (pL.new .refl R1 hp V1)
    · rw [V1.length, hl _ _ _ _ eo]; exact hz⟩
/-- a list that was only on its way goes into the store -/
def eL (f : FL) : FE := fun l S => (f l S).bind fun x S1 => match x with
  | .tmp xs => .ok (.ref S1.length) (S1 ++ [.lst xs])
  | .at n => .ok (.ref n) S1
def toAt (d : D) (S : Sto) : Out LV := match d with
  | .ref n => .ok (.at n) S
  | _ => .bad
def lE (f : FE) : FL := fun l S => (f l S).bind toAt
theorem tX_eL {f : FL} {σ : L2.St} {H : Hp} {Q : VK} (q : tX K W (pD K) (eL f) σ H Q) : tX K W (pL K) f σ H Q := by
  obtain ⟨l, m, S, R, q⟩ := q
  refine ⟨l, m, S, R, ?_⟩
  unfold eL at q
  cases e1 : f l S with
  | bad => rw [e1] at q; exact q
  | ex C fs T => rw [e1] at q; exact q
  | ok x S1 =>
    rw [e1] at q
    intro v H' m' E' s r
    cases x with
    | tmp xs =>
      obtain ⟨p, vs, rfl, h2, h3, h4, h5⟩ := r
      refine q _ H' (m' ++ [p]) (E'.into h4) (s.grow h3 ⟨vs, h2, h5⟩) ?_
      simp only [VR]
      exact ⟨p, by rw [← s.len, List.getElem?_concat_length], rfl⟩
    | «at» n =>
      obtain ⟨p, h1, rfl⟩ := r
      exact q _ H' m' E' s (by simp only [VR]; exact ⟨p, h1, rfl⟩)
theorem me_l {f : FL} (h : ML X W e f) : ME X W e (eL f) := PE.imp h fun σ H Q q => tX_eL q
theorem ml_e (h : ME X W e f) : ML X W e (lE f) := PE.imp h fun σ H Q ⟨l, m, S, R, q⟩ => ⟨l, m, S, R, post.bind (PR := pD X.K) anti_L q fun d S1 v H1 m1 E1 R1 V1 q1 => by
  cases d with
  | ref n =>
    simp only [VR] at V1
    obtain ⟨a, h1, rfl⟩ := V1
    exact q1 _ H1 m1 .refl R1 ⟨a, h1, rfl⟩
  | _ => exact q1.elim⟩
end
end Pz

set_option Elab.async false
set_option linter.all false
set_option maxRecDepth 100000
set_option maxHeartbeats 4000000
/-! Pz3: operators and comparisons by values. -/
namespace Pz
open PySem PySem.Spec PyProof.Rows L2
section
variable {X : Cx} {W : WX} {a b c e : Expr} {rest es : List Expr} {f g h : FE} {pos : Pos} {K : PySem.W.Frag} {m : List Addr} {H : Hp} {S : Sto}

theorem O2.or {r r' : R2} {o : D → D → Sto → Out D} {p : D → D → Sto → Bool} (h : ∀ W σ m H S x y v u Q, p x y S = true → SR K m H S → VR K m H x v → VR K m H y u → post K W (pD K) σ m H Q (o x y S) → r v u H Q)
    (h' : ∀ W σ m H S x y v u Q, p x y S = false → SR K m H S → VR K m H x v → VR K m H y u → post K W (pD K) σ m H Q (o x y S) → r' v u H Q) : O2 K (fun x y H Q => r x y H Q ∨ r' x y H Q) o :=
  fun W σ m H S x y v u Q s rx ry q => by
    cases e : p x y S with
    | true => exact .inl (h W σ m H S x y v u Q e s rx ry q)
    | false => exact .inr (h' W σ m H S x y v u Q e s rx ry q)

/-! ### whole numbers -/
def fI (cond : Int → Int → Bool) (g : Int → Int → D) : D → D → Sto → Out D
  | .int i, .int j, S => if cond i j then .ok (g i j) S else .bad
  | _, _, _ => .bad
theorem o2_I {C : Int → Int → Prop} {cond : Int → Int → Bool} {g : Int → Int → D} {g' : Int → Int → V} (hc : ∀ i j, cond i j = true → C i j) (hg : ∀ m H i j, VR K m H (g i j) (g' i j)) : O2 K (rI C g') (fI cond g) := fun W σ m H S x y v u Q s rx ry q => by
  unfold fI at q
  split at q
  · rename_i i j
    simp only [VR] at rx ry
    split at q
    · rename_i hcd
      exact ⟨i, j, rx, ry, hc i j hcd, q _ H m .refl s (hg m H i j)⟩
    · exact q.elim
  · exact q.elim
theorem o2_I0 {g : Int → Int → D} {g' : Int → Int → V} (hg : ∀ m H i j, VR K m H (g i j) (g' i j)) : O2 K (rI0 g') (fI (fun _ _ => true) g) := fun W σ m H S x y v u Q s rx ry q => by
  obtain ⟨i, j, h1, h2, _, h3⟩ := o2_I (C := fun _ _ => True) (fun _ _ _ => trivial) hg W σ m H S x y v u Q s rx ry q
  exact ⟨i, j, h1, h2, h3⟩
def cDiv (i j : Int) : Bool := j != 0 && decide (j.natAbs < 1073741824)
def cMod (i j : Int) : Bool := j != 0
def cPow (i j : Int) : Bool := decide (0 ≤ j ∧ j ≤ 1000000 ∧ i.natAbs < 2 ^ 64)
def cMul (i j : Int) : Bool := decide (((-(2 ^ 64) < i ∧ i < 2 ^ 64) ∨ (-(2 ^ 64) < j ∧ j < 2 ^ 64)) ∨ i.natAbs.log2 + j.natAbs.log2 < 1000000)
def cShr (i j : Int) : Bool := decide (0 ≤ j)
def oSub := fI (fun _ _ => true) fun i j => .int (i - j)
def oDiv := fI cDiv fun i j => .int (i.fdiv j)
def oMod := fI cMod fun i j => .int (i.fmod j)
def oPow := fI cPow fun i j => .int (i ^ j.toNat)
def oShl := fI cPow fun i j => .int (i * 2 ^ j.toNat)
def oShr := fI cShr fun i j => .int (i / 2 ^ j.toNat)
def oAnd := fI (fun _ _ => true) fun i j => .int (Builtin.bitAnd i j)
def oOr := fI (fun _ _ => true) fun i j => .int (Builtin.bitOr i j)
def oLt := fI (fun _ _ => true) fun i j => .bl (decide (i < j))
def oLe := fI (fun _ _ => true) fun i j => .bl (decide (i ≤ j))
def oGt := fI (fun _ _ => true) fun i j => .bl (decide (j < i))
def oGe := fI (fun _ _ => true) fun i j => .bl (decide (j ≤ i))
theorem o2_sub : O2 K (rI0 fun i j => .int (i - j)) oSub := o2_I0 fun _ _ _ _ => by simp only [VR]
theorem o2_div : O2 K (rI CDivN fun i j => .int (i.fdiv j)) oDiv := o2_I (fun i j h => by simpa [cDiv, CDivN] using h) fun _ _ _ _ => by simp only [VR]
theorem o2_mod : O2 K (rI (fun _ j => j ≠ 0) fun i j => .int (i.fmod j)) oMod := o2_I (fun i j h => by simpa [cMod] using h) fun _ _ _ _ => by simp only [VR]
theorem o2_pow : O2 K (rI CPow fun i j => .int (i ^ j.toNat)) oPow := o2_I (fun i j h => by simpa [cPow, CPow] using h) fun _ _ _ _ => by simp only [VR]
theorem o2_shl : O2 K (rI CPow fun i j => .int (i * 2 ^ j.toNat)) oShl := o2_I (fun i j h => by simpa [cPow, CPow] using h) fun _ _ _ _ => by simp only [VR]
theorem o2_shr : O2 K (rI (fun _ j => 0 ≤ j) fun i j => .int (i / 2 ^ j.toNat)) oShr := o2_I (fun i j h => of_decide_eq_true h) fun _ _ _ _ => by simp only [VR]
theorem o2_and : O2 K (rI0 fun i j => .int (Builtin.bitAnd i j)) oAnd := o2_I0 fun _ _ _ _ => by simp only [VR]
theorem o2_or : O2 K (rI0 fun i j => .int (Builtin.bitOr i j)) oOr := o2_I0 fun _ _ _ _ => by simp only [VR]
theorem o2_lt : O2 K (rI0 fun i j => .bl (decide (i < j))) oLt := o2_I0 fun _ _ _ _ => by simp only [VR]
theorem o2_le : O2 K (rI0 fun i j => .bl (decide (i ≤ j))) oLe := o2_I0 fun _ _ _ _ => by simp only [VR]
theorem o2_gt : O2 K (rI0 fun i j => .bl (decide (j < i))) oGt := o2_I0 fun _ _ _ _ => by simp only [VR]
theorem o2_ge : O2 K (rI0 fun i j => .bl (decide (j ≤ i))) oGe := o2_I0 fun _ _ _ _ => by simp only [VR]
def oNeg : D → Sto → Out D
  | .int i, S => .ok (.int (-i)) S
  | _, _ => .bad
theorem o1_neg : O1 K (rU fun i => .int (-i)) oNeg := fun W σ m H S x v Q s rx q => by
  unfold oNeg at q
  split at q
  · rename_i i
    simp only [VR] at rx
    exact ⟨i, rx, q _ H m .refl s (by simp only [VR])⟩
  · exact q.elim

/-! ### + of numbers, texts, tuples, lists -/
def oAdd : D → D → Sto → Out D
  | .int i, .int j, S => .ok (.int (i + j)) S
  | .str x, .str y, S => if x.length + y.length ≤ sizeLine then .ok (.str (x ++ y)) S else .bad
  | .tup xs, .tup ys, S => if xs.length + ys.length ≤ sizeLine then .ok (.tup (xs ++ ys)) S else .bad
  | .ref n, .ref k, S => match S[n]?, S[k]? with
    | some (.lst xs), some (.lst ys) => if xs.length + ys.length ≤ sizeLine then .ok (.ref S.length) (S ++ [.lst (xs ++ ys)]) else .bad
    | _, _ => .bad
  | _, _, _ => .bad
def rAddI : R2 := rI0 fun i j => .int (i + j)
def rAddS : R2 := fun x y H Q => ∃ i j, x = .str i ∧ y = .str j ∧ i.length + j.length ≤ sizeLine ∧ Q (.str (i ++ j)) H
theorem op_addA : OpR X (binaryOp .Add) (fun x y H Q => (rAddI x y H Q ∨ rAddS x y H Q) ∨ (rCatF X.K x y H Q ∨ rCat x y H Q)) := (op_add.or op_add_str).or (op_catF.or op_cat)
theorem VR.catTup {xs ys : List D} {v u : V} (rx : VR K m H (.tup xs) v) (ry : VR K m H (.tup ys) u) {Q : VK} (s : SR K m H S) (hz : xs.length + ys.length ≤ sizeLine)
    (q : ∀ w H', Ext m H m H' → SR K m H' S → VR K m H' (.tup (xs ++ ys)) w → Q w H') : rCatF K v u H Q := by
  simp only [VR] at rx ry
  obtain ⟨p, vs, rfl, h1, h2⟩ := rx
  obtain ⟨p', us, rfl, h3, h4⟩ := ry
  have e1 := h2.length
  have e2 := h4.length
  refine ⟨p, p', vs, us, rfl, rfl, h1, h3, by omega, fun h => ?_, fun h h' => ?_, fun h h' t ob ht hd => ?_⟩
  · subst h
    have e : xs = [] := List.eq_nil_of_length_eq_zero e1.symm
    subst e
    exact q _ H .refl s (by simp only [VR]; exact ⟨p', us, rfl, h3, h4⟩)
  · subst h'
    have e : ys = [] := List.eq_nil_of_length_eq_zero e2.symm
    subst e
    rw [List.append_nil] at q
    exact q _ H .refl s (by simp only [VR]; exact ⟨p, vs, rfl, h1, h2⟩)
  · exact q _ _ (Ext.tmp ht) (s.tmp ht) (VR.tupNew ht hd (h2.append h4))
theorem SR.newList {xs : List D} {vs : List V} {p : Addr} (s : SR K m H S) (hp : H p = none) (h : VRs K m H xs vs) : SR K (m ++ [p]) (upd H p (.lst vs)) (S ++ [.lst xs]) ∧ Ext m H (m ++ [p]) (upd H p (.lst vs)) ∧ VR K (m ++ [p]) (upd H p (.lst vs)) (.ref S.length) (.ref p) := by
  refine ⟨(s.tmp hp).grow (s.notin hp) ⟨vs, upd_same, VRs.ext (Ext.tmp hp) _ _ h⟩, (Ext.tmp hp).into hp, ?_⟩
  simp only [VR]
  exact ⟨p, by rw [← s.len, List.getElem?_concat_length], rfl⟩
theorem o2_add : O2 K (fun x y H Q => (rAddI x y H Q ∨ rAddS x y H Q) ∨ (rCatF K x y H Q ∨ rCat x y H Q)) oAdd := fun W σ m H S x y v u Q s rx ry q => by
  unfold oAdd at q
  split at q
  · rename_i i j
    simp only [VR] at rx ry
    exact .inl (.inl ⟨i, j, rx, ry, q _ H m .refl s (by simp only [VR])⟩)
  · rename_i i j
    simp only [VR] at rx ry
    split at q
    · rename_i hz
      exact .inl (.inr ⟨i, j, rx, ry, hz, q _ H m .refl s (by simp only [VR])⟩)
    · exact q.elim
  · rename_i xs ys
    split at q
    · rename_i hz
      exact .inr (.inl (VR.catTup rx ry s hz fun w H' e s' r => q w H' m e s' r))
    · exact q.elim
  · rename_i n k
    split at q
    · rename_i xs ys hn hk
      split at q
      · rename_i hz
        obtain ⟨p, rfl, _, _, vs, h1, h2⟩ := s.ref hn rx
        obtain ⟨p', rfl, _, _, us, h3, h4⟩ := s.ref hk ry
        refine .inr (.inr ⟨p, p', vs, us, rfl, rfl, h1, h3, by rw [h2.length, h4.length]; exact hz, fun t ht => ?_⟩)
        obtain ⟨s', e', r'⟩ := s.newList ht (h2.append h4)
        exact q _ _ _ e' s' r'
      · exact q.elim
    · exact q.elim
  · exact q.elim
theorem me_add (ha : ME X W a f) (hb : ME X W b g) : ME X W (.BinOp a .Add b pos) (e2 oAdd f g) := me_op op_addA o2_add ha hb
theorem me_sub (ha : ME X W a f) (hb : ME X W b g) : ME X W (.BinOp a .Sub b pos) (e2 oSub f g) := me_op op_sub o2_sub ha hb
theorem me_div (ha : ME X W a f) (hb : ME X W b g) : ME X W (.BinOp a .FloorDiv b pos) (e2 oDiv f g) := me_op op_fdivN o2_div ha hb
theorem me_mod (ha : ME X W a f) (hb : ME X W b g) : ME X W (.BinOp a .Mod b pos) (e2 oMod f g) := me_op op_modN o2_mod ha hb
theorem me_pow (ha : ME X W a f) (hb : ME X W b g) : ME X W (.BinOp a .Pow b pos) (e2 oPow f g) := me_op op_pow o2_pow ha hb
theorem me_shl (ha : ME X W a f) (hb : ME X W b g) : ME X W (.BinOp a .LShift b pos) (e2 oShl f g) := me_op op_shl o2_shl ha hb
theorem me_shr (ha : ME X W a f) (hb : ME X W b g) : ME X W (.BinOp a .RShift b pos) (e2 oShr f g) := me_op op_shr o2_shr ha hb
theorem me_band (ha : ME X W a f) (hb : ME X W b g) : ME X W (.BinOp a .BitAnd b pos) (e2 oAnd f g) := me_op op_and o2_and ha hb
theorem me_bor (ha : ME X W a f) (hb : ME X W b g) : ME X W (.BinOp a .BitOr b pos) (e2 oOr f g) := me_op op_or o2_or ha hb
theorem me_neg (ha : ME X W a f) : ME X W (.UnaryOp .USub a pos) (e1 oNeg f) := me_un un_neg o1_neg ha
/-! * of numbers, of a tuple and a number -/
def oMul : D → D → Sto → Out D
  | .int i, .int j, S => if cMul i j then .ok (.int (i * j)) S else .bad
  | .tup xs, .int k, S => if !xs.isEmpty && decide (2 ≤ k ∧ k ≤ 1000) && decide (xs.length ≤ 1000) then .ok (.tup (List.replicate k.toNat xs).flatten) S else .bad
  | _, _, _ => .bad

theorem o2_mul : O2 K (fun x y H Q => (rI CMul (fun i j => .int (i * j)) x y H Q ∨ rI CMulW (fun i j => .int (i * j)) x y H Q) ∨ rRepF K x y H Q) oMul := fun W σ m H S x y v u Q s rx ry q => by
  unfold oMul at q
  split at q
  · rename_i i j
    simp only [VR] at rx ry
    split at q
    · rename_i hc
      have hc2 : CMul i j ∨ CMulW i j := by
        unfold cMul at hc
        rw [decide_eq_true_eq] at hc
        exact hc
      rcases hc2 with hc2 | hc2
      · exact .inl (.inl ⟨i, j, rx, ry, hc2, q _ H m .refl s (by simp only [VR])⟩)
      · exact .inl (.inr ⟨i, j, rx, ry, hc2, q _ H m .refl s (by simp only [VR])⟩)
    · exact q.elim
  · rename_i xs k
    simp only [VR] at rx ry
    obtain ⟨p, vs, rfl, h1, h2⟩ := rx
    split at q
    · rename_i hc
      simp only [Bool.and_eq_true, decide_eq_true_eq, Bool.not_eq_true', List.isEmpty_eq_false_iff] at hc
      obtain ⟨⟨c1, c2, c3⟩, c4⟩ := hc
      have e1 := h2.length
      refine .inr ⟨p, k, vs, rfl, ry, h1, fun z => c1 ?_, c2, c3, by omega, fun t ob ht hd => ?_⟩
      · subst z
        exact List.eq_nil_of_length_eq_zero e1.symm
      · exact q _ _ m (Ext.tmp ht) (s.tmp ht) (VR.tupNew ht hd (h2.replicate _))
    · exact q.elim
  · exact q.elim
theorem me_mul (ha : ME X W a f) (hb : ME X W b g) : ME X W (.BinOp a .Mult b pos) (e2 oMul f g) := me_op ((op_mul.or op_mulW).or op_repF) o2_mul ha hb

/-! ### lists on their way: +, * -/
/-- a rule over two lists -/
def lCat (f g : FL) : FL := fun l S => (f l S).bind fun x S1 => (g l S1).bind fun y S2 => match x.get S2, y.get S2 with
  | some xs, some ys => if xs.length + ys.length ≤ sizeLine then .ok (.tmp (xs ++ ys)) S2 else .bad
  | _, _ => .bad
theorem ml_cat {f g : FL} (ha : ML X W a f) (hb : ML X W b g) : ML X W (.BinOp a .Add b pos) (lCat f g) := (pe_op op_cat ha hb).imp fun σ H Q ⟨l, m, S, R, q⟩ =>
  ⟨l, m, S, R, post.bind (PR := pL X.K) anti_L q fun x S1 v H1 m1 E1 R1 V1 q1 => ⟨l, m1, S1, R.ext E1 R1, post.bind (PR := pL X.K) anti_L q1 fun y S2 u H2 m2 E2 R2 V2 q2 => by
    cases e1 : x.get S2 with
    | none => rw [e1] at q2; exact q2.elim
    | some xs =>
      cases e2 : y.get S2 with
      | none => rw [e1, e2] at q2; exact q2.elim
      | some ys =>
        rw [e1, e2] at q2
        obtain ⟨p, vs, rfl, h1, h2⟩ := pL.read V1 E2 R2 e1
        obtain ⟨p', us, rfl, h3, h4⟩ := pL.read V2 .refl R2 e2
        have l1 := h2.length
        have l2 := h4.length
        by_cases hz : xs.length + ys.length ≤ sizeLine
        · have q2 : post X.K W (pL X.K) σ m2 H2 Q (if xs.length + ys.length ≤ sizeLine then .ok (.tmp (xs ++ ys)) S2 else .bad) := q2
          rw [if_pos hz] at q2
          refine ⟨p, p', vs, us, rfl, rfl, h1, h3, by omega, fun t ht => ?_⟩
          exact q2 _ _ m2 (Ext.tmp ht) (R2.tmp ht) (pL.new .refl R2 ht (h2.append h4))
        · have q2 : post X.K W (pL X.K) σ m2 H2 Q (if xs.length + ys.length ≤ sizeLine then .ok (.tmp (xs ++ ys)) S2 else .bad) := q2
          rw [if_neg hz] at q2
          exact q2.elim⟩⟩
def lRep (f : FL) (g : FE) : FL := fun l S => (f l S).bind fun x S1 => (g l S1).bind fun y S2 => match x.get S2, y with
  | some xs, .int k => if k < 2 ^ 63 ∧ -(2 ^ 63) ≤ k ∧ xs.length * k.toNat ≤ sizeLine then .ok (.tmp (List.replicate k.toNat xs).flatten) S2 else .bad
  | _, _ => .bad
theorem ml_rep {f : FL} (ha : ML X W a f) (hb : ME X W b g) : ML X W (.BinOp a .Mult b pos) (lRep f g) := (pe_op op_rep ha hb).imp fun σ H Q ⟨l, m, S, R, q⟩ =>
  ⟨l, m, S, R, post.bind (PR := pL X.K) anti_L q fun x S1 v H1 m1 E1 R1 V1 q1 => ⟨l, m1, S1, R.ext E1 R1, post.bind (PR := pD X.K) anti_L q1 fun y S2 u H2 m2 E2 R2 V2 q2 => by
    cases e1 : x.get S2 with
    | none => rw [e1] at q2; exact q2.elim
    | some xs =>
      rw [e1] at q2
      obtain ⟨p, vs, rfl, h1, h2⟩ := pL.read V1 E2 R2 e1
      have l1 := h2.length
      cases y with
      | int k =>
        simp only [VR] at V2
        by_cases hz : k < 2 ^ 63 ∧ -(2 ^ 63) ≤ k ∧ xs.length * k.toNat ≤ sizeLine
        · have q2 : post X.K W (pL X.K) σ m2 H2 Q (if k < 2 ^ 63 ∧ -(2 ^ 63) ≤ k ∧ xs.length * k.toNat ≤ sizeLine then .ok (.tmp (List.replicate k.toNat xs).flatten) S2 else .bad) := q2
          rw [if_pos hz] at q2
          refine ⟨p, k, vs, rfl, V2, h1, hz.2.1, hz.1, by rw [l1]; exact hz.2.2, fun t ht => ?_⟩
          exact q2 _ _ m2 (Ext.tmp ht) (R2.tmp ht) (pL.new .refl R2 ht (h2.replicate _))
        · have q2 : post X.K W (pL X.K) σ m2 H2 Q (if k < 2 ^ 63 ∧ -(2 ^ 63) ≤ k ∧ xs.length * k.toNat ≤ sizeLine then .ok (.tmp (List.replicate k.toNat xs).flatten) S2 else .bad) := q2
          rw [if_neg hz] at q2
          exact q2.elim
      | _ => exact q2.elim⟩⟩
end
end Pz

set_option Elab.async false
set_option linter.all false
set_option maxRecDepth 100000
set_option maxHeartbeats 4000000
/-! Pz4: == and in, is None, isinstance, len, subscripts, slices. -/
namespace Pz
open PySem PySem.Spec PyProof.Rows L2
section
variable {X : Cx} {W : WX} {a b c e : Expr} {rest es : List Expr} {f g h : FE} {pos : Pos} {K : PySem.W.Frag} {m : List Addr} {H : Hp} {S : Sto}

/-! ### data as the library's data -/
def mapO {α β : Type} (f : α → Option β) : List α → Option (List β)
  | [] => some []
  | x :: xs => match f x, mapO f xs with
    | some y, some ys => some (y :: ys)
    | _, _ => none
def toPy : Nat → Sto → D → Option PyData
  | 0, _, _ => none
  | n + 1, S, d => match d with
    | .non => some .none
    | .bl b => some (.bool b)
    | .int i => some (.int i)
    | .str s => some (.str s)
    | .tup xs => (mapO (toPy n S) xs).map .tuple
    | .ref k => match S[k]? with
      | some (.lst xs) => (mapO (toPy n S) xs).map .list
      | _ => none
    | _ => none
theorem mapO_dp {f : D → Option PyData} (hf : ∀ d v p, VR K m H d v → f d = some p → Dp K H v p) : ∀ (ds : List D) (vs : List V) (ps : List PyData), VRs K m H ds vs → mapO f ds = some ps → DpAll K H vs ps
  | [], vs, ps, h, e => by
    simp only [VRs] at h
    subst h
    simp only [mapO, Option.some.injEq] at e
    subst e
    exact .nil
  | d :: ds, vs, ps, h, e => by
    simp only [VRs] at h
    obtain ⟨v, r, rfl, h1, h2⟩ := h
    unfold mapO at e
    split at e
    · rename_i y ys e1 e2
      cases e
      exact .cons (hf d v y h1 e1) (mapO_dp hf ds r ys h2 e2)
    · cases e
theorem toPy_dp (s : SR K m H S) : ∀ (n : Nat) (d : D) (v : V) (p : PyData), VR K m H d v → toPy n S d = some p → Dp K H v p
  | 0, _, _, _, _, e => by simp only [toPy] at e; cases e
  | n + 1, d, v, p, r, e => by
    cases d with
    | non => simp only [toPy, Option.some.injEq] at e; simp only [VR] at r; subst e r; exact .non
    | bl _ => simp only [toPy, Option.some.injEq] at e; simp only [VR] at r; subst e r; exact .bl _
    | int _ => simp only [toPy, Option.some.injEq] at e; simp only [VR] at r; subst e r; exact .int _
    | str _ => simp only [toPy, Option.some.injEq] at e; simp only [VR] at r; subst e r; exact .str _
    | tup xs =>
      simp only [toPy, Option.map_eq_some_iff] at e
      obtain ⟨ps, e1, rfl⟩ := e
      simp only [VR] at r
      obtain ⟨a, vs, rfl, h1, h2⟩ := r
      exact .tup h1 (mapO_dp (fun d v p => toPy_dp s n d v p) xs vs ps h2 e1)
    | ref k =>
      simp only [toPy] at e
      split at e
      · rename_i xs hk
        obtain ⟨ps, e1, rfl⟩ := Option.map_eq_some_iff.mp e
        obtain ⟨a, rfl, _, _, vs, h1, h2⟩ := s.ref hk r
        exact .lst (SqL.of h1) (mapO_dp (fun d v p => toPy_dp s n d v p) xs vs ps h2 e1)
      · cases e
    | fn _ => simp only [toPy] at e; cases e
    | rl _ => simp only [toPy] at e; cases e

/-! ### == -/
def scE : D → D → Option Bool
  | .int i, .int j => some (decide (i = j))
  | .str x, .str y => some (decide (x = y))
  | .bl x, .bl y => some (decide (x = y))
  | .non, .non => some true
  | .non, .int _ => some false | .int _, .non => some false
  | .non, .str _ => some false | .str _, .non => some false
  | .non, .bl _ => some false | .bl _, .non => some false
  | .int _, .str _ => some false | .str _, .int _ => some false
  | .bl _, .str _ => some false | .str _, .bl _ => some false
  | _, _ => none
def dEq (S : Sto) (x y : D) : Option Bool := match scE x y with
  | some b => some b
  | none => match toPy 40 S x, toPy 40 S y with
    | some d, some e => if SeqAt.shaped d && SeqAt.shaped e then some (PyData.eqv d e) else none
    | _, _ => none
def oEq (x y : D) (S : Sto) : Out D := match dEq S x y with
  | some b => .ok (.bl b) S
  | none => .bad
def oNe (x y : D) (S : Sto) : Out D := match dEq S x y with
  | some b => .ok (.bl (!b)) S
  | none => .bad
theorem decT {p : Prop} [Decidable p] (h : p) : decide p = true := decide_eq_true h
theorem scE_ok {x y : D} {v u : V} {k : Bool} (h : scE x y = some k) (rx : VR K m H x v) (ry : VR K m H y u) : scal v u = true ∧ decide (v = u) = k := by
  unfold scE at h
  split at h <;> first
    | (cases h; done)
    | (simp only [VR] at rx ry
       subst rx ry
       cases h
       exact ⟨rfl, by simp⟩)
theorem dEq_ok (s : SR K m H S) {x y : D} {v u : V} {k : Bool} (h : dEq S x y = some k) (rx : VR K m H x v) (ry : VR K m H y u) :
    (scal v u = true ∧ decide (v = u) = k) ∨ ∃ d e, Dp K H v d ∧ Dp K H u e ∧ SeqAt.shaped d = true ∧ SeqAt.shaped e = true ∧ PyData.eqv d e = k := by
  unfold dEq at h
  split at h
  · rename_i b hb
    cases h
    exact .inl (scE_ok hb rx ry)
  · split at h
    · rename_i d e h1 h2
      split at h
      · rename_i hs
        rw [Bool.and_eq_true] at hs
        cases h
        exact .inr ⟨d, e, toPy_dp s _ _ _ _ rx h1, toPy_dp s _ _ _ _ ry h2, hs.1, hs.2, rfl⟩
      · cases h
    · cases h
theorem o2_eq : O2 K (fun x y H Q => rEq x y H Q ∨ rEqD K x y H Q) oEq := fun W σ m H S x y v u Q s rx ry q => by
  unfold oEq at q
  split at q
  · rename_i k hk
    have q1 := q _ H m .refl s (by simp only [VR]; rfl)
    rcases dEq_ok s hk rx ry with ⟨h1, h2⟩ | ⟨d, e, h1, h2, h3, h4, h5⟩
    · exact .inl ⟨h1, by rw [h2]; exact q1⟩
    · exact .inr ⟨d, e, h1, h2, h3, h4, by rw [h5]; exact q1⟩
  · exact q.elim
theorem o2_ne : O2 K (fun x y H Q => rNe x y H Q ∨ rNeD K x y H Q) oNe := fun W σ m H S x y v u Q s rx ry q => by
  unfold oNe at q
  split at q
  · rename_i k hk
    have q1 := q _ H m .refl s (by simp only [VR]; rfl)
    rcases dEq_ok s hk rx ry with ⟨h1, h2⟩ | ⟨d, e, h1, h2, h3, h4, h5⟩
    · exact .inl ⟨h1, by rw [h2]; exact q1⟩
    · exact .inr ⟨d, e, h1, h2, h3, h4, by rw [h5]; exact q1⟩
  · exact q.elim
theorem me_eq (hu : X.A.units + 64 < cLine) (ha : ME X W a f) (hb : ME X W b g) : ME X W (.Compare a [.Eq] [b] pos) (e2 oEq f g) := me_cmp (op_eq.or (op_eqD hu)) o2_eq ha hb (nomark _)
theorem me_ne (hu : X.A.units + 64 < cLine) (ha : ME X W a f) (hb : ME X W b g) : ME X W (.Compare a [.NotEq] [b] pos) (e2 oNe f g) := me_cmp (op_ne.or (op_neD hu)) o2_ne ha hb (nomark _)
theorem mt_eq (hu : X.A.units + 64 < cLine) (ha : ME X W a f) (hb : ME X W b g) : MT X W (.Compare a [.Eq] [b] pos) (eT (e2 oEq f g)) := mt_cmp (op_eq.or (op_eqD hu)) o2_eq ha hb (nomark _)
theorem mt_ne (hu : X.A.units + 64 < cLine) (ha : ME X W a f) (hb : ME X W b g) : MT X W (.Compare a [.NotEq] [b] pos) (eT (e2 oNe f g)) := mt_cmp (op_ne.or (op_neD hu)) o2_ne ha hb (nomark _)
theorem me_lt (ha : ME X W a f) (hb : ME X W b g) : ME X W (.Compare a [.Lt] [b] pos) (e2 oLt f g) := me_cmp op_lt o2_lt ha hb (nomark _)
theorem me_le (ha : ME X W a f) (hb : ME X W b g) : ME X W (.Compare a [.LtE] [b] pos) (e2 oLe f g) := me_cmp op_le o2_le ha hb (nomark _)
theorem me_gt (ha : ME X W a f) (hb : ME X W b g) : ME X W (.Compare a [.Gt] [b] pos) (e2 oGt f g) := me_cmp op_gt o2_gt ha hb (nomark _)
theorem me_ge (ha : ME X W a f) (hb : ME X W b g) : ME X W (.Compare a [.GtE] [b] pos) (e2 oGe f g) := me_cmp op_ge o2_ge ha hb (nomark _)
theorem mt_lt (ha : ME X W a f) (hb : ME X W b g) : MT X W (.Compare a [.Lt] [b] pos) (eT (e2 oLt f g)) := mt_cmp op_lt o2_lt ha hb (nomark _)
theorem mt_le (ha : ME X W a f) (hb : ME X W b g) : MT X W (.Compare a [.LtE] [b] pos) (eT (e2 oLe f g)) := mt_cmp op_le o2_le ha hb (nomark _)
theorem mt_gt (ha : ME X W a f) (hb : ME X W b g) : MT X W (.Compare a [.Gt] [b] pos) (eT (e2 oGt f g)) := mt_cmp op_gt o2_gt ha hb (nomark _)
theorem mt_ge (ha : ME X W a f) (hb : ME X W b g) : MT X W (.Compare a [.GtE] [b] pos) (eT (e2 oGe f g)) := mt_cmp op_ge o2_ge ha hb (nomark _)
theorem me_cle2 (ha : ME X W a f) (hb : ME X W b g) (hc : ME X W c h) (hm : lastMarks [.LtE, .LtE] [b, c] = false := by with_unfolding_all rfl) : ME X W (.Compare a [.LtE, .LtE] [b, c] pos) (eCh oLe oLe f g h) := me_ch op_le o2_le op_le o2_le ha hb hc hm
theorem mt_cle2 (ha : ME X W a f) (hb : ME X W b g) (hc : ME X W c h) (hm : lastMarks [.LtE, .LtE] [b, c] = false := by with_unfolding_all rfl) : MT X W (.Compare a [.LtE, .LtE] [b, c] pos) (eT (eCh oLe oLe f g h)) := mt_ch op_le o2_le op_le o2_le ha hb hc hm

/-! ### is None -/
def dNon : D → Bool
  | .non => true
  | _ => false
theorem dNon_ok {x : D} {v : V} (r : VR K m H x v) : decide (v = .non) = dNon x := by
  cases x <;> simp only [VR] at r
  case non => subst r; rfl
  case bl => subst r; rfl
  case int => subst r; rfl
  case str => subst r; rfl
  case fn => subst r; rfl
  case tup => obtain ⟨_, _, rfl, _⟩ := r; rfl
  case ref => obtain ⟨_, _, rfl⟩ := r; rfl
  case rl => obtain ⟨_, _, rfl, _⟩ := r; rfl
def oIs (x : D) (y : D) (S : Sto) : Out D := match y with
  | .non => .ok (.bl (dNon x)) S
  | _ => .bad
def oIsN (x : D) (y : D) (S : Sto) : Out D := match y with
  | .non => .ok (.bl (!dNon x)) S
  | _ => .bad
theorem o2_is : O2 K (fun x y H Q => y = .non ∧ Q (.bl (decide (x = .non))) H) oIs := fun W σ m H S x y v u Q s rx ry q => by
  cases y with
  | non =>
    simp only [VR] at ry
    exact ⟨ry, by rw [dNon_ok rx]; exact q _ H m .refl s (by simp only [VR])⟩
  | _ => exact q.elim
theorem o2_isn : O2 K (fun x y H Q => y = .non ∧ Q (.bl (!decide (x = .non))) H) oIsN := fun W σ m H S x y v u Q s rx ry q => by
  cases y with
  | non =>
    simp only [VR] at ry
    exact ⟨ry, by rw [dNon_ok rx]; exact q _ H m .refl s (by simp only [VR])⟩
  | _ => exact q.elim
theorem me_is (ha : ME X W a f) (hb : ME X W b g) : ME X W (.Compare a [.Is] [b] pos) (e2 oIs f g) := me_cmp op_isN o2_is ha hb (nomark _)
theorem me_isn (ha : ME X W a f) (hb : ME X W b g) : ME X W (.Compare a [.IsNot] [b] pos) (e2 oIsN f g) := me_cmp op_notN o2_isn ha hb (nomark _)
theorem mt_is (ha : ME X W a f) (hb : ME X W b g) : MT X W (.Compare a [.Is] [b] pos) (eT (e2 oIs f g)) := mt_cmp op_isN o2_is ha hb (nomark _)
theorem mt_isn (ha : ME X W a f) (hb : ME X W b g) : MT X W (.Compare a [.IsNot] [b] pos) (eT (e2 oIsN f g)) := mt_cmp op_notN o2_isn ha hb (nomark _)

/-! ### in, of flat things in a list or tuple -/
def flatD : D → Bool
  | .non => true | .bl _ => true | .int _ => true | .str _ => true
  | _ => false
def eqF : D → D → Bool
  | .non, .non => true
  | .bl a, .bl b => a == b
  | .bl a, .int b => (if a then 1 else 0) == b
  | .int a, .bl b => a == (if b then 1 else 0)
  | .int a, .int b => a == b
  | .str a, .str b => a == b
  | _, _ => false
theorem flat_ok {x : D} {v : V} (r : VR K m H x v) (h : flatD x = true) : flatV v = true := by
  cases x <;> first | (simp only [flatD] at h; cases h; done) | (simp only [VR] at r; subst r; rfl)
theorem eqF_ok {x y : D} {v u : V} (rx : VR K m H x v) (ry : VR K m H y u) (hx : flatD x = true) (hy : flatD y = true) : eqV v u = eqF x y := by
  cases x <;> first | (simp only [flatD] at hx; cases hx; done) | (cases y <;> first | (simp only [flatD] at hy; cases hy; done) | (simp only [VR] at rx ry; subst rx ry; rfl))
theorem flats_ok : ∀ {xs : List D} {vs : List V}, VRs K m H xs vs → xs.all flatD = true → vs.all flatV = true
  | [], _, h, _ => by simp only [VRs] at h; subst h; rfl
  | x :: xs, _, h, q => by
    simp only [VRs] at h
    obtain ⟨v, r, rfl, h1, h2⟩ := h
    rw [List.all_cons, Bool.and_eq_true] at q ⊢
    exact ⟨flat_ok h1 q.1, flats_ok h2 q.2⟩
theorem inF_ok {x : D} {v : V} (rx : VR K m H x v) (hx : flatD x = true) : ∀ {xs : List D} {vs : List V}, VRs K m H xs vs → xs.all flatD = true → inV v vs = xs.any fun y => eqF y x
  | [], _, h, _ => by simp only [VRs] at h; subst h; rfl
  | y :: xs, _, h, q => by
    simp only [VRs] at h
    obtain ⟨u, r, rfl, h1, h2⟩ := h
    rw [List.all_cons, Bool.and_eq_true] at q
    have := inF_ok rx hx h2 q.2
    unfold inV at this ⊢
    rw [List.any_cons, List.any_cons, this, eqF_ok h1 rx q.1 hx]
def seqD (S : Sto) : D → Option (List D)
  | .tup xs => some xs
  | .rl xs => some xs
  | .ref n => match S[n]? with
    | some (.lst xs) => some xs
    | _ => none
  | _ => none
theorem seqD_ok (s : SR K m H S) {y : D} {u : V} {ys : List D} (r : VR K m H y u) (h : seqD S y = some ys) : ∃ p vs, u = .ref p ∧ (SqL K H p vs ∨ SqN K H p vs) ∧ VRs K m H ys vs := by
  cases y with
  | tup xs =>
    simp only [seqD, Option.some.injEq] at h
    subst h
    simp only [VR] at r
    obtain ⟨p, vs, h1, h2, h3⟩ := r
    exact ⟨p, vs, h1, .inr h2, h3⟩
  | rl xs =>
    simp only [seqD, Option.some.injEq] at h
    subst h
    simp only [VR] at r
    obtain ⟨p, vs, h1, h2, h3⟩ := r
    exact ⟨p, vs, h1, .inl h2.sql, h3⟩
  | ref n =>
    simp only [seqD] at h
    split at h
    · rename_i xs hn
      cases h
      obtain ⟨p, h1, _, _, vs, h2, h3⟩ := s.ref hn r
      exact ⟨p, vs, h1, .inl (SqL.of h2), h3⟩
    · cases h
  | _ => simp only [seqD] at h; cases h
def dIn (S : Sto) (x y : D) : Option Bool := match seqD S y with
  | some ys => if flatD x && ys.all flatD then some (ys.any fun z => eqF z x) else none
  | none => none
theorem dIn_ok (s : SR K m H S) {x y : D} {v u : V} {k : Bool} (h : dIn S x y = some k) (rx : VR K m H x v) (ry : VR K m H y u) :
    ∃ p vs, u = .ref p ∧ (SqL K H p vs ∨ SqT K H p vs) ∧ flatV v = true ∧ vs.all flatV = true ∧ inV v vs = k := by
  unfold dIn at h
  split at h
  · rename_i ys hy
    split at h
    · rename_i hf
      rw [Bool.and_eq_true] at hf
      obtain ⟨p, vs, h1, h2, h3⟩ := seqD_ok s ry hy
      cases h
      exact ⟨p, vs, h1, h2.imp id SqN.t, flat_ok rx hf.1, flats_ok h3 hf.2, inF_ok rx hf.1 h3 hf.2⟩
    · cases h
  · cases h
def oIn (x y : D) (S : Sto) : Out D := match dIn S x y with
  | some b => .ok (.bl b) S
  | none => .bad
def oNin (x y : D) (S : Sto) : Out D := match dIn S x y with
  | some b => .ok (.bl (!b)) S
  | none => .bad
theorem o2_in : O2 K (rIn K false) oIn := fun W σ m H S x y v u Q s rx ry q => by
  unfold oIn at q
  split at q
  · rename_i k hk
    obtain ⟨p, vs, h1, h2, h3, h4, h5⟩ := dIn_ok s hk rx ry
    refine ⟨p, vs, h1, h2, h3, h4, ?_⟩
    rw [if_neg (by decide), h5]
    exact q _ H m .refl s (by simp only [VR])
  · exact q.elim
theorem o2_nin : O2 K (rIn K true) oNin := fun W σ m H S x y v u Q s rx ry q => by
  unfold oNin at q
  split at q
  · rename_i k hk
    obtain ⟨p, vs, h1, h2, h3, h4, h5⟩ := dIn_ok s hk rx ry
    refine ⟨p, vs, h1, h2, h3, h4, ?_⟩
    rw [if_pos rfl, h5]
    exact q _ H m .refl s (by simp only [VR])
  · exact q.elim
theorem me_in (ha : ME X W a f) (hb : ME X W b g) (hm : behindInMarks .In b = false := by rfl) : ME X W (.Compare a [.In] [b] pos) (e2 oIn f g) := me_cmp op_in_seq o2_in ha hb hm
theorem me_nin (ha : ME X W a f) (hb : ME X W b g) (hm : behindInMarks .NotIn b = false := by rfl) : ME X W (.Compare a [.NotIn] [b] pos) (e2 oNin f g) := me_cmp op_notIn_seq o2_nin ha hb hm
theorem mt_in (ha : ME X W a f) (hb : ME X W b g) (hm : behindInMarks .In b = false := by rfl) : MT X W (.Compare a [.In] [b] pos) (eT (e2 oIn f g)) := mt_cmp op_in_seq o2_in ha hb hm
theorem mt_nin (ha : ME X W a f) (hb : ME X W b g) (hm : behindInMarks .NotIn b = false := by rfl) : MT X W (.Compare a [.NotIn] [b] pos) (eT (e2 oNin f g)) := mt_cmp op_notIn_seq o2_nin ha hb hm
end
end Pz

set_option Elab.async false
set_option linter.all false
set_option maxRecDepth 100000
set_option maxHeartbeats 4000000
/-! Pz5: isinstance, len, subscripts, slices, calls of built-ins. -/
namespace Pz
open PySem PySem.Spec PyProof.Rows L2
section
variable {X : Cx} {W : WX} {a b c e : Expr} {rest es : List Expr} {f g h : FE} {p pos : Pos} {K : PySem.W.Frag} {m : List Addr} {H : Hp} {S : Sto}

/-! ### isinstance with a built-in class -/
def tyD (S : Sto) : D → Option String
  | .non => some "NoneType" | .bl _ => some "bool" | .int _ => some "int" | .str _ => some "str" | .tup _ => some "tuple" | .rl _ => some "list" | .fn _ => none
  | .ref n => match S[n]? with
    | some (.lst _) => some "list"
    | some (.dk _) => some "dict"
    | _ => none
def isB (t T : String) : Bool := t == T || (t == "bool" && T == "int")
theorem kit_all : ∀ t ∈ ["NoneType", "bool", "int", "str", "tuple", "list", "dict"], ∀ T ∈ ["int", "bool", "str", "tuple"], kitB t T = some (isB t T) := by decide +kernel
theorem tyD_ok (s : SR K m H S) {x : D} {v : V} {t : String} (h : tyD S x = some t) (r : VR K m H x v) : TyX K H v (.type t) ∧ t ∈ ["NoneType", "bool", "int", "str", "tuple", "list", "dict"] := by
  cases x with
  | non => cases h; simp only [VR] at r; subst r; exact ⟨.base .non, by simp⟩
  | bl b => cases h; simp only [VR] at r; subst r; exact ⟨.base (.bl b), by simp⟩
  | int i => cases h; simp only [VR] at r; subst r; exact ⟨.base (.int i), by simp⟩
  | str z => cases h; simp only [VR] at r; subst r; exact ⟨.base (.str z), by simp⟩
  | fn _ => cases h
  | tup xs =>
    cases h
    simp only [VR] at r
    obtain ⟨p, vs, rfl, h1, _⟩ := r
    rcases h1.t with (h1 | ⟨o, h1⟩) | ⟨o, _, _, h1, h2, _⟩
    · exact ⟨.base (.tup h1), by simp⟩
    · exact ⟨.fTuple h1, by simp⟩
    · exact ⟨.kTuple h1 h2, by simp⟩
  | rl xs =>
    cases h
    simp only [VR] at r
    obtain ⟨p, vs, rfl, h1, _⟩ := r
    rcases h1 with ⟨o, h1⟩ | ⟨o, _, _, h1, h2, _⟩
    · exact ⟨.base (.frz h1), by simp⟩
    · exact ⟨.kList h1 h2, by simp⟩
  | ref n =>
    simp only [tyD] at h
    split at h
    · rename_i xs hn
      cases h
      obtain ⟨p, rfl, _, _, vs, h1, _⟩ := s.ref hn r
      exact ⟨.base (.lst h1), by simp⟩
    · rename_i xs hn
      cases h
      obtain ⟨p, rfl, _, _, vs, h1, _⟩ := s.ref hn r
      exact ⟨.base (.dK h1), by simp⟩
    · cases h
def oIsi (T : String) (x : D) (S : Sto) : Out D := match tyD S x with
  | some t => .ok (.bl (isB t T)) S
  | none => .bad
theorem me_isi {T : String} {p2 : Pos} {x : Str} (hx : bootBuiltins x = some (.type T)) (hT : T ∈ ["int", "bool", "str", "tuple"]) (hg : Gl X "isinstance") (hm : X.mg "isinstance" = none) (hb : bootBuiltins "isinstance" = some (.builtin "isinstance")) (hg2 : Gl X x) (hm2 : X.mg x = none) (he : ME X W e f)
    (hn : x ≠ "__name__" := by decide) (hd : (x == ("__debug__" : Str)) = false := by decide) (s1 : starEach [e, .Name x p2] X.env = (false, eval e X.env) :: starEach [.Name x p2] X.env := by rfl)
    (s2 : starEach [.Name x p2] X.env = (false, eval (.Name x p2) X.env) :: starEach [] X.env := by rfl) (hpl : (backTo pos (starEach [.Name x p2] X.env)).any (·.1) = false := by rfl) : ME X W (.Call (.Name "isinstance" p) [e, .Name x p2] [] pos) (e1 (oIsi T) f) :=
  (pe_callB call_isi hg hm hb (pa_cons he (pa_cons (pe_bltn (v := .ty T) hg2 hm2 hx rfl hn hd) pa_nil s2) s1) (by decide) (by decide) s1 hpl).imp fun σ H Q ⟨l, m, S, R, q⟩ => ⟨l, m, S, R, post.bind (PR := pD X.K) anti_D q fun x S1 v H1 m1 E1 R1 V1 q1 => by
    unfold oIsi at q1
    split at q1
    · rename_i t ht
      obtain ⟨h1, h2⟩ := tyD_ok R1 ht V1
      exact ⟨v, .ty T, _, _, _, rfl, .ty T, h1, kit_ty (kit_all t h2 T hT), q1 _ H1 m1 .refl R1 (by simp only [VR])⟩
    · exact q1.elim⟩

/-! ### a built-in called with one value -/
def rd1 {α β γ : Type} (PR : PRel α β) (PR' : PRel γ V) (K : PySem.W.Frag) (r : List β → Hp → VK → Prop) (o : α → Sto → Out γ) : Prop :=
  ∀ (W : WX) (σ : L2.St) (m : List Addr) (H H0 : Hp) (S : Sto) (x : α) (v : β) (Q : VK), SR K m H S → PR H0 m H x v → post K W PR' σ m H Q (o x S) → r [v] H Q
def eB1 {α γ : Type} (o : α → Sto → Out γ) (f : Loc → Sto → Out α) : Loc → Sto → Out γ := fun l S => (f l S).bind o
variable {α γ : Type} {PR : PRel α V} {PR' : PRel γ V} {r : List V → Hp → VK → Prop} {o : α → Sto → Out γ} {fa : Loc → Sto → Out α} {idn T : String} {x : Str}
theorem call1B (hc : CallR X (.builtin idn) r) (hf : rd1 PR PR' X.K r o) (ha : Anti PR') (hg : Gl X x) (hm : X.mg x = none) (hb : bootBuiltins x = some (.builtin idn)) (he : PE X e (tX X.K W PR fa)) (hn : x ≠ "__name__" := by decide) (hd : (x == ("__debug__" : Str)) = false := by decide)
    (s1 : starEach [e] X.env = (false, eval e X.env) :: starEach [] X.env := by rfl) (hpl : (backTo pos (starEach [] X.env)).any (·.1) = false := by rfl) : PE X (.Call (.Name x p) [e] [] pos) (tX X.K W PR' (eB1 o fa)) :=
  (pe_callB hc hg hm hb (pa_cons he pa_nil s1) hn hd s1 hpl).imp fun σ H Q ⟨l, m, S, R, q⟩ => ⟨l, m, S, R, post.bind (PR := PR) ha q fun x S1 v H1 m1 E1 R1 V1 q1 => hf W σ m1 H1 H S1 x v Q R1 V1 q1⟩
theorem call1T (hc : CallR X (.type T) r) (hf : rd1 PR PR' X.K r o) (ha : Anti PR') (hg : Gl X x) (hm : X.mg x = none) (hb : bootBuiltins x = some (.type T)) (he : PE X e (tX X.K W PR fa)) (hn : x ≠ "__name__" := by decide) (hd : (x == ("__debug__" : Str)) = false := by decide)
    (s1 : starEach [e] X.env = (false, eval e X.env) :: starEach [] X.env := by rfl) (hpl : (backTo pos (starEach [] X.env)).any (·.1) = false := by rfl) : PE X (.Call (.Name x p) [e] [] pos) (tX X.K W PR' (eB1 o fa)) :=
  (pe_callTy hc hg hm hb (pa_cons he pa_nil s1) hn hd s1 hpl).imp fun σ H Q ⟨l, m, S, R, q⟩ => ⟨l, m, S, R, post.bind (PR := PR) ha q fun x S1 v H1 m1 E1 R1 V1 q1 => hf W σ m1 H1 H S1 x v Q R1 V1 q1⟩

/-! ### what may be read as a sequence: MQ; as a list: MS -/
def pQ (K : PySem.W.Frag) : PRel (List D) V := fun _ m H ds v => ∃ p vs, v = .ref p ∧ (SqL K H p vs ∨ SqN K H p vs) ∧ VRs K m H ds vs
def pS (K : PySem.W.Frag) : PRel (List D) V := fun _ m H ds v => ∃ p vs, v = .ref p ∧ SqL K H p vs ∧ VRs K m H ds vs
abbrev FQ := Loc → Sto → Out (List D)
abbrev MQ (X : Cx) (W : WX) (e : Expr) (f : FQ) : Prop := PE X e (tX X.K W (pQ X.K) f)
abbrev MS' (X : Cx) (W : WX) (e : Expr) (f : FQ) : Prop := PE X e (tX X.K W (pS X.K) f)
theorem anti_Q {K : PySem.W.Frag} : Anti (pQ K) := fun _ _ _ _ _ _ _ h => h
theorem anti_S {K : PySem.W.Frag} : Anti (pS K) := fun _ _ _ _ _ _ _ h => h
def qD (d : D) (S : Sto) : Out (List D) := match seqD S d with
  | some xs => .ok xs S
  | none => .bad
def sD (d : D) (S : Sto) : Out (List D) := match d with
  | .tup _ => .bad
  | d => match seqD S d with
    | some xs => .ok xs S
    | none => .bad
def qL (x : LV) (S : Sto) : Out (List D) := match x.get S with
  | some xs => .ok xs S
  | none => .bad
def eQ (f : FE) : FQ := fun l S => (f l S).bind qD
def eS (f : FE) : FQ := fun l S => (f l S).bind sD
def lQ (f : FL) : FQ := fun l S => (f l S).bind qL
theorem mq_e (h : ME X W e f) : MQ X W e (eQ f) := PE.imp h fun σ H Q ⟨l, m, S, R, q⟩ => ⟨l, m, S, R, post.bind (PR := pD X.K) anti_Q q fun x S1 v H1 m1 E1 R1 V1 q1 => by
  unfold qD at q1
  split at q1
  · rename_i xs hx
    obtain ⟨p, vs, h1, h2, h3⟩ := seqD_ok R1 V1 hx
    exact q1 v H1 m1 .refl R1 ⟨p, vs, h1, h2, h3⟩
  · exact q1.elim⟩
theorem ms_e (h : ME X W e f) : MS' X W e (eS f) := PE.imp h fun σ H Q ⟨l, m, S, R, q⟩ => ⟨l, m, S, R, post.bind (PR := pD X.K) anti_S q fun x S1 v H1 m1 E1 R1 V1 q1 => by
  cases x with
  | rl xs =>
    simp only [VR] at V1
    obtain ⟨p, vs, h1, h2, h3⟩ := V1
    exact q1 v H1 m1 .refl R1 ⟨p, vs, h1, h2.sql, h3⟩
  | ref n =>
    simp only [sD, seqD] at q1
    split at q1
    · rename_i ys hy
      split at hy
      · rename_i xs hn
        cases hy
        obtain ⟨p, h1, _, _, vs, h2, h3⟩ := R1.ref hn V1
        exact q1 v H1 m1 .refl R1 ⟨p, vs, h1, SqL.of h2, h3⟩
      · cases hy
    · exact q1.elim
  | _ => exact q1.elim⟩
theorem ms_l {f : FL} (h : ML X W e f) : MS' X W e (lQ f) := PE.imp h fun σ H Q ⟨l, m, S, R, q⟩ => ⟨l, m, S, R, post.bind (PR := pL X.K) anti_S q fun x S1 v H1 m1 E1 R1 V1 q1 => by
  unfold qL at q1
  split at q1
  · rename_i xs hx
    obtain ⟨p, vs, h1, h2, h3⟩ := pL.read V1 .refl R1 hx
    exact q1 v H1 m1 .refl R1 ⟨p, vs, h1, SqL.of h2, h3⟩
  · exact q1.elim⟩
theorem mq_s {f : FQ} (h : MS' X W e f) : MQ X W e f := PE.imp h fun σ H Q ⟨l, m, S, R, q⟩ => ⟨l, m, S, R, by
  cases e1 : f l S with
  | ok x S1 =>
    rw [e1] at q
    exact fun v H1 m1 E1 R1 ⟨p, vs, h1, h2, h3⟩ => q v H1 m1 E1 R1 ⟨p, vs, h1, .inl h2, h3⟩
  | ex C fs S1 => rw [e1] at q; exact q
  | bad => rw [e1] at q; exact q⟩
theorem mq_l {f : FL} (h : ML X W e f) : MQ X W e (lQ f) := mq_s (ms_l h)

/-! ### len, tuple, list, sum, max, min, any, all of these -/
variable {q s : FQ}
def oLenQ (xs : List D) (S : Sto) : Out D := .ok (.int xs.length) S
def oTup (xs : List D) (S : Sto) : Out D := .ok (.tup xs) S
def oLst (xs : List D) (S : Sto) : Out LV := .ok (.tmp xs) S
theorem me_len (hg : Gl X "len") (hm : X.mg "len" = none) (he : MQ X W e q) (s1 : starEach [e] X.env = (false, eval e X.env) :: starEach [] X.env := by rfl) (hpl : (backTo pos (starEach [] X.env)).any (·.1) = false := by rfl) : ME X W (.Call (.Name "len" p) [e] [] pos) (eB1 oLenQ q) :=
  call1B call_len_seq (fun W σ m H H0 S x v Q R ⟨p, vs, h1, h2, h3⟩ q => ⟨p, vs, by rw [h1], h2.imp id SqN.t, by rw [h3.length]; exact q _ H m .refl R (by simp only [VR])⟩) anti_D hg hm PySem.boot_len he (by decide) (by decide) s1 hpl
def oLenS (d : D) (S : Sto) : Out D := match d with
  | .str z => if z.length ≤ sizeLine then .ok (.int z.length) S else .bad
  | _ => .bad
theorem me_lenS (hg : Gl X "len") (hm : X.mg "len" = none) (he : ME X W e f) (s1 : starEach [e] X.env = (false, eval e X.env) :: starEach [] X.env := by rfl) (hpl : (backTo pos (starEach [] X.env)).any (·.1) = false := by rfl) : ME X W (.Call (.Name "len" p) [e] [] pos) (eB1 oLenS f) :=
  call1B call_len_str (fun W σ m H H0 S x v Q R V q => by
    cases x with
    | str z =>
      simp only [VR] at V
      subst V
      simp only [oLenS] at q
      split at q
      · rename_i hz
        exact ⟨z, rfl, hz, q _ H m .refl R (by simp only [VR])⟩
      · exact q.elim
    | _ => exact q.elim) anti_D hg hm PySem.boot_len he (by decide) (by decide) s1 hpl
theorem me_tupOf (hg : Gl X "tuple") (hm : X.mg "tuple" = none) (hb : bootBuiltins "tuple" = some (.type "tuple")) (he : MQ X W e q) (s1 : starEach [e] X.env = (false, eval e X.env) :: starEach [] X.env := by rfl) (hpl : (backTo pos (starEach [] X.env)).any (·.1) = false := by rfl) : ME X W (.Call (.Name "tuple" p) [e] [] pos) (eB1 oTup q) :=
  call1T call_tupleF (fun W σ m H H0 S x v Q R ⟨p, vs, h1, h2, h3⟩ q => by
    subst h1
    rcases h2 with h2 | h2
    · exact ⟨p, vs, rfl, .inl ⟨h2, fun t ob ht hd => q _ _ m (Ext.tmp ht) (R.tmp ht) (VR.tupNew ht hd h3)⟩⟩
    · exact ⟨p, vs, rfl, .inr ⟨h2, q _ H m .refl R (by simp only [VR]; exact ⟨p, vs, rfl, h2, h3⟩)⟩⟩) anti_D hg hm hb he (by decide) (by decide) s1 hpl
theorem ml_listOf (hg : Gl X "list") (hm : X.mg "list" = none) (hb : bootBuiltins "list" = some (.type "list")) (he : MQ X W e q) (s1 : starEach [e] X.env = (false, eval e X.env) :: starEach [] X.env := by rfl) (hpl : (backTo pos (starEach [] X.env)).any (·.1) = false := by rfl) : ML X W (.Call (.Name "list" p) [e] [] pos) (eB1 oLst q) :=
  call1T call_list_of (fun W σ m H H0 S x v Q R ⟨p, vs, h1, h2, h3⟩ q => by
    subst h1
    exact ⟨p, vs, rfl, h2.imp id SqN.t, fun t ht => q _ _ m (Ext.tmp ht) (R.tmp ht) (pL.new .refl R ht h3)⟩) anti_L hg hm hb he (by decide) (by decide) s1 hpl
/-- the whole numbers, the truths in a list -/
def intsD : List D → Option (List Int) := mapO fun d => match d with
  | .int i => some i
  | _ => none
def blsD : List D → Option (List Bool) := mapO fun d => match d with
  | .bl i => some i
  | _ => none
theorem intsD_ok : ∀ {ds : List D} {ns : List Int}, intsD ds = some ns → ds = ns.map D.int
  | [], ns, h => by cases h; rfl
  | d :: ds, ns, h => by
    unfold intsD mapO at h
    split at h
    · rename_i y ys h1 h2
      cases h
      split at h1
      · cases h1
        rw [intsD_ok (ds := ds) h2]; rfl
      · cases h1
    · cases h
theorem blsD_ok : ∀ {ds : List D} {ns : List Bool}, blsD ds = some ns → ds = ns.map D.bl
  | [], ns, h => by cases h; rfl
  | d :: ds, ns, h => by
    unfold blsD mapO at h
    split at h
    · rename_i y ys h1 h2
      cases h
      split at h1
      · cases h1
        rw [blsD_ok (ds := ds) h2]; rfl
      · cases h1
    · cases h
theorem intsD_map (ns : List Int) : intsD (ns.map D.int) = some ns := by
  induction ns with
  | nil => rfl
  | cons n ns ih =>
    unfold intsD at ih ⊢
    rw [List.map_cons, mapO, ih]
theorem blsD_map (ns : List Bool) : blsD (ns.map D.bl) = some ns := by
  induction ns with
  | nil => rfl
  | cons n ns ih =>
    unfold blsD at ih ⊢
    rw [List.map_cons, mapO, ih]
def oSum (xs : List D) (S : Sto) : Out D := match intsD xs with
  | some ns => .ok (.int ns.sum) S
  | none => .bad
def oAny (xs : List D) (S : Sto) : Out D := match blsD xs with
  | some ns => .ok (.bl (ns.any id)) S
  | none => .bad
def oAll (xs : List D) (S : Sto) : Out D := match blsD xs with
  | some ns => .ok (.bl (ns.all id)) S
  | none => .bad
def oMax (xs : List D) (S : Sto) : Out D := match intsD xs with
  | some (n :: ns) => .ok (.int (ns.foldl max n)) S
  | _ => .bad
def oMin (xs : List D) (S : Sto) : Out D := match intsD xs with
  | some (n :: ns) => .ok (.int (ns.foldl min n)) S
  | _ => .bad
theorem me_sum (hc : X.calm = true) (hg : Gl X "sum") (hm : X.mg "sum" = none) (hb : bootBuiltins "sum" = some (.builtin "sum")) (he : MS' X W e s) (s1 : starEach [e] X.env = (false, eval e X.env) :: starEach [] X.env := by rfl) (hpl : (backTo pos (starEach [] X.env)).any (·.1) = false := by rfl) : ME X W (.Call (.Name "sum" p) [e] [] pos) (eB1 oSum s) :=
  call1B (cr_sum hc) (fun W σ m H H0 S x v Q R ⟨p, vs, h1, h2, h3⟩ q => by
    unfold oSum at q
    split at q
    · rename_i ns hn
      have e := intsD_ok hn
      subst e h1
      rw [h3.ints] at h2
      exact ⟨p, ns, rfl, h2, q _ H m .refl R (by simp only [VR])⟩
    · exact q.elim) anti_D hg hm hb he (by decide) (by decide) s1 hpl
theorem me_any (hc : X.calm = true) (hg : Gl X "any") (hm : X.mg "any" = none) (hb : bootBuiltins "any" = some (.builtin "any")) (he : MS' X W e s) (s1 : starEach [e] X.env = (false, eval e X.env) :: starEach [] X.env := by rfl) (hpl : (backTo pos (starEach [] X.env)).any (·.1) = false := by rfl) : ME X W (.Call (.Name "any" p) [e] [] pos) (eB1 oAny s) :=
  call1B (cr_any hc) (fun W σ m H H0 S x v Q R ⟨p, vs, h1, h2, h3⟩ q => by
    unfold oAny at q
    split at q
    · rename_i ns hn
      have e := blsD_ok hn
      subst e h1
      rw [h3.bls] at h2
      exact ⟨p, ns, rfl, h2, q _ H m .refl R (by simp only [VR])⟩
    · exact q.elim) anti_D hg hm hb he (by decide) (by decide) s1 hpl
theorem me_all (hc : X.calm = true) (hg : Gl X "all") (hm : X.mg "all" = none) (hb : bootBuiltins "all" = some (.builtin "all")) (he : MS' X W e s) (s1 : starEach [e] X.env = (false, eval e X.env) :: starEach [] X.env := by rfl) (hpl : (backTo pos (starEach [] X.env)).any (·.1) = false := by rfl) : ME X W (.Call (.Name "all" p) [e] [] pos) (eB1 oAll s) :=
  call1B (cr_all hc) (fun W σ m H H0 S x v Q R ⟨p, vs, h1, h2, h3⟩ q => by
    unfold oAll at q
    split at q
    · rename_i ns hn
      have e := blsD_ok hn
      subst e h1
      rw [h3.bls] at h2
      exact ⟨p, ns, rfl, h2, q _ H m .refl R (by simp only [VR])⟩
    · exact q.elim) anti_D hg hm hb he (by decide) (by decide) s1 hpl
end
end Pz

set_option Elab.async false
set_option linter.all false
set_option maxRecDepth 100000
set_option maxHeartbeats 4000000
/-! Pz6: numbers' built-ins, sorted, subscripts, slices, methods of lists. -/
namespace Pz
open PySem PySem.Spec PyProof.Rows L2
section
variable {X : Cx} {W : WX} {a b c e : Expr} {rest es : List Expr} {f g h : FE} {p pos : Pos} {K : PySem.W.Frag} {m : List Addr} {H : Hp} {S : Sto} {q s : FQ}

/-! ### abs, int, max, min -/
def oAbs (d : D) (S : Sto) : Out D := match d with
  | .int i => .ok (.int (if i < 0 then -i else i)) S
  | _ => .bad
def oInt (d : D) (S : Sto) : Out D := match d with
  | .int i => .ok (.int i) S
  | .bl k => .ok (.int (if k then 1 else 0)) S
  | _ => .bad
theorem me_abs (hg : Gl X "abs") (hm : X.mg "abs" = none) (hb : bootBuiltins "abs" = some (.builtin "abs")) (he : ME X W e f) (s1 : starEach [e] X.env = (false, eval e X.env) :: starEach [] X.env := by rfl) (hpl : (backTo pos (starEach [] X.env)).any (·.1) = false := by rfl) : ME X W (.Call (.Name "abs" p) [e] [] pos) (eB1 oAbs f) :=
  call1B call_abs (fun W σ m H H0 S x v Q R V q => by
    cases x with
    | int i =>
      simp only [VR] at V
      subst V
      exact ⟨i, rfl, q _ H m .refl R (by simp only [VR])⟩
    | _ => exact q.elim) anti_D hg hm hb he (by decide) (by decide) s1 hpl
theorem me_intOf (hg : Gl X "int") (hm : X.mg "int" = none) (hb : bootBuiltins "int" = some (.type "int")) (he : ME X W e f) (s1 : starEach [e] X.env = (false, eval e X.env) :: starEach [] X.env := by rfl) (hpl : (backTo pos (starEach [] X.env)).any (·.1) = false := by rfl) : ME X W (.Call (.Name "int" p) [e] [] pos) (eB1 oInt f) :=
  call1T call_int1 (fun W σ m H H0 S x v Q R V q => by
    cases x with
    | int i =>
      simp only [VR] at V
      subst V
      exact .inl ⟨i, rfl, q _ H m .refl R (by simp only [VR])⟩
    | bl i =>
      simp only [VR] at V
      subst V
      exact .inr ⟨i, rfl, q _ H m .refl R (by simp only [VR])⟩
    | _ => exact q.elim) anti_D hg hm hb he (by decide) (by decide) s1 hpl
theorem fold_max : ∀ (ns : List Int) (n : Int), ns.foldl max n ∈ n :: ns ∧ ∀ y ∈ n :: ns, y ≤ ns.foldl max n
  | [], n => ⟨by simp, by simp⟩
  | k :: ns, n => by
    obtain ⟨h1, h2⟩ := fold_max ns (max n k)
    rw [List.foldl_cons]
    refine ⟨?_, fun y hy => ?_⟩
    · rcases List.mem_cons.mp h1 with e | h
      · rw [e]
        by_cases q : n ≤ k
        · rw [Int.max_eq_right q]; simp
        · rw [Int.max_eq_left (by omega)]; simp
      · simp [h]
    · have q := h2 (max n k) (by simp)
      rcases List.mem_cons.mp hy with rfl | hy
      · omega
      · rcases List.mem_cons.mp hy with rfl | hy
        · omega
        · exact h2 y (by simp [hy])
theorem fold_min : ∀ (ns : List Int) (n : Int), ns.foldl min n ∈ n :: ns ∧ ∀ y ∈ n :: ns, ns.foldl min n ≤ y
  | [], n => ⟨by simp, by simp⟩
  | k :: ns, n => by
    obtain ⟨h1, h2⟩ := fold_min ns (min n k)
    rw [List.foldl_cons]
    refine ⟨?_, fun y hy => ?_⟩
    · rcases List.mem_cons.mp h1 with e | h
      · rw [e]
        by_cases q : n ≤ k
        · rw [Int.min_eq_left q]; simp
        · rw [Int.min_eq_right (by omega)]; simp
      · simp [h]
    · have q := h2 (min n k) (by simp)
      rcases List.mem_cons.mp hy with rfl | hy
      · omega
      · rcases List.mem_cons.mp hy with rfl | hy
        · omega
        · exact h2 y (by simp [hy])
theorem me_max (hc : X.calm = true) (hg : Gl X "max") (hm : X.mg "max" = none) (hb : bootBuiltins "max" = some (.builtin "max")) (he : MS' X W e s) (s1 : starEach [e] X.env = (false, eval e X.env) :: starEach [] X.env := by rfl) (hpl : (backTo pos (starEach [] X.env)).any (·.1) = false := by rfl) : ME X W (.Call (.Name "max" p) [e] [] pos) (eB1 oMax s) :=
  call1B (cr_max hc) (fun W σ m H H0 S x v Q R ⟨p, vs, h1, h2, h3⟩ q => by
    unfold oMax at q
    split at q
    · rename_i n ns hn
      have e := intsD_ok hn
      subst e h1
      rw [h3.ints] at h2
      obtain ⟨k1, k2⟩ := fold_max ns n
      refine ⟨p, n :: ns, rfl, h2, by simp, fun k hk hk2 => ?_⟩
      have e : k = ns.foldl max n := Int.le_antisymm (k2 k hk) (hk2 _ k1)
      rw [e]
      exact q _ H m .refl R (by simp only [VR])
    · exact q.elim) anti_D hg hm hb he (by decide) (by decide) s1 hpl
theorem me_min (hc : X.calm = true) (hg : Gl X "min") (hm : X.mg "min" = none) (hb : bootBuiltins "min" = some (.builtin "min")) (he : MS' X W e s) (s1 : starEach [e] X.env = (false, eval e X.env) :: starEach [] X.env := by rfl) (hpl : (backTo pos (starEach [] X.env)).any (·.1) = false := by rfl) : ME X W (.Call (.Name "min" p) [e] [] pos) (eB1 oMin s) :=
  call1B (cr_min hc) (fun W σ m H H0 S x v Q R ⟨p, vs, h1, h2, h3⟩ q => by
    unfold oMin at q
    split at q
    · rename_i n ns hn
      have e := intsD_ok hn
      subst e h1
      rw [h3.ints] at h2
      obtain ⟨k1, k2⟩ := fold_min ns n
      refine ⟨p, n :: ns, rfl, h2, by simp, fun k hk hk2 => ?_⟩
      have e : k = ns.foldl min n := Int.le_antisymm (hk2 _ k1) (k2 k hk)
      rw [e]
      exact q _ H m .refl R (by simp only [VR])
    · exact q.elim) anti_D hg hm hb he (by decide) (by decide) s1 hpl
def eB2 (o : D → D → Sto → Out D) (f g : FE) : FE := e2 o f g
def oMax2 := fI (fun _ _ => true) fun i j => .int (if j > i then j else i)
def oMin2 := fI (fun _ _ => true) fun i j => .int (if j < i then j else i)
theorem call2B {r : List V → Hp → VK → Prop} {o : D → D → Sto → Out D} {idn : String} {x : Str} (hc : CallR X (.builtin idn) r) (hf : O2 X.K (fun x y H Q => r [x, y] H Q) o) (hg : Gl X x) (hm : X.mg x = none) (hb : bootBuiltins x = some (.builtin idn)) (ha : ME X W a f) (he : ME X W b g)
    (hn : x ≠ "__name__" := by decide) (hd : (x == ("__debug__" : Str)) = false := by decide) (s1 : starEach [a, b] X.env = (false, eval a X.env) :: starEach [b] X.env := by rfl) (s2 : starEach [b] X.env = (false, eval b X.env) :: starEach [] X.env := by rfl)
    (hpl : (backTo pos (starEach [b] X.env)).any (·.1) = false := by rfl) : ME X W (.Call (.Name x p) [a, b] [] pos) (e2 o f g) :=
  (pe_callB hc hg hm hb (pa_cons ha (pa_cons he pa_nil s2) s1) hn hd s1 hpl).imp fun σ H Q q => tX_2 (r := fun x y H Q => r [x, y] H Q) hf q
theorem me_max2 (hc : X.calm = true) (hg : Gl X "max") (hm : X.mg "max" = none) (hb : bootBuiltins "max" = some (.builtin "max")) (ha : ME X W a f) (he : ME X W b g) (s1 : starEach [a, b] X.env = (false, eval a X.env) :: starEach [b] X.env := by rfl) (s2 : starEach [b] X.env = (false, eval b X.env) :: starEach [] X.env := by rfl)
    (hpl : (backTo pos (starEach [b] X.env)).any (·.1) = false := by rfl) : ME X W (.Call (.Name "max" p) [a, b] [] pos) (e2 oMax2 f g) :=
  call2B (call_max2 hc) (fun W σ m H S x y v u Q s rx ry q => by
    obtain ⟨i, j, h1, h2, h3⟩ := o2_I0 (g := fun i j => D.int (if j > i then j else i)) (g' := fun i j => V.int (if j > i then j else i)) (fun _ _ _ _ => by simp only [VR]) W σ m H S x y v u Q s rx ry q
    exact ⟨i, j, by rw [h1, h2], h3⟩) hg hm hb ha he (by decide) (by decide) s1 s2 hpl
theorem me_min2 (hc : X.calm = true) (hg : Gl X "min") (hm : X.mg "min" = none) (hb : bootBuiltins "min" = some (.builtin "min")) (ha : ME X W a f) (he : ME X W b g) (s1 : starEach [a, b] X.env = (false, eval a X.env) :: starEach [b] X.env := by rfl) (s2 : starEach [b] X.env = (false, eval b X.env) :: starEach [] X.env := by rfl)
    (hpl : (backTo pos (starEach [b] X.env)).any (·.1) = false := by rfl) : ME X W (.Call (.Name "min" p) [a, b] [] pos) (e2 oMin2 f g) :=
  call2B (call_min2 hc) (fun W σ m H S x y v u Q s rx ry q => by
    obtain ⟨i, j, h1, h2, h3⟩ := o2_I0 (g := fun i j => D.int (if j < i then j else i)) (g' := fun i j => V.int (if j < i then j else i)) (fun _ _ _ _ => by simp only [VR]) W σ m H S x y v u Q s rx ry q
    exact ⟨i, j, by rw [h1, h2], h3⟩) hg hm hb ha he (by decide) (by decide) s1 s2 hpl

/-! ### list(range(..)) -/
def rgD (a b : Int) : List D := (List.range (b - a).toNat).map fun i => D.int (a + (i : Nat))
theorem rg_ok (a b : Int) : VRs K m H (rgD a b) (rgV a b) := by
  have h := VRs.of_ints (K := K) (m := m) (H := H) ((List.range (b - a).toNat).map fun (i : Nat) => a + (i : Nat))
  rw [List.map_map, List.map_map] at h
  exact h
def rgOk (a b : Int) : Bool := decide (-(2 ^ 62) ≤ a ∧ a < 2 ^ 62 ∧ -(2 ^ 62) ≤ b ∧ b < 2 ^ 62 ∧ (b - a).toNat ≤ 2 ^ 24)
def lRg (a b : Int) (S : Sto) : Out LV := if rgOk a b then .ok (.tmp (rgD a b)) S else .bad
def lRg1 (f : FE) : FL := fun l S => (f l S).bind fun x S1 => match x with
  | .int n => lRg 0 n S1
  | _ => .bad
def lRg2 (f g : FE) : FL := fun l S => (f l S).bind fun x S1 => (g l S1).bind fun y S2 => match x, y with
  | .int i, .int j => lRg i j S2
  | _, _ => .bad
theorem lRg_ok {σ : L2.St} {Q : VK} {a b : Int} (R : SR K m H S) (q : post K W (pL K) σ m H Q (lRg a b S)) : RgOk a b ∧ ∀ t, H t = none → Q (.ref t) (upd H t (.lst (rgV a b))) := by
  unfold lRg at q
  split at q
  · rename_i h
    exact ⟨by simpa [rgOk, RgOk] using h, fun t ht => q _ _ m (Ext.tmp ht) (R.tmp ht) (pL.new .refl R ht (rg_ok a b))⟩
  · exact q.elim
theorem ml_range1 {p2 p3 : Pos} (hc : X.calm = true) (hg : Gl X "list") (hm : X.mg "list" = none) (hg2 : Gl X "range") (hm2 : X.mg "range" = none) (he : ME X W e f)
    (s1 : starEach [e] X.env = (false, eval e X.env) :: starEach [] X.env := by rfl) (na : starEach [.Call (.Name "range" p2) [e] [] p3] X.env = (false, eval (.Call (.Name "range" p2) [e] [] p3) X.env) :: starEach [] X.env := by rfl) :
    ML X W (.Call (.Name "list" p) [.Call (.Name "range" p2) [e] [] p3] [] pos) (lRg1 f) := (pe_listRg hc hg hm (prg_1 hg2 hm2 he s1) na).imp fun σ H Q ⟨l, m, S, R, q⟩ => ⟨l, m, S, R, post.bind (PR := pD X.K) anti_L q fun x S1 v H1 m1 E1 R1 V1 q1 => by
    cases x with
    | int i =>
      simp only [VR] at V1
      exact ⟨i, V1, lRg_ok R1 q1⟩
    | _ => exact q1.elim⟩
theorem ml_range2 {p2 p3 : Pos} (hc : X.calm = true) (hg : Gl X "list") (hm : X.mg "list" = none) (hg2 : Gl X "range") (hm2 : X.mg "range" = none) (ha : ME X W a f) (he : ME X W b g)
    (s1 : starEach [a, b] X.env = (false, eval a X.env) :: starEach [b] X.env := by rfl) (s2 : starEach [b] X.env = (false, eval b X.env) :: starEach [] X.env := by rfl) (hp : (backTo p3 (starEach [b] X.env)).any (·.1) = false := by rfl)
    (na : starEach [.Call (.Name "range" p2) [a, b] [] p3] X.env = (false, eval (.Call (.Name "range" p2) [a, b] [] p3) X.env) :: starEach [] X.env := by rfl) :
    ML X W (.Call (.Name "list" p) [.Call (.Name "range" p2) [a, b] [] p3] [] pos) (lRg2 f g) := (pe_listRg hc hg hm (prg_2 hg2 hm2 ha he s1 s2 hp) na).imp fun σ H Q ⟨l, m, S, R, q⟩ => ⟨l, m, S, R, post.bind (PR := pD X.K) anti_L q fun x S1 v H1 m1 E1 R1 V1 q1 =>
    ⟨l, m1, S1, R.ext E1 R1, post.bind (PR := pD X.K) anti_L q1 fun y S2 u H2 m2 E2 R2 V2 q2 => by
      cases x with
      | int i =>
        cases y with
        | int j =>
          simp only [VR] at V1 V2
          exact ⟨i, j, V1, V2, lRg_ok R2 q2⟩
        | _ => exact q2.elim
      | _ => cases y <;> exact q2.elim⟩⟩

/-! ### x[i] -/
theorem VRs.atI {ds : List D} {vs : List V} {i : Int} {d : D} (r : VRs K m H ds vs) (h : L2.atI ds i = some d) : ∃ v, L2.atI vs i = some v ∧ VR K m H d v := by
  unfold L2.atI at h ⊢
  rw [r.length]
  obtain ⟨j, h1, h2⟩ := Option.bind_eq_some_iff.mp h
  obtain ⟨v, h3, h4⟩ := r.get h2
  exact ⟨v, by rw [h1]; exact h3, h4⟩
def oIx (x y : D) (S : Sto) : Out D := match y with
  | .int i => match x with
    | .str z => if z.length ≤ sizeLine then match L2.atI z.cps.toList i with
      | some c => .ok (.str ⟨#[c]⟩) S
      | none => .bad else .bad
    | x => match seqD S x with
      | some xs => match L2.atI xs i with
        | some d => .ok d S
        | none => .bad
      | none => .bad
  | _ => .bad
theorem o2_ix : O2 K (rIx K) oIx := fun W σ m H S x y v u Q s rx ry q => by
  unfold oIx at q
  split at q
  · rename_i i
    simp only [VR] at ry
    subst ry
    split at q
    · rename_i z
      simp only [VR] at rx
      subst rx
      split at q
      · rename_i hz
        split at q
        · rename_i c hc
          exact .inr (.inr ⟨z, i, c, rfl, rfl, hz, hc, q _ H m .refl s (by simp only [VR])⟩)
        · exact q.elim
      · exact q.elim
    · split at q
      · rename_i xs hx
        split at q
        · rename_i d hd
          obtain ⟨p, vs, rfl, h2, h3⟩ := seqD_ok s rx hx
          obtain ⟨w, h4, h5⟩ := h3.atI hd
          have q1 := q w H m .refl s h5
          rcases h2 with h2 | h2
          · exact .inl ⟨p, vs, i, w, rfl, rfl, h2, h4, q1⟩
          · exact .inr (.inl ⟨p, vs, i, w, rfl, rfl, h2, h4, q1⟩)
        · exact q.elim
      · exact q.elim
  · exact q.elim
theorem me_ix (ha : ME X W a f) (hb : ME X W b g) (hs : PlainIx b := by exact fun _ _ => rfl) : ME X W (.Subscript a b pos) (e2 oIx f g) := (pe_ix ix_seq ha hb hs).imp fun σ H Q q => tX_2 o2_ix q
end
end Pz

set_option Elab.async false
set_option linter.all false
set_option maxRecDepth 100000
set_option maxHeartbeats 4000000
/-! Pz7: slices, methods of lists, sorted, stores by place. -/
namespace Pz
open PySem PySem.Spec PyProof.Rows L2
section
variable {X : Cx} {W : WX} {a b c e : Expr} {rest es : List Expr} {f g h : FE} {p pos : Pos} {K : PySem.W.Frag} {m : List Addr} {H : Hp} {S : Sto} {q s : FQ}

/-! ### x[lo:hi] -/
abbrev pO : PRel (Option Int) (Option Int) := fun _ _ _ a b => a = b
theorem anti_O : Anti pO := fun _ _ _ _ _ _ _ h => h
abbrev FO := Loc → Sto → Out (Option Int)
abbrev MO (X : Cx) (W : WX) (e : Option Expr) (f : FO) : Prop := PO X e (tX X.K W pO f)
theorem _root_.L2.PO.imp {X : Cx} {e : Option Expr} {t t' : TO} (h : PO X e t) (i : ∀ σ H Q, t' σ H Q → t σ H Q) : PO X e t' := ⟨fun pins s σ H Q I q => h.run pins s σ H Q I (i _ _ _ q)⟩
def oPart (d : D) (S : Sto) : Out (Option Int) := match d with
  | .int i => .ok (some i) S
  | _ => .bad
def pN : FO := fun _ S => .ok none S
def pS1 (f : FE) : FO := fun l S => (f l S).bind oPart
theorem mo_none : MO X W none pN := po_none.imp fun σ H Q ⟨l, m, S, R, q⟩ => q _ H m .refl R.sr rfl
theorem mo_some (h : ME X W e f) : MO X W (some e) (pS1 f) := (po_some h).imp fun σ H Q ⟨l, m, S, R, q⟩ => ⟨l, m, S, R, post.bind (PR := pD X.K) anti_O q fun x S1 v H1 m1 E1 R1 V1 q1 => by
  cases x with
  | int i =>
    simp only [VR] at V1
    exact ⟨i, V1, q1 _ H1 m1 .refl R1 rfl⟩
  | _ => exact q1.elim⟩
def cutL {α : Type} (xs : List α) (lo hi : Option Int) : List α := (xs.drop (HT.sIx xs.length 0 lo)).take (HT.sIx xs.length xs.length hi - HT.sIx xs.length 0 lo)
theorem VRs.cut {ds : List D} {vs : List V} (lo hi : Option Int) (r : VRs K m H ds vs) : VRs K m H (cutL ds lo hi) (cutV vs lo hi) := by
  unfold cutL cutV
  rw [r.length]
  exact (r.drop _).take _
/-- a tuple's, a text's -/
def oSl (x : D) (lo hi : Option Int) (S : Sto) : Out D := match x with
  | .tup xs => .ok (.tup (cutL xs lo hi)) S
  | .ref n => match S[n]? with
    | some (.lst xs) => .ok (.ref S.length) (S ++ [.lst (cutL xs lo hi)])
    | _ => .bad
  | .rl xs => .ok (.ref S.length) (S ++ [.lst (cutL xs lo hi)])
  | .str z => if z.length ≤ sizeLine then .ok (.str (cutS z lo hi)) S else .bad
  | _ => .bad
def eSl (f : FE) (lo hi : FO) : FE := fun l S => (f l S).bind fun x S1 => (lo l S1).bind fun i S2 => (hi l S2).bind fun j S3 => oSl x i j S3
def rSl3 (K : PySem.W.Frag) : V → Option Int → Option Int → Hp → VK → Prop := fun x lo hi H Q => (rSlF K x lo hi H Q ∨ rSlL K x lo hi H Q) ∨ rSlS x lo hi H Q
theorem sl_3 : SlR X (rSl3 X.K) := (sl_tupF.or sl_list).or sl_str
theorem oSl_ok {σ : L2.St} {x : D} {v : V} {lo hi : Option Int} {Q : VK} (s : SR K m H S) (rx : VR K m H x v) (q : post K W (pD K) σ m H Q (oSl x lo hi S)) : rSl3 K v lo hi H Q := by
  cases x with
  | tup xs =>
    simp only [VR] at rx
    obtain ⟨p, vs, rfl, h1, h2⟩ := rx
    refine .inl (.inl ⟨p, vs, rfl, h1, fun hw => ?_, fun _ t ob ht hd => ?_⟩)
    · have e : cutL xs lo hi = xs := by
        unfold cutL
        rw [← h2.length, hw.1, hw.2, List.drop_zero, Nat.sub_zero, h2.length, List.take_length]
      simp only [oSl, e] at q
      exact q _ H m .refl s (by simp only [VR]; exact ⟨p, vs, rfl, h1, h2⟩)
    · exact q _ _ m (Ext.tmp ht) (s.tmp ht) (VR.tupNew ht hd (h2.cut lo hi))
  | ref n =>
    simp only [oSl] at q
    split at q
    · rename_i xs hn
      obtain ⟨p, rfl, _, _, vs, h1, h2⟩ := s.ref hn rx
      refine .inl (.inr ⟨p, vs, rfl, SqL.of h1, fun t ht => ?_⟩)
      obtain ⟨s', e', r'⟩ := s.newList ht (h2.cut lo hi)
      exact q _ _ _ e' s' r'
    · exact q.elim
  | rl xs =>
    simp only [VR] at rx
    obtain ⟨p, vs, rfl, h1, h2⟩ := rx
    refine .inl (.inr ⟨p, vs, rfl, h1.sql, fun t ht => ?_⟩)
    obtain ⟨s', e', r'⟩ := s.newList ht (h2.cut lo hi)
    exact q _ _ _ e' s' r'
  | str z =>
    simp only [VR] at rx
    simp only [oSl] at q
    split at q
    · rename_i hz
      exact .inr ⟨z, rx, hz, q _ H m .refl s (by simp only [VR])⟩
    · exact q.elim
  | _ => exact q.elim
theorem me_sl {lo hi : Option Expr} {p2 : Pos} {i j : FO} (he : ME X W e f) (hl : MO X W lo i) (hh : MO X W hi j) : ME X W (.Subscript e (.Slice lo hi none p2) pos) (eSl f i j) :=
  (pe_slice sl_3 he hl hh).imp fun σ H Q ⟨l, m, S, R, q⟩ => ⟨l, m, S, R, post.bind (PR := pD X.K) anti_D q fun x S1 v H1 m1 E1 R1 V1 q1 => ⟨l, m1, S1, R.ext E1 R1, post.bind (PR := pO) anti_D q1 fun i' S2 u H2 m2 E2 R2 V2 q2 =>
    ⟨l, m2, S2, R.ext (E1.trans E2) R2, post.bind (PR := pO) anti_D q2 fun j' S3 w H3 m3 E3 R3 V3 q3 => by
      subst V2 V3
      exact oSl_ok R3 (VR.ext (E2.trans E3) x v V1) q3⟩⟩⟩
/-- a list's, on its way -/
def lSl (f : FL) (lo hi : FO) : FL := fun l S => (f l S).bind fun x S1 => (lo l S1).bind fun i S2 => (hi l S2).bind fun j S3 => match x.get S3 with
  | some xs => .ok (.tmp (cutL xs i j)) S3
  | none => .bad
theorem ml_sl {lo hi : Option Expr} {p2 : Pos} {f : FL} {i j : FO} (he : ML X W e f) (hl : MO X W lo i) (hh : MO X W hi j) : ML X W (.Subscript e (.Slice lo hi none p2) pos) (lSl f i j) :=
  (pe_slice sl_list he hl hh).imp fun σ H Q ⟨l, m, S, R, q⟩ => ⟨l, m, S, R, post.bind (PR := pL X.K) anti_L q fun x S1 v H1 m1 E1 R1 V1 q1 => ⟨l, m1, S1, R.ext E1 R1, post.bind (PR := pO) anti_L q1 fun i' S2 u H2 m2 E2 R2 V2 q2 =>
    ⟨l, m2, S2, R.ext (E1.trans E2) R2, post.bind (PR := pO) anti_L q2 fun j' S3 w H3 m3 E3 R3 V3 q3 => by
      subst V2 V3
      split at q3
      · rename_i xs hx
        obtain ⟨p, vs, rfl, h1, h2⟩ := pL.read V1 (E2.trans E3) R3 hx
        exact ⟨p, vs, rfl, SqL.of h1, fun t ht => q3 _ _ m3 (Ext.tmp ht) (R3.tmp ht) (pL.new .refl R3 ht (h2.cut _ _))⟩
      · exact q3.elim⟩⟩⟩
/-- of a list that nobody writes at (the script), on its way -/
def lSlR (f : FE) (lo hi : FO) : FL := fun l S => (f l S).bind fun x S1 => (lo l S1).bind fun i S2 => (hi l S2).bind fun j S3 => match x with
  | .rl xs => .ok (.tmp (cutL xs i j)) S3
  | .ref n => match S3[n]? with
    | some (.lst xs) => .ok (.tmp (cutL xs i j)) S3
    | _ => .bad
  | _ => .bad
theorem ml_slR {lo hi : Option Expr} {p2 : Pos} {i j : FO} (he : ME X W e f) (hl : MO X W lo i) (hh : MO X W hi j) : ML X W (.Subscript e (.Slice lo hi none p2) pos) (lSlR f i j) :=
  (pe_slice sl_list he hl hh).imp fun σ H Q ⟨l, m, S, R, q⟩ => ⟨l, m, S, R, post.bind (PR := pD X.K) anti_L q fun x S1 v H1 m1 E1 R1 V1 q1 => ⟨l, m1, S1, R.ext E1 R1, post.bind (PR := pO) anti_L q1 fun i' S2 u H2 m2 E2 R2 V2 q2 =>
    ⟨l, m2, S2, R.ext (E1.trans E2) R2, post.bind (PR := pO) anti_L q2 fun j' S3 w H3 m3 E3 R3 V3 q3 => by
      subst V2 V3
      have V1 := VR.ext (E2.trans E3) x v V1
      cases x with
      | rl xs =>
        simp only [VR] at V1
        obtain ⟨p, vs, rfl, h1, h2⟩ := V1
        exact ⟨p, vs, rfl, h1.sql, fun t ht => q3 _ _ m3 (Ext.tmp ht) (R3.tmp ht) (pL.new .refl R3 ht (h2.cut _ _))⟩
      | ref n =>
        cases hn : S3[n]? with
        | none => simp only [hn] at q3; exact q3.elim
        | some o =>
          cases o with
          | lst xs =>
            simp only [hn] at q3
            obtain ⟨p, rfl, _, _, vs, h1, h2⟩ := R3.ref hn V1
            exact ⟨p, vs, rfl, SqL.of h1, fun t ht => q3 _ _ m3 (Ext.tmp ht) (R3.tmp ht) (pL.new .refl R3 ht (h2.cut _ _))⟩
          | _ => simp only [hn] at q3; exact q3.elim
      | _ => exact q3.elim⟩⟩⟩

/-! ### xs.append(x) and its like -/
variable {name : Str} {apos cpos : Pos} {T idn : String} {r : V → List V → Hp → VK → Prop}
/-- o.m(e) of a list in the store -/
def oM1 (w : List D → D → Sto → Option (List D × D)) (x y : D) (S : Sto) : Out D := match x with
  | .ref n => match S[n]? with
    | some (.lst xs) => match w xs y S with
      | some (ys, d) => .ok d (S.set n (.lst ys))
      | none => .bad
    | _ => .bad
  | _ => .bad
/-- list methods with one argument: the receiver is asked to be a list when it comes -/
def isL (d : D) (S : Sto) : Out D := match d with
  | .ref n => match S[n]? with
    | some (.lst _) => .ok d S
    | _ => .bad
  | _ => .bad
def eM1 (k : D → D → Sto → Out D) (f g : FE) : FE := fun l S => (f l S).bind fun x S1 => (isL x S1).bind fun _ _ => (g l S1).bind fun y S2 => k x y S2
def eM0 (k : D → Sto → Out D) (f : FE) : FE := fun l S => (f l S).bind fun x S1 => (isL x S1).bind fun _ _ => k x S1
theorem isL_ok {x : D} {v : V} {α : Type} {k : Out α} {PR : PRel α V} {σ : L2.St} {Q : VK} (s : SR K m H S) (rx : VR K m H x v) (q : post K W PR σ m H Q ((isL x S).bind fun _ _ => k)) : tyV K "list" v H ∧ post K W PR σ m H Q k := by
  cases x with
  | ref n =>
    simp only [isL] at q
    split at q
    · rename_i xs hn
      obtain ⟨p, rfl, _, _, vs, h1, h2⟩ := s.ref hn rx
      exact ⟨.inl ⟨rfl, vs, SqL.of h1⟩, q⟩
    · exact q.elim
  | _ => exact q.elim
theorem me_lm1 {o : Expr} (slot : Slot "list" name idn) (hty : typeOf (.builtin idn) = pure (.type "method_descriptor")) (hm : MtR X idn r) {k : D → D → Sto → Out D} (hf : O2 X.K (fun x y H Q => r x [y] H Q) k) (ho : ME X W o f) (he : ME X W e g)
    (hbase : attributeBase o name X.env (eval o X.env) = eval o X.env := by rfl) (hfew : ((backTo cpos (starEach [e] X.env)).all (fun x => !x.1) && (backToKw cpos (keywordEach [] X.env)).all (fun x => x.1.isSome) && decide ([e].length + ([] : List Keyword).length + (if ([] : List Keyword).isEmpty then 0 else 1) < 30)) = true := by rfl) (hline : (apos.endLine == cpos.line) = true := by rfl) (hs : starEach [e] X.env = (false, eval e X.env) :: starEach [] X.env := by rfl)
    (hplain : (backTo cpos (starEach [] X.env)).any (·.1) = false := by rfl) : ME X W (.Call (.Attribute o name apos) [e] [] cpos) (eM1 k f g) :=
  (pe_bm PySem.F.plainAttrs_list slot hty hm ho (pa_cons he pa_nil hs) hbase hfew hline hs hplain).imp fun σ H Q ⟨l, m, S, R, q⟩ => ⟨l, m, S, R, post.bind (PR := pD X.K) anti_D q fun x S1 v H1 m1 E1 R1 V1 q1 => by
    obtain ⟨h1, q2⟩ := isL_ok R1 V1 q1
    exact ⟨h1, l, m1, S1, R.ext E1 R1, post.bind (PR := pD X.K) anti_D q2 fun y S2 u H2 m2 E2 R2 V2 q3 => hf W σ m2 H2 S2 x y v u Q R2 (VR.ext E2 x v V1) V2 q3⟩⟩
theorem me_lm0 {o : Expr} (slot : Slot "list" name idn) (hty : typeOf (.builtin idn) = pure (.type "method_descriptor")) (hm : MtR X idn r) {k : D → Sto → Out D} (hf : O1 X.K (fun x H Q => r x [] H Q) k) (ho : ME X W o f)
    (hbase : attributeBase o name X.env (eval o X.env) = eval o X.env := by rfl) (hline : (apos.endLine == cpos.line) = true := by rfl) : ME X W (.Call (.Attribute o name apos) [] [] cpos) (eM0 k f) :=
  (pe_bm0 PySem.F.plainAttrs_list slot hty hm ho hbase hline).imp fun σ H Q ⟨l, m, S, R, q⟩ => ⟨l, m, S, R, post.bind (PR := pD X.K) anti_D q fun x S1 v H1 m1 E1 R1 V1 q1 => by
    obtain ⟨h1, q2⟩ := isL_ok R1 V1 q1
    exact ⟨h1, hf W σ m1 H1 S1 x v Q R1 V1 q2⟩⟩

/-- the list in the store becomes another one -/
theorem SR.setL {n : Nat} {xs ys : List D} {v : V} (s : SR K m H S) (hn : S[n]? = some (.lst xs)) (rx : VR K m H (.ref n) v) :
    ∃ p vs, v = .ref p ∧ H p = some (.lst vs) ∧ VRs K m H xs vs ∧ ∀ us, VRs K m H ys us → Ext m H m (upd H p (.lst us)) ∧ SR K m (upd H p (.lst us)) (S.set n (.lst ys)) := by
  obtain ⟨p, rfl, hm, hp, vs, h1, h2⟩ := s.ref hn rx
  have mu : Mu (H p) := by rw [h1]; exact ⟨fun _ q => (by cases q), fun _ _ q => (by cases q)⟩
  refine ⟨p, vs, rfl, h1, h2, fun us hu => ⟨Ext.wr hp mu, s.wr hm mu ⟨us, upd_same, VRs.ext (Ext.wr hp mu) _ _ hu⟩⟩⟩
def oApp (x y : D) (S : Sto) : Out D := match x with
  | .ref n => match S[n]? with
    | some (.lst xs) => if xs.length < sizeLine then .ok .non (S.set n (.lst (xs ++ [y]))) else .bad
    | _ => .bad
  | _ => .bad
theorem o2_app : O2 K (fun x y H Q => rAppend x [y] H Q) oApp := fun W σ m H S x y v u Q s rx ry q => by
  cases x with
  | ref n =>
    simp only [oApp] at q
    split at q
    · rename_i xs hn
      obtain ⟨p, vs, rfl, h1, h2, h3⟩ := s.setL (ys := xs ++ [y]) hn rx
      split at q
      · rename_i hz
        obtain ⟨e', s'⟩ := h3 (vs ++ [u]) (h2.append (.cons ry .nil))
        exact ⟨p, vs, u, rfl, rfl, h1, by rw [h2.length]; exact hz, q _ _ m e' s' (by simp only [VR])⟩
      · exact q.elim
    · exact q.elim
  | _ => exact q.elim
def oPop (x : D) (S : Sto) : Out D := match x with
  | .ref n => match S[n]? with
    | some (.lst xs) => match xs[xs.length - 1]? with
      | some y => .ok y (S.set n (.lst xs.dropLast))
      | none => .bad
    | _ => .bad
  | _ => .bad
theorem VRs.dropLast {ds : List D} {vs : List V} (h : VRs K m H ds vs) : VRs K m H ds.dropLast vs.dropLast := by
  rw [List.dropLast_eq_take, List.dropLast_eq_take, h.length]
  exact h.take _
theorem o1_pop : O1 K (fun x H Q => rPop x [] H Q) oPop := fun W σ m H S x v Q s rx q => by
  cases x with
  | ref n =>
    simp only [oPop] at q
    split at q
    · rename_i xs hn
      obtain ⟨p, vs, rfl, h1, h2, h3⟩ := s.setL (ys := xs.dropLast) hn rx
      split at q
      · rename_i y hy
        obtain ⟨w, h4, h5⟩ := h2.get hy
        obtain ⟨e', s'⟩ := h3 vs.dropLast h2.dropLast
        exact ⟨p, vs, w, rfl, rfl, h1, by rw [h2.length]; exact h4, q _ _ m e' s' (VR.ext e' _ _ h5)⟩
      · exact q.elim
    · exact q.elim
  | _ => exact q.elim
def oPopAt (x y : D) (S : Sto) : Out D := match x, y with
  | .ref n, .int i => match S[n]? with
    | some (.lst xs) => match ixN xs.length i with
      | some k => match xs[k]? with
        | some d => if -(2 ^ 63) ≤ i ∧ i < 2 ^ 63 then .ok d (S.set n (.lst (xs.eraseIdx k))) else .bad
        | none => .bad
      | none => .bad
    | _ => .bad
  | _, _ => .bad
theorem o2_popAt : O2 K (fun x y H Q => rPopAt x [y] H Q) oPopAt := fun W σ m H S x y v u Q s rx ry q => by
  unfold oPopAt at q
  split at q
  · rename_i n i
    split at q
    · rename_i xs hn
      split at q
      · rename_i k hk
        obtain ⟨p, vs, rfl, h1, h2, h3⟩ := s.setL (ys := xs.eraseIdx k) hn rx
        split at q
        · rename_i d hd
          split at q
          · rename_i hz
            simp only [VR] at ry
            subst ry
            obtain ⟨w, h4, h5⟩ := h2.get hd
            obtain ⟨e', s'⟩ := h3 (vs.eraseIdx k) (h2.eraseIdx k)
            exact ⟨p, vs, i, k, w, rfl, rfl, h1, hz.1, hz.2, by rw [h2.length]; exact (ixN_seq hk).1, h4, q _ _ m e' s' (VR.ext e' _ _ h5)⟩
          · exact q.elim
        · exact q.elim
      · exact q.elim
    · exact q.elim
  · exact q.elim
/-- xs.extend(ys), ys a list on its way or in the store -/
def eExt (f : FE) (g : FL) : FE := fun l S => (f l S).bind fun x S1 => (isL x S1).bind fun _ _ => (g l S1).bind fun y S2 => match x with
  | .ref n => match S2[n]?, y.get S2 with
    | some (.lst xs), some ys => if xs.length + ys.length ≤ sizeLine then .ok .non (S2.set n (.lst (xs ++ ys))) else .bad
    | _, _ => .bad
  | _ => .bad
theorem me_ext {o : Expr} {g : FL} (ho : ME X W o f) (he : ML X W e g)
    (hbase : attributeBase o "extend" X.env (eval o X.env) = eval o X.env := by rfl) (hfew : ((backTo cpos (starEach [e] X.env)).all (fun x => !x.1) && (backToKw cpos (keywordEach [] X.env)).all (fun x => x.1.isSome) && decide ([e].length + ([] : List Keyword).length + (if ([] : List Keyword).isEmpty then 0 else 1) < 30)) = true := by rfl)
    (hline : (apos.endLine == cpos.line) = true := by rfl) (hs : starEach [e] X.env = (false, eval e X.env) :: starEach [] X.env := by rfl)
    (hplain : (backTo cpos (starEach [] X.env)).any (·.1) = false := by rfl) : ME X W (.Call (.Attribute o "extend" apos) [e] [] cpos) (eExt f g) :=
  (pe_bm PySem.F.plainAttrs_list PySem.F.slot_list_extend PySem.F.type_list_extend mt_extend ho (pa_cons he pa_nil hs) hbase hfew hline hs hplain).imp fun σ H Q ⟨l, m, S, R, q⟩ => ⟨l, m, S, R, post.bind (PR := pD X.K) anti_D q fun x S1 v H1 m1 E1 R1 V1 q1 => by
    obtain ⟨h1, q2⟩ := isL_ok R1 V1 q1
    refine ⟨h1, l, m1, S1, R.ext E1 R1, post.bind (PR := pL X.K) anti_D q2 fun y S2 u H2 m2 E2 R2 V2 q3 => ?_⟩
    have V1 := VR.ext E2 x v V1
    cases x with
    | ref n =>
      simp only at q3
      split at q3
      · rename_i xs ys hn hy
        obtain ⟨p', us, rfl, h6, h7⟩ := pL.read V2 .refl R2 hy
        obtain ⟨p, vs, rfl, h8, h2, h3⟩ := R2.setL (ys := xs ++ ys) hn V1
        split at q3
        · rename_i hz
          obtain ⟨e', s'⟩ := h3 (vs ++ us) (h2.append h7)
          exact ⟨p, p', vs, us, rfl, rfl, h8, h6, by rw [h2.length, h7.length]; exact hz, q3 _ _ m2 e' s' (by simp only [VR])⟩
        · exact q3.elim
      · exact q3.elim
    | _ => exact q3.elim⟩
/-- the first place of a flat thing -/
def findF (x : D) : List D → Nat → Option Nat
  | [], _ => none
  | y :: ys, n => if eqF y x then some n else findF x ys (n + 1)
theorem findF_ok {x : D} : ∀ {ys : List D} {n j : Nat}, findF x ys n = some j → n ≤ j ∧ (∃ z, ys[j - n]? = some z ∧ eqF z x = true) ∧ ∀ (k : Nat) z, k < j - n → ys[k]? = some z → eqF z x = false
  | [], _, _, h => by cases h
  | y :: ys, n, j, h => by
    unfold findF at h
    split at h
    · rename_i e
      cases h
      exact ⟨Nat.le_refl _, ⟨y, by simp, e⟩, fun k z hk => by omega⟩
    · rename_i e
      obtain ⟨h1, ⟨z, h2, h3⟩, h4⟩ := findF_ok h
      refine ⟨by omega, ⟨z, ?_, h3⟩, fun k z' hk hz => ?_⟩
      · have q : j - n = (j - (n + 1)) + 1 := by omega
        rw [q, List.getElem?_cons_succ]; exact h2
      · cases k with
        | zero => simp at hz; subst hz; simpa using e
        | succ k => exact h4 k z' (by omega) (by simpa using hz)
def oIndex (x y : D) (S : Sto) : Out D := match x with
  | .ref n => match S[n]? with
    | some (.lst xs) => if flatD y && xs.all flatD then match findF y xs 0 with
      | some j => .ok (.int (j : Nat)) S
      | none => .bad else .bad
    | _ => .bad
  | _ => .bad
theorem VRs.back : ∀ {ds : List D} {vs : List V} {i : Nat} {v : V}, VRs K m H ds vs → vs[i]? = some v → ∃ d, ds[i]? = some d ∧ VR K m H d v
  | [], _, _, _, h, e => by simp only [VRs] at h; subst h; simp at e
  | x :: xs, _, 0, _, h, e => by
    simp only [VRs] at h
    obtain ⟨v, r, rfl, h1, h⟩ := h
    simp at e; subst e
    exact ⟨x, rfl, h1⟩
  | x :: xs, _, i + 1, w, h, e => by
    simp only [VRs] at h
    obtain ⟨v, r, rfl, h1, h⟩ := h
    obtain ⟨u, h2, h3⟩ := VRs.back (i := i) (v := w) h (by simpa using e)
    exact ⟨u, by simpa using h2, h3⟩
theorem o2_index : O2 K (fun x y H Q => rIndex K x [y] H Q) oIndex := fun W σ m H S x y v u Q s rx ry q => by
  cases x with
  | ref n =>
    simp only [oIndex] at q
    split at q
    · rename_i xs hn
      obtain ⟨p, rfl, _, _, vs, h1, h2⟩ := s.ref hn rx
      split at q
      · rename_i hf
        rw [Bool.and_eq_true] at hf
        split at q
        · rename_i j hj
          obtain ⟨_, ⟨z, h3, h4⟩, h5⟩ := findF_ok hj
          rw [Nat.sub_zero] at h3 h5
          obtain ⟨w, h6, h7⟩ := h2.get h3
          have fz : ∀ {k : Nat} {z : D}, xs[k]? = some z → flatD z = true := fun h => List.all_eq_true.mp hf.2 _ (List.mem_of_getElem? h)
          refine ⟨p, vs, u, j, w, rfl, rfl, SqL.of h1, flat_ok ry hf.1, flats_ok h2 hf.2, h6, by rw [eqF_ok h7 ry (fz h3) hf.1]; exact h4, fun k w' hk hw => ?_, q _ H m .refl s (by simp only [VR])⟩
          obtain ⟨d, h8, h9⟩ := h2.back hw
          rw [eqF_ok h9 ry (fz h8) hf.1]
          exact h5 k d hk h8
        · exact q.elim
      · exact q.elim
    · exact q.elim
  | _ => exact q.elim
end
end Pz

set_option Elab.async false
set_option linter.all false
set_option maxRecDepth 100000
set_option maxHeartbeats 4000000
/-! Pz8: what a def computes; what it leaves behind; calls of own defs. -/
namespace Pz
open PySem PySem.Spec PyProof.Rows L2

/-! ### data that names no object from n on -/
mutual
def clD (n : Nat) : D → Bool
  | .ref k => decide (k < n)
  | .tup xs => clDs n xs
  | .rl xs => clDs n xs
  | _ => true
def clDs (n : Nat) : List D → Bool
  | [] => true
  | x :: xs => clD n x && clDs n xs
end
def clA {κ : Type} (n : Nat) : List (κ × D) → Bool
  | [] => true
  | (_, d) :: r => clD n d && clA n r
def clO (n : Nat) : Ob → Bool
  | .lst xs => clDs n xs
  | .dk kvs => clA n kvs
  | .ins _ fs => clA n fs
  | .dn kvs => clA n kvs
def clX (n : Nat) : Option (List (Str × D)) → Bool
  | none => true
  | some fs => clA n fs
section
variable {K : PySem.W.Frag} {m m' : List Addr} {H H' : Hp} {S S' : Sto} {n : Nat} {a : Addr}
mutual
theorem VR.closed : ∀ (d : D) (v : V), VR K m H d v → clD m.length d = true
  | .ref k, _, h => by
    simp only [VR] at h
    obtain ⟨a, h1, _⟩ := h
    simp only [clD, decide_eq_true_eq]
    exact (List.getElem?_eq_some_iff.mp h1).1
  | .tup xs, _, h => by
    simp only [VR] at h
    obtain ⟨a, vs, _, _, h⟩ := h
    simp only [clD]
    exact VRs.closed xs vs h
  | .rl xs, _, h => by
    simp only [VR] at h
    obtain ⟨a, vs, _, _, h⟩ := h
    simp only [clD]
    exact VRs.closed xs vs h
  | .non, _, _ => by simp only [clD]
  | .bl _, _, _ => by simp only [clD]
  | .int _, _, _ => by simp only [clD]
  | .str _, _, _ => by simp only [clD]
  | .fn _, _, _ => by simp only [clD]
theorem VRs.closed : ∀ (ds : List D) (vs : List V), VRs K m H ds vs → clDs m.length ds = true
  | [], _, _ => by simp only [clDs]
  | x :: xs, _, h => by
    simp only [VRs] at h
    obtain ⟨v, r, _, h1, h2⟩ := h
    simp only [clDs, Bool.and_eq_true]
    exact ⟨VR.closed x v h1, VRs.closed xs r h2⟩
end
theorem AR.closed {κ : Type} : ∀ (ds : List (κ × D)) (vs : List (κ × V)), AR K m H ds vs → clA m.length ds = true
  | [], _, _ => by simp only [clA]
  | (k, x) :: xs, _, h => by
    obtain ⟨v, r, _, h1, h2⟩ := h
    simp only [clA, Bool.and_eq_true]
    exact ⟨VR.closed x v h1, AR.closed xs r h2⟩
theorem OR.closed : ∀ (o : Ob), OR K m H o a → clO m.length o = true
  | .lst xs, ⟨vs, _, h⟩ => VRs.closed xs vs h
  | .dk xs, ⟨vs, _, h⟩ => AR.closed xs vs h
  | .ins _ fs, ⟨_, vs, _, h⟩ => AR.closed fs vs h
  | .dn xs, ⟨vs, _, h⟩ => AR.closed xs vs h
mutual
theorem VR.down (e : ∀ k, k < n → m[k]? = m'[k]?) : ∀ (d : D) (v : V), clD n d = true → VR K m' H d v → VR K m H d v
  | .ref k, _, c, h => by
    simp only [VR] at h ⊢
    simp only [clD, decide_eq_true_eq] at c
    rw [e k c]; exact h
  | .tup xs, _, c, h => by
    simp only [VR] at h ⊢
    simp only [clD] at c
    obtain ⟨a, vs, h1, h2, h⟩ := h
    exact ⟨a, vs, h1, h2, VRs.down e xs vs c h⟩
  | .rl xs, _, c, h => by
    simp only [VR] at h ⊢
    simp only [clD] at c
    obtain ⟨a, vs, h1, h2, h⟩ := h
    exact ⟨a, vs, h1, h2, VRs.down e xs vs c h⟩
  | .non, _, _, h => by simpa only [VR] using h
  | .bl _, _, _, h => by simpa only [VR] using h
  | .int _, _, _, h => by simpa only [VR] using h
  | .str _, _, _, h => by simpa only [VR] using h
  | .fn _, _, _, h => by simpa only [VR] using h
theorem VRs.down (e : ∀ k, k < n → m[k]? = m'[k]?) : ∀ (ds : List D) (vs : List V), clDs n ds = true → VRs K m' H ds vs → VRs K m H ds vs
  | [], _, _, h => by simpa only [VRs] using h
  | x :: xs, _, c, h => by
    simp only [VRs] at h ⊢
    simp only [clDs, Bool.and_eq_true] at c
    obtain ⟨v, r, h0, h1, h2⟩ := h
    exact ⟨v, r, h0, VR.down e x v c.1 h1, VRs.down e xs r c.2 h2⟩
end
theorem AR.down {κ : Type} (e : ∀ k, k < n → m[k]? = m'[k]?) : ∀ (ds : List (κ × D)) (vs : List (κ × V)), clA n ds = true → AR K m' H ds vs → AR K m H ds vs
  | [], _, _, h => h
  | (k, x) :: xs, _, c, h => by
    obtain ⟨v, r, h0, h1, h2⟩ := h
    simp only [clA, Bool.and_eq_true] at c
    exact ⟨v, r, h0, VR.down e x v c.1 h1, AR.down e xs r c.2 h2⟩
theorem OR.down (e : ∀ k, k < n → m[k]? = m'[k]?) : ∀ (o : Ob), clO n o = true → OR K m' H o a → OR K m H o a
  | .lst xs, c, ⟨vs, h1, h⟩ => ⟨vs, h1, VRs.down e xs vs c h⟩
  | .dk xs, c, ⟨vs, h1, h⟩ => ⟨vs, h1, AR.down e xs vs c h⟩
  | .ins _ fs, c, ⟨dx, vs, h1, h⟩ => ⟨dx, vs, h1, AR.down e fs vs c h⟩
  | .dn xs, c, ⟨vs, h1, h⟩ => ⟨vs, h1, AR.down e xs vs c h⟩
/-- the old objects name old objects alone -/
def Old (S S' : Sto) : Prop := ∀ (i : Nat) (o : Ob), i < S.length → S'[i]? = some o → S[i]? = some o ∨ clO S.length o = true
theorem Ext.back (s : SR K m H S) (e : Ext m H m' H') (s' : SR K m' H' S') (h : Old S S') : m'.take S.length = m ∧ Ext m H m H' ∧ SR K m H' (S'.take S.length) := by
  obtain ⟨ν, rfl, hν⟩ := e.mu
  have hl : S.length = m.length := s.len.symm
  have hm : (m ++ ν).take S.length = m := by rw [hl, List.take_left]
  have hs' := s'.len
  rw [List.length_append] at hs'
  have key : ∀ k, k < S.length → m[k]? = (m ++ ν)[k]? := fun k hk => by rw [List.getElem?_append_left (by omega)]
  refine ⟨hm, ⟨⟨[], by simp, fun _ q => nomatch q⟩, e.tup, e.frz, e.oth, e.dom⟩, ⟨?_, s.nd, fun k o hk => ?_, s'.sys⟩⟩
  · rw [List.length_take]; omega
  · by_cases hk2 : k < S.length
    · rw [List.getElem?_take_of_lt hk2] at hk
      obtain ⟨a, h1, h2⟩ := s'.at k o hk
      rw [← key k hk2] at h1
      refine ⟨a, h1, OR.down key o ?_ h2⟩
      rcases h k o hk2 hk with h3 | h3
      · obtain ⟨b, _, h5⟩ := s.at k o h3
        rw [hl]; exact OR.closed o h5
      · exact h3
    · rw [List.getElem?_take_eq_none (by omega)] at hk; cases hk
end
open Classical in
/-- what is left when a def hands back: a value that names old objects alone leaves no new object; a new object whose content names old ones alone leaves itself alone -/
noncomputable def gc (S : Sto) (d : D) (S' : Sto) : Out D :=
  if Old S S' ∧ clD S.length d = true then .ok d (S'.take S.length)
  else match d with
    | .ref n => match S'[n]? with
      | some o => if Old S S' ∧ S.length ≤ n ∧ clO S.length o = true then .ok (.ref S.length) (S'.take S.length ++ [o]) else .ok d S'
      | none => .ok d S'
    | _ => .ok d S'
open Classical in
noncomputable def gcX (S : Sto) (C : Str) (fs : Option (List (Str × D))) (S' : Sto) : Out D :=
  if Old S S' ∧ clX S.length fs = true then .ex C fs (S'.take S.length) else .ex C fs S'
noncomputable def runF (n nl : Nat) (b : Loc → Sto → OutS) (ds : List D) (S : Sto) : Out D :=
  if ds.length = n then match b (ds.map some ++ List.replicate (nl - n) none) S with
    | .rt d S' => gc S d S'
    | .nx _ S' => gc S .non S'
    | .ex _ C fs S' => gcX S C fs S'
    | _ => .bad
  else .bad
section
variable {K : PySem.W.Frag} {W : WX} {m m' : List Addr} {H H' : Hp} {S S' : Sto} {σ : L2.St} {Q : VK}
theorem gc_ok {d : D} {v : V} (s : SR K m H S) (q : post K W (pD K) σ m H Q (gc S d S')) (e : Ext m H m' H') (s' : SR K m' H' S') (r : VR K m' H' d v) : Q v H' := by
  unfold gc at q
  have hl : S.length = m.length := s.len.symm
  have key : ∀ k, k < S.length → m[k]? = m'[k]? := fun k hk => by
    obtain ⟨ν, rfl, _⟩ := e.mu
    rw [List.getElem?_append_left (by omega)]
  split at q
  · rename_i h
    obtain ⟨_, e2, s2⟩ := Ext.back s e s' h.1
    exact q v H' m e2 s2 (VR.down key d v h.2 r)
  · split at q
    · rename_i n _
      split at q
      · rename_i o ho
        split at q
        · rename_i h
          obtain ⟨h1, h2, h3⟩ := h
          obtain ⟨e1, e2, s2⟩ := Ext.back s e s' h1
          simp only [VR] at r
          obtain ⟨a, h4, h5⟩ := r
          obtain ⟨b, h6, h7⟩ := s'.at n o ho
          rw [h4] at h6; cases h6
          have ha : a ∈ m'.drop S.length := by
            refine List.mem_iff_getElem?.mpr ⟨n - S.length, ?_⟩
            rw [List.getElem?_drop]
            have : S.length + (n - S.length) = n := by omega
            rw [this]; exact h4
          have hna : a ∉ m := fun hm => by
            have nd := s'.nd
            rw [← List.take_append_drop S.length m', e1, List.nodup_append] at nd
            exact nd.2.2 a hm a ha rfl
          have hnone : H a = none := by
            obtain ⟨ν, rfl, hν⟩ := e.mu
            rw [hl, List.drop_left] at ha
            exact hν a ha
          refine q v H' (m ++ [a]) ⟨⟨[a], rfl, fun b hb => by rw [List.mem_singleton.mp hb]; exact hnone⟩, e.tup, e.frz, e.oth, e.dom⟩ (s2.grow hna (OR.down key o h3 h7)) ?_
          simp only [VR]
          exact ⟨a, by rw [hl, List.getElem?_concat_length], h5⟩
        · exact q v H' m' e s' r
      · exact q v H' m' e s' r
    · exact q v H' m' e s' r
theorem gcX_ok {C : Str} {fs : Option (List (Str × D))} {cls : Value} {dd : Option Addr} (s : SR K m H S) (q : post K W (pD K) σ m H Q (gcX S C fs S')) (e : Ext m H m' H') (s' : SR K m' H' S') (r : XR K m' H' C fs cls dd) : W cls dd σ H' := by
  unfold gcX at q
  have hl : S.length = m.length := s.len.symm
  have key : ∀ k, k < S.length → m[k]? = m'[k]? := fun k hk => by
    obtain ⟨ν, rfl, _⟩ := e.mu
    rw [List.getElem?_append_left (by omega)]
  split at q
  · rename_i h
    obtain ⟨_, e2, s2⟩ := Ext.back s e s' h.1
    refine q cls dd H' m e2 s2 ?_
    obtain ⟨h1, h2⟩ := r
    refine ⟨h1, ?_⟩
    cases fs with
    | none => exact h2
    | some fs =>
      obtain ⟨a, us, h3, h4, h5⟩ := h2
      exact ⟨a, us, h3, h4, AR.down key fs us h.2 h5⟩
  · exact q cls dd H' m' e s' r
end

/-! ### statements: what is wanted behind them -/
section
variable (K : PySem.W.Frag) (W : WX) (m : List Addr) (H : Hp) (D' : Ends)
def postS : OutS → Prop
  | .nx l S => ∀ σ' H' m', Ext m H m' H' → Rel K l σ' m' S H' → D'.nx σ' H'
  | .rt d S => ∀ v H' m', Ext m H m' H' → SR K m' H' S → VR K m' H' d v → D'.rt v H'
  | .bk l S => ∀ σ' H' m', Ext m H m' H' → Rel K l σ' m' S H' → D'.bk σ' H'
  | .ct l S => ∀ σ' H' m', Ext m H m' H' → Rel K l σ' m' S H' → D'.ct σ' H'
  | .ex l C fs S => ∀ cls dd σ' H' m', Ext m H m' H' → Rel K l σ' m' S H' → XR K m' H' C fs cls dd → W cls dd σ' H'
  | .bad => False
end
theorem postS.mono {K : PySem.W.Frag} {W : WX} {m m' : List Addr} {H H' : Hp} {D' : Ends} (e : Ext m H m' H') : ∀ {o : OutS}, postS K W m H D' o → postS K W m' H' D' o
  | .nx _ _, h => fun σ2 H2 m2 e2 r => h σ2 H2 m2 (e.trans e2) r
  | .rt _ _, h => fun σ2 H2 m2 e2 r => h σ2 H2 m2 (e.trans e2) r
  | .bk _ _, h => fun σ2 H2 m2 e2 r => h σ2 H2 m2 (e.trans e2) r
  | .ct _ _, h => fun σ2 H2 m2 e2 r => h σ2 H2 m2 (e.trans e2) r
  | .ex _ _ _ _, h => fun c d σ2 H2 m2 e2 r => h c d σ2 H2 m2 (e.trans e2) r
  | .bad, h => h
abbrev FS := Loc → Sto → OutS
def tS (K : PySem.W.Frag) (W : WX) (f : FS) : TS := fun D' σ H => ∃ l m S, Rel K l σ m S H ∧ postS K W m H D' (f l S)
abbrev MS (X : Cx) (W : WX) (st : Stmt) (f : FS) : Prop := PS X st (tS X.K W f)
abbrev MSs (X : Cx) (W : WX) (st : List Stmt) (f : FS) : Prop := PSs X st (tS X.K W f)

/-! ### a def of one's own -/
/-- the wish of a caller, whatever its slots -/
abbrev wE (E : XK) : WX := fun cls d _ H => E cls d H
def spF (K : PySem.W.Frag) (F : List D → Sto → Out D) : Sp := fun vs H Q E => ∃ ds m S, VRs K m H ds vs ∧ SR K m H S ∧ post K (wE E) (pD K) [] m H Q (F ds S)
structure FnA (P : Program) (w : World) (K : PySem.W.Frag) (mg : Str → Option Value) (base : Heap) (k : Nat) (f : Addr) (fd : FuncData) (ps : List Str) (F : List D → Sto → Out D) : Prop where
  ok : FnOk P w K mg base (L2.CX P w) k f fd ps (spF K F)
/-- a def of the module's, by its name -/
structure Fn (P : Program) (w : World) (K : PySem.W.Frag) (mg : Str → Option Value) (base : Heap) (k : Nat) (x : Str) (F : List D → Sto → Out D) : Prop where
  ex : ∃ f fd ps, FnOk P w K mg base (L2.CX P w) k f fd ps (spF K F) ∧ mg x = some (.ref f) ∧ PySem.W.keepIn K (.ref f) = true ∧ Binds K fd ps []
theorem Rel.start {K : PySem.W.Frag} {m : List Addr} {H : Hp} {S : Sto} {ds : List D} {vs : List V} {N : List Str} (s : SR K m H S) (r : VRs K m H ds vs) : Rel K (ds.map some ++ List.replicate (N.length - ds.length) none) (L2.start N vs) m S H := by
  refine ⟨s, by simp [L2.start, r.length], fun i d h => ?_⟩
  unfold L2.start
  by_cases hi : i < ds.length
  · rw [List.getElem?_append_left (by simpa using hi), List.getElem?_map] at h
    obtain ⟨x, hx, e⟩ := Option.map_eq_some_iff.mp h
    cases e
    obtain ⟨v, h1, h2⟩ := r.get hx
    refine ⟨v, ?_, h2⟩
    rw [List.getElem?_append_left (by simp [r.length]; exact hi), List.getElem?_map, h1]; rfl
  · rw [List.getElem?_append_right (by simpa using hi)] at h
    have := List.mem_of_getElem? h
    rw [List.mem_replicate] at this
    cases this.2
theorem spF_len {K : PySem.W.Frag} {n nl : Nat} {b : FS} {vs : List V} {H : Hp} {Q : VK} {E : XK} (h : spF K (runF n nl b) vs H Q E) : vs.length = n := by
  obtain ⟨ds, m, S, h1, _, h2⟩ := h
  unfold runF at h2
  split at h2
  · rename_i e; rw [h1.length]; exact e
  · exact h2.elim
/-- the context of a def's body -/
abbrev cxB (P : Program) (w : World) (K : PySem.W.Frag) (mg : Str → Option Value) (base : Heap) (N : List Str) (qual : Str) (st : Stmt) (f : Addr) (cdv : Value) (A : Around) (outer : List Env) (s : Shared) (H : Hp) (E : XK) : Cx :=
  cxOf (L2.CX P w) P w K mg base N qual (defScope st) f cdv A outer s H E
/-- THE RULE for a def: its body computes b -/
theorem fn_ok {P : Program} {w : World} {K : PySem.W.Frag} {mg : Str → Option Value} {base : Heap} {x qual : Str} {st : Stmt} {f : Addr} {fd : FuncData} {N ps : List Str} {k : Nat} {b : FS} (F : Fun K x qual st f fd) (sc : FnScope N ps (defScope st))
    (hbody : ∀ (cdv : Value) (A : Around) (outer : List Env) (s : Shared) (H : Hp) (E : XK), Room k (cxB P w K mg base N qual st f cdv A outer s H E).A → MSs (cxB P w K mg base N qual st f cdv A outer s H E) (wE E) (defBody st) b) : FnOk P w K mg base (L2.CX P w) (k + 1) f fd ps (spF K (runF ps.length N.length b)) := by
  refine F.okX sc (fun vs H Q E h => spF_len h) fun cdv A outer s H vs Q E hr hsp => ?_
  refine ⟨_, hbody cdv A outer s H E hr, ?_⟩
  obtain ⟨ds, m, S, h1, h2, h3⟩ := hsp
  unfold runF at h3
  split at h3
  · rename_i hl
    rw [← hl] at h3
    refine ⟨_, m, S, Rel.start h2 h1, ?_⟩
    split at h3
    · rename_i d S' e
      rw [e]
      exact fun v H' m' e1 s1 r1 => gc_ok h2 h3 e1 s1 r1
    · rename_i l S' e
      rw [e]
      exact fun σ' H' m' e1 r1 => gc_ok h2 h3 e1 r1.sr (by simp only [VR])
    · rename_i l C fs S' e
      rw [e]
      exact fun cls dd σ' H' m' e1 r1 x1 => gcX_ok (W := wE E) (σ := []) h2 h3 e1 r1.sr x1
    · exact h3.elim
  · exact h3.elim
section
variable {X : Cx} {W : WX} {k : Nat} {x : Str} {e : Expr} {es : List Expr} {p pos : Pos} {F : List D → Sto → Out D} {fa : FA}
def eCall (F : List D → Sto → Out D) (fa : FA) : FE := fun l S => (fa l S).bind F
theorem post.wE {K : PySem.W.Frag} {σ : L2.St} {m : List Addr} {H : Hp} {Q : VK} {o : Out D} (h : post K W (pD K) σ m H Q o) : post K (Pz.wE fun cls d H => W cls d σ H) (pD K) [] m H Q o := by
  cases o with
  | ok a S => exact h
  | ex C fs S => exact h
  | bad => exact h
theorem me_call (h : Fn X.prog X.w X.K X.mg X.base k x F) (hr : Room k X.A) (tk : Takes X W) (hg : Gl X x) (ha : MA X W (e :: es) fa) (hdb : (x == ("__debug__" : Str)) = false := by decide)
    (he : starEach (e :: es) X.env = (false, eval e X.env) :: starEach es X.env := by rfl) (hpl : (backTo pos (starEach es X.env)).any (·.1) = false := by rfl) : ME X W (.Call (.Name x p) (e :: es) [] pos) (eCall F fa) := by
  obtain ⟨f, fd, ps, h1, h2, h3, h4⟩ := h.ex
  refine (pe_callSD (E := fun σ cls d H => W cls d σ H) h1 hr hg h2 h3 h4 .nil (fun σ => passAt tk σ) ha hdb he hpl).imp fun σ H Q ⟨l, m, S, R, q⟩ => ⟨l, m, S, R, post.bind (PR := pA X.K) anti_D q fun ds S1 vs H1 m1 E1 R1 V1 q1 => ?_⟩
  exact ⟨ds, m1, S1, by rw [List.append_nil]; exact V1, R1, post.wE q1⟩
end
end Pz

set_option Elab.async false
set_option linter.all false
set_option maxRecDepth 100000
set_option maxHeartbeats 4000000
/-! Pz9: statements, targets, what is walked, for, while, comprehensions. -/
namespace Pz
open PySem PySem.Spec PyProof.Rows L2
section
variable {X : Cx} {W : WX} {a b c e : Expr} {rest es : List Expr} {f g h : FE} {pos : Pos} {K : PySem.W.Frag} {m m' : List Addr} {H H' : Hp} {S S' : Sto} {st : Stmt} {sts : List Stmt} {u v : FS}

/-! ### blocks -/
def sNx : FS := fun l S => .nx l S
def sSeq (f g : FS) : FS := fun l S => match f l S with
  | .nx l1 S1 => g l1 S1
  | o => o
theorem ms_nil : MSs X W [] sNx := pss_nil.imp fun D' σ H ⟨l, m, S, R, q⟩ => q σ H m .refl R
theorem ms_cons (h1 : MS X W st u) (h2 : MSs X W sts v) : MSs X W (st :: sts) (sSeq u v) := (pss_cons h1 h2).imp fun D' σ H ⟨l, m, S, R, q⟩ => ⟨l, m, S, R, by
  unfold sSeq at q
  cases e1 : u l S with
  | nx l1 S1 =>
    rw [e1] at q
    exact fun σ' H' m' E' R' => ⟨l1, m', S1, R', postS.mono E' q⟩
  | rt d S1 => rw [e1] at q; exact q
  | bk l1 S1 => rw [e1] at q; exact q
  | ct l1 S1 => rw [e1] at q; exact q
  | ex l1 C fs S1 => rw [e1] at q; exact q
  | bad => rw [e1] at q; exact q⟩
theorem ms_one (h1 : MS X W st u) : MSs X W [st] u := pss_one h1
/-- an expression's end as a statement's -/
def toS {α : Type} (l : Loc) (o : Out α) (k : α → Sto → OutS) : OutS := match o with
  | .ok a S => k a S
  | .ex C fs S => .ex l C fs S
  | .bad => .bad
theorem postS.bind {α β : Type} {PR : PRel α β} {σ : L2.St} {l : Loc} {D' : Ends} {k : α → Sto → OutS} {Q : β → Hp → Prop} (R : Rel K l σ m S H) : ∀ {o : Out α}, postS K W m H D' (toS l o k) →
    (∀ a S1 v H1 m1, Ext m H m1 H1 → SR K m1 H1 S1 → PR H m1 H1 a v → Rel K l σ m1 S1 H1 → postS K W m1 H1 D' (k a S1) → Q v H1) → post K W PR σ m H Q o
  | .ok a S1, q, i => fun v H1 m1 E1 R1 V1 => i a S1 v H1 m1 E1 R1 V1 (R.ext E1 R1) (postS.mono E1 q)
  | .ex C fs S1, q, _ => fun cls dd H1 m1 E1 R1 X1 => q cls dd σ H1 m1 E1 (R.ext E1 R1) X1
  | .bad, q, _ => q
def sPass : FS := sNx
def sBrk : FS := fun l S => .bk l S
def sCnt : FS := fun l S => .ct l S
theorem ms_pass : MS X W (.Pass pos) sPass := ps_pass.imp fun D' σ H ⟨l, m, S, R, q⟩ => q σ H m .refl R
theorem ms_break : MS X W (.Break pos) sBrk := ps_break.imp fun D' σ H ⟨l, m, S, R, q⟩ => q σ H m .refl R
theorem ms_continue : MS X W (.Continue pos) sCnt := ps_continue.imp fun D' σ H ⟨l, m, S, R, q⟩ => q σ H m .refl R
def sExp (f : FE) : FS := fun l S => toS l (f l S) fun _ S1 => .nx l S1
theorem ms_exp (he : ME X W e f) (hs : swapsWith e none pos.line X.env = pure false := by rfl) : MS X W (.Expr e pos) (sExp f) := (ps_expr he hs).imp fun D' σ H ⟨l, m, S, R, q⟩ => ⟨l, m, S, R,
  postS.bind (PR := pD X.K) R q fun d S1 w H1 m1 E1 R1 V1 R2 q1 => q1 σ H1 m1 .refl R2⟩
def sRet (f : FE) : FS := fun l S => toS l (f l S) fun d S1 => .rt d S1
theorem ms_ret (he : ME X W e f) : MS X W (.Return (some e) pos) (sRet f) := (ps_ret he).imp fun D' σ H ⟨l, m, S, R, q⟩ => ⟨l, m, S, R,
  postS.bind (PR := pD X.K) R q fun d S1 w H1 m1 E1 R1 V1 R2 q1 => q1 w H1 m1 .refl R1 V1⟩
def sRetN : FS := fun l S => .rt .non S
theorem ms_retN : MS X W (.Return none pos) sRetN := ps_retN.imp fun D' σ H ⟨l, m, S, R, q⟩ => q _ H m .refl R.sr (by simp only [VR])
def sIf (t : FT) (f g : FS) : FS := fun l S => toS l (t l S) fun k S1 => if k then f l S1 else g l S1
theorem ms_if {t : FT} {as bs : List Stmt} (hc : MT X W c t) (ha : MSs X W as u) (hb : MSs X W bs v) : MS X W (.If c as bs pos) (sIf t u v) := (ps_if hc ha hb).imp fun D' σ H ⟨l, m, S, R, q⟩ => ⟨l, m, S, R,
  postS.bind (PR := pB) R q fun k S1 w H1 m1 E1 R1 V1 R2 q1 => by
    subst V1
    cases k with
    | true => exact ⟨l, m1, S1, R2, q1⟩
    | false => exact ⟨l, m1, S1, R2, q1⟩⟩

/-! ### targets -/
inductive Tg where
  | nm (i : Nat)
  | tp (ts : List Tg)
mutual
def Tg.put : Tg → D → Loc → Option Loc
  | .nm i, d, l => some (l.set i (some d))
  | .tp ts, d, l => match d with
    | .tup xs => Tg.puts ts xs l
    | _ => none
def Tg.puts : List Tg → List D → Loc → Option Loc
  | [], [], l => some l
  | t :: ts, x :: xs, l => match Tg.put t x l with
    | some l1 => Tg.puts ts xs l1
    | none => none
  | _, _, _ => none
end
mutual
def Tg.slots : Tg → List Nat
  | .nm i => [i]
  | .tp ts => Tg.slotss ts
def Tg.slotss : List Tg → List Nat
  | [] => []
  | t :: ts => Tg.slots t ++ Tg.slotss ts
end
def tG (K : PySem.W.Frag) (t : Tg) : TG := fun v σ H Q => ∃ l m S d l', Rel K l σ m S H ∧ VR K m H d v ∧ t.put d l = some l' ∧ ∀ σ', Rel K l' σ' m S H → (∀ vs : List Nat, (∀ i ∈ t.slots, i ∈ vs) → wipe σ' vs = wipe σ vs) → Q σ' H
def tGs (K : PySem.W.Frag) (t : List Tg) : TGs := fun v σ H Q => ∃ l m S d l', Rel K l σ m S H ∧ VRs K m H d v ∧ Tg.puts t d l = some l' ∧ ∀ σ', Rel K l' σ' m S H → (∀ vs : List Nat, (∀ i ∈ Tg.slotss t, i ∈ vs) → wipe σ' vs = wipe σ vs) → Q σ' H
abbrev MG (X : Cx) (tg : Expr) (t : Tg) : Prop := PG X tg (tG X.K t)
abbrev MGs (X : Cx) (tg : List Expr) (t : List Tg) : Prop := PGs X tg (tGs X.K t)
theorem Rel.put {l : Loc} {σ : L2.St} {i : Nat} {d : D} {w : V} (R : Rel K l σ m S H) (r : VR K m H d w) : Rel K (l.set i (some d)) (σ.set i (some w)) m S H := by
  refine ⟨R.sr, by rw [List.length_set, List.length_set]; exact R.len, fun j x hj => ?_⟩
  by_cases e : j = i
  · subst e
    have hl : j < l.length := by
      have := (List.getElem?_eq_some_iff.mp hj).1
      rwa [List.length_set] at this
    rw [List.getElem?_set_self hl] at hj
    cases hj
    exact ⟨w, List.getElem?_set_self (by rw [R.len]; exact hl), r⟩
  · rw [List.getElem?_set_ne (Ne.symm e)] at hj
    obtain ⟨z, h1, h2⟩ := R.at j x hj
    exact ⟨z, by rw [List.getElem?_set_ne (Ne.symm e)]; exact h1, h2⟩
theorem wipe_set {σ : L2.St} {i : Nat} {x : Option V} : ∀ {vs : List Nat}, i ∈ vs → wipe (σ.set i x) vs = wipe σ vs
  | v :: vs, h => by
    by_cases e : i ∈ vs
    · simp only [wipe]; rw [wipe_set e]
    · have hv : i = v := (List.mem_cons.mp h).resolve_right e
      subst hv
      have : ∀ us : List Nat, i ∉ us → wipe (σ.set i x) us = (wipe σ us).set i x := by
        intro us
        induction us with
        | nil => intro _; rfl
        | cons w us ih =>
          intro hn
          simp only [wipe]
          rw [ih fun q => hn (List.mem_cons_of_mem _ q), List.set_comm _ _ (fun q => hn (by rw [q]; exact List.mem_cons_self))]
      simp only [wipe]
      rw [this vs e, List.set_set]
theorem mg_nm (i : Nat) {x : Str} {pos : Pos} (hN : X.N.Nodup) (hi : X.N[i]? = some x := by rfl) (hx : L2.Loc X.env.scope x := by first | exact Or.inl rfl | exact Or.inr rfl) (hf : X.fn x = true ∨ X.env.scope.names.lookup x = some .local := by first | exact .inl rfl | exact .inr rfl) : MG X (.Name x pos) (.nm i) :=
  ⟨fun pins s σ H w u' Q I r ⟨l, m, S, d, l', R, V, e, q⟩ => (pg_name hN hi hx hf).run pins s σ H w u' Q I r (by
    simp only [Tg.put, Option.some.injEq] at e
    subst e
    refine q _ (R.put V) fun vs hvs => ?_
    exact wipe_set (hvs i (by simp [Tg.slots])))⟩
theorem mgs_nil : MGs X [] [] := ⟨fun pins s σ H w u' Q I r ⟨l, m, S, d, l', R, V, e, q⟩ => pgs_nil.run pins s σ H w u' Q I r (by
  cases d with
  | nil =>
    simp only [Tg.puts, Option.some.injEq] at e
    subst e
    simp only [VRs] at V
    exact ⟨V, q _ R fun _ _ => rfl⟩
  | cons x xs => simp only [Tg.puts] at e; cases e)⟩
theorem mgs_cons {e : Expr} {es : List Expr} {t : Tg} {ts : List Tg} (h1 : MG X e t) (h2 : MGs X es ts) (hs : (assignEach (e :: es) X.env).map (·.2) = assign e X.env :: (assignEach es X.env).map (·.2) := by rfl) : MGs X (e :: es) (t :: ts) := ⟨fun pins s σ H w u' Q I r ⟨l, m, S, d, l', R, V, ep, q⟩ => (pgs_cons h1 h2 hs).run pins s σ H w u' Q I r (by
  cases d with
  | nil => simp only [Tg.puts] at ep; cases ep
  | cons x xs =>
    simp only [Tg.puts] at ep
    split at ep
    · rename_i l1 h3
      simp only [VRs] at V
      obtain ⟨z, zs, rfl, h4, h5⟩ := V
      refine ⟨z, zs, rfl, l, m, S, x, l1, R, h4, h3, fun σ1 R1 w1 => ⟨l1, m, S, xs, l', R1, h5, ep, fun σ2 R2 w2 => q σ2 R2 fun vs hvs => ?_⟩⟩
      rw [w2 vs fun i hi => hvs i (by simp only [Tg.slotss]; exact List.mem_append_right _ hi), w1 vs fun i hi => hvs i (by simp only [Tg.slotss]; exact List.mem_append_left _ hi)]
    · cases ep)⟩
theorem puts_len : ∀ {ts : List Tg} {xs : List D} {l l' : Loc}, Tg.puts ts xs l = some l' → xs.length = ts.length
  | [], [], _, _, _ => rfl
  | [], _ :: _, _, _, h => by simp only [Tg.puts] at h; cases h
  | _ :: _, [], _, _, h => by simp only [Tg.puts] at h; cases h
  | t :: ts, x :: xs, l, l', h => by
    simp only [Tg.puts] at h
    split at h
    · simp [puts_len h]
    · cases h

theorem mg_tp {es : List Expr} {k : Nat} {ts : List Tg} (hc : X.calm = true) (h : MGs X es ts) (hn : (assignEach es X.env).length = ts.length := by rfl) (hst : (assignEach es X.env).findIdx? (·.1) = none := by rfl) : MG X (.Tuple es k pos) (.tp ts) :=
  ⟨fun pins s σ H w u' Q I r ⟨l, m, S, d, l', R, V, e, q⟩ => (pg_tup (n := ts.length) hc h hn hst).run pins s σ H w u' Q I r (by
    cases d with
    | tup xs =>
      simp only [Tg.put] at e
      simp only [VR] at V
      obtain ⟨a, vs, rfl, h1, h2⟩ := V
      exact ⟨a, vs, rfl, h1, by rw [h2.length]; exact puts_len e, l, m, S, xs, l', R, h2, e, fun σ' R' w' => q σ' R' fun us hu => w' us fun i hi => hu i (by simp only [Tg.slots]; exact hi)⟩
    | _ => simp only [Tg.put] at e; cases e)⟩

/-! ### target = e -/
def sSet (t : Tg) (f : FE) : FS := fun l S => toS l (f l S) fun d S1 => match t.put d l with
  | some l1 => .nx l1 S1
  | none => .bad
theorem ms_set {tg : Expr} {t : Tg} (he : ME X W e f) (hg : MG X tg t) (hs : swapsWithSole [tg] e pos.line X.env = pure false := by rfl) (hw : swappedStores [tg] e X.env = pure none := by rfl) (h1 : (assignEach [tg] X.env).map (·.2) = [assign tg X.env] := by rfl) : MS X W (.Assign [tg] e pos) (sSet t f) :=
  (ps_asg he hg hs hw h1).imp fun D' σ H ⟨l, m, S, R, q⟩ => ⟨l, m, S, R, postS.bind (PR := pD X.K) R q fun d S1 w H1 m1 E1 R1 V1 R2 q1 => by
    cases e1 : t.put d l with
    | none => rw [e1] at q1; exact q1.elim
    | some l1 =>
      rw [e1] at q1
      exact ⟨l, m1, S1, d, l1, R2, V1, e1, fun σ' R' _ => q1 σ' H1 m1 .refl R'⟩⟩
/-- a, b = x, y -/
def sPar (i j : Nat) (f : FA) : FS := fun l S => toS l (f l S) fun ds S1 => match ds with
  | [x, y] => .nx ((l.set i (some x)).set j (some y)) S1
  | _ => .bad
theorem ms_par {i j : Nat} {x y : Str} {a b : Expr} {fa : FA} {px py pt : Pos} {kt k2 pt2} (hc : X.calm = true) (hN : X.N.Nodup) (ha : MA X W [a, b] fa) (hi : X.N[i]? = some x := by rfl) (hj : X.N[j]? = some y := by rfl) (hij : i ≠ j := by decide)
    (hx : X.env.scope.names.lookup x = some .local := by rfl) (hy : X.env.scope.names.lookup y = some .local := by rfl)
    (hw : swappedStores [.Tuple [.Name x px, .Name y py] kt pt] (.Tuple [a, b] k2 pt2) X.env = pure (some [x, y]) := by rfl)
    (hs : swapsWithSole [.Tuple [.Name x px, .Name y py] kt pt] (.Tuple [a, b] k2 pt2) pos.line X.env = pure false := by rfl) : MS X W (.Assign [.Tuple [.Name x px, .Name y py] kt pt] (.Tuple [a, b] k2 pt2) pos) (sPar i j fa) :=
  (ps_par hc hN hi hj hij hx hy ha hw hs).imp fun D' σ H ⟨l, m, S, R, q⟩ => ⟨l, m, S, R, postS.bind (PR := pA X.K) R q fun ds S1 ws H1 m1 E1 R1 V1 R2 q1 => by
    split at q1
    · simp only [VRs] at V1
      obtain ⟨v, _, rfl, h1, w, _, rfl, h2, rfl⟩ := V1
      exact ⟨v, w, rfl, q1 _ H1 m1 .refl ((R2.put h1).put h2)⟩
    · exact q1.elim⟩

/-! ### while -/
/-- so many turns at most -/
def loopW (t : FT) (b : FS) : Nat → FS
  | 0, _, _ => .bad
  | n + 1, l, S => toS l (t l S) fun k S1 => if k then match b l S1 with
      | .nx l2 S2 => loopW t b n l2 S2
      | .ct l2 S2 => loopW t b n l2 S2
      | .bk l2 S2 => .nx l2 S2
      | o => o
    else .nx l S1
def sWhile (t : FT) (b : FS) : FS := loopW t b 1000000000
theorem ms_while {t : FT} {body : List Stmt} (hp : PassesOwn (model X.prog X.w) X.A X.env X.xe) (hc : MT X W c t) (hb : MSs X W body u) : MS X W (.While c body [] pos) (sWhile t u) := (ps_while hp hc hb).imp fun D' σ H ⟨l, m, S, R, q⟩ => by
  refine ⟨fun n σ H => ∃ l m S, Rel X.K l σ m S H ∧ postS X.K W m H D' (loopW t u n l S), ⟨_, l, m, S, R, q⟩, ?_⟩
  rintro n σ H ⟨l, m, S, R, q⟩
  cases n with
  | zero => exact q.elim
  | succ n =>
    refine ⟨l, m, S, R, postS.bind (PR := pB) R q fun k S1 w H1 m1 E1 R1 V1 R2 q1 => ?_⟩
    subst V1
    cases k with
    | false => exact q1 σ H1 m1 .refl R2
    | true =>
      refine ⟨fun σ' H' => ∃ l m S, Rel X.K l σ' m S H' ∧ postS X.K W m H' D' (loopW t u n l S), fun σ' H' h => ⟨n, Nat.lt_succ_self n, h⟩, l, m1, S1, R2, ?_⟩
      rw [if_pos rfl] at q1
      cases e1 : u l S1 with
      | nx l2 S2 => rw [e1] at q1; exact fun σ' H' m' E' R' => ⟨l2, m', S2, R', postS.mono E' q1⟩
      | ct l2 S2 => rw [e1] at q1; exact fun σ' H' m' E' R' => ⟨l2, m', S2, R', postS.mono E' q1⟩
      | bk l2 S2 => rw [e1] at q1; exact q1
      | rt d S2 => rw [e1] at q1; exact q1
      | ex l2 C fs S2 => rw [e1] at q1; exact q1
      | bad => rw [e1] at q1; exact q1

/-! ### what is walked -/
/-- the items, and what must stay true of the store while they are walked -/
structure Src where
  its : List D
  gd : Sto → Prop
def SrcOk (K : PySem.W.Frag) (m : List Addr) (H : Hp) (x : Src) (J : It) : Prop := ∀ m' H' S', Ext m H m' H' → SR K m' H' S' → x.gd S' → ∀ i : Nat,
  (∀ d, x.its[i]? = some d → J.go i H' ∧ ∀ y H2, J.yld i H' y H2 → Ext m' H' m' H2 ∧ SR K m' H2 S' ∧ VR K m' H2 d y) ∧ (x.its.length = i → J.stop i H')
def pI (K : PySem.W.Frag) : PRel Src It := fun _ m H x J => SrcOk K m H x J
theorem anti_I {K : PySem.W.Frag} : Anti (pI K) := fun _ _ _ _ _ _ _ h => h
abbrev FI := Loc → Sto → Out Src
abbrev MI (X : Cx) (W : WX) (tg e : Expr) (f : FI) : Prop := PI X tg e (tX X.K W (pI X.K) f)
theorem _root_.L2.PI.imp {X : Cx} {tg e : Expr} {t t' : TI} (h : PI X tg e t) (i : ∀ σ H Q, t' σ H Q → t σ H Q) : PI X tg e t' := ⟨fun pins s σ H Q I q => h.run pins s σ H Q I (i _ _ _ q)⟩
open Classical in
noncomputable def forL (gd : Sto → Prop) (t : Tg) (b : FS) : List D → FS
  | [], l, S => if gd S then .nx l S else .bad
  | x :: xs, l, S => if gd S then match t.put x l with
      | some l1 => match b l1 S with
        | .nx l2 S2 => forL gd t b xs l2 S2
        | .ct l2 S2 => forL gd t b xs l2 S2
        | .bk l2 S2 => .nx l2 S2
        | o => o
      | none => .bad
    else .bad
noncomputable def sFor (f : FI) (t : Tg) (b : FS) : FS := fun l S => toS l (f l S) fun x S1 => forL x.gd t b x.its l S1
theorem ms_for {tg iter : Expr} {fi : FI} {t : Tg} {body : List Stmt} (hp : PassesOwn (model X.prog X.w) X.A X.env X.xe) (hc : X.calm = true) (hi : MI X W tg iter fi) (hg : MG X tg t) (hb : MSs X W body u)
    (hs : ∀ x, foldedSetIterable iter X.env x = pure x := by intro _; rfl) : MS X W (.For tg iter body [] pos) (sFor fi t u) := (ps_for hp hc hi hg hb hs).imp fun D' σ H ⟨l, m, S, R, q⟩ => ⟨l, m, S, R,
  postS.bind (PR := pI X.K) R q fun x S1 J H1 m1 E1 R1 V1 R2 q1 => by
    refine ⟨fun i k σ' H' => k = x.its.length - i ∧ i ≤ x.its.length ∧ ∃ l m' S', Rel X.K l σ' m' S' H' ∧ Ext m1 H1 m' H' ∧ postS X.K W m' H' D' (forL x.gd t u (x.its.drop i) l S'), ⟨_, rfl, Nat.zero_le _, l, m1, S1, R2, .refl, q1⟩, ?_⟩
    rintro i k σ' H' ⟨rfl, hi, l, m', S', R', E', q'⟩
    by_cases hlt : i < x.its.length
    · rw [List.drop_eq_getElem_cons hlt] at q'
      simp only [forL] at q'
      split at q'
      · rename_i hgd
        obtain ⟨h1, _⟩ := V1 m' H' S' E' R'.sr hgd i
        obtain ⟨h2, h3⟩ := h1 x.its[i] (by simp [hlt])
        refine .inr ⟨h2, fun σ2 H2 => ∃ l m S, Rel X.K l σ2 m S H2 ∧ Ext m1 H1 m H2 ∧ postS X.K W m H2 D' (forL x.gd t u (x.its.drop (i + 1)) l S), fun σ2 H2 h => ⟨x.its.length - (i + 1), by omega, rfl, hlt, h⟩, fun y H2 hy => ?_⟩
        obtain ⟨h4, h5, h6⟩ := h3 y H2 hy
        cases e1 : t.put x.its[i] l with
        | none => rw [e1] at q'; exact q'.elim
        | some l1 =>
          rw [e1] at q'
          refine ⟨l, m', S', x.its[i], l1, R'.ext h4 h5, h6, e1, fun σ3 R3 _ => ⟨l1, m', S', R3, ?_⟩⟩
          have q2 := postS.mono h4 q'
          cases e2 : u l1 S' with
          | nx l2 S2 => simp only [e2] at q2; exact fun σ4 H4 m4 E4 R4 => ⟨l2, m4, S2, R4, E'.trans (h4.trans E4), postS.mono E4 q2⟩
          | ct l2 S2 => simp only [e2] at q2; exact fun σ4 H4 m4 E4 R4 => ⟨l2, m4, S2, R4, E'.trans (h4.trans E4), postS.mono E4 q2⟩
          | bk l2 S2 => simp only [e2] at q2; exact q2
          | rt d S2 => simp only [e2] at q2; exact q2
          | ex l2 C fs S2 => simp only [e2] at q2; exact q2
          | bad => simp only [e2] at q2; exact q2
      · exact q'.elim
    · have e : i = x.its.length := by omega
      subst e
      rw [List.drop_length] at q'
      simp only [forL] at q'
      split at q'
      · rename_i hgd
        exact .inl ⟨(V1 m' H' S' E' R'.sr hgd _).2 rfl, q' σ' H' m' .refl R'⟩
      · exact q'.elim⟩
end
end Pz

set_option Elab.async false
set_option linter.all false
set_option maxRecDepth 100000
set_option maxHeartbeats 4000000
/-! Pz10: sources of loops; comprehensions. -/
namespace Pz
open PySem PySem.Spec PyProof.Rows L2
section
variable {X : Cx} {W : WX} {a b c e tg : Expr} {rest es : List Expr} {f g h : FE} {p pos : Pos} {K : PySem.W.Frag} {m m' : List Addr} {H H' : Hp} {S S' : Sto}

theorem _root_.L2.PI.or {t t' : TI} (h : PI X tg e t) (h' : PI X tg e t') : PI X tg e (fun σ H R => t σ H R ∨ t' σ H R) := ⟨fun pins s σ H R I q => q.elim (h.run pins s σ H R I) (h'.run pins s σ H R I)⟩
/-! ### lists, tuples -/
theorem VRs.getV {ds : List D} {vs : List V} {i : Nat} {d : D} {y : V} (r : VRs K m H ds vs) (h : ds[i]? = some d) (hy : vs[i]? = some y) : VR K m H d y := by
  obtain ⟨v, h1, h2⟩ := r.get h
  rw [hy] at h1; cases h1
  exact h2
theorem src_list {x : Src} {a : Addr} (h : ∀ m' H' S', Ext m H m' H' → SR K m' H' S' → x.gd S' → ∃ vs, SqL K H' a vs ∧ VRs K m' H' x.its vs) : SrcOk K m H x (Itl K a) := fun m' H' S' E s g i => by
  obtain ⟨vs, h1, h2⟩ := h m' H' S' E s g
  refine ⟨fun d hd => ?_, fun hi => ⟨vs, h1, by rw [h2.length, hi]; exact Nat.le_refl _⟩⟩
  obtain ⟨v, h3, h4⟩ := h2.get hd
  refine ⟨⟨vs, v, h1, h3⟩, fun y H2 hy => ?_⟩
  obtain ⟨rfl, hy⟩ := hy
  exact ⟨.refl, s, h2.getV hd (hy vs h1)⟩
theorem src_tup {x : Src} {a : Addr} (h : ∀ m' H', Ext m H m' H' → ∃ vs, SqT K H' a vs ∧ VRs K m' H' x.its vs) : SrcOk K m H x (Itt K a) := fun m' H' S' E s g i => by
  obtain ⟨vs, h1, h2⟩ := h m' H' E
  refine ⟨fun d hd => ?_, fun hi => ⟨vs, h1, by rw [h2.length, hi]; exact Nat.le_refl _⟩⟩
  obtain ⟨v, h3, h4⟩ := h2.get hd
  refine ⟨⟨vs, v, h1, h3⟩, fun y H2 hy => ?_⟩
  obtain ⟨rfl, hy⟩ := hy
  exact ⟨.refl, s, h2.getV hd (hy vs h1)⟩
def noGd : Sto → Prop := fun _ => True
def atGd (n : Nat) (xs : List D) : Sto → Prop := fun S => S[n]? = some (.lst xs)
def kLV (x : LV) (S : Sto) : Out Src := match x with
  | .tmp xs => .ok ⟨xs, noGd⟩ S
  | .at n => match S[n]? with
    | some (.lst xs) => .ok ⟨xs, atGd n xs⟩ S
    | _ => .bad
def iL (f : FL) : FI := fun l S => (f l S).bind kLV
theorem kLV_ok {x : LV} {v : V} {H0 : Hp} {σ : L2.St} {Q : It → Hp → Prop} (s : SR K m H S) (r : pL K H0 m H x v) (q : post K W (pI K) σ m H Q (kLV x S)) : ∃ a, v = .ref a ∧ (∃ xs, SqL K H a xs) ∧ Q (Itl K a) H := by
  cases x with
  | tmp xs =>
    obtain ⟨p, vs, rfl, h2, h3, h4, h5⟩ := r
    refine ⟨p, rfl, ⟨vs, SqL.of h2⟩, q _ H m .refl s (src_list fun m' H' S' E s' _ => ⟨vs, SqL.of (E.oth _ _ h2 h3), VRs.ext E _ _ h5⟩)⟩
  | «at» n =>
    obtain ⟨p, h1, rfl⟩ := r
    simp only [kLV] at q
    split at q
    · rename_i xs hn
      obtain ⟨p', h2, vs, h3, h4⟩ := s.at n _ hn
      rw [h1] at h2; cases h2
      refine ⟨p, rfl, ⟨vs, SqL.of h3⟩, q _ H m .refl s (src_list fun m' H' S' E s' g => ?_)⟩
      obtain ⟨p'', h5, us, h6, h7⟩ := s'.at n _ g
      rw [E.get h1] at h5; cases h5
      exact ⟨us, SqL.of h6, h7⟩
    · exact q.elim
theorem mi_l {f : FL} (h : ML X W e f) : MI X W tg e (iL f) := (pi_list h).imp fun σ H Q ⟨l, m, S, R, q⟩ => ⟨l, m, S, R, post.bind (PR := pL X.K) anti_I q fun x S1 v H1 m1 E1 R1 V1 q1 => kLV_ok R1 V1 q1⟩
def kD (x : D) (S : Sto) : Out Src := match x with
  | .tup xs => .ok ⟨xs, noGd⟩ S
  | .rl xs => .ok ⟨xs, noGd⟩ S
  | .ref n => kLV (.at n) S
  | _ => .bad
def iE (f : FE) : FI := fun l S => (f l S).bind kD
theorem mi_e (h : ME X W e f) : MI X W tg e (iE f) := ((pi_list h).or (pi_tup h)).imp fun σ H Q ⟨l, m, S, R, q⟩ => by
  have key : ∀ (v : V) (H1 : Hp) (m1 : List Addr) (S1 : Sto) (d : D), SR X.K m1 H1 S1 → VR X.K m1 H1 d v → post X.K W (pI X.K) σ m1 H1 Q (kD d S1) →
      ((∀ xs, d ≠ .tup xs) → ∃ a, v = .ref a ∧ (∃ xs, SqL X.K H1 a xs) ∧ Q (Itl X.K a) H1) ∧ (∀ xs, d = .tup xs → ∃ a, v = .ref a ∧ (∃ xs, SqT X.K H1 a xs) ∧ Q (Itt X.K a) H1) := by
    intro v H1 m1 S1 d R1 V1 q1
    refine ⟨fun hne => ?_, fun xs hx => ?_⟩
    · cases d with
      | tup xs => exact absurd rfl (hne xs)
      | rl xs =>
        simp only [VR] at V1
        obtain ⟨p, vs, rfl, h1, h2⟩ := V1
        exact ⟨p, rfl, ⟨vs, h1.sql⟩, q1 _ H1 m1 .refl R1 (src_list fun m' H' S' E s' _ => ⟨vs, (SqF.ext E h1).sql, VRs.ext E _ _ h2⟩)⟩
      | ref n =>
        simp only [VR] at V1
        exact kLV_ok (H0 := H1) R1 (x := .at n) V1 q1
      | _ => exact q1.elim
    · subst hx
      simp only [VR] at V1
      obtain ⟨p, vs, rfl, h1, h2⟩ := V1
      exact ⟨p, rfl, ⟨vs, h1⟩, q1 _ H1 m1 .refl R1 (src_tup fun m' H' E => ⟨vs, SqT.ext E h1, VRs.ext E _ _ h2⟩)⟩
  unfold iE at q
  cases e1 : f l S with
  | bad => rw [e1] at q; exact q.elim
  | ex C fs S1 =>
    rw [e1] at q
    refine .inl ⟨l, m, S, R, ?_⟩
    rw [e1]; exact q
  | ok d S1 =>
    rw [e1] at q
    have q : post X.K W (pI X.K) σ m H Q (kD d S1) := q
    by_cases hd : ∃ xs, d = .tup xs
    · obtain ⟨xs, hd⟩ := hd
      refine .inr ⟨l, m, S, R, ?_⟩
      rw [e1]
      exact fun v H1 m1 E1 R1 V1 => (key v H1 m1 S1 d R1 V1 (post.mono anti_I E1 q)).2 xs hd
    · refine .inl ⟨l, m, S, R, ?_⟩
      rw [e1]
      exact fun v H1 m1 E1 R1 V1 => (key v H1 m1 S1 d R1 V1 (post.mono anti_I E1 q)).1 fun xs h => hd ⟨xs, h⟩
/-! ### range -/
theorem src_rng (lo : Int) (n : Nat) : SrcOk K m H ⟨(List.range n).map fun (i : Nat) => D.int (lo + (i : Nat)), noGd⟩ (Itr lo n) := fun m' H' S' E s g i => by
  refine ⟨fun d hd => ?_, fun hi => by
    simp at hi
    exact Nat.le_of_eq hi⟩
  simp only [List.getElem?_map, Option.map_eq_some_iff] at hd
  obtain ⟨j, hj, rfl⟩ := hd
  have h1 := List.getElem?_eq_some_iff.mp hj
  obtain ⟨h2, h3⟩ := h1
  rw [List.getElem_range] at h3
  subst h3
  rw [List.length_range] at h2
  refine ⟨h2, fun y H2 hy => ?_⟩
  obtain ⟨rfl, rfl⟩ := hy
  exact ⟨.refl, s, by simp only [VR]⟩
def rgB (i : Int) : Bool := decide (-(2 ^ 62) ≤ i ∧ i < 2 ^ 62)
def kRg (a b : Int) (S : Sto) : Out Src := if rgB a && rgB b then .ok ⟨rgD a b, noGd⟩ S else .bad
def iRg1 (f : FE) : FI := fun l S => (f l S).bind fun x S1 => match x with
  | .int n => kRg 0 n S1
  | _ => .bad
def iRg2 (f g : FE) : FI := fun l S => (f l S).bind fun x S1 => (g l S1).bind fun y S2 => match x, y with
  | .int i, .int j => kRg i j S2
  | _, _ => .bad
theorem mi_range1 (hg : Gl X "range") (hm : X.mg "range" = none) (he : ME X W e f) (s1 : starEach [e] X.env = (false, eval e X.env) :: starEach [] X.env := by rfl) (hs : starEach [e] X.env = [(false, eval e X.env)] := by rfl) : MI X W tg (.Call (.Name "range" p) [e] [] pos) (iRg1 f) :=
  (pi_range1 hg hm (pa_cons he pa_nil s1) hs).imp fun σ H Q ⟨l, m, S, R, q⟩ => ⟨l, m, S, R, post.bind (PR := pD X.K) anti_I q fun x S1 v H1 m1 E1 R1 V1 q1 => by
    cases x with
    | int n =>
      simp only [VR] at V1
      subst V1
      simp only [kRg] at q1
      split at q1
      · rename_i hb
        rw [Bool.and_eq_true] at hb
        have hb2 := of_decide_eq_true hb.2
        refine ⟨n, rfl, hb2.1, hb2.2, q1 _ H1 m1 .refl R1 ?_⟩
        have := src_rng (K := X.K) (m := m1) (H := H1) 0 (n - 0).toNat
        rw [Int.sub_zero] at this
        unfold rgD
        rw [Int.sub_zero]
        exact this
      · exact q1.elim
    | _ => exact q1.elim⟩
theorem mi_range2 (hg : Gl X "range") (hm : X.mg "range" = none) (ha : ME X W a f) (he : ME X W b g) (s1 : starEach [a, b] X.env = (false, eval a X.env) :: starEach [b] X.env := by rfl) (s2 : starEach [b] X.env = (false, eval b X.env) :: starEach [] X.env := by rfl)
    (hs : starEach [a, b] X.env = [(false, eval a X.env), (false, eval b X.env)] := by rfl) (hs2 : starEach [b] X.env = [(false, eval b X.env)] := by rfl) : MI X W tg (.Call (.Name "range" p) [a, b] [] pos) (iRg2 f g) :=
  (pi_range2 hg hm (pa_cons ha (pa_cons he pa_nil s2) s1) hs hs2).imp fun σ H Q ⟨l, m, S, R, q⟩ => ⟨l, m, S, R, post.bind (PR := pD X.K) anti_I q fun x S1 v H1 m1 E1 R1 V1 q1 => ⟨l, m1, S1, R.ext E1 R1, post.bind (PR := pD X.K) anti_I q1 fun y S2 u H2 m2 E2 R2 V2 q2 => by
    cases x with
    | int i =>
      cases y with
      | int j =>
        simp only [VR] at V1 V2
        subst V1 V2
        simp only [kRg] at q2
        split at q2
        · rename_i hb
          rw [Bool.and_eq_true] at hb
          have hb1 := of_decide_eq_true hb.1
          have hb2 := of_decide_eq_true hb.2
          exact ⟨i, j, rfl, ⟨hb1.1, hb1.2, hb2.1, hb2.2⟩, q2 _ H2 m2 .refl R2 (src_rng i (j - i).toNat)⟩
        · exact q2.elim
      | _ => exact q2.elim
    | _ => cases y <;> exact q2.elim⟩⟩
/-! ### enumerate -/
/-- enumerate of a tuple -/
def ItE (K : PySem.W.Frag) (a : Addr) : It :=
  ⟨fun i H => ∃ (xs : List V) (x : V), SqT K H a xs ∧ xs[i]? = some x, fun i H v H' => ∃ T x ob, v = .ref T ∧ H T = none ∧ ob.dict = none ∧ H' = upd H T (.frz ob (.tup [.int (i : Nat), x])) ∧ ∀ xs, SqT K H a xs → xs[i]? = some x, fun i H => ∃ xs : List V, SqT K H a xs ∧ xs.length = i⟩
theorem in1_handled {A : Around} (h : A.handled = none) : A.in1.handled = none := h
theorem turn_enumTup {P : Program} {w : World} {K : PySem.W.Frag} {elts : List Expr} {kk : Nat} {tpos : Pos} (a e it : Addr) :
    Turn P w K (.Tuple elts kk tpos) (ItE K a) [e, it] e (fun i h => (∃ old, IsEnum h e it ((i : Nat) : Int) old) ∧ h.IsTupleIter it a i ∧ e ≠ it) where
  mem := List.mem_cons_self
  obj := fun i h ⟨⟨old, he⟩, ⟨o, ho, hc, hd⟩, _⟩ b hb => by
    rcases List.mem_cons.mp hb with rfl | hb
    · exact ⟨_, he, fun v q => nomatch q⟩
    · rw [List.mem_singleton.mp hb]; exact ⟨o, ho, fun v q => by rw [hd] at q; cases q⟩
  keep := fun i h h' ⟨⟨old, he⟩, hi, hne⟩ k => ⟨⟨old, k e (by simp) _ he⟩, hi.at fun o q => k it (by simp) o q, hne⟩
  item := fun X hP hw hK hc i pins s σ H E I hf ⟨⟨old, he⟩, hit, hne⟩ ⟨xs, x, hq, hx⟩ => by
    subst hP hw hK
    obtain ⟨its, rv, pt, hz⟩ := I.tuple hq
    obtain ⟨u, hu, ru⟩ := rv.get hx
    have hie : e < s.heap.objs.size := Heap.lt_size he
    have hii : it < s.heap.objs.size := by obtain ⟨_, q, _⟩ := hit; exact Heap.lt_size q
    have pt' : s.heap.IsTuple a its.toArray := pt
    have nea : e ≠ a := fun q => by
      obtain ⟨o, ho, hcl, _⟩ := pt'
      rw [← q, he] at ho
      cases ho
      injection hcl with z
      exact absurd z (by decide)
    have nia : a ≠ it := fun q => by
      obtain ⟨o, ho, hcl, _⟩ := pt'
      obtain ⟨o2, ho2, hcl2, _⟩ := hit
      rw [q, ho2] at ho
      cases ho
      rw [hcl] at hcl2
      injection hcl2 with z
      exact absurd z (by decide)
    have hu' : its.toArray[i]? = some u := by simpa using hu
    have hlt : i < its.toArray.size := (Array.getElem?_eq_some_iff.mp hu').1
    refine wpAny_pyNext_enum_itemD (Draws.tuple (in1_handled (I.ok.hd hc)) it a nia its.toArray) he ⟨hit, pt'⟩ hlt hne (by simp [hne, nea]) fun y h' tk hy ho hst hT hsz hk => ?_
    have ey : y = u := Option.some.inj (hy.symm.trans hu')
    subst ey
    refine ⟨_, rfl, wpAny_letOwnedTupleGo_enum (s := { s with heap := h', toks := tk + 1 }) ho fun h2 he2 sb => ?_⟩
    have hT2 : h2.get? s.heap.objs.size = some { cls := .type "tuple", data := .seq #[.int i tk, y] } := (sb.2 _ (Nat.ne_of_gt hie)).trans hT
    have new : ObjOk X.prog X.w (upd H s.heap.objs.size (.frz { cls := .type "tuple", data := .seq #[.int i tk, y] } (.tup [.int (i : Nat), x]))) h2 s.heap.objs.size (.frz { cls := .type "tuple", data := .seq #[.int i tk, y] } (.tup [.int (i : Nat), x])) :=
      ⟨hT2, by show 2 ≤ sizeLine; decide, [.int i tk, y], .cons ⟨_, rfl⟩ (.cons ru .nil), ⟨_, hT2, rfl, _, rfl⟩⟩
    have I1 : Inv X pins σ (upd H s.heap.objs.size (.frz { cls := .type "tuple", data := .seq #[.int i tk, y] } (.tup [.int (i : Nat), x]))) { s with heap := h2, toks := tk + 1 } :=
      I.turnedNew (ch := [e, it]) (fun b ob hb q => (sb.2 b fun z => hb (by simp [z])).trans (hk b ob (fun z => hb (by simp [z])) (fun z => hb (by simp [z])) q)) hf (Nat.le_refl _) new
    refine ⟨.ref s.heap.objs.size, _, I1, rfl, ⟨_, x, _, rfl, I.hok.fresh (Nat.le_refl _), rfl, rfl, fun ys hys => by rw [I.tuple_inj hys hq]; exact hx⟩, ⟨⟨y, ?_⟩, hst.1.at fun o q => (sb.2 it (Ne.symm hne)).trans q, hne⟩, fun b hb => ?_⟩
    · rw [show ((i + 1 : Nat) : Int) = (i : Int) + 1 by omega]; exact he2
    · have hlb : b < s.heap.objs.size := by
        rcases List.mem_cons.mp hb with rfl | hb
        · exact hie
        · rw [List.mem_singleton.mp hb]; exact hii
      rw [upd_ne (Nat.ne_of_lt hlb)]
      exact (hf b hb).1
  done := fun X hP hw hK hc i pins s σ H E I hf ⟨⟨old, he⟩, hit, hne⟩ ⟨xs, hq, hx⟩ => by
    subst hP hw hK
    obtain ⟨its, rv, pt, hz⟩ := I.tuple hq
    obtain ⟨f0, f1, f2, f3, f4, f5⟩ := hf it (by simp)
    have pt' : s.heap.IsTuple a its.toArray := pt
    have nia : a ≠ it := fun q => by
      obtain ⟨o, ho, hcl, _⟩ := pt'
      obtain ⟨o2, ho2, hcl2, _⟩ := hit
      rw [q, ho2] at ho
      cases ho
      rw [hcl] at hcl2
      injection hcl2 with z
      exact absurd z (by decide)
    have hn : its.toArray.size = i := by rw [List.size_toArray, ← rv.length]; exact hx
    exact wpAny_pyNext_enum_endD (Draws.tuple (in1_handled (I.ok.hd hc)) it a nia its.toArray) he (by rw [hn]; exact ⟨hit, pt'⟩) fun h' eb => ⟨rfl, I.turned (t' := s.toks) (fun b o hb q => eb b o hb q) f0 f1 f3 f4 f5⟩
  self := fun A i s Q E ⟨⟨_, he⟩, _⟩ h => wpAny_pyIter_enum he h

set_option maxHeartbeats 1000000 in
theorem meets_enum_new {v : Value} {o : Obj} {B : Heap → Prop} (b : Begins v o B) :
    Meets (Builtin.«enumerate.__new__» ⟨[.type "enumerate", v], []⟩) (fun _ R s => B s.heap ∧
      R (.ok (.ret (.ref (s.heap.push o).objs.size))) { s with heap := (s.heap.push o).push { cls := .type "enumerate", data := .fields #[.none, .bool false, .ref s.heap.objs.size, rawInt 0, .none, .none] } }) :=
  .of_wp fun prog w A R s h => by
    obtain ⟨hp, gs, dr, tk, os⟩ := s
    obtain ⟨h1, h2⟩ := h
    have hsub := sub_enumerate
    have go : ∀ {A' : Around} {E : Value → Shared → Prop} {Q : Value → Shared → Prop}, Q (.ref hp.objs.size) ⟨hp.push o, gs, dr, tk, os⟩ → wpAny (model prog w) A' (pyIter v) Q E ⟨hp, gs, dr, tk, os⟩ :=
      fun q => b.iter prog w _ _ ⟨hp, gs, dr, tk, os⟩ _ h1 q
    wp_walk using go
    refine wpAny_stack_any fun st => wpAny_pure ?_
    split
    · rename_i c _ _ _ _ _
      cases (c == Value.type "enumerate")
      all_goals (wp_walk using go; exact ⟨_, rfl, h2⟩)
    · wp_walk using go
      exact ⟨_, rfl, h2⟩
theorem call_enum {prog : Program} {w : World} {A : Around} {E : Value → Shared → Prop} {s : Shared} {v : Value} {o : Obj} {B : Heap → Prop} {Q : Value → Shared → Prop} (b : Begins v o B) (h1 : B s.heap)
    (h : ∀ h', IsEnum h' (s.heap.objs.size + 1) s.heap.objs.size 0 .none → h'.get? s.heap.objs.size = some o → (∀ b o, s.heap.get? b = some o → h'.get? b = some o) → Q (.ref (s.heap.objs.size + 1)) { s with heap := h' }) :
    wpAny (model prog w) A (call (.type "enumerate") [v]) Q E s := by
  refine callType_new F.called_enumerate (by decide) (F.typeCall_enumerate_1 _) (F.newCall_enumerate_1 _) (fun obj => F.args_object_init_2 obj _) F.entry_enumerate_new (meets_enum_new b) ⟨h1, ?_⟩
  have hz : (s.heap.push o).objs.size = s.heap.objs.size + 1 := Heap.size_push ..
  show _ ∧ _
  rw [hz]
  have he := Heap.get?_push_size (s.heap.push o) (o := { cls := .type "enumerate", data := .fields #[.none, .bool false, .ref s.heap.objs.size, rawInt 0, .none, .none] }) rfl
  rw [hz] at he
  exact ⟨⟨_, he, rfl⟩, h _ he (Heap.get?_push_of_some _ (Heap.get?_push_size _ b.free)) fun c u x => Heap.get?_push_of_some _ (Heap.get?_push_of_some _ x)⟩
def iEnumT (K : PySem.W.Frag) (ta : TA) : TI := fun σ H R => ta σ H fun vs H1 => ∃ a xs, vs = [.ref a] ∧ SqT K H1 a xs ∧ R (ItE K a) H1
theorem pi_enumT {e : Expr} {ta : TA} {tpos : Pos} {elts : List Expr} {kk : Nat} (hg : Gl X "enumerate") (hm : X.mg "enumerate" = none) (ha : PA X [e] ta) (hs : starEach [e] X.env = [(false, eval e X.env)] := by rfl) :
    PI X (.Tuple elts kk tpos) (.Call (.Name "enumerate" p) [e] [] pos) (iEnumT X.K ta) := by
  refine ⟨fun pins s σ H R I h => Call_ (ld_blt I hg hm boot_enumerate (PyProof.Rows.callWith_type1 (thn (ha.run pos pins s σ H _ I h) fun us s1 ⟨vs, H1, I1, r1, q1⟩ => ?_) hs rfl))⟩
  obtain ⟨a, xs, ex, hq, q⟩ := q1
  subst ex
  cases r1 with
  | cons r rr =>
    cases rr
    cases r
    obtain ⟨its, rv, pt, hz⟩ := I1.tuple hq
    refine call_enum (begins_tuple a its.toArray) (show s1.heap.IsTuple a its.toArray from pt) fun h' he hit hk => wpAny_pyIter_enum he ?_
    have I2 : Inv X pins σ H1 { s1 with heap := h' } := I1.kept (t' := s1.toks) hk
    refine ⟨s1.heap.objs.size + 1, [s1.heap.objs.size + 1, s1.heap.objs.size], _, _, H1, rfl, I2, turn_enumTup a (s1.heap.objs.size + 1) s1.heap.objs.size, ⟨⟨.none, he⟩, ⟨_, hit, rfl, rfl⟩, Nat.succ_ne_self _⟩, fun b hb => ?_, q⟩
    have hle : s1.heap.objs.size ≤ b := by
      rcases List.mem_cons.mp hb with rfl | hb
      · exact Nat.le_succ _
      · rw [List.mem_singleton.mp hb]; exact Nat.le_refl _
    exact I1.fpOk hle (I1.hok.fresh hle)
/-- enumerate of a list -/
def IteF (K : PySem.W.Frag) (a : Addr) : It :=
  ⟨fun i H => ∃ (xs : List V) (x : V), SqL K H a xs ∧ xs[i]? = some x, fun i H v H' => ∃ T x ob, v = .ref T ∧ H T = none ∧ ob.dict = none ∧ H' = upd H T (.frz ob (.tup [.int (i : Nat), x])) ∧ ∀ xs, SqL K H a xs → xs[i]? = some x, fun i H => ∃ xs : List V, SqL K H a xs ∧ xs.length ≤ i⟩
theorem turn_enumF {P : Program} {w : World} {K : PySem.W.Frag} {elts : List Expr} {kk : Nat} {tpos : Pos} (a e it : Addr) :
    Turn P w K (.Tuple elts kk tpos) (IteF K a) [e, it] e (fun i h => (∃ old, IsEnum h e it ((i : Nat) : Int) old) ∧ h.IsListIter it a i ∧ e ≠ it) where
  mem := by simp
  obj := (turn_enum (P := P) (w := w) (K := K) (elts := elts) (kk := kk) (tpos := tpos) a e it).obj
  keep := (turn_enum (P := P) (w := w) (K := K) (elts := elts) (kk := kk) (tpos := tpos) a e it).keep
  item := by
    intro X hP hw hK hc i pins s σ H E I hf st hg
    subst hP hw hK
    obtain ⟨⟨old, he⟩, hit, hne⟩ := st
    obtain ⟨xs, x, hq, hx⟩ := hg
    obtain ⟨its, rv, p, hz⟩ := I.list hq
    obtain ⟨u, hu, ru⟩ := rv.get hx
    have hel : e < s.heap.objs.size := Heap.lt_size he
    have hil : it < s.heap.objs.size := by obtain ⟨_, q, _⟩ := hit; exact Heap.lt_size q
    refine wpAny_pyNext_enum_item he hit p.isList (x := u) (by simpa using hu) hne fun h' ho hit' hT hsz hk => ?_
    refine ⟨_, rfl, wpAny_letOwnedTupleGo_enum (s := { s with heap := h', toks := s.toks + 1 }) ho fun h'' he' sb => ?_⟩
    have hT2 : h''.get? s.heap.objs.size = some { cls := .type "tuple", data := .seq #[.int i s.toks, u] } := (sb.2 _ (Nat.ne_of_gt hel)).trans hT
    have new : ObjOk X.prog X.w (upd H s.heap.objs.size (.frz { cls := .type "tuple", data := .seq #[.int i s.toks, u] } (.tup [.int (i : Nat), x]))) h'' s.heap.objs.size (.frz { cls := .type "tuple", data := .seq #[.int i s.toks, u] } (.tup [.int (i : Nat), x])) :=
      ⟨hT2, by show 2 ≤ sizeLine; decide, [.int i s.toks, u], .cons ⟨_, rfl⟩ (.cons ru .nil), ⟨_, hT2, rfl, _, rfl⟩⟩
    have I1 : Inv X pins σ (upd H s.heap.objs.size (.frz { cls := .type "tuple", data := .seq #[.int i s.toks, u] } (.tup [.int (i : Nat), x]))) { s with heap := h'', toks := s.toks + 1 } :=
      I.turnedNew (ch := [e, it]) (fun b ob hb q => (sb.2 b (fun z => hb (by simp [z]))).trans (hk b ob (fun z => hb (by simp [z])) (fun z => hb (by simp [z])) q)) hf (Nat.le_refl _) new
    refine ⟨.ref s.heap.objs.size, _, I1, rfl, ⟨_, x, _, rfl, I.hok.fresh (Nat.le_refl _), rfl, rfl, fun ys hy => by rw [I.list_inj hy hq]; exact hx⟩, ⟨⟨u, ?_⟩, hit'.at fun o q => (sb.2 it (Ne.symm hne)).trans q, hne⟩, fun b hb => ?_⟩
    · have e1 : ((i + 1 : Nat) : Int) = (i : Int) + 1 := by omega
      rw [e1]; exact he'
    · have hb' : b < s.heap.objs.size := by
        have e' : b = e ∨ b = it := by simpa using hb
        rcases e' with z | z
        · rw [z]; exact hel
        · rw [z]; exact hil
      rw [upd_ne (Nat.ne_of_lt hb')]
      exact (hf b hb).1
  done := (turn_enum (P := P) (w := w) (K := K) (elts := elts) (kk := kk) (tpos := tpos) a e it).done
  self := (turn_enum (P := P) (w := w) (K := K) (elts := elts) (kk := kk) (tpos := tpos) a e it).self
def iEnumF (K : PySem.W.Frag) (ta : TA) : TI := fun σ H R => ta σ H fun vs H1 => ∃ a xs, vs = [.ref a] ∧ SqL K H1 a xs ∧ R (IteF K a) H1
theorem pi_enumF {e : Expr} {ta : TA} {tpos : Pos} {elts : List Expr} {kk : Nat} (hg : Gl X "enumerate") (hm : X.mg "enumerate" = none) (ha : PA X [e] ta) (hs : starEach [e] X.env = [(false, eval e X.env)] := by rfl) :
    PI X (.Tuple elts kk tpos) (.Call (.Name "enumerate" p) [e] [] pos) (iEnumF X.K ta) := by
  refine ⟨fun pins s σ H R I h => ?_⟩
  refine Call_ (ld_blt I hg hm boot_enumerate (PyProof.Rows.callWith_type1 (thn (ha.run pos pins s σ H _ I h) fun us s1 ⟨vs, H1, I1, r1, q1⟩ => ?_) hs rfl))
  obtain ⟨a, xs, ex, hq, q⟩ := q1
  subst ex
  cases r1 with
  | cons r rr =>
    cases rr
    cases r
    obtain ⟨its, rv, p', hz⟩ := I1.list hq
    refine call_enumerate_list p'.isList fun h' he hit hsz hk => wpAny_pyIter_enum he ?_
    have I2 : Inv X pins σ H1 { s1 with heap := h' } := I1.kept (t' := s1.toks) hk
    refine ⟨s1.heap.objs.size + 1, [s1.heap.objs.size + 1, s1.heap.objs.size], _, _, H1, rfl, I2, turn_enumF a (s1.heap.objs.size + 1) s1.heap.objs.size, ⟨⟨.none, he⟩, hit, Nat.succ_ne_self _⟩, fun b hb => ?_, q⟩
    have hle : s1.heap.objs.size ≤ b := by
      rcases List.mem_cons.mp hb with z | z
      · rw [z]; exact Nat.le_add_right _ _
      · rw [List.mem_singleton.mp z]; exact Nat.le_refl _
    exact I1.fpOk hle (I1.hok.fresh hle)
def enumD : Nat → List D → List D
  | _, [] => []
  | n, x :: xs => .tup [.int (n : Nat), x] :: enumD (n + 1) xs
theorem enumD_get : ∀ {xs : List D} {n i : Nat} {d : D}, (enumD n xs)[i]? = some d → ∃ x, xs[i]? = some x ∧ d = .tup [.int ((n + i : Nat) : Int), x]
  | [], _, _, _, h => by simp [enumD] at h
  | x :: xs, n, 0, d, h => by
    simp only [enumD, List.getElem?_cons_zero, Option.some.injEq] at h
    exact ⟨x, by simp, by rw [← h]; simp⟩
  | x :: xs, n, i + 1, d, h => by
    simp only [enumD, List.getElem?_cons_succ] at h
    obtain ⟨y, h1, h2⟩ := enumD_get h
    exact ⟨y, by simpa using h1, by rw [h2]; congr 4; omega⟩
theorem enumD_len : ∀ (xs : List D) (n : Nat), (enumD n xs).length = xs.length
  | [], _ => rfl
  | x :: xs, n => by simp [enumD, enumD_len xs]
theorem pair_new {x : D} {w : V} {i : Nat} {T : Addr} {ob : Obj} (s : SR K m H S) (hT : H T = none) (hd : ob.dict = none) (r : VR K m H x w) : Ext m H m (upd H T (.frz ob (.tup [.int (i : Nat), w]))) ∧ SR K m (upd H T (.frz ob (.tup [.int (i : Nat), w]))) S ∧ VR K m (upd H T (.frz ob (.tup [.int (i : Nat), w]))) (.tup [.int (i : Nat), x]) (.ref T) :=
  ⟨Ext.tmp hT, s.tmp hT, VR.tupNew hT hd (.cons (by simp only [VR]) (.cons r .nil))⟩
theorem src_enumT {xs : List D} {a : Addr} (h : ∀ m' H', Ext m H m' H' → ∃ vs, SqT K H' a vs ∧ VRs K m' H' xs vs) : SrcOk K m H ⟨enumD 0 xs, noGd⟩ (ItE K a) := fun m' H' S' E s g i => by
  obtain ⟨vs, h1, h2⟩ := h m' H' E
  refine ⟨fun d hd => ?_, fun hi => ⟨vs, h1, by rw [h2.length, ← enumD_len xs 0]; exact hi⟩⟩
  obtain ⟨x, hx, rfl⟩ := enumD_get hd
  obtain ⟨v, h3, h4⟩ := h2.get hx
  refine ⟨⟨vs, v, h1, h3⟩, fun y H2 hy => ?_⟩
  obtain ⟨T, w, ob, rfl, hT, hdn, rfl, hw⟩ := hy
  have e : w = v := Option.some.inj ((hw vs h1).symm.trans h3)
  subst e
  rw [Nat.zero_add]
  exact pair_new s hT hdn h4
theorem src_enumL {xs : List D} {gd : Sto → Prop} {a : Addr} (h : ∀ m' H' S', Ext m H m' H' → SR K m' H' S' → gd S' → ∃ vs, SqL K H' a vs ∧ VRs K m' H' xs vs) : SrcOk K m H ⟨enumD 0 xs, gd⟩ (IteF K a) := fun m' H' S' E s g i => by
  obtain ⟨vs, h1, h2⟩ := h m' H' S' E s g
  refine ⟨fun d hd => ?_, fun hi => ⟨vs, h1, by rw [h2.length, ← enumD_len xs 0]; exact Nat.le_of_eq hi⟩⟩
  obtain ⟨x, hx, rfl⟩ := enumD_get hd
  obtain ⟨v, h3, h4⟩ := h2.get hx
  refine ⟨⟨vs, v, h1, h3⟩, fun y H2 hy => ?_⟩
  obtain ⟨T, w, ob, rfl, hT, hdn, rfl, hw⟩ := hy
  have e : w = v := Option.some.inj ((hw vs h1).symm.trans h3)
  subst e
  rw [Nat.zero_add]
  exact pair_new s hT hdn h4
def kEn (x : D) (S : Sto) : Out Src := match x with
  | .tup xs => .ok ⟨enumD 0 xs, noGd⟩ S
  | .ref n => match S[n]? with
    | some (.lst xs) => .ok ⟨enumD 0 xs, atGd n xs⟩ S
    | _ => .bad
  | _ => .bad
def iEn (f : FE) : FI := fun l S => (f l S).bind kEn
theorem mi_enum {tpos : Pos} {elts : List Expr} {kk : Nat} (hg : Gl X "enumerate") (hm : X.mg "enumerate" = none) (he : ME X W e f) (s1 : starEach [e] X.env = (false, eval e X.env) :: starEach [] X.env := by rfl) (hs : starEach [e] X.env = [(false, eval e X.env)] := by rfl) :
    MI X W (.Tuple elts kk tpos) (.Call (.Name "enumerate" p) [e] [] pos) (iEn f) := ((pi_enumF hg hm (pa_cons he pa_nil s1) hs).or (pi_enumT hg hm (pa_cons he pa_nil s1) hs)).imp fun σ H Q ⟨l, m, S, R, q⟩ => by
  unfold iEn at q
  cases e1 : f l S with
  | bad => rw [e1] at q; exact q.elim
  | ex C fs S1 =>
    rw [e1] at q
    refine .inl ⟨l, m, S, R, ?_⟩
    rw [e1]; exact q
  | ok d S1 =>
    rw [e1] at q
    have q : post X.K W (pI X.K) σ m H Q (kEn d S1) := q
    cases d with
    | tup xs =>
      refine .inr ⟨l, m, S, R, ?_⟩
      rw [e1]
      intro v H1 m1 E1 R1 V1
      simp only [VR] at V1
      obtain ⟨a, vs, rfl, h1, h2⟩ := V1
      exact ⟨a, vs, rfl, h1, q _ H1 m1 E1 R1 (src_enumT fun m' H' E => ⟨vs, SqT.ext E h1, VRs.ext E _ _ h2⟩)⟩
    | ref n =>
      refine .inl ⟨l, m, S, R, ?_⟩
      rw [e1]
      intro v H1 m1 E1 R1 V1
      simp only [kEn] at q
      cases hn : S1[n]? with
      | none => rw [hn] at q; exact q.elim
      | some ob =>
        cases ob with
        | lst xs =>
          rw [hn] at q
          obtain ⟨a, rfl, h0, _, vs, h1, h2⟩ := R1.ref hn V1
          refine ⟨a, vs, rfl, SqL.of h1, q _ H1 m1 E1 R1 (src_enumL fun m' H' S' E s' g => ?_)⟩
          obtain ⟨b, h3, us, h4, h5⟩ := s'.at n _ g
          rw [E.get h0] at h3; cases h3
          exact ⟨us, SqL.of h4, h5⟩
        | _ => rw [hn] at q; exact q.elim
    | _ => exact q.elim
end
end Pz

set_option Elab.async false
set_option linter.all false
set_option maxRecDepth 100000
set_option maxHeartbeats 4000000
/-! Pz11: list comprehensions. -/
namespace Pz
open PySem PySem.Spec PyProof.Rows L2
section
variable {X : Cx} {W : WX} {a b c e elt tg iter : Expr} {rest es ifs : List Expr} {f g h : FE} {p pos : Pos} {K : PySem.W.Frag} {m m' : List Addr} {H H' : Hp} {S S' : Sto}

abbrev WF : WX := fun _ _ _ _ => False
def noX {α : Type} : Out α → Out α
  | .ex _ _ _ => .bad
  | o => o
theorem noX_post {α β : Type} {PR : PRel α β} {σ : L2.St} {Q : β → Hp → Prop} : ∀ {o : Out α}, post K W PR σ m H Q (noX o) → post K WF PR σ m H Q o
  | .ok _ _, q => q
  | .ex _ _ _, q => q.elim
  | .bad, q => q.elim
abbrev MTs (X : Cx) (W : WX) (ifs : List Expr) (f : FT) : Prop := PTs X ifs (tX X.K W pB f)
theorem _root_.L2.PTs.imp {X : Cx} {es : List Expr} {t t' : TT} (h : PTs X es t) (i : ∀ σ H Q, t' σ H Q → t σ H Q) : PTs X es t' := ⟨fun pins s σ H Q I q => h.run pins s σ H Q I (i _ _ _ q)⟩
def tTrue : FT := fun _ S => .ok true S
theorem mts_nil : MTs X W [] tTrue := pts_nil.imp fun σ H Q ⟨l, m, S, R, q⟩ => q true H m .refl R.sr rfl
theorem mts_one {t : FT} (h : MT X W c t) : MTs X W [c] t := pts_one h
def wipeL (l : Loc) : List Nat → Loc
  | [] => l
  | v :: vs => (wipeL l vs).set v none
theorem Rel.wipe {l : Loc} {σ : L2.St} (R : Rel K l σ m S H) : ∀ vs : List Nat, Rel K (wipeL l vs) (L2.wipe σ vs) m S H
  | [] => R
  | v :: vs => by
    have r := Rel.wipe R vs
    refine ⟨r.sr, by simp only [wipeL, L2.wipe, List.length_set]; exact r.len, fun i d h => ?_⟩
    simp only [wipeL] at h
    by_cases e : i = v
    · subst e
      have hl := (List.getElem?_eq_some_iff.mp h).1
      rw [List.length_set] at hl
      rw [List.getElem?_set_self hl] at h
      cases h
    · rw [List.getElem?_set_ne (Ne.symm e)] at h
      obtain ⟨w, h1, h2⟩ := r.at i d h
      exact ⟨w, by simp only [L2.wipe]; rw [List.getElem?_set_ne (Ne.symm e)]; exact h1, h2⟩
theorem Ext.notin {m m' : List Addr} {H H' : Hp} {a : Addr} (e : Ext m H m' H') (h : a ∉ m) (hs : H a ≠ none) : a ∉ m' := fun hm => by
  obtain ⟨ν, rfl, q⟩ := e.mu
  rcases List.mem_append.mp hm with hm | hm
  · exact h hm
  · exact hs (q a hm)
theorem wipe_get {σ : L2.St} {i : Nat} : ∀ {vs : List Nat}, i ∈ vs → i < σ.length → (L2.wipe σ vs)[i]? = some none
  | v :: vs, h, hl => by
    simp only [L2.wipe]
    by_cases e : i = v
    · subst e
      rw [List.getElem?_set_self (by rw [wipe_length]; exact hl)]
    · rw [List.getElem?_set_ne (Ne.symm e)]
      exact wipe_get ((List.mem_cons.mp h).resolve_left e) hl
theorem wipe_out {σ : L2.St} {i : Nat} : ∀ {vs : List Nat}, i ∉ vs → (L2.wipe σ vs)[i]? = σ[i]?
  | [], _ => rfl
  | v :: vs, h => by
    simp only [L2.wipe]
    rw [List.getElem?_set_ne fun q => h (by rw [q]; exact List.mem_cons_self)]
    exact wipe_out fun q => h (List.mem_cons_of_mem _ q)
theorem wipe_wipe (σ : L2.St) (vs : List Nat) : L2.wipe (L2.wipe σ vs) vs = L2.wipe σ vs := by
  refine List.ext_getElem? fun i => ?_
  by_cases h : i ∈ vs
  · by_cases hl : i < σ.length
    · rw [wipe_get h (by rw [wipe_length]; exact hl), wipe_get h hl]
    · rw [List.getElem?_eq_none (by rw [wipe_length, wipe_length]; omega), List.getElem?_eq_none (by rw [wipe_length]; omega)]
  · rw [wipe_out h]
/-- a list that stands outside the store is written -/
theorem VRs.over {ds : List D} {vs : List V} {q : Addr} {ws us : List V} (hq : H q = some (.lst ws)) (r : VRs K m H ds vs) : VRs K m (upd H q (.lst us)) ds vs :=
  VRs.mono (fun _ _ h => h) (fun a xs h => by rw [upd_ne (ne_of h hq (by intro z; cases z))]; exact h) (fun a o u h => by rw [upd_ne (ne_of h hq (by intro z; cases z))]; exact h) _ _ r
theorem AR.over {κ : Type} {ds : List (κ × D)} {vs : List (κ × V)} {q : Addr} {ws us : List V} (hq : H q = some (.lst ws)) (r : AR K m H ds vs) : AR K m (upd H q (.lst us)) ds vs :=
  AR.mono (fun _ _ h => h) (fun a xs h => by rw [upd_ne (ne_of h hq (by intro z; cases z))]; exact h) (fun a o u h => by rw [upd_ne (ne_of h hq (by intro z; cases z))]; exact h) _ _ r
theorem SR.over {q : Addr} {ws us : List V} (s : SR K m H S) (hq : H q = some (.lst ws)) (hn : q ∉ m) : SR K m (upd H q (.lst us)) S := ⟨s.len, s.nd, fun n o ho => by
  obtain ⟨a, h1, h2⟩ := s.at n o ho
  have ha : a ≠ q := fun e => hn (by rw [← e]; exact List.mem_of_getElem? h1)
  refine ⟨a, h1, ?_⟩
  cases o with
  | lst xs => obtain ⟨vs, h3, h4⟩ := h2; exact ⟨vs, by rw [upd_ne ha]; exact h3, VRs.over hq h4⟩
  | dk xs => obtain ⟨vs, h3, h4⟩ := h2; exact ⟨vs, by rw [upd_ne ha]; exact h3, AR.over hq h4⟩
  | ins C fs => obtain ⟨dx, vs, h3, h4⟩ := h2; exact ⟨dx, vs, by rw [upd_ne ha]; exact h3, AR.over hq h4⟩
  | dn xs => obtain ⟨vs, h3, h4⟩ := h2; exact ⟨vs, by rw [upd_ne ha]; exact h3, AR.over hq h4⟩, by
  obtain ⟨o, u, h⟩ := s.sys
  exact ⟨o, u, by rw [upd_ne (ne_of h hq (by intro z; cases z))]; exact h⟩⟩
theorem Ext.over1 {m m' : List Addr} {H H' : Hp} {q : Addr} {ho : HO} (h0 : H q = none) (e : Ext m H m' H') : Ext m H m' (upd H' q ho) := by
  have ne : ∀ {a o}, H a = some o → a ≠ q := fun {a o} h z => by rw [z, h0] at h; cases h
  refine ⟨e.mu, fun a xs h => by rw [upd_ne (ne h)]; exact e.tup a xs h, fun a o u h => by rw [upd_ne (ne h)]; exact e.frz a o u h, fun a o h hn => by rw [upd_ne (ne h)]; exact e.oth a o h hn, fun a h => ?_⟩
  by_cases z : a = q
  · rw [z]; exact h0
  · rw [upd_ne z] at h; exact e.dom a h
open Classical in
noncomputable def lcL (gd : Sto → Prop) (t : Tg) (tt : FT) (te : FE) (l : Loc) : List D → List D → Sto → Out LV
  | [], acc, S => if gd S then .ok (.tmp acc) S else .bad
  | x :: xs, acc, S => if gd S then match t.put x l with
      | some l1 => (noX (tt l1 S)).bind fun k S1 => if k then (noX (te l1 S1)).bind fun y S2 => lcL gd t tt te l xs (acc ++ [y]) S2 else lcL gd t tt te l xs acc S1
      | none => .bad
    else .bad
noncomputable def lComp (vs : List Nat) (fi : FI) (t : Tg) (tt : FT) (te : FE) : FL := fun l S => (fi l S).bind fun x S1 => if x.its.length ≤ sizeLine then lcL x.gd t tt te (wipeL l vs) x.its [] S1 else .bad
theorem tX_lc {fi : FI} {t : Tg} {tt : FT} {te : FE} {vs : List Nat} (hv : t.slots.all (fun i => vs.contains i) = true) {σ : L2.St} {H : Hp} {Q : VK} (q : tX K W (pL K) (lComp vs fi t tt te) σ H Q) :
    tLc (tX K W (pI K) fi) (tG K t) (tX K WF pB tt) (tX K WF (pD K) te) vs σ H Q := by
  obtain ⟨l, m, S, R, q⟩ := q
  refine ⟨l, m, S, R, post.bind (PR := pI K) anti_L q fun x S1 J H1 m1 E1 R1 V1 q1 D hD => ?_⟩
  split at q1
  · rename_i hz
    have hsl : ∀ i ∈ t.slots, i ∈ vs := fun i hi => by
      have := List.all_eq_true.mp hv i hi
      simpa using this
    have ED : Ext m1 H1 m1 (upd H1 D (.lst [])) := Ext.tmp hD
    have RW : Rel K (wipeL l vs) (L2.wipe σ vs) m1 S1 H1 := (R.ext E1 R1).wipe vs
    refine ⟨fun i k H' => k = x.its.length - i ∧ i ≤ x.its.length ∧ ∃ m' S' acc ws, Ext m1 H1 m' H' ∧ SR K m' H' S' ∧ H' D = some (.lst ws) ∧ D ∉ m' ∧ VRs K m' H' acc ws ∧ acc.length ≤ i ∧ post K W (pL K) σ m1 H1 Q (lcL x.gd t tt te (wipeL l vs) (x.its.drop i) acc S'),
      ⟨_, rfl, Nat.zero_le _, m1, S1, [], [], ED, R1.tmp hD, upd_same, R1.notin hD, .nil, Nat.le_refl _, q1⟩, ?_⟩
    rintro i k H' ⟨rfl, hi, m', S', acc, ws, E', R', hH, hn, hacc, hal, q'⟩
    by_cases hlt : i < x.its.length
    · rw [List.drop_eq_getElem_cons hlt] at q'
      simp only [lcL] at q'
      split at q'
      · rename_i hgd
        obtain ⟨h1, _⟩ := V1 m' H' S' E' R' hgd i
        obtain ⟨h2, h3⟩ := h1 x.its[i] (by simp [hlt])
        refine .inr ⟨h2, fun H2 => ∃ m2 S2 acc ws, Ext m1 H1 m2 H2 ∧ SR K m2 H2 S2 ∧ H2 D = some (.lst ws) ∧ D ∉ m2 ∧ VRs K m2 H2 acc ws ∧ acc.length ≤ i + 1 ∧ post K W (pL K) σ m1 H1 Q (lcL x.gd t tt te (wipeL l vs) (x.its.drop (i + 1)) acc S2),
          fun H2 h => ⟨x.its.length - (i + 1), by omega, rfl, hlt, h⟩, fun y H2 hy => ?_⟩
        obtain ⟨h4, h5, h6⟩ := h3 y H2 hy
        cases e1 : t.put x.its[i] (wipeL l vs) with
        | none => rw [e1] at q'; exact q'.elim
        | some l1 =>
          rw [e1] at q'
          refine ⟨wipeL l vs, m', S', x.its[i], l1, RW.ext (E'.trans h4) h5, h6, e1, fun σ3 R3 w3 => ⟨?_, l1, m', S', R3, ?_⟩⟩
          · have := w3 vs hsl
            rw [this]
            have ww : ∀ us : List Nat, L2.wipe (L2.wipe σ us) us = L2.wipe σ us := wipe_wipe σ
            exact ww vs
          · -- the test
            have q2 : post K W (pL K) σ m1 H1 Q ((noX (tt l1 S')).bind fun k S1 => if k then (noX (te l1 S1)).bind fun y S2 => lcL x.gd t tt te (wipeL l vs) (x.its.drop (i + 1)) (acc ++ [y]) S2 else lcL x.gd t tt te (wipeL l vs) (x.its.drop (i + 1)) acc S1) := q'
            cases e2 : tt l1 S' with
            | bad => rw [e2] at q2; exact q2.elim
            | ex C fs S2 => rw [e2] at q2; exact q2.elim
            | ok kk S2 =>
              rw [e2] at q2
              have q2 : post K W (pL K) σ m1 H1 Q (if kk then (noX (te l1 S2)).bind fun y S2 => lcL x.gd t tt te (wipeL l vs) (x.its.drop (i + 1)) (acc ++ [y]) S2 else lcL x.gd t tt te (wipeL l vs) (x.its.drop (i + 1)) acc S2) := q2
              intro bb H3 m3 E3 R4 eb
              subst eb
              have E13 := E'.trans (h4.trans E3)
              have hH3 : H3 D = some (.lst ws) := E3.oth _ _ (h4.oth _ _ hH hn) hn
              have hn3 : D ∉ m3 := E3.notin hn (by rw [h4.oth _ _ hH hn]; exact fun q => by cases q)
              have hacc3 := VRs.ext (h4.trans E3) _ _ hacc
              cases kk with
              | false =>
                rw [if_neg (by decide)] at q2 ⊢
                exact ⟨m3, S2, acc, ws, E13, R4, hH3, hn3, hacc3, by omega, q2⟩
              | true =>
                rw [if_pos rfl] at q2 ⊢
                refine ⟨l1, m3, S2, R3.ext E3 R4, ?_⟩
                cases e3 : te l1 S2 with
                | bad => rw [e3] at q2; exact q2.elim
                | ex C fs S3 => rw [e3] at q2; exact q2.elim
                | ok d S3 =>
                  rw [e3] at q2
                  intro w H4 m4 E4 R5 V4
                  have hH4 : H4 D = some (.lst ws) := E4.oth _ _ hH3 hn3
                  have hn4 : D ∉ m4 := E4.notin hn3 (by rw [hH3]; exact fun q => by cases q)
                  have hacc4 := VRs.ext E4 _ _ hacc3
                  refine ⟨ws, hH4, by rw [hacc4.length]; omega, m4, S3, acc ++ [d], ws ++ [w], ?_, R5.over hH4 hn4, upd_same, hn4, VRs.over hH4 (hacc4.append (.cons V4 .nil)), by simp; omega, q2⟩
                  exact Ext.over1 hD (E13.trans E4)
      · exact q'.elim
    · have e : i = x.its.length := by omega
      subst e
      rw [List.drop_length] at q'
      simp only [lcL] at q'
      split at q'
      · rename_i hgd
        refine .inl ⟨(V1 m' H' S' E' R' hgd _).2 rfl, q' _ H' m' E' R' ⟨D, ws, rfl, hH, hn, hD, hacc⟩⟩
      · exact q'.elim
  · exact q1.elim

theorem ml_lc {scope : Scope} {own : List (Str × Nat)} {fi : FI} {t : Tg} {tt : FT} {te : FE} (hc : X.calm = true) (hN : X.N.Nodup) (hi : MI X W tg iter fi) (ok : BlkOk X.N X.env.scope scope own)
    (hg : ∀ (s : Shared) (H : Hp) (C : Addr) (cl : List (Str × Addr)) (fp : List Addr), MG (X.blk s H scope (compEnvC scope cl C X.env) fp) tg t) (ht : ∀ (s : Shared) (H : Hp) (C : Addr) (cl : List (Str × Addr)) (fp : List Addr), MTs (X.blk s H scope (compEnvC scope cl C X.env) fp) WF ifs tt)
    (he : ∀ (s : Shared) (H : Hp) (C : Addr) (cl : List (Str × Addr)) (fp : List Addr), ME (X.blk s H scope (compEnvC scope cl C X.env) fp) WF elt te)
    (hv : t.slots.all (fun i => (own.map (·.2)).contains i) = true := by rfl) (hs : ∀ x, foldedSetIterable iter X.env x = pure x := by intro _; rfl) : ML X W (.ListComp elt [⟨tg, iter, ifs, 0⟩] scope pos) (lComp (own.map (·.2)) fi t tt te) :=
  (pe_lc hc hN hi ok hg ht he hs).imp fun σ H Q q => tX_lc hv q
theorem ms_setLc {i : Nat} {y : Str} {py spos : Pos} {scope : Scope} {own : List (Str × Nat)} {fi : FI} {t : Tg} {tt : FT} {te : FE} (hc : X.calm = true) (hN : X.N.Nodup) (hy : X.N[i]? = some y) (hyl : X.env.scope.names.lookup y = some .local)
    (hsw : swapsWith (.ListComp elt [⟨tg, iter, ifs, 0⟩] scope pos) (some (.Name y py)) spos.line X.env = pure true) (hi : MI X W tg iter fi) (ok : BlkOk X.N X.env.scope scope own)
    (hg : ∀ (s : Shared) (H : Hp) (C : Addr) (cl : List (Str × Addr)) (fp : List Addr), MG (X.blk s H scope (compEnvC scope cl C X.env) fp) tg t) (ht : ∀ (s : Shared) (H : Hp) (C : Addr) (cl : List (Str × Addr)) (fp : List Addr), MTs (X.blk s H scope (compEnvC scope cl C X.env) fp) WF ifs tt)
    (he : ∀ (s : Shared) (H : Hp) (C : Addr) (cl : List (Str × Addr)) (fp : List Addr), ME (X.blk s H scope (compEnvC scope cl C X.env) fp) WF elt te)
    (hv : t.slots.all (fun i => (own.map (·.2)).contains i) = true := by rfl) (hs : ∀ x, foldedSetIterable iter X.env x = pure x := by intro _; rfl) : MS X W (.Assign [.Name y py] (.ListComp elt [⟨tg, iter, ifs, 0⟩] scope pos) spos) (sSet (.nm i) (eL (lComp (own.map (·.2)) fi t tt te))) :=
  (ps_setLc hc hN hy hyl hsw hi ok hg ht he hs).imp fun D' σ H ⟨l, m, S, R, q⟩ => tX_lc hv (tX_eL ⟨l, m, S, R, postS.bind (PR := pD X.K) R q fun d S1 w H1 m1 E1 R1 V1 R2 q1 => q1 _ H1 m1 .refl (R2.put V1)⟩)
end
end Pz

set_option Elab.async false
set_option linter.all false
set_option maxRecDepth 100000
set_option maxHeartbeats 4000000
/-! Pz12: == [] and == (), stores by place, repr, sorted, len(set(..)), dicts that are written and asked at once, names of the module. -/
namespace Pz
open PySem PySem.Spec PyProof.Rows L2
section
variable {X : Cx} {W : WX} {a b c e : Expr} {rest es : List Expr} {f g h : FE} {p pos : Pos} {K : PySem.W.Frag} {m m' : List Addr} {H H' : Hp} {S S' : Sto} {q s : FQ}

/-! ### == [], != [], == (), != () -/
def rNilL (K : PySem.W.Frag) (k : Bool → Bool) : R2 := fun x y H Q => ∃ a b xs, x = .ref a ∧ y = .ref b ∧ SqL K H a xs ∧ SqL K H b [] ∧ Q (.bl (k xs.isEmpty)) H
def rNilT (K : PySem.W.Frag) (k : Bool → Bool) : R2 := fun x y H Q => ∃ a b xs, x = .ref a ∧ y = .ref b ∧ SqT K H a xs ∧ SqT K H b [] ∧ Q (.bl (k xs.isEmpty)) H
theorem op_eqNilL (hu : X.A.units < cLine) : OpR X (compareOp .Eq) (rNilL X.K id) := by
  intro pins s σ H x y v u Q I rx ry ⟨a, b, xs, ex, ey, h1, h2, q⟩
  subst ex ey
  cases rx
  cases ry
  obtain ⟨its, r, l1, _⟩ := I.list h1
  obtain ⟨its2, r2, l2, _⟩ := I.list h2
  cases r2
  cases xs with
  | nil =>
    cases r
    exact SeqAt.eq_listAt (e := fun _ => true) l1.isList l2.isList rfl hu (fun j h1 _ => absurd h1 (by simp)) ⟨.bl true, H, I, rfl, q⟩
  | cons z zs =>
    cases r
    exact SeqAt.eq_list_lengthsAt l1.isList l2.isList (by simp) hu ⟨.bl false, H, I, rfl, q⟩
theorem op_neNilL (hu : X.A.units < cLine) : OpR X (compareOp .NotEq) (rNilL X.K not) := by
  intro pins s σ H x y v u Q I rx ry ⟨a, b, xs, ex, ey, h1, h2, q⟩
  subst ex ey
  cases rx
  cases ry
  obtain ⟨its, r, l1, _⟩ := I.list h1
  obtain ⟨its2, r2, l2, _⟩ := I.list h2
  cases r2
  cases xs with
  | nil =>
    cases r
    exact SeqAt.RcNeAt.lists (e := fun _ => true) l1.isList l2.isList rfl hu (fun j h1 _ => absurd h1 (by simp)) _ _ _ _ ⟨.bl false, H, I, rfl, q⟩
  | cons z zs =>
    cases r
    exact SeqAt.RcNeAt.lists_lengths l1.isList l2.isList (by simp) hu _ _ _ _ ⟨.bl true, H, I, rfl, q⟩
theorem op_eqNilT (hu : X.A.units < cLine) : OpR X (compareOp .Eq) (rNilT X.K id) := by
  intro pins s σ H x y v u Q I rx ry ⟨a, b, xs, ex, ey, h1, h2, q⟩
  subst ex ey
  cases rx
  cases ry
  obtain ⟨its, r, l1, _⟩ := I.tuple h1
  obtain ⟨its2, r2, l2, _⟩ := I.tuple h2
  cases r2
  refine SeqAt.eq_tupleAt (e := fun _ => true) (show s.heap.IsTuple a its.toArray from l1) (show s.heap.IsTuple b #[] from l2) hu (fun j _ h2 => absurd h2 (by simp)) ⟨.bl _, H, I, rfl, ?_⟩
  cases r with
  | nil => exact q
  | cons _ _ => exact q
theorem op_neNilT (hu : X.A.units < cLine) : OpR X (compareOp .NotEq) (rNilT X.K not) := by
  intro pins s σ H x y v u Q I rx ry ⟨a, b, xs, ex, ey, h1, h2, q⟩
  subst ex ey
  cases rx
  cases ry
  obtain ⟨its, r, l1, _⟩ := I.tuple h1
  obtain ⟨its2, r2, l2, _⟩ := I.tuple h2
  cases r2
  refine SeqAt.RcNeAt.tuples (e := fun _ => true) (show s.heap.IsTuple a its.toArray from l1) (show s.heap.IsTuple b #[] from l2) hu (fun j _ h2 => absurd h2 (by simp)) _ _ _ _ ⟨.bl _, H, I, rfl, ?_⟩
  cases r with
  | nil => exact q
  | cons _ _ => exact q
def oEmp (k : Bool → Bool) (xs : List D) (S : Sto) : Out D := .ok (.bl (k xs.isEmpty)) S
def eNil (k : Bool → Bool) (s : FQ) : FE := fun l S => (s l S).bind (oEmp k)
theorem empty_vs {xs : List D} {vs : List V} (h : VRs K m H xs vs) : vs.isEmpty = xs.isEmpty := by
  cases xs with
  | nil => simp only [VRs] at h; subst h; rfl
  | cons x xs => simp only [VRs] at h; obtain ⟨v, r, rfl, _⟩ := h; rfl
theorem SqL.tmp {a : Addr} {t : Addr} {ho : HO} {vs : List V} (ht : H t = none) (h : SqL K H a vs) : SqL K (upd H t ho) a vs := by
  have ne : ∀ {o}, H a = some o → a ≠ t := fun {o} h q => by rw [q, ht] at h; cases h
  rcases h with (h | ⟨o, h⟩) | h
  · exact .inl (.inl (by rw [upd_ne (ne h)]; exact h))
  · exact .inl (.inr ⟨o, by rw [upd_ne (ne h)]; exact h⟩)
  · exact .inr h
theorem nilL_tX {k : Bool → Bool} {σ : L2.St} {Q : VK} (q : tX K W (pD K) (eNil k s) σ H Q) : tOp (rNilL K k) (tX K W (pS K) s) (tLst tNil) σ H Q := by
  obtain ⟨l, m, S, R, q⟩ := q
  refine ⟨l, m, S, R, post.bind (PR := pS K) anti_D q fun xs S1 v H1 m1 E1 R1 ⟨p, vs, h1, h2, h3⟩ q1 => ⟨Nat.zero_le _, fun t ht => ⟨p, t, vs, h1, rfl, SqL.tmp ht h2, SqL.of upd_same, ?_⟩⟩⟩
  rw [empty_vs h3]
  exact q1 _ _ m1 (Ext.tmp ht) (R1.tmp ht) (by simp only [VR])
theorem nilT_tX {k : Bool → Bool} {σ : L2.St} {Q : VK} (q : tX K W (pD K) (e1 (fun d S => match d with | .tup xs => oEmp k xs S | _ => .bad) f) σ H Q) : tOp (rNilT K k) (tX K W (pD K) f) (tTup tNil) σ H Q := by
  obtain ⟨l, m, S, R, q⟩ := q
  refine ⟨l, m, S, R, post.bind (PR := pD K) anti_D q fun x S1 v H1 m1 E1 R1 V1 q1 => ⟨Nat.zero_le _, fun t ht => ?_⟩⟩
  cases x with
  | tup xs =>
    simp only [VR] at V1
    obtain ⟨p, vs, rfl, h2, h3⟩ := V1
    refine ⟨p, t, vs, rfl, rfl, SqT.ext (Ext.tmp (m := []) ht) h2, SqT.of upd_same, ?_⟩
    rw [empty_vs h3]
    exact q1 _ _ m1 (Ext.tmp ht) (R1.tmp ht) (by simp only [VR])
  | _ => exact q1.elim
def oEmpT (k : Bool → Bool) (d : D) (S : Sto) : Out D := match d with
  | .tup xs => oEmp k xs S
  | _ => .bad
theorem me_eqNil {p1 : Pos} (hu : X.A.units + 64 < cLine) (ha : MS' X W a s) : ME X W (.Compare a [.Eq] [.List [] p1] pos) (eNil id s) := (pe_cmpR (op_eqNilL (by omega)) ha (pe_lst pa_nil) (nomark _)).imp fun σ H Q q => nilL_tX q
theorem me_neNil {p1 : Pos} (hu : X.A.units + 64 < cLine) (ha : MS' X W a s) : ME X W (.Compare a [.NotEq] [.List [] p1] pos) (eNil not s) := (pe_cmpR (op_neNilL (by omega)) ha (pe_lst pa_nil) (nomark _)).imp fun σ H Q q => nilL_tX q
theorem tst_of {t : TE} {ff : FE} (i : ∀ σ H Q, tX K W (pD K) ff σ H Q → t σ H Q) {σ : L2.St} {Q : Bool → Hp → Prop} (q : tX K W pB (eT ff) σ H Q) : tTest t σ H Q := i _ _ _ (tX_tst q)
theorem mt_eqNil {p1 : Pos} (hu : X.A.units + 64 < cLine) (ha : MS' X W a s) : MT X W (.Compare a [.Eq] [.List [] p1] pos) (eT (eNil id s)) := (pt_cmpR (op_eqNilL (by omega)) ha (pe_lst pa_nil) (nomark _)).imp fun σ H Q q => tst_of (fun _ _ _ q => nilL_tX q) q
theorem mt_neNil {p1 : Pos} (hu : X.A.units + 64 < cLine) (ha : MS' X W a s) : MT X W (.Compare a [.NotEq] [.List [] p1] pos) (eT (eNil not s)) := (pt_cmpR (op_neNilL (by omega)) ha (pe_lst pa_nil) (nomark _)).imp fun σ H Q q => tst_of (fun _ _ _ q => nilL_tX q) q
theorem mt_eqTup0 {x1 : Nat} {p1 : Pos} (hu : X.A.units + 64 < cLine) (ha : ME X W a f) : MT X W (.Compare a [.Eq] [.Tuple [] x1 p1] pos) (eT (e1 (oEmpT id) f)) := (pt_cmpR (op_eqNilT (by omega)) ha (pe_tup pa_nil) (nomark _)).imp fun σ H Q q => tst_of (fun _ _ _ q => nilT_tX q) q
theorem mt_neTup0 {x1 : Nat} {p1 : Pos} (hu : X.A.units + 64 < cLine) (ha : ME X W a f) : MT X W (.Compare a [.NotEq] [.Tuple [] x1 p1] pos) (eT (e1 (oEmpT not) f)) := (pt_cmpR (op_neNilT (by omega)) ha (pe_tup pa_nil) (nomark _)).imp fun σ H Q q => tst_of (fun _ _ _ q => nilT_tX q) q

/-! ### xs[i] = e -/
def oSetIx (v x y : D) (S : Sto) : Option Sto := match x, y with
  | .ref n, .int i => match S[n]? with
    | some (.lst xs) => match ixN xs.length i with
      | some j => some (S.set n (.lst (xs.set j v)))
      | none => none
    | _ => none
  | _, _ => none
def sSetIx (f g h : FE) : FS := fun l S => toS l (f l S) fun v S1 => toS l (g l S1) fun x S2 => toS l (h l S2) fun y S3 => match oSetIx v x y S3 with
  | some S4 => .nx l S4
  | none => .bad
theorem ms_setIx {o i : Expr} {p1 : Pos} (he : ME X W e f) (ho : ME X W o g) (hi : ME X W i h) (hs : swapsWithSole [.Subscript o i p1] e pos.line X.env = pure false := by rfl) (hw : swappedStores [.Subscript o i p1] e X.env = pure none := by rfl)
    (h1 : (assignEach [.Subscript o i p1] X.env).map (·.2) = [assign (.Subscript o i p1) X.env] := by rfl)
    (h2 : ∀ v, assign (.Subscript o i p1) X.env v = (do let ov ← holding [v] (eval o X.env); let iv ← holding [v, ov] (eval i X.env); standAt p1; holding [v, ov, iv] (setItem ov iv v); release [v, ov, iv] []) := by intro _; rfl) : MS X W (.Assign [.Subscript o i p1] e pos) (sSetIx f g h) :=
  (ps_asg he (pg_sub ho hi set_list h2) hs hw h1).imp fun D' σ H ⟨l, m, S, R, q⟩ => ⟨l, m, S, R, postS.bind (PR := pD X.K) R q fun d S1 w H1 m1 E1 R1 V1 R2 q1 => ⟨l, m1, S1, R2, postS.bind (PR := pD X.K) R2 q1 fun x S2 v H2 m2 E2 R3 V2 R4 q2 =>
    ⟨l, m2, S2, R4, postS.bind (PR := pD X.K) R4 q2 fun y S3 u H3 m3 E3 R5 V3 R6 q3 => by
      cases e4 : oSetIx d x y S3 with
      | none => rw [e4] at q3; exact q3.elim
      | some S4 =>
        rw [e4] at q3
        unfold oSetIx at e4
        split at e4
        · rename_i n i
          split at e4
          · rename_i xs hn
            split at e4
            · rename_i j hj
              cases e4
              have V2 := VR.ext E3 _ _ V2
              have V1 := VR.ext (E2.trans E3) _ _ V1
              obtain ⟨p, vs, rfl, h8, h2, h3⟩ := R5.setL (ys := xs.set j d) hn V2
              simp only [VR] at V3
              obtain ⟨e', s'⟩ := h3 (vs.set j w) (h2.set V1 j)
              exact ⟨p, vs, i, j, rfl, V3, h8, by rw [h2.length]; exact hj, q3 σ _ m3 e' (R6.ext e' s')⟩
            · cases e4
          · cases e4
        · cases e4⟩⟩⟩
end
end Pz

set_option Elab.async false
set_option linter.all false
set_option maxRecDepth 100000
set_option maxHeartbeats 4000000
/-! Pz13: repr, t[::-1], {..}.get(k, d), names of the module. -/
namespace Pz
open PySem PySem.Spec PyProof.Rows L2

/-! ### t[::-1] -/
section
variable {prog : Program} {w : World} {A : Around} {E : Value → Shared → Prop} {s : Shared}
theorem fm_map {α β : Type} {F : α → Option β} {g : α → β} : ∀ {l : List α}, (∀ i ∈ l, F i = some (g i)) → l.filterMap F = l.map g
  | [], _ => rfl
  | x :: xs, h => by
    rw [List.filterMap_cons, h x List.mem_cons_self, List.map_cons, fm_map fun i hi => h i (List.mem_cons_of_mem _ hi)]
theorem rev_pick (xs : Array Value) : ((List.range xs.size).filterMap fun (i : Nat) => xs[((xs.size : Int) - 1 + (i : Int) * -1).toNat]?).toArray = xs.toList.reverse.toArray := by
  congr 1
  have h : ∀ i ∈ List.range xs.size, xs[((xs.size : Int) - 1 + (i : Int) * -1).toNat]? = some (xs.toList.reverse.getD i .none) := fun i hi => by
    have hi := List.mem_range.mp hi
    have e : ((xs.size : Int) - 1 + (i : Int) * -1).toNat = xs.size - 1 - i := by omega
    rw [e, List.getD_eq_getElem?_getD, List.getElem?_reverse (by simpa using hi)]
    have hl : xs.size - 1 - i < xs.size := by omega
    simp [hl]
  have e2 : (List.range xs.size).filterMap (fun (i : Nat) => xs[((xs.size : Int) - 1 + (i : Int) * -1).toNat]?) = (List.range xs.size).map fun i => xs.toList.reverse.getD i .none := fm_map h
  rw [e2]
  refine List.ext_getElem? fun i => ?_
  rw [List.getElem?_map]
  by_cases hi : i < xs.size
  · rw [List.getElem?_range hi]
    simp [hi]
  · rw [List.getElem?_eq_none (by simpa using hi), List.getElem?_eq_none (by simpa using hi)]; rfl
theorem getItem_tup_rev {t sl : Addr} {items : Array Value} {vs : Value} {Q : Value → Shared → Prop} (ht : IsTup s.heap t items) (hs : s.heap.IsSliceOf sl .none .none vs) (ps : IsPart vs (some (-1)))
    (h : Q (.ref s.heap.objs.size) { s with heap := s.heap.push { cls := .type "tuple", data := .seq items.toList.reverse.toArray } }) (hsz : items.size ≤ sizeLine) : wpAny (model prog w) A (getItem (.ref t) (.ref sl)) Q E s := by
  have hok : sizeOk (.seq items.toList.reverse.toArray) := by show items.toList.reverse.toArray.size ≤ sizeLine; simpa using hsz
  obtain ⟨os, hos, hcs, hds⟩ := id hs
  have hT : s.TypeIs (.ref sl) "slice" := ⟨os, hos, hcs⟩
  unfold getItem
  try with_reducible refine wpAny_holding ?_
  first | refine wpAny_bind (wpAny_pure ?_) | skip
  refine wpAny_bind (wpAny_sequenceKey ht.typeIs (by decide) ?_)
  refine wpAny_bind (wpAny_callSpecial?_slot (name := Str.ofString "__getitem__") ht.typeIs PyProof.Rows.slot_tuple_getitem (wpAny_call_entry PyProof.Rows.slot_tuple_getitem ht.typeIs entry_tuple_getitem ?_ (args_tuple_getitem _ _)))
  show wpAny _ _ (Builtin.Tuple.tupleItemsOf (.ref t) >>= _) _ _ s
  refine wpAny_bind (tupleItemsOf_ ht (wpAny_bind (wpAny_typeOf hT ?_)))
  rw [if_pos (by decide)]
  refine wpAny_bind ?_
  unfold Builtin.Slice.sliceApplied Builtin.Slice.sliceFields
  refine wpAny_bind (wpAny_bind (wpAny_field hos hds (x := .none) rfl (wpAny_bind (wpAny_field hos hds (x := .none) rfl (wpAny_bind (wpAny_field hos hds (x := vs) rfl (wpAny_pure ?_)))))))
  refine wpAny_bind (HT.slicePart_ ps ?_)
  show wpAny _ _ (if ((-1 : Int) == 0) = true then _ else _) _ _ s
  rw [if_neg (by decide)]
  refine wpAny_bind (slicePart_none (wpAny_bind (slicePart_none (wpAny_bind (wpAny_pure ?_)))))
  have e1 : Builtin.Slice.slicePlaces ((items.size : Int) - 1) (-1) (-1) = items.size := by
    simp only [Builtin.Slice.slicePlaces]
    rw [if_neg (by decide)]
    split
    · have : ((items.size : Int) - 1 - -1 - 1) / (- -1) + 1 = items.size := by
        rw [show (- -1 : Int) = 1 by decide, Int.ediv_one]; omega
      rw [this]; simp
    · simp; omega
  show wpAny _ _ (pure ((items.size : Int) - 1, (-1 : Int), Builtin.Slice.slicePlaces ((items.size : Int) - 1) (-1) (-1))) _ _ s
  rw [e1]
  refine wpAny_pure ?_
  have hno : ¬ ((((items.size : Int) - 1) == 0 && (-1 : Int) == 1 && items.size == items.size) = true) := by simp
  show wpAny _ _ (if ((((items.size : Int) - 1) == 0 && (-1 : Int) == 1 && items.size == items.size) = true) then _ else _) _ _ s
  rw [if_neg hno, rev_pick]
  first
    | exact wpAny_bind (m := Builtin.Tuple.tupleExact _) (wpAny_newObj_type (wpAny_pure ⟨_, rfl, wpAny_pure h⟩) hok)
    | exact wpAny_bind (m := Builtin.Tuple.tupleExact _) (wpAny_newObj_type (wpAny_bind (wpAny_pure (wpAny_pure ⟨_, rfl, wpAny_pure h⟩))) hok)
    | exact wpAny_bind (wpAny_bind (m := Builtin.Tuple.tupleExact _) (wpAny_newObj_type (wpAny_pure (wpAny_pure ⟨_, rfl, wpAny_pure h⟩)) hok))
    | exact wpAny_bind (wpAny_bind (m := Builtin.Tuple.tupleExact _) (wpAny_newObj_type (wpAny_pure ⟨_, rfl, wpAny_pure h⟩) hok))
end
section
variable {X : Cx} {W : WX} {a b c e : Expr} {rest es : List Expr} {f g h : FE} {p pos : Pos} {K : PySem.W.Frag} {m m' : List Addr} {H H' : Hp} {S S' : Sto} {q s : FQ}
def tRevT (K : PySem.W.Frag) (te : TE) : TE := fun σ H Q => te σ H fun x H1 => ∃ a xs, x = .ref a ∧ SqT K H1 a xs ∧ nwT xs.reverse H1 Q
theorem pe_revT {te : TE} {k : Nat} {p1 p2 p3 : Pos} (he : PE X e te) : PE X (.Subscript e (.Slice none none (some (.UnaryOp .USub (.Constant (.int 1) k p1) p2)) p3) pos) (tRevT X.K te) := by
  refine ⟨fun pins s σ H Q I h => Subscript_ (thn (he.run pins s σ H _ I h) fun v s1 ⟨x, H1, I1, r1, q1⟩ => ?_)⟩
  obtain ⟨a, xs, ex, hx, q⟩ := q1
  subst ex
  cases r1
  have hst : PO X (some (.UnaryOp .USub (.Constant (.int 1) k p1) p2)) (tPart (tUn (rU fun i => .int (-i)) (tC (.int 1)))) := po_some (pe_un un_neg pe_int)
  refine wpAny_Slice (thn (po_none.run pins s1 σ H1 (fun o H2 => o = none ∧ H2 = H1) I1 ⟨rfl, rfl⟩) fun vl s2 ⟨l, H2, I2, pl, el, e2⟩ => ?_)
  subst el e2
  refine thn (po_none.run pins s2 σ H2 (fun o H3 => o = none ∧ H3 = H2) I2 ⟨rfl, rfl⟩) fun vu s3 ⟨u, H3, I3, pu, eu, e3⟩ => ?_
  subst eu e3
  refine thn (hst.run pins s3 σ H3 (fun o H4 => o = some (-1) ∧ H4 = H3) I3 ⟨1, rfl, -1, rfl, rfl, rfl⟩) fun vs s4 ⟨o, H4, I4, ps, eo, e4⟩ => ?_
  subst eo e4
  cases pl
  cases pu
  have I5 : Inv X pins σ H4 { s4 with heap := s4.heap.push { cls := .type "slice", data := .fields #[.none, .none, vs] } } := I4.kept (t' := s4.toks) fun b ob q => Heap.get?_push_of_some _ q
  obtain ⟨its, r, ht, hz⟩ := I5.tuple hx
  have hlen := r.length
  show wpAny (model X.prog X.w) X.A (subscriptTail e (.Slice none none (some (.UnaryOp .USub (.Constant (.int 1) k p1) p2)) p3) (.ref a) (.ref s4.heap.objs.size)) (EP X pins σ Q) X.xe { s4 with heap := s4.heap.push { cls := .type "slice", data := .fields #[.none, .none, vs] } }
  refine tail_any (ops := [.ref a, .ref s4.heap.objs.size]) ht.typeIs (PyProof.Rows.slot_tuple_getitem.lookup) ?_ (by with_unfolding_all rfl)
  refine getItem_tup_rev ht (Heap.IsSliceOf.new ..) ps ?_ (by rw [List.size_toArray]; omega)
  exact ⟨.ref _, _, I5.laid (t' := s4.toks) (fun b ob q => Heap.get?_push_of_some _ q) (Nat.le_refl _) (frz_new (by rw [List.length_reverse]; exact hz) r.reverse), rfl, q _ _ (I5.hok.fresh (Nat.le_refl _)) rfl⟩
/-- x[::-1], x a tuple, a list of the store -/
def oRev (x : D) (S : Sto) : Out D := match x with
  | .tup xs => .ok (.tup xs.reverse) S
  | .ref n => match S[n]? with
    | some (.lst xs) => .ok (.ref S.length) (S ++ [.lst xs.reverse])
    | _ => .bad
  | _ => .bad
theorem me_rev {k : Nat} {p1 p2 p3 : Pos} (he : ME X W e f) : ME X W (.Subscript e (.Slice none none (some (.UnaryOp .USub (.Constant (.int 1) k p1) p2)) p3) pos) (e1 oRev f) := by
  have key : PE X (.Subscript e (.Slice none none (some (.UnaryOp .USub (.Constant (.int 1) k p1) p2)) p3) pos) (fun σ H Q => tRevT X.K (tX X.K W (pD X.K) f) σ H Q ∨ tRevL X.K (tX X.K W (pD X.K) f) σ H Q) :=
    ⟨fun pins s σ H Q I q => q.elim ((pe_revT he).run pins s σ H Q I) ((pe_revL he).run pins s σ H Q I)⟩
  refine key.imp fun σ H Q ⟨l, m, S, R, q⟩ => ?_
  unfold e1 at q
  cases e1 : f l S with
  | bad => rw [e1] at q; exact q.elim
  | ex C fs S1 =>
    rw [e1] at q
    refine .inl ⟨l, m, S, R, ?_⟩
    rw [e1]; exact q
  | ok d S1 =>
    rw [e1] at q
    have q : post X.K W (pD X.K) σ m H Q (oRev d S1) := q
    cases d with
    | tup xs =>
      refine .inl ⟨l, m, S, R, ?_⟩
      rw [e1]
      intro v H1 m1 E1 R1 V1
      simp only [VR] at V1
      obtain ⟨a, vs, rfl, h1, h2⟩ := V1
      exact ⟨a, vs, rfl, h1, fun t ob ht hd => q _ _ m1 (E1.trans (Ext.tmp ht)) (R1.tmp ht) (VR.tupNew ht hd h2.reverse)⟩
    | ref n =>
      refine .inr ⟨l, m, S, R, ?_⟩
      rw [e1]
      intro v H1 m1 E1 R1 V1
      simp only [oRev] at q
      cases hn : S1[n]? with
      | none => rw [hn] at q; exact q.elim
      | some ob =>
        cases ob with
        | lst xs =>
          rw [hn] at q
          obtain ⟨a, rfl, _, _, vs, h1, h2⟩ := R1.ref hn V1
          refine ⟨a, vs, rfl, SqL.of h1, fun t ht => ?_⟩
          obtain ⟨s', e', r'⟩ := R1.newList ht h2.reverse
          exact q _ _ _ (E1.trans e') s' r'
        | _ => rw [hn] at q; exact q.elim
    | _ => exact q.elim
end
end Pz

set_option Elab.async false
set_option linter.all false
set_option maxRecDepth 100000
set_option maxHeartbeats 4000000
/-! Pz14: repr, {..}.get(k, d). -/
namespace Pz
open PySem PySem.Spec PyProof.Rows L2

/-! ### repr -/
mutual
inductive Dr (K : PySem.W.Frag) (H : Hp) : V → PyData → Prop
  | non : Dr K H .non .none
  | bl (b : Bool) : Dr K H (.bl b) (.bool b)
  | int (i : Int) : Dr K H (.int i) (.int i)
  | str (x : Str) : Dr K H (.str x) (.str x)
  | lst {a : Addr} {xs : List V} {ds : List PyData} : H a = some (.lst xs) → DrAll K H xs ds → Dr K H (.ref a) (.list ds)
  | tup {a : Addr} {xs : List V} {ds : List PyData} : SqT K H a xs → DrAll K H xs ds → Dr K H (.ref a) (.tuple ds)
  | dic {a : Addr} : H a = some (.dK []) → Dr K H (.ref a) (.dict [])
inductive DrAll (K : PySem.W.Frag) (H : Hp) : List V → List PyData → Prop
  | nil : DrAll K H [] []
  | cons {v : V} {vs : List V} {d : PyData} {ds : List PyData} : Dr K H v d → DrAll K H vs ds → DrAll K H (v :: vs) (d :: ds)
end
section
variable {X : Cx} {pins : List (Addr × Obj)} {σ : L2.St} {H : Hp} {s : Shared}
mutual
theorem Dr.reads (I : Inv X pins σ H s) (hs : ∃ o u, H sysModules = some (.frz o u)) : ∀ (d : PyData) (v : V) (u : Value), Dr X.K H v d → RelV v u → ∃ as, Reads s.heap u d as ∧ sysModules ∉ as
  | .none, _, _, h, r => by cases h; cases r; exact ⟨_, .none, by simp⟩
  | .bool b, _, _, h, r => by cases h; cases r; exact ⟨_, .bool b, by simp⟩
  | .int i, _, _, h, r => by cases h; obtain ⟨t, rfl⟩ := r; exact ⟨_, .int i t, by simp⟩
  | .str x, _, _, h, r => by cases h; obtain ⟨t, rfl⟩ := r; exact ⟨_, .str x t, by simp⟩
  | .list ds, _, _, h, r => by
    cases h with
    | @lst a xs _ ha hd =>
      cases r
      obtain ⟨its, rv, ⟨o, n, ho, hc, _, hdt⟩, _⟩ := I.list (SqL.of ha)
      obtain ⟨as, h1, h2⟩ := Dr.readsAll I hs ds _ its hd rv
      refine ⟨_, .list ho hc hdt h1, fun hm => ?_⟩
      rcases List.mem_cons.mp hm with e | hm
      · obtain ⟨o', u', hs⟩ := hs
        rw [e, ha] at hs
        cases hs
      · exact h2 hm
  | .tuple ds, _, _, h, r => by
    cases h with
    | tup ha hd =>
      cases r
      obtain ⟨its, rv, ⟨o, ho, hc, n, hdt⟩, _⟩ := I.tuple ha
      obtain ⟨as, h1, h2⟩ := Dr.readsAll I hs ds _ its hd rv
      exact ⟨_, .tuple ho hc hdt h1, h2⟩
  | .dict kvs, _, _, h, r => by
    cases h with
    | @dic a ha =>
      cases r
      obtain ⟨_, h1, vs, h2, o, es, ep, h3, h4, h5, _, h6, _⟩ := I.hok a _ ha
      cases h2
      have he : es.toList = [] := by
        generalize es.toList = l at h6
        cases l with
        | nil => rfl
        | cons x xs => cases h6
      refine ⟨_, .dict h3 h4.1 h5 (by rw [he]; exact .nil) (by rw [he]; exact .nil), ?_⟩
      simp only [List.append_nil, List.mem_singleton]
      intro e
      rw [← e] at h1
      simp at h1
theorem Dr.readsAll (I : Inv X pins σ H s) (hs : ∃ o u, H sysModules = some (.frz o u)) : ∀ (ds : List PyData) (vs : List V) (us : List Value), DrAll X.K H vs ds → Vals vs us → ∃ as, ReadsAll s.heap us ds as ∧ sysModules ∉ as
  | [], _, _, h, r => by cases h; cases r; exact ⟨_, .nil, by simp⟩
  | d :: ds, _, _, h, r => by
    cases h with
    | cons h1 h2 =>
      cases r with
      | cons r1 r2 =>
        obtain ⟨as, q1, n1⟩ := Dr.reads I hs d _ _ h1 r1
        obtain ⟨bs, q2, n2⟩ := Dr.readsAll I hs ds _ _ h2 r2
        exact ⟨_, .cons q1 q2, fun hm => (List.mem_append.mp hm).elim n1 n2⟩
end
end
def rRepr (K : PySem.W.Frag) : List V → Hp → VK → Prop := fun xs H Q => ∃ v d, xs = [v] ∧ Dr K H v d ∧ (∃ o u, H sysModules = some (.frz o u)) ∧ d.showable = true ∧ d.depth ≤ 60 ∧ d.shown.length ≤ sizeLine ∧ Q (.str d.shown) H
theorem call_repr {X : Cx} (hg : X.A.guards = some []) (hu : X.A.units + 64 < cLine) : CallR X (.builtin "repr") (rRepr X.K) := by
  intro pins s σ H xs us Q I r ⟨v, d, e, hd, hs, h1, h2, h3, q⟩
  subst e
  obtain ⟨u, rfl, rv⟩ := vals1 r
  obtain ⟨as, hr, hn⟩ := Dr.reads I hs d v u hd rv
  have big : ∀ a, u = .ref a → wpAny (model X.prog X.w) X.A (call (.builtin "repr") [u]) (EP X pins σ Q) X.xe s := fun a e => by
    subst e
    exact repr_of_reads' hr h1 (fun _ => hn) hg (by omega) (fun _ _ e => e) (fun h' u' tk hk => ⟨.str _, H, I.kept (t' := tk) hk, ⟨u', rfl⟩, q⟩) h3
  cases hd with
  | non => cases rv; exact PySem.P.repr_of_none ⟨.str _, H, I.tok _, ⟨_, rfl⟩, q⟩
  | bl b => cases rv; exact PySem.P.repr_of_bool ⟨.str _, H, I.tok _, ⟨_, rfl⟩, q⟩
  | int i =>
    obtain ⟨t, rfl⟩ := rv
    exact PySem.P.repr_of_int (by simpa [PyData.showable] using h1) ⟨.str _, H, I.tok _, ⟨_, rfl⟩, q⟩
  | str x => obtain ⟨t, rfl⟩ := rv; exact PySem.P.repr_of_str ⟨.str _, H, I.tok _, ⟨_, rfl⟩, q⟩ h3
  | lst _ _ => exact big _ rv
  | tup _ _ => exact big _ rv
  | dic _ => exact big _ rv
section
variable {X : Cx} {W : WX} {a b c e : Expr} {rest es : List Expr} {f g h : FE} {p pos : Pos} {K : PySem.W.Frag} {m m' : List Addr} {H H' : Hp} {S S' : Sto} {q s : FQ}
def toPyR : Nat → Sto → D → Option PyData
  | 0, _, _ => none
  | n + 1, S, d => match d with
    | .non => some .none
    | .bl b => some (.bool b)
    | .int i => some (.int i)
    | .str s => some (.str s)
    | .tup xs => (mapO (toPyR n S) xs).map .tuple
    | .ref k => match S[k]? with
      | some (.lst xs) => (mapO (toPyR n S) xs).map .list
      | some (.dk []) => some (.dict [])
      | _ => none
    | _ => none
theorem mapO_dr {f : D → Option PyData} (hf : ∀ d v p, VR K m H d v → f d = some p → Dr K H v p) : ∀ (ds : List D) (vs : List V) (ps : List PyData), VRs K m H ds vs → mapO f ds = some ps → DrAll K H vs ps
  | [], vs, ps, h, e => by
    simp only [VRs] at h
    subst h
    simp only [mapO, Option.some.injEq] at e
    subst e
    exact .nil
  | d :: ds, vs, ps, h, e => by
    simp only [VRs] at h
    obtain ⟨v, r, rfl, h1, h2⟩ := h
    unfold mapO at e
    split at e
    · rename_i y ys e1 e2
      cases e
      exact .cons (hf d v y h1 e1) (mapO_dr hf ds r ys h2 e2)
    · cases e
theorem toPyR_dr (s : SR K m H S) : ∀ (n : Nat) (d : D) (v : V) (p : PyData), VR K m H d v → toPyR n S d = some p → Dr K H v p
  | 0, _, _, _, _, e => by simp only [toPyR] at e; cases e
  | n + 1, d, v, p, r, e => by
    cases d with
    | non => simp only [toPyR, Option.some.injEq] at e; simp only [VR] at r; subst e r; exact .non
    | bl _ => simp only [toPyR, Option.some.injEq] at e; simp only [VR] at r; subst e r; exact .bl _
    | int _ => simp only [toPyR, Option.some.injEq] at e; simp only [VR] at r; subst e r; exact .int _
    | str _ => simp only [toPyR, Option.some.injEq] at e; simp only [VR] at r; subst e r; exact .str _
    | tup xs =>
      simp only [toPyR, Option.map_eq_some_iff] at e
      obtain ⟨ps, e1, rfl⟩ := e
      simp only [VR] at r
      obtain ⟨a, vs, rfl, h1, h2⟩ := r
      exact .tup h1 (mapO_dr (fun d v p => toPyR_dr s n d v p) xs vs ps h2 e1)
    | ref k =>
      simp only [toPyR] at e
      split at e
      · rename_i xs hk
        obtain ⟨ps, e1, rfl⟩ := Option.map_eq_some_iff.mp e
        obtain ⟨a, rfl, _, _, vs, h1, h2⟩ := s.ref hk r
        exact .lst h1 (mapO_dr (fun d v p => toPyR_dr s n d v p) xs vs ps h2 e1)
      · rename_i hk
        cases e
        obtain ⟨a, rfl, _, _, vs, h1, h2⟩ := s.ref hk r
        simp only [AR] at h2
        subst h2
        exact .dic h1
      · cases e
    | fn _ => simp only [toPyR] at e; cases e
    | rl _ => simp only [toPyR] at e; cases e
def reprD (S : Sto) (d : D) : Option Str := match toPyR 40 S d with
  | some q => if q.showable && decide (q.depth ≤ 60) && decide (q.shown.length ≤ sizeLine) then some q.shown else none
  | none => none
def oRepr (d : D) (S : Sto) : Out D := match reprD S d with
  | some t => .ok (.str t) S
  | none => .bad
theorem me_repr (hg' : X.A.guards = some []) (hu : X.A.units + 64 < cLine) (hg : Gl X "repr") (hm : X.mg "repr" = none) (hb : bootBuiltins "repr" = some (.builtin "repr")) (he : ME X W e f) (s1 : starEach [e] X.env = (false, eval e X.env) :: starEach [] X.env := by rfl) (hpl : (backTo pos (starEach [] X.env)).any (·.1) = false := by rfl) : ME X W (.Call (.Name "repr" p) [e] [] pos) (eB1 oRepr f) :=
  call1B (call_repr hg' hu) (fun W σ m H H0 S x v Q R V q => by
    unfold oRepr at q
    split at q
    · rename_i t ht
      unfold reprD at ht
      split at ht
      · rename_i d hd
        split at ht
        · rename_i hc
          cases ht
          simp only [Bool.and_eq_true, decide_eq_true_eq] at hc
          exact ⟨v, d, rfl, toPyR_dr R _ _ _ _ V hd, R.sys, hc.1.1, hc.1.2, hc.2, q _ H m .refl R (by simp only [VR])⟩
        · cases ht
      · cases ht
    · exact q.elim) anti_D hg hm hb he (by decide) (by decide) s1 hpl

/-! ### {'a': e, ..}.get(k, d): the dict is only on its way -/
/-- the pairs, from the left -/
abbrev FP := Loc → Sto → Out (List (Key × D))
def pP (K : PySem.W.Frag) : PRel (List (Key × D)) (List (V × V)) := fun _ m H ds ps => ∃ kvs : List (Key × V), ps = kvs.map (fun kv => (kV kv.1, kv.2)) ∧ AR K m H ds kvs
structure MP (X : Cx) (W : WX) (pos : Pos) (ks : List (Option Expr)) (vs : List Expr) (f : FP) : Prop where
  ex : ∃ trs, PPs X pos ks vs trs ∧ ∀ σ H Q, tX X.K W (pP X.K) f σ H Q → tPairs trs σ H Q
def keyD : D → Option Key
  | .int i => some (.inl i)
  | .str x => some (.inr x)
  | _ => none
theorem keyD_ok {d : D} {v : V} {k : Key} (h : keyD d = some k) (r : VR K m H d v) : v = kV k := by
  cases d with
  | int i => cases h; simp only [VR] at r; subst r; rfl
  | str i => cases h; simp only [VR] at r; subst r; rfl
  | _ => cases h
def pNil : FP := fun _ S => .ok [] S
def pCons (f g : FE) (r : FP) : FP := fun l S => (f l S).bind fun k S1 => (g l S1).bind fun v S2 => (r l S2).bind fun kvs S3 => match keyD k with
  | some k => .ok ((k, v) :: kvs) S3
  | none => .bad
theorem mp_nil : MP X W pos [] [] pNil := ⟨⟨[], pps_nil, fun σ H Q ⟨l, m, S, R, q⟩ => q [] H m .refl R.sr ⟨[], rfl, rfl⟩⟩⟩
theorem anti_P {K : PySem.W.Frag} : Anti (pP K) := fun _ _ _ _ _ _ _ h => h
theorem mp_cons {k v : Expr} {ks : List (Option Expr)} {vs : List Expr} {r : FP} (hk : ME X W k f) (hv : ME X W v g) (hr : MP X W pos ks vs r) : MP X W pos (some k :: ks) (v :: vs) (pCons f g r) := by
  obtain ⟨trs, h1, h2⟩ := hr.ex
  refine ⟨⟨_, pps_cons hk hv h1, fun σ H Q ⟨l, m, S, R, q⟩ => ⟨l, m, S, R, post.bind (PR := pD X.K) anti_P q fun x S1 w H1 m1 E1 R1 V1 q1 => ⟨l, m1, S1, R.ext E1 R1, post.bind (PR := pD X.K) anti_P q1 fun y S2 u H2 m2 E2 R2 V2 q2 =>
    h2 σ H2 _ ⟨l, m2, S2, R.ext (E1.trans E2) R2, post.bind (PR := pP X.K) anti_P q2 fun kvs S3 ps H3 m3 E3 R3 ⟨us, e1, V3⟩ q3 => ?_⟩⟩⟩⟩⟩
  split at q3
  · rename_i kk hkk
    subst e1
    rw [keyD_ok hkk (VR.ext (E2.trans E3) _ _ V1)]
    exact q3 _ H3 m3 .refl R3 ⟨(kk, u) :: us, rfl, ⟨u, us, rfl, VR.ext E3 _ _ V2, V3⟩⟩
  · exact q3.elim
/-- putting by key, over data -/
def putD (kvs : List (Key × D)) (k : Key) (v : D) : List (Key × D) := if (kvs.any fun kv => decide (kv.1 = k)) = true then kvs.map (fun kv => if kv.1 = k then (kv.1, v) else kv) else kvs ++ [(k, v)]
def getD (kvs : List (Key × D)) (k : Key) : Option D := (kvs.find? fun kv => decide (kv.1 = k)).map (·.2)
def mergeD (kvs more : List (Key × D)) : List (Key × D) := more.foldl (fun acc kv => putD acc kv.1 kv.2) kvs
theorem AR.any {k : Key} : ∀ {ds : List (Key × D)} {us : List (Key × V)}, AR K m H ds us → (us.any fun kv => decide (kv.1 = k)) = ds.any fun kv => decide (kv.1 = k)
  | [], _, h => by simp only [AR] at h; subst h; rfl
  | (j, d) :: ds, _, h => by
    obtain ⟨v, q, rfl, h1, h2⟩ := h
    rw [List.any_cons, List.any_cons, AR.any h2]
theorem AR.put {k : Key} {d : D} {v : V} (r : VR K m H d v) {ds : List (Key × D)} {us : List (Key × V)} (h : AR K m H ds us) : AR K m H (putD ds k d) (putK us k v) := by
  unfold putD putK
  rw [h.any]
  split
  · exact go h
  · exact ap h
where
  go : ∀ {ds : List (Key × D)} {us : List (Key × V)}, AR K m H ds us → AR K m H (ds.map fun kv => if kv.1 = k then (kv.1, d) else kv) (us.map fun kv => if kv.1 = k then (kv.1, v) else kv)
    | [], _, h => by simp only [AR] at h; subst h; rfl
    | (j, x) :: ds, _, h => by
      obtain ⟨w, q, rfl, h1, h2⟩ := h
      rw [List.map_cons, List.map_cons]
      by_cases e : j = k
      · simp only [e, if_true]
        exact ⟨v, _, rfl, r, go h2⟩
      · simp only [e, if_false]
        exact ⟨w, _, rfl, h1, go h2⟩
  ap : ∀ {ds : List (Key × D)} {us : List (Key × V)}, AR K m H ds us → AR K m H (ds ++ [(k, d)]) (us ++ [(k, v)])
    | [], _, h => by simp only [AR] at h; subst h; exact ⟨v, [], rfl, r, rfl⟩
    | (j, x) :: ds, _, h => by
      obtain ⟨w, q, rfl, h1, h2⟩ := h
      exact ⟨w, _, rfl, h1, ap h2⟩
theorem AR.merge : ∀ (ds : List (Key × D)) {es : List (Key × D)} {us vs : List (Key × V)}, AR K m H ds us → AR K m H es vs → AR K m H (mergeD es ds) (mergeK vs us) := by
  intro ds
  induction ds with
  | nil => intro es us vs h t; simp only [AR] at h; subst h; exact t
  | cons x ds ih =>
    intro es us vs h t
    obtain ⟨j, x⟩ := x
    obtain ⟨w, q, rfl, h1, h2⟩ := h
    show AR K m H (mergeD (putD es j x) ds) (mergeK (putK vs j w) q)
    exact ih h2 (AR.put h1 t)
theorem AR.get {k : Key} : ∀ {ds : List (Key × D)} {us : List (Key × V)}, AR K m H ds us → (Pz.getD ds k = none ∧ valV us k = none) ∨ ∃ d v, Pz.getD ds k = some d ∧ valV us k = some v ∧ VR K m H d v
  | [], _, h => by simp only [AR] at h; subst h; exact .inl ⟨rfl, rfl⟩
  | (j, x) :: ds, _, h => by
    obtain ⟨w, q, rfl, h1, h2⟩ := h
    by_cases e : j = k
    · refine .inr ⟨x, w, ?_, ?_, h1⟩
      · simp [Pz.getD, List.find?_cons, e]
      · exact valV_pos e
    · have e1 : Pz.getD ((j, x) :: ds) k = Pz.getD ds k := by simp [Pz.getD, List.find?_cons, e]
      rw [e1, valV_neg (p := (j, w)) (r := q) e]
      exact AR.get h2
def oGet (kvs : List (Key × D)) (k d : D) (S : Sto) : Out D := match keyD k with
  | some k => .ok ((Pz.getD (mergeD [] kvs) k).getD d) S
  | none => .bad
def eDispGet (r : FP) (f g : FE) : FE := fun l S => (r l S).bind fun kvs S1 => if kvs.length ≤ 15 then (f l S1).bind fun k S2 => (g l S2).bind fun d S3 => oGet kvs k d S3 else .bad
theorem post.bind0 {α β γ δ : Type} {PR : PRel α β} {PR' : PRel γ δ} {σ : L2.St} {Q : β → Hp → Prop} {Q' : δ → Hp → Prop} {f : α → Sto → Out γ} : ∀ {o : Out α}, post K W PR' σ m H Q' (o.bind f) →
    (∀ a S1 v H1 m1, Ext m H m1 H1 → SR K m1 H1 S1 → PR H m1 H1 a v → post K W PR' σ m H Q' (f a S1) → Q v H1) → post K W PR σ m H Q o
  | .ok a S1, h, k => fun v H1 m1 e s r => k a S1 v H1 m1 e s r h
  | .ex _ _ _, h, _ => h
  | .bad, h, _ => h
theorem post.from {α β : Type} {PR : PRel α β} {σ : L2.St} {Q : β → Hp → Prop} {m0 : List Addr} {H0 : Hp} : ∀ {o : Out α}, post K W PR σ m0 H0 Q o → post K W (fun _ => PR H0) σ m0 H0 Q o
  | .ok _ _, h => h
  | .ex _ _ _, h => h
  | .bad, h => h
/-- a dict outside the store is written -/
theorem SR.overD {t : Addr} {o o' : HO} (s : SR K m H S) (ht : H t = some o) (ho : Mu (some o)) (hn : t ∉ m) : SR K m (upd H t o') S := by
  have nt : ∀ {a xs}, H a = some (.tup xs) → a ≠ t := fun {a xs} h z => ho.1 xs (by rw [← ht, ← z]; exact h)
  have nf : ∀ {a ob u}, H a = some (.frz ob u) → a ≠ t := fun {a ob u} h z => ho.2 ob u (by rw [← ht, ← z]; exact h)
  refine ⟨s.len, s.nd, fun n ob hob => ?_, ?_⟩
  · obtain ⟨a, h1, h2⟩ := s.at n ob hob
    have ha : a ≠ t := fun e => hn (by rw [← e]; exact List.mem_of_getElem? h1)
    refine ⟨a, h1, ?_⟩
    have kt : ∀ a xs, H a = some (.tup xs) → (upd H t o') a = some (.tup xs) := fun a xs h => by rw [upd_ne (nt h)]; exact h
    have kf : ∀ a ob u, H a = some (.frz ob u) → (upd H t o') a = some (.frz ob u) := fun a ob u h => by rw [upd_ne (nf h)]; exact h
    cases ob with
    | lst xs => obtain ⟨vs, h3, h4⟩ := h2; exact ⟨vs, by rw [upd_ne ha]; exact h3, VRs.mono (fun _ _ h => h) kt kf _ _ h4⟩
    | dk xs => obtain ⟨vs, h3, h4⟩ := h2; exact ⟨vs, by rw [upd_ne ha]; exact h3, AR.mono (fun _ _ h => h) kt kf _ _ h4⟩
    | ins C fs => obtain ⟨dx, vs, h3, h4⟩ := h2; exact ⟨dx, vs, by rw [upd_ne ha]; exact h3, AR.mono (fun _ _ h => h) kt kf _ _ h4⟩
    | dn xs => obtain ⟨vs, h3, h4⟩ := h2; exact ⟨vs, by rw [upd_ne ha]; exact h3, AR.mono (fun _ _ h => h) kt kf _ _ h4⟩
  · obtain ⟨ob, u, h⟩ := s.sys
    exact ⟨ob, u, by rw [upd_ne (nf h)]; exact h⟩
theorem AR.overD {κ : Type} {t : Addr} {o o' : HO} (ht : H t = some o) (ho : Mu (some o)) {ds : List (κ × D)} {us : List (κ × V)} (h : AR K m H ds us) : AR K m (upd H t o') ds us :=
  AR.mono (fun _ _ h => h) (fun a xs h => by rw [upd_ne (fun z => ho.1 xs (by rw [← ht, ← z]; exact h))]; exact h) (fun a ob u h => by rw [upd_ne (fun z => ho.2 ob u (by rw [← ht, ← z]; exact h))]; exact h) _ _ h
theorem me_dispGet {ks : List (Option Expr)} {vs : List Expr} {p1 apos cpos : Pos} {r : FP} (hu : X.A.units + 64 < cLine) (hr : MP X W p1 ks vs r) (ha : ME X W a f) (hb : ME X W b g) (mm : M2 X (.Dict ks vs p1) "get" apos a b cpos) (hall : ks.all (·.isSome) = true := by rfl) (hl : ks.length = vs.length := by rfl) (h0 : ks ≠ [] := by simp) (h15 : ks.length ≤ 15 := by decide) :
    ME X W (.Call (.Attribute (.Dict ks vs p1) "get" apos) [a, b] [] cpos) (eDispGet r f g) := by
  obtain ⟨trs, h1, h2⟩ := hr.ex
  refine (pe_dget2 (by omega) (pe_disp h1 hall hl h0 h15) ha hb mm).imp fun σ H Q ⟨l, m, S, R, q⟩ t ht => ?_
  have Et : Ext m H m (upd H t (.dK [])) := Ext.tmp ht
  have hnt0 : t ∉ m := R.sr.notin ht
  refine h2 σ _ _ ⟨l, m, S, R.ext Et (R.sr.tmp ht), ?_⟩
  unfold eDispGet at q
  cases e0 : r l S with
  | bad => rw [e0] at q; exact q.elim
  | ex C fs S1 => rw [e0] at q; exact post.mono (PR := pD X.K) anti_D Et (o := .ex C fs S1) q
  | ok kvs S1 =>
    rw [e0] at q
    intro ps H1 m1 E1 R1 ⟨us, e1, V1⟩
    subst e1
    have hnt : t ∉ m1 := E1.notin hnt0 (by rw [upd_same]; exact fun z => by cases z)
    have ht1 : H1 t = some (.dK []) := E1.oth _ _ upd_same hnt0
    have q : post X.K W (pD X.K) σ m H Q (if kvs.length ≤ 15 then (f l S1).bind fun k S2 => (g l S2).bind fun d S3 => oGet kvs k d S3 else .bad) := q
    split at q
    · rename_i hz
      have mu : Mu (some (HO.dK [])) := ⟨fun _ z => (by cases z), fun _ _ z => (by cases z)⟩
      have E2 : Ext m H m1 (upd H1 t (.dK (mergeK [] us))) := Ext.over1 ht (Et.trans E1)
      have R2 : SR X.K m1 (upd H1 t (.dK (mergeK [] us))) S1 := SR.overD R1 ht1 mu hnt
      have V2 : AR X.K m1 (upd H1 t (.dK (mergeK [] us))) (mergeD [] kvs) (mergeK [] us) := AR.overD ht1 mu (AR.merge _ V1 rfl)
      refine ⟨ht1, us, rfl, by rw [V1.length]; exact hz, t, rfl, .inl ⟨_, .inl upd_same⟩, l, m1, S1, R.ext E2 R2, post.bind (PR := pD X.K) anti_D (post.mono anti_D E2 q) fun k S2 kv H2 m2 E3 R3 V3 q2 =>
        ⟨l, m2, S2, R.ext (E2.trans E3) R3, post.bind (PR := pD X.K) anti_D q2 fun d S3 dv H3 m3 E4 R4 V4 q3 => ?_⟩⟩
      unfold oGet at q3
      split at q3
      · rename_i kk hkk
        have hd3 : H3 t = some (.dK (mergeK [] us)) := (E3.trans E4).oth _ _ upd_same hnt
        have V5 := AR.ext (E3.trans E4) _ _ V2
        rw [keyD_ok hkk V3]
        refine ⟨_, DGet.k hd3, ?_⟩
        rcases AR.get (k := kk) V5 with ⟨g1, g2⟩ | ⟨x, w, g1, g2, g3⟩
        · rw [g1] at q3; rw [g2]; exact q3 _ H3 m3 .refl R4 V4
        · rw [g1] at q3; rw [g2]; exact q3 _ H3 m3 .refl R4 g3
      · exact q3.elim
    · exact q.elim
end
end Pz

set_option Elab.async false
set_option linter.all false
set_option maxRecDepth 100000
set_option maxHeartbeats 4000000
/-! Pz15: the law itself, called where nothing shows itself (so repr may be asked), and the end. -/
namespace Pz
open PySem PySem.Spec PyProof.Rows L2
/-- a def that may ask repr: it is called where no repr is under way -/
structure FnG (P : Program) (w : World) (K : PySem.W.Frag) (mg : Str → Option Value) (base : Heap) (k : Nat) (f : Addr) (fd : FuncData) (ps : List Str) (sp : Sp) : Prop where
  len : ∀ vs H Q E, sp vs H Q E → vs.length = ps.length
  run : ∀ (A : Around) (outer : List Env) (s : Shared) (H : Hp) (args : Args) (us : List Value) (vs : List V) (Q : VK) (E : XK), Room k A → A.guards = some [] → Env0 P w K mg base A outer s H → BindsTo s fd args (ps.zip us) → Vals vs us → sp vs H Q E →
    codeAny (model P w) A (.call (.ref f) args) (CR (L2.CX P w) outer P w H s Q E) s
section
variable {P : Program} {w : World} {K : PySem.W.Frag} {mg : Str → Option Value} {base : Heap}
theorem fnG_ok {x qual : Str} {st : Stmt} {f : Addr} {fd : FuncData} {N ps : List Str} {k : Nat} {b : FS} (F : Fun K x qual st f fd) (sc : FnScope N ps (defScope st))
    (hbody : ∀ (cdv : Value) (A : Around) (outer : List Env) (s : Shared) (H : Hp) (E : XK), Room k (cxB P w K mg base N qual st f cdv A outer s H E).A → (cxB P w K mg base N qual st f cdv A outer s H E).A.guards = some [] → MSs (cxB P w K mg base N qual st f cdv A outer s H E) (wE E) (defBody st) b) : FnG P w K mg base (k + 1) f fd ps (spF K (runF ps.length N.length b)) := by
  obtain ⟨oc, od, kV, doc, pm, an, cdv, ct, osl, rfl, lk, hcd⟩ := F.ex
  refine ⟨fun vs H Q E h => spF_len h, fun A outer s H args us vs Q E hr hga e0 hb r hsp => ?_⟩
  have hlen : vs.length = ps.length := spF_len hsp
  have kin : K.In s.heap := e0.mod.kin.keeps fun b o q => (e0.bs b o q).1
  have nol : s.heap.NoLimit := e0.mod.nolimit.keeps fun b o q => (e0.bs b o q).1
  refine codeAny_call_function hr.depth (kin _ _ lk) rfl sc.co sc.gen rfl (PySem.W.codeRec_of kin hcd) (hb _ _ _ _ ?_)
  refine wpAny_newFunctionEnv_cells sc.kind (fun y hy => ?_) fun env he s1 x => ?_
  · rcases sc.par y.1 (List.of_mem_zip hy).1 with q | q
    · exact .inl q
    · exact .inr ⟨q, PySem.W.cellsFrom_some _ _ _ (.inl q)⟩
  subst he
  refine ⟨nol.keeps x.toInCall.keep, codeAny_func ?_⟩
  obtain ⟨ds, m, S, h1, h2, h3⟩ := hsp
  have I : Inv (cxB P w K mg base N qual st f cdv A outer s H E) [] (L2.start N vs) H s1 := inv_start sc hr.hd e0 hlen r x
  unfold runF at h3
  split at h3
  · rename_i hl
    rw [← hl] at h3
    have goal : tS K (wE E) b { nx := fun _ H' => Q .non H', rt := Q } (L2.start N vs) H := by
      refine ⟨_, m, S, Rel.start h2 h1, ?_⟩
      split at h3
      · rename_i d S' e
        rw [e]
        exact fun v H' m' e1 s1 r1 => gc_ok h2 h3 e1 s1 r1
      · rename_i l S' e
        rw [e]
        exact fun σ' H' m' e1 r1 => gc_ok h2 h3 e1 r1.sr (by simp only [VR])
      · rename_i l C fs S' e
        rw [e]
        exact fun cls dd σ' H' m' e1 r1 x1 => gcX_ok (W := wE E) (σ := []) h2 h3 e1 r1.sr x1
      · exact h3.elim
    refine wpAny_mono ((hbody cdv A outer s H E (hr.deeper _) hga).run [] s1 _ H _ I goal) (fun fl s2 hs => ?_) fun e s2 hs => hs
    cases fl with
    | ret u =>
      obtain ⟨v, σ2, H2, J, rv, q⟩ := hs
      exact ⟨v, H2, J.os, J.bare, J.base, J.hok, rv, q⟩
    | next =>
      obtain ⟨σ2, H2, J, q⟩ := hs
      exact ⟨V.non, H2, J.os, J.bare, J.base, J.hok, rfl, q⟩
    | brk => obtain ⟨_, _, _, q⟩ := hs; exact q.elim
    | cont => obtain ⟨_, _, _, q⟩ := hs; exact q.elim
  · exact h3.elim
/-- THE END: the law's call over the heap that the top leaves -/
theorem law_run {mb : Str → Option Value} {s₁ : Shared} {a fa : Addr} {fd : FuncData} {x : Str} {k : Nat} {vs : List Value} {ns : List Int} {F : List D → Sto → Out D}
    (KX : K.In s₁.heap) (hns : s₁.heap.Ns mainGlobals mg) (hb : s₁.heap.Ns builtinsNs mb) (hbb : ∀ x : Str, x ≠ "__name__" → mb x = bootBuiltins x) (hlim : s₁.heap.NoLimit) (hsys : ∃ mm, s₁.heap.Ns sysModules mm) (hk1 : K.lookup sysModules = none) (hg : s₁.gens = #[])
    (ha : s₁.heap.get? a = some { cls := .type "list", data := .seq vs.toArray }) (hi : IntsAre vs ns) (hl : ns.length ≤ sizeLine) (hr : Room k callerA)
    (G : ∀ base : Heap, K.In base → base.Ns mainGlobals mg → FnG P w K mg base k fa fd [x] (spF K F)) (hbind : ∀ (s : Shared) (u : Value), BindsTo s fd ⟨[u], []⟩ [(x, u)])
    (hF : ∃ S, F [.rl (ns.map D.int)] [] = .ok (.bl true) S) :
    codeAny (model P w) callerA (.call (.ref fa) ⟨[.ref a], []⟩) (fun r s' => r = .ok (.ret (.bool true)) ∧ OldK s₁.heap s'.heap ∧ s'.os = s₁.os ∧ AllBare s'.gens) s₁ := by
  have rv := vals_ints hi
  have lv := hi.length
  obtain ⟨mm, o1, es1, ep1, g1, d1, _⟩ := hsys
  have ha1 : a ≠ sysModules := fun q => by
    rw [q, g1] at ha
    cases ha
    have z : Data.seq vs.toArray _ = Data.dict es1 ep1 := d1
    cases z
  have core : ∀ H : Hp, (∀ b, H b = none ∨ ∃ o u, H b = some (.frz o u)) → (∃ u, H sysModules = some (.frz o1 u)) → SqF K H a (ns.map V.int) → HOk P w H s₁.heap → (∀ b, H b ≠ none → b = a ∨ b = sysModules) → (H a ≠ none → K.lookup a = none) →
      codeAny (model P w) callerA (.call (.ref fa) ⟨[.ref a], []⟩) (fun r s' => r = .ok (.ret (.bool true)) ∧ OldK s₁.heap s'.heap ∧ s'.os = s₁.os ∧ AllBare s'.gens) s₁ := by
    intro H hO hH1 hS hok hA hK
    have noH : ∀ {b : Addr} {m : Str → Option Value}, b ≠ sysModules → s₁.heap.Ns b m → H b = none := fun {b m} hb1 ⟨o, es, ep, e, d, _⟩ => by
      cases q : H b with
      | none => rfl
      | some u =>
        rcases hA b (by rw [q]; exact fun z => by cases z) with z | z
        · rw [z, ha] at e
          cases e
          have z : Data.seq vs.toArray _ = Data.dict es ep := d
          cases z
        · exact absurd z hb1
    have nsK : ∀ {b : Addr} {m : Str → Option Value}, b ≠ sysModules → s₁.heap.Ns b m → (hidT s₁.heap H).Ns b m := fun {b m} hb1 hn => by
      have := noH hb1 hn
      obtain ⟨o, es, ep, e, d, r⟩ := hn
      exact ⟨o, es, ep, hidT_get e this, d, r⟩
    have hKb : K.In (hidT s₁.heap H) := fun b o e => hidT_get (KX b o e) (by
      cases q : H b with
      | none => rfl
      | some u =>
        rcases hA b (by rw [q]; exact fun z => by cases z) with z | z
        · rw [z] at e q
          rw [hK (by rw [q]; exact fun z => by cases z)] at e
          cases e
        · rw [z, hk1] at e
          cases e)
    have hM : Mod K mg (hidT s₁.heap H) := ⟨hKb, nsK (by decide) hns, ⟨mb, nsK (by decide) hb, hbb⟩, let ⟨mc, h1, h2⟩ := hlim; ⟨mc, nsK (by decide) h1, h2⟩⟩
    have e0 : Env0 P w K mg (hidT s₁.heap H) callerA [] s₁ H := ⟨rfl, hM, fun b o e => of_hidT e, Nat.le_of_eq (hidT_size _ _), trivial, fun b hb => (nomatch hb), hok, .of_eq hg⟩
    obtain ⟨S, hFS⟩ := hF
    have hsp : spF K F [.ref a] H (fun v _ => v = .bl true) (fun _ _ _ => False) :=
      ⟨[.rl (ns.map D.int)], [], [], .cons (by simp only [VR]; exact ⟨a, _, rfl, hS, VRs.of_ints ns⟩) .nil, ⟨rfl, List.nodup_nil, fun n o h => (by simp at h), let ⟨u, h⟩ := hH1; ⟨o1, u, h⟩⟩, by
        rw [hFS]
        exact fun v H' m' _ _ r => by simpa only [VR] using r⟩
    refine codeAny_mono ((G _ hKb (nsK (by decide) hns)).run callerA [] s₁ H ⟨[.ref a], []⟩ [.ref a] [.ref a] _ _ hr rfl e0 (hbind s₁ (.ref a)) (.cons rfl .nil) hsp) fun r s' h => ?_
    cases r with
    | error e =>
      obtain ⟨_, _, _, _, _, _, _, _, _, _, _, _, z⟩ := h
      exact z.elim
    | ok fl =>
      cases fl with
      | next => exact False.elim h
      | brk => exact False.elim h
      | cont => exact False.elim h
      | ret u =>
        obtain ⟨v, H', os, bare, un, hok', r', q⟩ := h
        subst q
        obtain rfl : u = Value.bool true := r'
        refine ⟨rfl, OldK.of_keep fun b o e => ?_, os, bare⟩
        rcases hO b with z | ⟨ob, u, z⟩
        · exact un.keep b o e z (fun q => nomatch q) (fun q => nomatch q)
        · obtain ⟨e1, _⟩ := hok b _ z
          obtain ⟨e2, _⟩ := hok' b _ (un.frzs b ob _ z)
          rw [e] at e1; cases e1
          exact e2
  have ok1 : ∀ H : Hp, ObjOk P w H s₁.heap sysModules (.frz o1 (.ext fun _ => True)) := fun H => ⟨g1, trivial, ⟨o1, g1⟩, fun _ _ _ _ => trivial⟩
  cases hk : K.lookup a with
  | some o =>
    have e := KX a o hk
    rw [ha] at e
    cases e
    refine core (fun b => if b = sysModules then some (.frz o1 (.ext fun _ => True)) else none) (fun b => ?_) ⟨_, if_pos rfl⟩ (.inr ⟨_, vs.toArray, _, hk, rfl, rfl, rfl, by rw [List.size_toArray, lv]; exact hl, by simpa using rv⟩) (fun b u z => ?_) (fun b z => ?_) fun z => absurd (if_neg ha1) z
    · by_cases q : b = sysModules
      · exact .inr ⟨_, _, if_pos q⟩
      · exact .inl (if_neg q)
    · by_cases q : b = sysModules
      · have z : some (HO.frz o1 (.ext fun _ => True)) = some u := (if_pos q).symm.trans z
        cases z
        rw [q]
        exact ok1 _
      · exact absurd ((if_neg q).symm.trans z) (fun z => by cases z)
    · by_cases q : b = sysModules
      · exact .inr q
      · exact absurd (if_neg q) z
  | none =>
    refine core (fun b => if b = sysModules then some (.frz o1 (.ext fun _ => True)) else if b = a then some (.frz { cls := .type "list", data := .seq vs.toArray } (.lst (ns.map V.int))) else none) (fun b => ?_) ⟨_, if_pos rfl⟩
      (.inl ⟨{ cls := .type "list", data := .seq vs.toArray }, by show (if a = sysModules then _ else _) = _; rw [if_neg ha1, if_pos rfl]⟩) (fun b u z => ?_) (fun b z => ?_) fun _ => hk
    · by_cases q : b = sysModules
      · exact .inr ⟨_, _, if_pos q⟩
      · by_cases q2 : b = a
        · exact .inr ⟨_, _, (if_neg q).trans (if_pos q2)⟩
        · exact .inl ((if_neg q).trans (if_neg q2))
    · by_cases q : b = sysModules
      · have z : some (HO.frz o1 (.ext fun _ => True)) = some u := (if_pos q).symm.trans z
        cases z
        rw [q]
        exact ok1 _
      · by_cases q2 : b = a
        · have z : some (HO.frz { cls := .type "list", data := .seq vs.toArray } (.lst (ns.map V.int))) = some u := ((if_neg q).trans (if_pos q2)).symm.trans z
          cases z
          subst q2
          exact ⟨ha, by rw [List.length_map]; exact hl, vs, _, rv, ha⟩
        · exact absurd (((if_neg q).trans (if_neg q2)).symm.trans z) (fun z => by cases z)
    · by_cases q : b = sysModules
      · exact .inr q
      · by_cases q2 : b = a
        · exact .inl q2
        · exact absurd ((if_neg q).trans (if_neg q2)) z
end
/-- the goal that the head leaves -/
theorem law_walk {l : PySem.W.OpenLaw} {n k : Nat} {q : Program} {loose : List Str} {XP : (Str → Option Value) → Heap → Prop} {YP : World → Heap → Prop} {d : DefRec} {K : Params → PySem.W.Frag} {x : Str} {F : List D → Sto → Out D}
    (hn : l.most = some n) (hn2 : n ≤ sizeLine) (hdf : d.params.defaults = []) (hr : Room k callerA) (hq : importsNone q = true)
    (hY : ∀ (w : World) (h : Heap), YP w h → (K w.params).In h) (hk1 : ∀ w : World, (K w.params).lookup sysModules = none)
    (G : ∀ (w : World) (mg : Str → Option Value) (fa : Addr) (h : Heap), (K w.params).In h → h.Ns mainGlobals mg → mg d.name = some (.ref fa) →
      ∃ fd : FuncData, (∀ (s : Shared) (u : Value), BindsTo s fd ⟨[u], []⟩ [(x, u)]) ∧ ∀ base : Heap, (K w.params).In base → base.Ns mainGlobals mg → FnG l.prog w (K w.params) mg base k fa fd [x] (spF (K w.params) F))
    (hF : ∀ ns : List Int, ns.length ≤ n → ∃ S, F [.rl (ns.map D.int)] [] = .ok (.bl true) S) :
    PySem.W.WalkO q loose XP YP l.row.toRowW d [] (fun f vs => PySem.call f vs) := by
  refine Att.attach_call hn hdf fun w s₀ s₁ mg mb fa o pm cd doc a vs ns Gr Y ho hd hcd hmg hobj hints hlen hg => ?_
  have KX := hY w _ Y
  obtain ⟨fd, hb, hG⟩ := G w mg fa _ KX Gr.T.g hmg
  obtain ⟨mm, hmm, _⟩ := (Gr.T.seer hq).mods
  exact law_run KX Gr.T.g Gr.T.b Gr.T.builtins Gr.T.nolimit ⟨mm, hmm⟩ (hk1 w) hg hobj hints (Nat.le_trans hlen hn2) hr hG hb (hF ns hlen)
end Pz

set_option Elab.async false
set_option linter.all false
set_option maxRecDepth 100000
set_option maxHeartbeats 4000000
/-! Pz16: what a law's text tells: constants, defs by name; the empty dict; the law at the end. -/
namespace Pz
open PySem PySem.Spec PyProof.Rows L2
theorem bt_int : bootBuiltins "int" = some (.type "int") := PyProof.Rows.boot_int
theorem bt_bool : bootBuiltins "bool" = some (.type "bool") := PyProof.Rows.boot_bool
theorem bt_str : bootBuiltins "str" = some (.type "str") := PyProof.Rows.boot_str
theorem bt_tuple : bootBuiltins "tuple" = some (.type "tuple") := PyProof.Rows.boot_tuple
theorem bt_list : bootBuiltins "list" = some (.type "list") := PyProof.Rows.boot_list
theorem bt_range : bootBuiltins "range" = some (.type "range") := PyProof.Rows.boot_range
theorem bt_enumerate : bootBuiltins "enumerate" = some (.type "enumerate") := PyProof.Rows.boot_enumerate
theorem bt_set : bootBuiltins "set" = some (.type "set") := PyProof.Rows.boot_set
theorem bt_zip : bootBuiltins "zip" = some (.type "zip") := PyProof.Rows.boot_zip
theorem bt_dict : bootBuiltins "dict" = some (.type "dict") := PyProof.Rows.boot_dict
theorem bt_len : bootBuiltins "len" = some (.builtin "len") := PySem.boot_len
theorem bt_isinstance : bootBuiltins "isinstance" = some (.builtin "isinstance") := PyProof.Rows.boot_isinstance
theorem bt_sum : bootBuiltins "sum" = some (.builtin "sum") := PyProof.Rows.boot_sum
theorem bt_any : bootBuiltins "any" = some (.builtin "any") := PyProof.Rows.boot_any
theorem bt_all : bootBuiltins "all" = some (.builtin "all") := PyProof.Rows.boot_all
theorem bt_max : bootBuiltins "max" = some (.builtin "max") := PyProof.Rows.boot_max
theorem bt_min : bootBuiltins "min" = some (.builtin "min") := PyProof.Rows.boot_min
theorem bt_abs : bootBuiltins "abs" = some (.builtin "abs") := PyProof.Rows.boot_abs
theorem bt_repr : bootBuiltins "repr" = some (.builtin "repr") := PyProof.Rows.boot_repr
theorem bt_sorted : bootBuiltins "sorted" = some (.builtin "sorted") := PyProof.Rows.boot_sorted
theorem bt_iter : bootBuiltins "iter" = some (.builtin "iter") := PyProof.Rows.boot_iter
theorem bt_next : bootBuiltins "next" = some (.builtin "next") := PyProof.Rows.boot_next
structure Cst (K : PySem.W.Frag) (mg : Str → Option Value) (x : Str) (d : D) : Prop where
  ex : ∃ (v : V) (u : Value), mg x = some u ∧ RelV v u ∧ ∀ m H, VR K m H d v
theorem me_cst {X : Cx} {W : WX} {x : Str} {d : D} {pos : Pos} (hg : Gl X x) (c : Cst X.K X.mg x d) (hd : (x == ("__debug__" : Str)) = false := by decide) : ME X W (.Name x pos) (eC d) := by
  obtain ⟨v, u, h1, h2, h3⟩ := c.ex
  exact me_glob hg h1 h2 h3 hd
structure Tx (K : PySem.W.Frag) (mg : Str → Option Value) (x : Str) (st : Stmt) (ps : List Str) : Prop where
  ex : ∃ f fd, Fun K x x st f fd ∧ Binds K fd ps [] ∧ mg x = some (.ref f)
section
variable {P : Program} {w : World} {K : PySem.W.Frag} {mg : Str → Option Value} {base h : Heap} {x : Str} {st : Stmt} {ps N : List Str} {k : Nat} {b : FS}
theorem Tx.fn0 (t : Tx K mg x st ps) : Fn P w K mg base k x (fun _ _ => .bad) := by
  obtain ⟨f, fd, h1, h2, h3⟩ := t.ex
  exact ⟨f, fd, ps, ⟨fun vs H Q E ⟨_, _, _, _, _, q⟩ => q.elim, fun _ _ _ _ _ _ vs Q E _ _ _ _ ⟨_, _, _, _, _, q⟩ => q.elim⟩, h3, h1.kp, h2⟩
theorem fn_of {F : List D → Sto → Out D} {n m : Nat} (hF : F = runF n m b) (t : Tx K mg x st ps) (hn : ps.length = n) (hm : N.length = m) (sc : FnScope N ps (defScope st))
    (hbody : ∀ (f : Addr) (cdv : Value) (A : Around) (outer : List Env) (s : Shared) (H : Hp) (E : XK), Room k (cxB P w K mg base N x st f cdv A outer s H E).A → MSs (cxB P w K mg base N x st f cdv A outer s H E) (wE E) (defBody st) b) :
    Fn P w K mg base (k + 1) x F := by
  subst hF hn hm
  obtain ⟨f, fd, h1, h2, h3⟩ := t.ex
  exact ⟨f, fd, ps, fn_ok h1 sc (hbody f), h3, h1.kp, h2⟩
theorem tx_mk {f : Addr} {oc : Value} {od an : Option Addr} {osl : Array (Option Value)} {kV doc pm cdv ct : Value} (X : K.In h) (G : h.Ns mainGlobals mg)
    (bd : ∀ (kV doc pm : Value) (an : Option Addr) (cdv ct : Value) (us : List Value), us.length = ps.length → bindArgs (PySem.W.fnOf x x (defArgs st) (defBody st) (defScope st) .none kV doc pm an cdv ct) ⟨us, []⟩ = pure (ps.zip us))
    (a : PySem.W.nsIn K mainGlobals x = some (some (.ref f)))
    (l : K.lookup f = some ⟨oc, od, .func (PySem.W.fnOf x x (defArgs st) (defBody st) (defScope st) .none kV doc pm an cdv ct), osl⟩) (c : PySem.W.codeIn K cdv x = true) (k : PySem.W.keepIn K (.ref f) = true) : Tx K mg x st ps :=
  ⟨f, _, fun_mk l c k, (fun_mk (st := st) l c k).binds bd, PySem.W.mg_of X G a⟩
theorem cst_int {i : Int} {t} (X : K.In h) (G : h.Ns mainGlobals mg) (a : PySem.W.nsIn K mainGlobals x = some (some (.int i t))) : Cst K mg x (.int i) := ⟨.int i, _, PySem.W.mg_of X G a, ⟨_, rfl⟩, fun _ _ => by simp only [VR]⟩
theorem cst_str {i : Str} {t} (X : K.In h) (G : h.Ns mainGlobals mg) (a : PySem.W.nsIn K mainGlobals x = some (some (.str i t))) : Cst K mg x (.str i) := ⟨.str i, _, PySem.W.mg_of X G a, ⟨_, rfl⟩, fun _ _ => by simp only [VR]⟩
theorem cst_tup {p : Addr} {its : Array Value} {n : Nat} {osl : Array (Option Value)} {ds : List D} (X : K.In h) (G : h.Ns mainGlobals mg) (a : PySem.W.nsIn K mainGlobals x = some (some (.ref p)))
    (l : K.lookup p = some ⟨.type "tuple", none, .seq its n, osl⟩) (z : its.size ≤ sizeLine) (v : ∃ vs, Vals vs its.toList ∧ ∀ m H, VRs K m H ds vs) : Cst K mg x (.tup ds) := by
  obtain ⟨vs, h1, h2⟩ := v
  refine ⟨.ref p, _, PySem.W.mg_of X G a, rfl, fun m H => ?_⟩
  simp only [VR]
  exact ⟨p, vs, rfl, .inr ⟨_, its, n, l, rfl, rfl, rfl, z, h1⟩, h2 m H⟩
theorem fnG_of {F : List D → Sto → Out D} {n m : Nat} {f : Addr} {fd : FuncData} (hF : F = runF n m b) (F' : Fun K x x st f fd) (hn : ps.length = n) (hm : N.length = m) (sc : FnScope N ps (defScope st))
    (hbody : ∀ (cdv : Value) (A : Around) (outer : List Env) (s : Shared) (H : Hp) (E : XK), Room k (cxB P w K mg base N x st f cdv A outer s H E).A → (cxB P w K mg base N x st f cdv A outer s H E).A.guards = some [] → MSs (cxB P w K mg base N x st f cdv A outer s H E) (wE E) (defBody st) b) : FnG P w K mg base (k + 1) f fd ps (spF K F) := by
  subst hF hn hm
  exact fnG_ok F' sc hbody
theorem law_fn {f : Addr} {oc : Value} {od an : Option Addr} {osl : Array (Option Value)} {kV doc pm cdv ct : Value} {F : List D → Sto → Out D} {fa : Addr} {y : Str} (X : K.In h) (G : h.Ns mainGlobals mg) (hmg : mg x = some (.ref fa))
    (bd : ∀ (kV doc pm : Value) (an : Option Addr) (cdv ct : Value) (s : Shared) (u : Value), BindsTo s (PySem.W.fnOf x x (defArgs st) (defBody st) (defScope st) .none kV doc pm an cdv ct) ⟨[u], []⟩ [(y, u)])
    (hf : ∀ {f : Addr} {fd : FuncData} (F' : Fun K x x st f fd) (base : Heap), K.In base → base.Ns mainGlobals mg → FnG P w K mg base k f fd [y] (spF K F))
    (a : PySem.W.nsIn K mainGlobals x = some (some (.ref f)))
    (l : K.lookup f = some ⟨oc, od, .func (PySem.W.fnOf x x (defArgs st) (defBody st) (defScope st) .none kV doc pm an cdv ct), osl⟩) (c : PySem.W.codeIn K cdv x = true) (kp : PySem.W.keepIn K (.ref f) = true) :
    ∃ fd : FuncData, (∀ (s : Shared) (u : Value), BindsTo s fd ⟨[u], []⟩ [(y, u)]) ∧ ∀ base : Heap, K.In base → base.Ns mainGlobals mg → FnG P w K mg base k fa fd [y] (spF K F) := by
  have e := hmg.symm.trans (PySem.W.mg_of X G a)
  cases e
  exact ⟨_, bd kV doc pm an cdv ct, fun base hK hG => hf (fun_mk (st := st) l c kp) base hK hG⟩
end
section
variable {X : Cx} {W : WX} {pos : Pos}
def eDk0 : FE := fun _ S => .ok (.ref S.length) (S ++ [.dk []])
theorem me_dk0 : ME X W (.Dict [] [] pos) eDk0 := pe_dnewK.imp fun σ H Q ⟨l, m, S, R, q⟩ t ht => by
  have hn : t ∉ m := R.sr.notin ht
  refine q _ _ (m ++ [t]) ((Ext.tmp ht).into ht) ((R.sr.tmp ht).grow hn ⟨[], upd_same, rfl⟩) ?_
  simp only [VR]
  exact ⟨t, by rw [← R.sr.len, List.getElem?_concat_length], rfl⟩
end
end Pz

set_option Elab.async false
set_option linter.all false
set_option maxRecDepth 100000
set_option maxHeartbeats 4000000
/-! Pz17: sorted of ints and of tuples of ints; sets of ints. -/
namespace Pz
open PySem PySem.Spec PyProof.Rows L2

/-! ### tuples of ints by their order -/
def ltL : List Int → List Int → Bool
  | [], [] => false
  | [], _ :: _ => true
  | _ :: _, [] => false
  | x :: xs, y :: ys => if x = y then ltL xs ys else decide (x < y)
theorem ltL_asym : ∀ x y : List Int, ltL x y = true → ltL y x = false
  | [], [], h => by cases h
  | [], _ :: _, _ => rfl
  | _ :: _, [], h => by cases h
  | x :: xs, y :: ys, h => by
    unfold ltL at h ⊢
    by_cases e : x = y
    · rw [if_pos e] at h
      rw [if_pos e.symm]
      exact ltL_asym xs ys h
    · rw [if_neg e, decide_eq_true_eq] at h
      rw [if_neg (Ne.symm e), decide_eq_false_iff_not]; omega
theorem ltL_nil : ∀ z : List Int, ltL z [] = false
  | [] => rfl
  | _ :: _ => rfl
theorem ltL_tr : ∀ x y z : List Int, ltL y x = false → ltL z y = false → ltL z x = false
  | [], _, z, _, _ => ltL_nil z
  | _ :: _, [], _, h, _ => by cases h
  | _ :: _, _ :: _, [], _, h => by cases h
  | x :: xs, y :: ys, z :: zs, h, h' => by
    unfold ltL at h h' ⊢
    by_cases e : y = x
    · subst e
      rw [if_pos rfl] at h
      by_cases e2 : z = y
      · subst e2
        rw [if_pos rfl] at h' ⊢
        exact ltL_tr xs ys zs h h'
      · rw [if_neg e2] at h' ⊢; exact h'
    · rw [if_neg e, decide_eq_false_iff_not] at h
      by_cases e2 : z = y
      · subst e2
        rw [if_neg e, decide_eq_false_iff_not]; exact h
      · rw [if_neg e2, decide_eq_false_iff_not] at h'
        rw [if_neg (by omega), decide_eq_false_iff_not]; omega
theorem ltL_eq : ∀ x y : List Int, ltL x y = false → ltL y x = false → x = y
  | [], [], _, _ => rfl
  | [], _ :: _, h, _ => by cases h
  | _ :: _, [], _, h => by cases h
  | x :: xs, y :: ys, h, h' => by
    unfold ltL at h h'
    by_cases e : x = y
    · subst e
      rw [if_pos rfl] at h h'
      rw [ltL_eq xs ys h h']
    · rw [if_neg e, decide_eq_false_iff_not] at h
      rw [if_neg (Ne.symm e), decide_eq_false_iff_not] at h'
      omega
theorem swo_ltL {α : Type} (k : α → List Int) : SrtO.Swo fun v u => ltL (k v) (k u) := ⟨fun x y h => ltL_asym _ _ h, fun x y z h1 h2 => ltL_tr _ _ _ h1 h2⟩
def IsIT (h : Heap) (v : Value) (ns : List Int) : Prop := ∃ a o us n, v = .ref a ∧ h.get? a = some o ∧ o.cls = .type "tuple" ∧ o.data = .seq us n ∧ IntsAre us.toList ns ∧ ns ≠ []
theorem IsIT.keeps {h h' : Heap} {v : Value} {ns : List Int} (p : IsIT h v ns) (k : ∀ b o, h.get? b = some o → o.cls = .type "tuple" → h'.get? b = some o) : IsIT h' v ns :=
  let ⟨a, o, us, n, e, ho, hc, r⟩ := p
  ⟨a, o, us, n, e, k _ _ ho hc, hc, r⟩
section
variable {prog : Program} {w : World} {A : Around} {s : Shared} {E : Value → Shared → Prop}
theorem katL {Q : Bool → Shared → Prop} : ∀ (us vs : List Value) (ns ms : List Int) (i : Nat), IntsAre us ns → IntsAre vs ms → Q (ltL ns ms) s → PySem.W.KatLex prog w A true (decide (us.length < vs.length)) Q (us.zip vs) i s
  | _, _, _, _, i, .nil, .nil, q => PySem.W.kat_nil q
  | _, _, _, _, i, .nil, .cons _ _ _, q => PySem.W.kat_nil (by simpa [ltL] using q)
  | _, _, _, _, i, .cons _ _ _, .nil, q => PySem.W.kat_nil (by simpa [ltL] using q)
  | _ :: us, _ :: vs, _ :: ns, _ :: ms, i, .cons x t r, .cons y u r2, q => by
    rw [List.zip_cons_cons]
    refine PySem.W.kat_cons (SeqAt.EqAt.int_int x t y u prog w _ _ ?_)
    refine PySem.W.kat_go (fun e1 => ?_) (fun e1 => ?_)
    · have ex : x = y := by simpa using e1
      refine PySem.W.kat_yes ?_
      have := katL us vs ns ms (i + 1) r r2 (Q := Q) (by unfold ltL at q; rw [if_pos ex] at q; exact q)
      simpa using this
    · have ex : ¬ x = y := by simpa using e1
      have q' : Q (decide (x < y)) s := by unfold ltL at q; rw [if_neg ex] at q; exact q
      refine PySem.W.kat_no ?_
      by_cases hi : i = 0
      · subst hi
        exact oneLt_int q'
      · have e0 : (true && i == 0) = false := by simp [hi]
        rw [e0]
        exact PySem.W.kat_one _ _ (PyProof.Rows.lt_int q')
theorem it_cmp {vs : List Value} {k : Value → List Int} (hp : ∀ v ∈ vs, IsIT s.heap v (k v)) : SrtO.Cmp prog w A s (tuples' true) (fun p => p.1 ∈ vs) (SrtO.lt2 fun v u => ltL (k v) (k u)) := by
  intro p q hm hm'
  obtain ⟨a, o, us, n, e, ho, hc, hd, hi, _⟩ := hp _ hm
  obtain ⟨a', o', us', n', e', ho', hc', hd', hi', _⟩ := hp _ hm'
  show wpAny (model prog w) A (keyLt' (tuples' true) p.1 q.1) (fun r s' => s' = s ∧ r = ltL (k p.1) (k q.1)) (fun _ _ => False) s
  rw [e] at hi ⊢
  rw [e'] at hi' ⊢
  refine PySem.W.kat_lt ho hd ho' hd' ?_
  have := katL (prog := prog) (w := w) (A := A) (s := s) (Q := fun r s' => s' = s ∧ r = ltL (k (.ref a)) (k (.ref a'))) us.toList us'.toList _ _ 0 hi hi' ⟨rfl, rfl⟩
  simpa using this
theorem it_firsts {h : Heap} {k : Value → List Int} : ∀ {vs : List Value}, (∀ v ∈ vs, IsIT h v (k v)) → ∃ fs : List Value, PySem.W.KatTups h vs fs ∧ fs.length = vs.length ∧ ∀ f ∈ fs, ∃ x t, f = Value.int x t
  | [], _ => ⟨[], .nil, rfl, fun _ hm => nomatch hm⟩
  | v :: vs, hp => by
    obtain ⟨fs, h1, h2, h3⟩ := it_firsts (vs := vs) fun v' hm => hp v' (List.mem_cons_of_mem _ hm)
    obtain ⟨a, o, us, n, e, ho, hc, hd, hi, hne⟩ := hp v List.mem_cons_self
    cases hk : k v with
    | nil => exact absurd hk hne
    | cons x r =>
      rw [hk] at hi
      subst e
      have hus : ∃ t ul, us.toList = Value.int x t :: ul := by
        generalize us.toList = ul at hi
        cases hi with
        | cons _ t r => exact ⟨t, _, rfl⟩
      obtain ⟨t, ul, hul⟩ := hus
      refine ⟨.int x t :: fs, .cons ho hc hd (by rw [← Array.getElem?_toList, hul]; rfl) h1, by simp [h2], fun f hm => ?_⟩
      rcases List.mem_cons.mp hm with q | q
      · exact ⟨x, t, q⟩
      · exact h3 f q
theorem it_sortable {a : Addr} {vs : List Value} {k : Value → List Int} (h0 : 0 < vs.length) (hp : ∀ v ∈ vs, IsIT s.heap v (k v)) (ha : ∀ o, s.heap.get? a = some o → o.cls ≠ .type "tuple") : SrtO.SortableO prog w A s a vs fun v u => ltL (k v) (k u) := by
  intro h' keep
  have hp' : ∀ v ∈ vs, IsIT h' v (k v) := fun v hm => (hp v hm).keeps fun b o e c => keep b o (fun z => ha o (z ▸ e) c) e
  obtain ⟨fs, h1, h2, h3⟩ := it_firsts hp'
  refine ⟨tuples' true, fun Q E hq => ?_, it_cmp hp'⟩
  refine PySem.W.kat_kind (T := .type "int") h1 (by omega) (fun f hm => ?_) rfl ?_
  · obtain ⟨x, t, rfl⟩ := h3 f hm
    exact PySem.W.Looks.now
  · have e : (Value.type "int" != Value.type "tuple") = true := by decide +kernel
    rw [e]; exact hq
end
/-- the items of a list or tuple, gathered -/
theorem collect_tup {prog : Program} {w : World} {A : Around} {s : Shared} {E : Value → Shared → Prop} {l : Addr} {vs : List Value} {Q : List Value → Shared → Prop} (hl : s.heap.IsTuple l vs.toArray) (hz : vs.length ≤ sizeLine)
    (h : Q vs { s with heap := (s.heap.push (seqObj "list" #[] 0)).update s.heap.objs.size (Obj.mapSeq (· ++ vs.toArray)) }) : wpAny (model prog w) A (collect (.ref l)) Q E s := by
  obtain ⟨o, ho, hc, n, hd⟩ := id hl
  have ho' : (s.heap.push (seqObj "list" #[] 0)).get? l = some o := Heap.get?_push_of_some _ ho
  have hS : (s.heap.push (seqObj "list" #[] 0)).get? s.heap.objs.size = some (seqObj "list" #[] 0) := Heap.get?_push_size _ rfl
  unfold collect
  refine wpAny_bind (wpAny_runValue (codeAny_builtin entry_proto_collect' ?_))
  show wpAny _ _ (do again (.builtin "list.__iadd__" ⟨[← newList [], .ref l], []⟩)) _ _ s
  refine wpAny_bind (wpAny_newList (wpAny_pure ⟨Code.quiet_builtin _ (by decide +kernel), codeAny_builtin entry_list_iadd' ?_⟩))
  show wpAny _ _ (Builtin.List.listExtendWith (.ref s.heap.objs.size) (.ref l) (.ref s.heap.objs.size)) _ _ { s with heap := s.heap.push (seqObj "list" #[] 0) }
  unfold Builtin.List.listExtendWith
  refine wpAny_bind (wpAny_typeOf (T := "tuple") ⟨o, ho', hc⟩ ?_)
  have ht : (Value.type "tuple" == Value.type "tuple") = true := rfl
  rw [if_pos (by rw [ht]; simp)]
  refine wpAny_bind (listItems_at ho' hd (wpAny_bind (listItems_at (xs := #[]) (n := 0) hS rfl ?_)))
  rw [if_neg (by simp)]
  refine wpAny_bind (listUpdate_at (xs := #[]) (n := 0) hS rfl ?_ (Nat.zero_le _) (by show (#[] ++ vs.toArray).size ≤ sizeLine + 1; simp; omega))
  refine wpAny_pure ?_
  show wpAny (model prog w) A (do
      let o ← load s.heap.objs.size
      match o.data with
      | .seq xs _ => pure xs.toList
      | _ => unsupported "internal:collect") Q E { s with heap := (s.heap.push (seqObj "list" #[] 0)).update s.heap.objs.size (Obj.mapSeq (· ++ vs.toArray)) }
  refine wpAny_bind (wpAny_load (get?_update_seq hS _) ?_)
  show wpAny _ _ (pure ((#[] : Array Value) ++ vs.toArray).toList) Q E _
  rw [show ((#[] : Array Value) ++ vs.toArray).toList = vs by simp]
  exact wpAny_pure h
section
variable {prog : Program} {w : World} {A : Around} {s : Shared} {E : Value → Shared → Prop}
theorem sorted_any {l : Addr} {vs : List Value} {ltv : Value → Value → Bool} {Q : Value → Shared → Prop} (O : SrtO.Swo ltv) (hl : s.heap.IsList l vs.toArray ∨ s.heap.IsTuple l vs.toArray) (hz : vs.length ≤ sizeLine)
    (hS : 2 ≤ vs.length → ∀ (h₁ : Heap) (a : Addr), h₁.get? a = some (seqObj "list" vs.toArray 0) → (∀ b o, s.heap.get? b = some o → b ≠ a ∧ h₁.get? b = some o) → SrtO.SortableO prog w A.in1.in1 { s with heap := h₁ } a vs ltv)
    (h : ∀ out : List Value, SrtO.Srtd ltv out → SrtO.Stb ltv out vs → Q (.ref (s.heap.objs.size + 1)) { s with heap := sortedAll s.heap vs out.toArray }) : wpAny (model prog w) A (call (.builtin "sorted") [.ref l]) Q E s := by
  rcases hl with hl | hl
  · exact SrtO.sorted_ord O hl hz hS h
  · refine Calls.call_function_entry kind_sorted plain_sorted entry_sorted (args_sorted1 _) ?_
    unfold Builtin.«sorted»
    refine wpAny_bind (m := checkCount "sorted" 1 1 _) (wpAny_pure (wpAny_bind (collect_tup hl hz (wpAny_bind (wpAny_newList ?_ hz)))))
    obtain ⟨g, hg⟩ : ∃ g, g = (s.heap.push (seqObj "list" #[] 0)).update s.heap.objs.size (Obj.mapSeq (· ++ vs.toArray)) := ⟨_, rfl⟩
    have gz : g.objs.size = s.heap.objs.size + 1 := by rw [hg, Heap.size_update, size_push']
    have gL : (g.push (seqObj "list" vs.toArray 0)).get? (s.heap.objs.size + 1) = some (seqObj "list" vs.toArray 0) := by rw [← gz]; exact Heap.get?_push_size _ rfl
    have gk : ∀ b o, s.heap.get? b = some o → b ≠ s.heap.objs.size + 1 ∧ (g.push (seqObj "list" vs.toArray 0)).get? b = some o := fun b o q => by
      have lt := Heap.lt_size q
      refine ⟨Nat.ne_of_lt (Nat.lt_succ_of_lt lt), Heap.get?_push_of_some _ ?_⟩
      rw [hg, Heap.get?_update_ne _ _ _ _ (Nat.ne_of_lt lt)]; exact Heap.get?_push_of_some _ q
    have hQ : ∀ out : List Value, SrtO.Srtd ltv out → SrtO.Stb ltv out vs → Q (.ref (s.heap.objs.size + 1)) { s with heap := sortedHeap (g.push (seqObj "list" vs.toArray 0)) (s.heap.objs.size + 1) vs out.toArray } := fun out a b => by
      have := h out a b
      rw [hg]; exact this
    rw [← hg]
    show wpAny _ _ _ _ _ { s with heap := g.push (seqObj "list" vs.toArray 0) }
    rw [gz]
    exact wpAny_bind (wpAny_holding (wpAny_call_entry slot_list_sort ⟨_, gL, rfl⟩ entry_list_sort (SrtO.list_sort_ord O gL hz (fun h2 => hS h2 _ _ gL gk) fun out a b => ⟨_, rfl, wpAny_pure ⟨_, rfl, hQ out a b⟩⟩) (args_list_sort _)))
end
/-- sorted of ints, of tuples of ints, in a list or tuple -/
def rSoI (K : PySem.W.Frag) : List V → Hp → VK → Prop := fun vs H Q => ∃ (a : Addr) (ns : List Int), vs = [V.ref a] ∧ (SqL K H a (ns.map V.int) ∨ SqT K H a (ns.map V.int)) ∧ ∀ (ns' : List Int) (p : Addr), ns'.Perm ns → ns'.Pairwise (· ≤ ·) → H p = none → Q (.ref p) (upd H p (.lst (ns'.map V.int)))
def PT (K : PySem.W.Frag) (H : Hp) : List V → List (List Int) → Prop
  | [], [] => True
  | x :: xs, l :: ls => (∃ t, x = V.ref t ∧ SqN K H t (l.map V.int) ∧ l ≠ []) ∧ PT K H xs ls
  | _, _ => False
theorem PT.mem {K : PySem.W.Frag} {H : Hp} : ∀ {xs : List V} {ls : List (List Int)}, PT K H xs ls → ∀ x ∈ xs, ∃ t l, x = V.ref t ∧ SqN K H t (l.map V.int) ∧ l ≠ []
  | [], [], _, _, h => nomatch h
  | y :: xs, l :: ls, ⟨⟨t, e, h1, h2⟩, p⟩, x, h => by
    rcases List.mem_cons.mp h with q | q
    · exact ⟨t, l, q.trans e, h1, h2⟩
    · exact PT.mem p x q
def rSoT (K : PySem.W.Frag) : List V → Hp → VK → Prop := fun vs H Q => ∃ (a : Addr) (xs : List V) (ls : List (List Int)), vs = [V.ref a] ∧ (SqL K H a xs ∨ SqT K H a xs) ∧ PT K H xs ls ∧
  ∀ ys ls' p, PT K H ys ls' → ls'.Perm ls → ls'.Pairwise (fun x y => ltL y x = false) → H p = none → Q (.ref p) (upd H p (.lst ys))
theorem intsAre_fun : ∀ {us : List Value} {ns ms : List Int}, IntsAre us ns → IntsAre us ms → ns = ms
  | _, _, _, .nil, .nil => rfl
  | _, _, _, .cons _ _ h, .cons _ _ h' => by rw [intsAre_fun h h']
theorem IsIT.fun {h : Heap} {v : Value} {l l' : List Int} (p : IsIT h v l) (q : IsIT h v l') : l = l' := by
  obtain ⟨a, o, us, n, e, ho, hc, hd, hi, _⟩ := p
  obtain ⟨a', o', us', n', e', ho', hc', hd', hi', _⟩ := q
  subst e
  cases e'
  rw [ho] at ho'
  cases ho'
  rw [hd] at hd'
  cases hd'
  exact intsAre_fun hi hi'
open Classical in
noncomputable def keyIT (h : Heap) (v : Value) : List Int := if q : ∃ l, IsIT h v l then q.choose else []
theorem keyIT_eq {h : Heap} {v : Value} {l : List Int} (p : IsIT h v l) : keyIT h v = l := by
  have q : ∃ l, IsIT h v l := ⟨l, p⟩
  unfold keyIT
  rw [dif_pos q]
  exact q.choose_spec.fun p
section
variable {X : Cx}
theorem inv_seq {pins : List (Addr × Obj)} {s : Shared} {σ : L2.St} {H : Hp} {a : Addr} {xs : List V} (I : Inv X pins σ H s) (h : SqL X.K H a xs ∨ SqT X.K H a xs) : ∃ its : List Value, Vals xs its ∧ (s.heap.IsList a its.toArray ∨ s.heap.IsTuple a its.toArray) ∧ xs.length ≤ sizeLine := by
  rcases h with h | h
  · obtain ⟨its, rv, hl, hz⟩ := I.list h
    exact ⟨its, rv, .inl hl.isList, hz⟩
  · obtain ⟨its, rv, hl, hz⟩ := I.tuple h
    exact ⟨its, rv, .inr hl, hz⟩
theorem cr_soI : CallR X (.builtin "sorted") (rSoI X.K) := by
  intro pins s σ H vs us Q I r h
  obtain ⟨a, ns, rfl, hs, q⟩ := h
  obtain ⟨its, rv, hl, hz⟩ := inv_seq I hs
  rw [Vals.ref1 r]
  have hi := rv.ints
  refine sorted_any SrtO.swo_int hl (by rw [← rv.length]; exact hz) (fun h2 h₁ a' _ _ => SrtO.ints_sortable hi h2) fun out h1 h2 => ?_
  obtain ⟨k1, k2, k3⟩ := SrtO.ints_out hi h1 h2
  obtain ⟨n, e⟩ := PyProof.Rows.sortedAll_at s.heap its out.toArray
  refine ⟨.ref _, upd H (s.heap.objs.size + 1) (.lst ((out.map SrtO.iv).map V.int)), I.laid (t' := s.toks) (fun _ _ => PyProof.Rows.sortedAll_old) (Nat.le_succ _) ⟨?_, out, n, vals_of_ints k1, e⟩, rfl, q _ _ k2 k3 (I.hok.fresh (Nat.le_succ _))⟩
  rw [List.length_map, k2.length_eq]; simpa using hz
theorem cr_soT : CallR X (.builtin "sorted") (rSoT X.K) := by
  intro pins s σ H vs us Q I r h
  obtain ⟨a, xs, ls, rfl, hs, hx, q⟩ := h
  obtain ⟨its, rv, hl, hz⟩ := inv_seq I hs
  rw [Vals.ref1 r]
  obtain ⟨e1, e2⟩ := refs_back rv fun x m => let ⟨t, _, e, _⟩ := hx.mem x m; ⟨t, e⟩
  have one : ∀ (t : Addr) (l : List Int), SqT X.K H t (l.map V.int) → l ≠ [] → IsIT s.heap (.ref t) l := fun t l ht hne => by
    obtain ⟨us, r2, ⟨o, ho, hc, n, hd⟩, _⟩ := I.tuple ht
    exact ⟨t, o, us.toArray, n, rfl, ho, hc, hd, by simpa using r2.ints, hne⟩
  have al : ∀ (us : List Value) (ls : List (List Int)), PT X.K H (us.map backV) ls → (∀ u ∈ us, ∃ a, u = Value.ref a) → us.map (keyIT s.heap) = ls ∧ ∀ u ∈ us, ∃ t, u = .ref t ∧ SqN X.K H t ((keyIT s.heap u).map V.int) ∧ keyIT s.heap u ≠ [] := by
    intro us
    induction us with
    | nil =>
      intro ls p _
      cases ls with
      | nil => exact ⟨rfl, fun _ h => nomatch h⟩
      | cons => exact p.elim
    | cons u us ih =>
      intro ls p hu
      cases ls with
      | nil => exact p.elim
      | cons l ls =>
        obtain ⟨⟨t, e, h1, h2⟩, p⟩ := p
        obtain ⟨b, rfl⟩ := hu u List.mem_cons_self
        cases e
        obtain ⟨i1, i2⟩ := ih ls p fun u hm => hu u (List.mem_cons_of_mem _ hm)
        have k := keyIT_eq (one _ l h1.t h2)
        refine ⟨by rw [List.map_cons, i1, k], fun u hm => ?_⟩
        rcases List.mem_cons.mp hm with z | z
        · subst z
          rw [k]; exact ⟨_, rfl, h1, h2⟩
        · exact i2 u z
  rw [e1] at hx
  obtain ⟨a1, a2⟩ := al its ls hx e2
  have hit : ∀ v ∈ its, IsIT s.heap v (keyIT s.heap v) := fun v hv => by
    obtain ⟨t, e, h1, h2⟩ := a2 v hv
    generalize keyIT s.heap v = l at h1 h2 ⊢
    rw [e]; exact one t l h1.t h2
  refine sorted_any (swo_ltL (keyIT s.heap)) hl (by rw [← rv.length]; exact hz) (fun h2 h₁ b hb kk => ?_) fun out hs hb => ?_
  · refine it_sortable (s := { s with heap := h₁ }) (by omega) (fun v hm => (hit v hm).keeps fun b o e _ => (kk b o e).2) fun o e c => ?_
    have e' : some o = some (seqObj "list" its.toArray 0) := e.symm.trans hb
    cases e'
    exact absurd (Value.type.inj c) (by decide)
  · have h3 : ∀ u ∈ out, u ∈ its := fun u hu => hb.perm.mem_iff.mp hu
    obtain ⟨n, e⟩ := PyProof.Rows.sortedAll_at s.heap its out.toArray
    have hp : (out.map backV).Perm xs := by rw [e1]; exact hb.perm.map _
    have pt : ∀ us : List Value, (∀ u ∈ us, u ∈ its) → PT X.K H (us.map backV) (us.map (keyIT s.heap)) := by
      intro us
      induction us with
      | nil => exact fun _ => trivial
      | cons u us ih =>
        intro hu
        obtain ⟨t, e, h1, h2⟩ := a2 u (hu u List.mem_cons_self)
        exact ⟨⟨t, by rw [e]; rfl, h1, h2⟩, ih fun v hv => hu v (List.mem_cons_of_mem _ hv)⟩
    refine ⟨.ref _, upd H (s.heap.objs.size + 1) (.lst (out.map backV)), I.laid (t' := s.toks) (fun _ _ => PyProof.Rows.sortedAll_old) (Nat.le_succ _) ⟨?_, out, n, vals_back fun u hu => e2 u (h3 u hu), e⟩, rfl, q _ (out.map (keyIT s.heap)) _ (pt out h3) (a1 ▸ hb.perm.map _) (List.pairwise_map.mpr hs) (I.hok.fresh (Nat.le_succ _))⟩
    rw [hp.length_eq]; exact hz
end
/-! sorted, as a function on lists of data -/
def leL (a b : List Int) : Bool := !ltL b a
def tupI (d : D) : Option (List Int) := match d with
  | .tup xs => match intsD xs with
    | some (n :: ns) => some (n :: ns)
    | _ => none
  | _ => none
def encT (l : List Int) : D := .tup (l.map .int)
def sortQ (xs : List D) : Option (List D) := match intsD xs with
  | some ns => some ((ns.mergeSort fun a b => decide (a ≤ b)).map .int)
  | none => (mapO tupI xs).map fun ls => (ls.mergeSort leL).map encT
def oSorted (xs : List D) (S : Sto) : Out LV := match sortQ xs with
  | some ys => .ok (.tmp ys) S
  | none => .bad
theorem tupI_ok {d : D} {l : List Int} (h : tupI d = some l) : d = encT l ∧ l ≠ [] := by
  unfold tupI at h
  split at h
  · split at h
    · rename_i e
      cases h
      exact ⟨by rw [intsD_ok e]; rfl, by simp⟩
    · cases h
  · cases h
theorem tupI_enc {l : List Int} (h : l ≠ []) : tupI (encT l) = some l := by
  cases l with
  | nil => exact absurd rfl h
  | cons n ns =>
    unfold tupI encT
    simp only [intsD_map]
theorem mapO_tupI {ls : List (List Int)} (h : ∀ l ∈ ls, l ≠ []) : mapO tupI (ls.map encT) = some ls := by
  induction ls with
  | nil => rfl
  | cons l ls ih =>
    rw [List.map_cons, mapO, tupI_enc (h l List.mem_cons_self), ih fun x hx => h x (List.mem_cons_of_mem _ hx)]
theorem CallR.or2 {X : Cx} {f : Value} {r r' : List V → Hp → VK → Prop} (h : CallR X f r) (h' : CallR X f r') : CallR X f fun vs H Q => r vs H Q ∨ r' vs H Q := fun pins s σ H vs us Q I rv q => by
  rcases q with q | q
  · exact h pins s σ H vs us Q I rv q
  · exact h' pins s σ H vs us Q I rv q
section
variable {X : Cx} {W : WX} {e : Expr} {p pos : Pos} {q : FQ} {K : PySem.W.Frag} {m : List Addr} {H : Hp}
theorem PT.of : ∀ {ds : List D} {ls : List (List Int)} {vs : List V}, mapO tupI ds = some ls → VRs K m H ds vs → PT K H vs ls
  | [], ls, vs, h, r => by
    cases h
    simp only [VRs] at r
    subst r
    trivial
  | d :: ds, ls, vs, h, r => by
    unfold mapO at h
    split at h
    · rename_i l ls' h1 h2
      cases h
      simp only [VRs] at r
      obtain ⟨v, us, rfl, r1, r2⟩ := r
      obtain ⟨e1, e2⟩ := tupI_ok h1
      subst e1
      simp only [encT, VR] at r1
      obtain ⟨t, ws, rfl, r3, r4⟩ := r1
      rw [VRs.ints r4] at r3
      exact ⟨⟨t, rfl, r3, e2⟩, PT.of h2 r2⟩
    · cases h
theorem PT.back : ∀ {ls : List (List Int)} {vs : List V}, PT K H vs ls → VRs K m H (ls.map encT) vs
  | [], [], _ => .nil
  | l :: ls, v :: vs, ⟨⟨t, e, h1, _⟩, h⟩ => by
    subst e
    refine VRs.cons ?_ (PT.back h)
    simp only [encT, VR]
    exact ⟨t, _, rfl, h1, VRs.of_ints l⟩
theorem leL_total (a b : List Int) : (leL a b || leL b a) = true := by
  unfold leL
  cases h : ltL b a with
  | false => rfl
  | true => rw [ltL_asym _ _ h]; rfl
theorem leL_trans (a b c : List Int) (h : leL a b = true) (h' : leL b c = true) : leL a c = true := by
  simp only [leL, Bool.not_eq_true'] at *
  exact ltL_tr a b c h h'
theorem sort_uniqI {ns ms : List Int} (p : ms.Perm ns) (s : ms.Pairwise (· ≤ ·)) : ms = ns.mergeSort fun a b => decide (a ≤ b) := by
  refine List.Perm.eq_of_pairwise (le := fun a b => a ≤ b) (fun a b _ _ => Int.le_antisymm) s ?_ (p.trans (List.mergeSort_perm _ _).symm)
  have := List.pairwise_mergeSort (le := fun a b : Int => decide (a ≤ b)) (fun a b c h h' => by simp only [decide_eq_true_eq] at *; omega) (fun a b => by simp only [Bool.or_eq_true, decide_eq_true_eq]; omega) ns
  exact this.imp fun h => by simpa using h
theorem sort_uniqL {ns ms : List (List Int)} (p : ms.Perm ns) (s : ms.Pairwise fun x y => ltL y x = false) : ms = ns.mergeSort leL := by
  refine List.Perm.eq_of_pairwise (le := fun x y => ltL y x = false) (fun a b _ _ h h' => ltL_eq a b h' h) s ?_ (p.trans (List.mergeSort_perm _ _).symm)
  exact (List.pairwise_mergeSort leL_trans leL_total ns).imp fun h => by simpa [leL] using h
theorem ml_sorted (hg : Gl X "sorted") (hm : X.mg "sorted" = none) (hb : bootBuiltins "sorted" = some (.builtin "sorted")) (he : MQ X W e q) (s1 : starEach [e] X.env = (false, eval e X.env) :: starEach [] X.env := by rfl) (hpl : (backTo pos (starEach [] X.env)).any (·.1) = false := by rfl) : ML X W (.Call (.Name "sorted" p) [e] [] pos) (eB1 oSorted q) :=
  call1B (CallR.or2 cr_soI cr_soT) (fun W σ m H H0 S x v Q R ⟨p, vs, h1, h2, h3⟩ q => by
    subst h1
    unfold oSorted sortQ at q
    cases hi : intsD x with
    | some ns =>
      rw [hi] at q
      have e := intsD_ok hi
      subst e
      rw [VRs.ints h3] at h2
      refine .inl ⟨p, ns, rfl, h2.imp id SqN.t, fun ms t pm so ht => ?_⟩
      rw [sort_uniqI pm so]
      exact q _ _ m (Ext.tmp ht) (R.tmp ht) (pL.new .refl R ht (VRs.of_ints _))
    | none =>
      rw [hi] at q
      cases hl : mapO tupI x with
      | none => rw [hl] at q; exact q.elim
      | some ls =>
        rw [hl] at q
        refine .inr ⟨p, vs, ls, rfl, h2.imp id SqN.t, PT.of hl h3, fun ys ms t py pm so ht => ?_⟩
        have e := sort_uniqL pm so
        subst e
        exact q _ _ m (Ext.tmp ht) (R.tmp ht) (pL.new .refl R ht (PT.back py))) anti_L hg hm hb he (by decide) (by decide) s1 hpl
end
end Pz

set_option Elab.async false
set_option linter.all false
set_option maxRecDepth 100000
set_option maxHeartbeats 4000000
/-! Pz18: len(set(..)), sorted(set(..)) of ints. -/
namespace Pz
open PySem PySem.Spec PyProof.Rows L2
section
variable {P : Program} {w : World} {A : Around} {s : Shared} {E : Value → Shared → Prop}
abbrev fsO (w : World) : Obj := { cls := .type "set", dict := none, data := .set #[] 0 (.fresh 0 0 (!w.params.followText "set-order")) }
/-- set(l) of a list of ints -/
theorem set_lstI {l : Addr} {items : Array Value} (ns : List Int) {Q : Value → Shared → Prop} (hh : A.handled = none) (hl : s.heap.IsList l items) (hit : IntsAre items.toList ns) (hb : ns.length + 1 < scanBound)
    (h : ∀ (h' : Heap) (tk c : Nat), SetR w h' s.heap.objs.size (fun j => decide (j ∈ ns)) c → c ≤ ns.length → (∀ b o, s.heap.get? b = some o → h'.get? b = some o) → Q (.ref s.heap.objs.size) { s with heap := h', toks := tk }) :
    wpAny (model P w) A (call (.type "set") [.ref l]) Q E s := by
  have zs : items.size = ns.length := by have q := IntsAre.length hit; rwa [Array.length_toList] at q
  obtain ⟨lo, lh, lc, ln, ld⟩ := id hl
  have ll : l < s.heap.objs.size := Heap.lt_size lh
  obtain ⟨c, tl, c1⟩ := F.called_set.mro
  have c2 := F.called_set.made
  have c3 := F.called_set.sub
  refine wpAny_call (codeAny_of_tree ?_)
  show wpAny _ _ (callAny (.type "set") _) _ _ _
  refine wpAny_pure ⟨Code.quiet_builtin _ (by decide +kernel), codeAny_builtin F.entry_type_call ?_⟩
  rw [Around.under_plain (weight_type_call_type "set" [.ref l] []) rfl]
  have d1 := F.called_set.notType
  have d2 := F.called_set.canCreate
  have d3 := F.typeCall_set_1 (.ref l)
  repeat (any_goals (first | assumption | wp_step))
  refine codeAny_mono (code_set_led1 (.ref l) (E := E) (Q₁ := fun x t => x = .ref s.heap.objs.size ∧ t = { s with heap := s.heap.push (fsO w) }) ⟨rfl, rfl⟩) fun r t hr => ?_
  match r, hr with
  | .error e, hr => exact hr
  | .ok (.ret x), hr =>
    obtain ⟨rfl, rfl⟩ := hr
    have gS : (s.heap.push (fsO w)).get? s.heap.objs.size = some (fsO w) := Heap.get?_push_size _ rfl
    have gT : Shared.TypeIs { s with heap := s.heap.push (fsO w) } (.ref s.heap.objs.size) "set" := ⟨_, gS, rfl⟩
    have e1 := F.called_set.init.lookup
    have e2 := F.called_set.init.bind (.ref s.heap.objs.size)
    repeat (any_goals (first | assumption | wp_step))
    refine codeAny_mono (codeAny_call_builtin (R := wants (fun r t => r = .none ∧ ∃ h' tk c, t = { s with heap := h', toks := tk } ∧ SetR w h' s.heap.objs.size (fun j => decide (j ∈ ns)) c ∧ c ≤ ns.length ∧ ∀ b o, s.heap.get? b = some o → h'.get? b = some o) E)
      F.called_set.init.plain F.entry_set_init (check_set_init_1 gT ?_)) fun r₂ s₂ hr₂ => ?_
    · obtain ⟨oc, od, oa, os⟩ := lo
      simp only at lc ld
      subst lc
      subst ld
      have lh' : (s.heap.push (fsO w)).get? l = some { cls := .type "list", dict := od, data := .seq items ln, slots := os } := Heap.get?_push_of_some _ lh
      have f1 := F.sub_list_set
      have f2 := F.sub_list_frozenset
      have f3 : (Value.type "list" == Value.type "dict") = false := by decide
      have f4 : (s.heap.push (fsO w)).IsList l items := ⟨_, lh', rfl, ln, rfl⟩
      unfold Builtin.«set.__init__» noKeywords Builtin.Frozenset.updateFrom
      generalize hPI : pyIter = PI
      wp_walk
      subst hPI
      refine wpAny_pyIter_list f4 (wpAny_bind (wpAny_runValue ?_))
      have g0 : (s.heap.push (fsO w)).objs.size = s.heap.objs.size + 1 := Heap.size_push ..
      have g1 : l ≠ (s.heap.push (fsO w)).objs.size := by rw [g0]; exact Nat.ne_of_lt (Nat.lt_succ_of_lt ll)
      have g2 : s.heap.objs.size ∉ [(s.heap.push (fsO w)).objs.size, l] := by
        rw [g0]
        intro z
        rcases List.mem_cons.mp z with z | z
        · exact absurd z (Nat.ne_of_lt (Nat.lt_succ_self _))
        · exact absurd (List.mem_singleton.mp z) (Nat.ne_of_gt ll)
      have g3 : ∀ (i : Nat) (v : Value), items[i]? = some v → ∃ k t, ns[i]? = some k ∧ v = .int k t := fun i v hv => by
        have hi : i < ns.length := by rw [← zs]; exact (Array.getElem?_eq_some_iff.mp hv).1
        obtain ⟨t, e⟩ := PyProof.Rows.IntsAre.int_at hit i v (by rw [Array.getElem?_toList]; exact hv)
        rw [List.getD_eq_getElem?_getD, List.getElem?_eq_getElem hi] at e
        exact ⟨ns[i], t, List.getElem?_eq_getElem hi, e⟩
      refine set_update_ints ((Walks.list (by simp [hh]) _ l g1 items).toS) s.heap.objs.size g2 ns zs hb g3 (items.size - 0) 0 _ (by omega) (Nat.zero_le _) ⟨⟨_, Heap.get?_push_size _ rfl, rfl, rfl⟩, f4.push _⟩ ?_ fun s' c' hm hc' hS' => ?_
      · exact ⟨0, Nat.le_refl 0, setR_new_at (Heap.get?_push_of_some _ gS)⟩
      · obtain ⟨h', gg, dd, tk', oo⟩ := s'
        obtain rfl : gg = s.gens := hm.gens
        obtain rfl : dd = s.drawn := hm.drawn
        obtain rfl : oo = s.os := hm.os
        show wpAny _ _ _ _ _ _
        refine wpAny_pure ?_
        show wpAny _ _ (ret Value.none) _ _ _
        refine wpAny_pure ⟨rfl, h', tk', c', rfl, hS', zs ▸ hc', fun b o e => hm.heap b o ?_ (Heap.get?_push_of_some _ (Heap.get?_push_of_some _ e))⟩
        have bl : b < s.heap.objs.size := Heap.lt_size e
        intro z
        rcases List.mem_cons.mp z with z | z
        · exact absurd z (Nat.ne_of_lt bl)
        · have z := List.mem_singleton.mp z
          rw [g0] at z
          exact absurd z (Nat.ne_of_lt (Nat.lt_succ_of_lt bl))
    · match r₂, hr₂ with
      | .error e, hr₂ => exact hr₂
      | .ok (.ret r), hr₂ =>
        obtain ⟨rfl, h', tk, c', rfl, hS', hc', hk'⟩ := hr₂
        repeat (any_goals (first | assumption | wp_step))
        exact h _ _ _ hS' hc' hk'
theorem set_seqI {l : Addr} {its : List Value} (ns : List Int) {Q : Value → Shared → Prop} (hh : A.handled = none) (hl : s.heap.IsList l its.toArray ∨ s.heap.IsTuple l its.toArray) (hit : IntsAre its ns) (hb : ns.length + 1 < scanBound)
    (h : ∀ (h' : Heap) (tk c : Nat), SetR w h' s.heap.objs.size (fun j => decide (j ∈ ns)) c → c ≤ ns.length → (∀ b o, s.heap.get? b = some o → h'.get? b = some o) → Q (.ref s.heap.objs.size) { s with heap := h', toks := tk }) :
    wpAny (model P w) A (call (.type "set") [.ref l]) Q E s := by
  rcases hl with hl | hl
  · exact set_lstI ns hh hl (by simpa using hit) hb h
  · exact call_set_tupI ns hh hl (by simpa using hit) hb h
end
/-! ### sets of ints on their way -/
def uniqI : List Int → List Int
  | [] => []
  | x :: xs => if x ∈ uniqI xs then uniqI xs else x :: uniqI xs
theorem uniqI_mem {k : Int} : ∀ xs : List Int, k ∈ uniqI xs ↔ k ∈ xs
  | [] => Iff.rfl
  | x :: xs => by
    unfold uniqI
    split
    · rename_i h
      rw [uniqI_mem xs, List.mem_cons]
      refine ⟨.inr, fun q => q.elim (fun e => ?_) id⟩
      subst e
      exact (uniqI_mem xs).mp h
    · rw [List.mem_cons, List.mem_cons, uniqI_mem xs]
theorem uniqI_nodup : ∀ xs : List Int, (uniqI xs).Nodup
  | [] => .nil
  | x :: xs => by
    unfold uniqI
    split
    · exact uniqI_nodup xs
    · rename_i h
      exact List.nodup_cons.mpr ⟨h, uniqI_nodup xs⟩
theorem uniqI_le (xs : List Int) : (uniqI xs).length ≤ xs.length := by
  induction xs with
  | nil => exact Nat.le_refl _
  | cons x xs ih =>
    unfold uniqI
    split <;> simp <;> omega
theorem nodup_same {α : Type} {l m : List α} (hl : l.Nodup) (hm : m.Nodup) (h : ∀ k, k ∈ l ↔ k ∈ m) : l.Perm m := (List.perm_ext_iff_of_nodup hl hm).mpr h
def rSetI (K : PySem.W.Frag) (w : World) : List V → Hp → VK → Prop := fun vs H Q => ∃ (l : Addr) (ns : List Int), vs = [V.ref l] ∧ (SqL K H l (ns.map V.int) ∨ SqT K H l (ns.map V.int)) ∧ ns.length ≤ 4000 ∧
  ∀ p c, H p = none → Q (.ref p) (upd H p (SetO w p (fun j => decide (j ∈ ns)) c))
section
variable {X : Cx}
theorem cr_setI (hc : X.calm = true) : CallR X (.type "set") (rSetI X.K X.w) := by
  intro pins s σ H vs us Q I r h
  obtain ⟨l, ns, rfl, hs, hz, q⟩ := h
  obtain ⟨its, rv, hl, _⟩ := inv_seq I hs
  rw [Vals.ref1 r]
  refine set_seqI ns (I.ok.hd hc) hl rv.ints (by unfold scanBound; omega) fun h' tk c R _ k => ?_
  have hn : H s.heap.objs.size = none := I.hok.fresh (Nat.le_refl _)
  have J : Inv X pins σ (upd H s.heap.objs.size (SetO X.w s.heap.objs.size (fun j => decide (j ∈ ns)) c)) { s with heap := h', gens := s.gens, drawn := s.drawn, toks := tk } :=
    I.call (ch := []) (Un.laid k (Nat.le_refl _) hn) (I.hok.laid k (Nat.le_refl _) (setO_new R)) I.bare (fun _ z => nomatch z)
  exact ⟨.ref _, _, J, rfl, q _ c hn⟩
def rLenS (w : World) : List V → Hp → VK → Prop := fun vs H Q => ∃ (a : Addr) (ns : List Int) (n : Nat), vs = [V.ref a] ∧ H a = some (SetO w a (fun j => decide (j ∈ ns)) n) ∧ ns.length ≤ 4000 ∧ Q (.int ((uniqI ns).length : Nat)) H
theorem setR_card {w : World} {h : Heap} {a : Addr} {ns : List Int} {n : Nat} (R : SetR w h a (fun j => decide (j ∈ ns)) n) : n = (uniqI ns).length := by
  obtain ⟨o, es, ep, t, ho, hex, hd, g, nd, hm, hb, hf, hn, hr, hl⟩ := R
  have := (nodup_same nd (uniqI_nodup ns) fun k => by rw [← hm k, uniqI_mem, decide_eq_true_eq]).length_eq
  rw [← hn, ← this, List.length_map, Array.length_toList]
theorem cr_lenS : CallR X (.builtin "len") (rLenS X.w) := by
  intro pins s σ H vs us Q I r h
  obtain ⟨a, ns, n, rfl, ha, hz, q⟩ := h
  have R := setO_get I ha
  have hc := setR_card R
  rw [Vals.ref1 r]
  obtain ⟨o, es, ep, t, ho, hex, hd, g, nd, hm, hb, hf, hn, hr, hl⟩ := R
  have := uniqI_le ns
  exact call_len_set ho hex hd hf (by omega) ⟨.int es.size, H, I.tok _, ⟨_, rfl⟩, by rw [hn, hc]; exact q⟩
def pSt (w : World) : PRel (List Int) V := fun _ m H ns v => ns.length ≤ 4000 ∧ ∃ p c, v = .ref p ∧ H p = some (SetO w p (fun j => decide (j ∈ ns)) c)
theorem anti_St {w : World} : Anti (pSt w) := fun _ _ _ _ _ _ _ h => h
abbrev FSt := Loc → Sto → Out (List Int)
abbrev MSt (X : Cx) (W : WX) (e : Expr) (f : FSt) : Prop := PE X e (tX X.K W (pSt X.w) f)
def oSetI (xs : List D) (S : Sto) : Out (List Int) := match intsD xs with
  | some ns => if ns.length ≤ 4000 then .ok ns S else .bad
  | none => .bad
variable {W : WX} {e : Expr} {p pos : Pos} {q : FQ} {f : FSt}
theorem mst_set (hc : X.calm = true) (hg : Gl X "set") (hm : X.mg "set" = none) (hb : bootBuiltins "set" = some (.type "set")) (he : MQ X W e q) (s1 : starEach [e] X.env = (false, eval e X.env) :: starEach [] X.env := by rfl) (hpl : (backTo pos (starEach [] X.env)).any (·.1) = false := by rfl) : MSt X W (.Call (.Name "set" p) [e] [] pos) (eB1 oSetI q) :=
  call1T (cr_setI hc) (fun W σ m H H0 S x v Q R ⟨p, vs, h1, h2, h3⟩ q => by
    subst h1
    unfold oSetI at q
    split at q
    · rename_i ns e
      split at q
      · rename_i hz
        rw [intsD_ok e] at h3
        rw [VRs.ints h3] at h2
        exact ⟨p, ns, rfl, h2.imp id SqN.t, hz, fun t c ht => q _ _ m (Ext.tmp ht) (R.tmp ht) ⟨hz, t, c, rfl, upd_same⟩⟩
      · exact q.elim
    · exact q.elim) anti_St hg hm hb he (by decide) (by decide) s1 hpl
def oLenSt (ns : List Int) (S : Sto) : Out D := .ok (.int ((uniqI ns).length : Nat)) S
theorem me_lenSt (hg : Gl X "len") (hm : X.mg "len" = none) (he : MSt X W e f) (s1 : starEach [e] X.env = (false, eval e X.env) :: starEach [] X.env := by rfl) (hpl : (backTo pos (starEach [] X.env)).any (·.1) = false := by rfl) : ME X W (.Call (.Name "len" p) [e] [] pos) (eB1 oLenSt f) :=
  call1B cr_lenS (fun W σ m H H0 S ns v Q R ⟨hz, p, c, h1, h2⟩ q => ⟨p, ns, c, by rw [h1], h2, hz, q _ H m .refl R (by simp only [VR])⟩) anti_D hg hm PySem.boot_len he (by decide) (by decide) s1 hpl
def oSortSt (ns : List Int) (S : Sto) : Out LV := if ns.length < 64 then .ok (.tmp (((uniqI ns).mergeSort fun a b => decide (a ≤ b)).map .int)) S else .bad
theorem rSortedSt (hc : X.calm = true) : CallR X (.builtin "sorted") (fun vs H Q => ∃ (a : Addr) (ns : List Int) (n : Nat), vs = [V.ref a] ∧ H a = some (SetO X.w a (fun j => decide (j ∈ ns)) n) ∧ ns.length < 64 ∧
    ∀ p, H p = none → Q (.ref p) (upd H p (.lst (((uniqI ns).mergeSort fun a b => decide (a ≤ b)).map V.int)))) := by
  intro pins s σ H vs us Q I r ⟨a, ns, n, e, ha, hz, q⟩
  have hn := setR_card (setO_get I ha)
  have := uniqI_le ns
  refine cr_sortedSet hc pins s σ H vs us Q I r ⟨a, _, n, e, ha, by omega, fun ms p so hm hl hp => ?_⟩
  have pm : ms.Perm (uniqI ns) := nodup_same (so.imp fun h => by omega) (uniqI_nodup ns) fun k => by rw [hm, uniqI_mem, decide_eq_true_eq]
  rw [sort_uniqI pm (so.imp fun h => by omega)]
  exact q p hp
theorem ml_sortSt (hc : X.calm = true) (hg : Gl X "sorted") (hm : X.mg "sorted" = none) (hb : bootBuiltins "sorted" = some (.builtin "sorted")) (he : MSt X W e f) (s1 : starEach [e] X.env = (false, eval e X.env) :: starEach [] X.env := by rfl) (hpl : (backTo pos (starEach [] X.env)).any (·.1) = false := by rfl) : ML X W (.Call (.Name "sorted" p) [e] [] pos) (eB1 oSortSt f) :=
  call1B (rSortedSt hc) (fun W σ m H H0 S ns v Q R ⟨hz, p, c, h1, h2⟩ q => by
    unfold oSortSt at q
    split at q
    · rename_i h64
      exact ⟨p, ns, c, by rw [h1], h2, h64, fun t ht => q _ _ m (Ext.tmp ht) (R.tmp ht) (pL.new .refl R ht (VRs.of_ints _))⟩
    · exact q.elim) anti_L hg hm hb he (by decide) (by decide) s1 hpl
end
end Pz

set_option Elab.async false
set_option linter.all false
set_option maxRecDepth 100000
set_option maxHeartbeats 4000000
/-! Pz19: a, b, c = x, y, z; .. -/
namespace Pz
open PySem PySem.Spec PyProof.Rows L2
section
variable {X : Cx} {W : WX} {pos : Pos}
def sPar3 (i j k : Nat) (f : FA) : FS := fun l S => toS l (f l S) fun ds S1 => match ds with
  | [x, y, z] => .nx (((l.set i (some x)).set j (some y)).set k (some z)) S1
  | _ => .bad
theorem ms_par3 {i j l : Nat} {x y z : Str} {a b c : Expr} {fa : FA} {px py pz pt : Pos} {kt k2 pt2} (hc : X.calm = true) (hN : X.N.Nodup) (ha : MA X W [a, b, c] fa) (hi : X.N[i]? = some x := by rfl) (hj : X.N[j]? = some y := by rfl) (hl : X.N[l]? = some z := by rfl) (hij : i ≠ j := by decide) (hil : i ≠ l := by decide) (hjl : j ≠ l := by decide)
    (hx : X.env.scope.names.lookup x = some .local := by rfl) (hy : X.env.scope.names.lookup y = some .local := by rfl) (hz : X.env.scope.names.lookup z = some .local := by rfl)
    (hw : swappedStores [.Tuple [.Name x px, .Name y py, .Name z pz] kt pt] (.Tuple [a, b, c] k2 pt2) X.env = pure (some [x, y, z]) := by rfl)
    (hs : swapsWithSole [.Tuple [.Name x px, .Name y py, .Name z pz] kt pt] (.Tuple [a, b, c] k2 pt2) pos.line X.env = pure false := by rfl) : MS X W (.Assign [.Tuple [.Name x px, .Name y py, .Name z pz] kt pt] (.Tuple [a, b, c] k2 pt2) pos) (sPar3 i j l fa) :=
  (ps_par3 hc hN hi hj hl hij hil hjl hx hy hz ha hw hs).imp fun D' σ H ⟨l, m, S, R, q⟩ => ⟨l, m, S, R, postS.bind (PR := pA X.K) R q fun ds S1 ws H1 m1 E1 R1 V1 R2 q1 => by
    split at q1
    · simp only [VRs] at V1
      obtain ⟨v, _, rfl, h1, w, _, rfl, h2, u, _, rfl, h3, rfl⟩ := V1
      exact ⟨v, w, u, rfl, q1 _ H1 m1 .refl (((R2.put h1).put h2).put h3)⟩
    · exact q1.elim⟩
end
end Pz

set_option Elab.async false
set_option linter.all false
set_option maxRecDepth 100000
set_option maxHeartbeats 4000000
/-! Pz20: texts: join, split, str, int of a text, a sign in a text, walks over texts; what is never reached. -/
namespace Pz
open PySem PySem.Spec PyProof.Rows L2
section
variable {X : Cx} {W : WX} {a b c e o tg : Expr} {f g : FE} {q : FQ} {p pos apos : Pos} {K : PySem.W.Frag} {m : List Addr} {H : Hp} {S : Sto} {st : Stmt}
def strsD : List D → Option (List Str) := mapO fun d => match d with
  | .str i => some i
  | _ => none
theorem strsD_ok : ∀ {ds : List D} {ns : List Str}, strsD ds = some ns → ds = ns.map D.str
  | [], ns, h => by cases h; rfl
  | d :: ds, ns, h => by
    unfold strsD mapO at h
    split at h
    · rename_i y ys h1 h2
      cases h
      split at h1
      · cases h1
        rw [strsD_ok (ds := ds) h2]; rfl
      · cases h1
    · cases h
theorem strsD_map (ns : List Str) : strsD (ns.map D.str) = some ns := by
  induction ns with
  | nil => rfl
  | cons n ns ih =>
    unfold strsD at ih ⊢
    rw [List.map_cons, mapO, ih]
/-- the receiver is a text -/
def asS (x : D) (S : Sto) : Out D := match x with
  | .str a => .ok (.str a) S
  | _ => .bad
theorem asS_bind {α β : Type} {PR : PRel α β} {σ : L2.St} {Q : β → Hp → Prop} {k : D → Sto → Out α} {x : D} (h : post K W PR σ m H Q ((asS x S).bind k)) : ∃ a, x = .str a ∧ post K W PR σ m H Q (k (.str a) S) := by
  cases x with
  | str a => exact ⟨a, rfl, h⟩
  | _ => exact h.elim
def oJoin (x : D) (xs : List D) (S : Sto) : Out D := match x, strsD xs with
  | .str a, some ys => if (ys.map (·.length)).sum + ys.length * a.length ≤ 16777216 then .ok (.str (Txt.join a ys)) S else .bad
  | _, _ => .bad
def eJoin (f : FE) (q : FQ) : FE := fun l S => (f l S).bind fun x S1 => (asS x S1).bind fun x S1 => (q l S1).bind fun xs S2 => oJoin x xs S2
theorem me_join (ho : ME X W o f) (he : MQ X W e q) (hs : starEach [e] X.env = [(false, eval e X.env)] := by rfl) (hbase : attributeBase o "join" X.env (eval o X.env) = eval o X.env := by rfl) (hline : (apos.endLine == pos.line) = true := by rfl) :
    ME X W (.Call (.Attribute o "join" apos) [e] [] pos) (eJoin f q) :=
  (pe_join ho he hs hbase hline).imp fun σ H Q ⟨l, m, S, R, z⟩ => ⟨l, m, S, R, post.bind (PR := pD X.K) anti_D z fun x S1 v H1 m1 E1 R1 V1 z1 => by
    obtain ⟨a, rfl, z1⟩ := asS_bind z1
    simp only [VR] at V1
    subst V1
    refine ⟨⟨a, rfl⟩, l, m1, S1, R.ext E1 R1, post.bind (PR := pQ X.K) anti_D z1 fun xs S2 u H2 m2 E2 R2 V2 z2 => ?_⟩
    obtain ⟨p, vs, rfl, h2, h3⟩ := V2
    cases hy : strsD xs with
    | none => simp only [oJoin, hy] at z2; exact z2.elim
    | some ys =>
      simp only [oJoin, hy] at z2
      split at z2
      · rename_i hz
        rw [strsD_ok hy] at h3
        rw [h3.strs] at h2
        exact ⟨a, p, ys, rfl, rfl, h2.imp id SqN.t, hz, z2 _ H2 m2 .refl R2 (by simp only [VR])⟩
      · exact z2.elim⟩
theorem VRs.of_strs : ∀ (ns : List Str), VRs K m H (ns.map D.str) (ns.map V.str)
  | [] => .nil
  | n :: ns => .cons (by simp only [VR]) (VRs.of_strs ns)
def oSplit (x y : D) (S : Sto) : Out LV := match x, y with
  | .str a, .str b => if b.length != 0 && decide (a.length + 2 ≤ sizeLine) then .ok (.tmp ((Txt.split a b).map .str)) S else .bad
  | _, _ => .bad
def lSplit (f g : FE) : FL := fun l S => (f l S).bind fun x S1 => (asS x S1).bind fun x S1 => (g l S1).bind fun y S2 => oSplit x y S2
theorem ml_split (ho : ME X W o f) (he : ME X W e g) (hs : starEach [e] X.env = [(false, eval e X.env)] := by rfl) (hbase : attributeBase o "split" X.env (eval o X.env) = eval o X.env := by rfl) (hline : (apos.endLine == pos.line) = true := by rfl) :
    ML X W (.Call (.Attribute o "split" apos) [e] [] pos) (lSplit f g) :=
  (pe_split ho he hs hbase hline).imp fun σ H Q ⟨l, m, S, R, z⟩ => ⟨l, m, S, R, post.bind (PR := pD X.K) anti_L z fun x S1 v H1 m1 E1 R1 V1 z1 => by
    obtain ⟨a, rfl, z1⟩ := asS_bind z1
    simp only [VR] at V1
    subst V1
    refine ⟨⟨a, rfl⟩, l, m1, S1, R.ext E1 R1, post.bind (PR := pD X.K) anti_L z1 fun y S2 u H2 m2 E2 R2 V2 z2 => ?_⟩
    cases y with
    | str b =>
      simp only [VR] at V2
      subst V2
      simp only [oSplit] at z2
      split at z2
      · rename_i hz
        simp only [Bool.and_eq_true, bne_iff_ne, decide_eq_true_eq] at hz
        exact ⟨a, b, rfl, rfl, by simpa using hz.1, hz.2, fun t ht => z2 _ _ m2 (Ext.tmp ht) (R2.tmp ht) (pL.new .refl R2 ht (VRs.of_strs _))⟩
      · exact z2.elim
    | _ => exact z2.elim⟩
/-! str(x), int(text) -/
def oStrOf (x : D) (S : Sto) : Out D := match x with
  | .str a => .ok (.str a) S
  | .int i => if i.natAbs.log2 < 1920 then .ok (.str (toString i)) S else .bad
  | _ => .bad
theorem me_strOf (hg : Gl X "str") (hm : X.mg "str" = none) (hb : bootBuiltins "str" = some (.type "str")) (he : ME X W e f) (s1 : starEach [e] X.env = (false, eval e X.env) :: starEach [] X.env := by rfl) (hpl : (backTo pos (starEach [] X.env)).any (·.1) = false := by rfl) : ME X W (.Call (.Name "str" p) [e] [] pos) (eB1 oStrOf f) :=
  call1T (CallR.or2 SkE.call_str_str call_str_int) (fun W σ m H H0 S x v Q R V q => by
    cases x with
    | str a =>
      simp only [VR] at V
      subst V
      exact .inl ⟨a, rfl, q _ H m .refl R (by simp only [VR])⟩
    | int i =>
      simp only [VR] at V
      subst V
      simp only [oStrOf] at q
      split at q
      · rename_i hz
        exact .inr ⟨i, rfl, hz, q _ H m .refl R (by simp only [VR])⟩
      · exact q.elim
    | _ => exact q.elim) anti_D hg hm hb he (by decide) (by decide) s1 hpl
def oIntS (x : D) (S : Sto) : Out D := match x with
  | .str a => match PySem.intText? a with
    | some n => if a.length ≤ 640 then .ok (.int n) S else .bad
    | none => .bad
  | _ => .bad
theorem me_intS (hg : Gl X "int") (hm : X.mg "int" = none) (hb : bootBuiltins "int" = some (.type "int")) (he : ME X W e f) (s1 : starEach [e] X.env = (false, eval e X.env) :: starEach [] X.env := by rfl) (hpl : (backTo pos (starEach [] X.env)).any (·.1) = false := by rfl) : ME X W (.Call (.Name "int" p) [e] [] pos) (eB1 oIntS f) :=
  call1T call_int_str (fun W σ m H H0 S x v Q R V q => by
    cases x with
    | str a =>
      simp only [VR] at V
      subst V
      simp only [oIntS] at q
      split at q
      · rename_i n hn
        split at q
        · rename_i hz
          exact ⟨a, n, rfl, hn, hz, q _ H m .refl R (by simp only [VR])⟩
        · exact q.elim
      · exact q.elim
    | _ => exact q.elim) anti_D hg hm hb he (by decide) (by decide) s1 hpl
/-! one sign in a text -/
def dInS (x y : D) : Option Bool := match x, y with
  | .str a, .str z => match a.cps.toList with
    | [c] => some (decide (c ∈ z.cps.toList))
    | _ => none
  | _, _ => none
theorem dInS_ok {x y : D} {v u : V} {k : Bool} (h : dInS x y = some k) (rx : VR K m H x v) (ry : VR K m H y u) : ∃ c z, v = .str ⟨#[c]⟩ ∧ u = .str z ∧ decide (c ∈ z.cps.toList) = k := by
  unfold dInS at h
  split at h
  · rename_i a z
    split at h
    · rename_i c hc
      cases h
      simp only [VR] at rx ry
      have e : a = ⟨#[c]⟩ := by
        obtain ⟨cps⟩ := a
        have : cps = #[c] := by simpa using congrArg List.toArray hc
        rw [this]
      exact ⟨c, z, by rw [rx, e], ry, rfl⟩
    · cases h
  · cases h
def oInS (x y : D) (S : Sto) : Out D := match dInS x y with
  | some b => .ok (.bl b) S
  | none => .bad
def oNinS (x y : D) (S : Sto) : Out D := match dInS x y with
  | some b => .ok (.bl (!b)) S
  | none => .bad
theorem o2_inS : O2 K (fun x y H Q => ∃ (c : Nat) (z : Str), x = .str ⟨#[c]⟩ ∧ y = .str z ∧ Q (.bl (decide (c ∈ z.cps.toList))) H) oInS := fun W σ m H S x y v u Q s rx ry q => by
  unfold oInS at q
  split at q
  · rename_i k hk
    obtain ⟨c, z, h1, h2, h3⟩ := dInS_ok hk rx ry
    exact ⟨c, z, h1, h2, by rw [h3]; exact q _ H m .refl s (by simp only [VR])⟩
  · exact q.elim
theorem o2_ninS : O2 K (fun x y H Q => ∃ (c : Nat) (z : Str), x = .str ⟨#[c]⟩ ∧ y = .str z ∧ Q (.bl (!decide (c ∈ z.cps.toList))) H) oNinS := fun W σ m H S x y v u Q s rx ry q => by
  unfold oNinS at q
  split at q
  · rename_i k hk
    obtain ⟨c, z, h1, h2, h3⟩ := dInS_ok hk rx ry
    exact ⟨c, z, h1, h2, by rw [h3]; exact q _ H m .refl s (by simp only [VR])⟩
  · exact q.elim
theorem me_inS (ha : ME X W a f) (hb : ME X W b g) (hm : behindInMarks .In b = false := by rfl) : ME X W (.Compare a [.In] [b] pos) (e2 oInS f g) := me_cmp op_in_sign o2_inS ha hb hm
theorem me_ninS (ha : ME X W a f) (hb : ME X W b g) (hm : behindInMarks .NotIn b = false := by rfl) : ME X W (.Compare a [.NotIn] [b] pos) (e2 oNinS f g) := me_cmp op_notIn_sign o2_ninS ha hb hm
theorem mt_inS (ha : ME X W a f) (hb : ME X W b g) (hm : behindInMarks .In b = false := by rfl) : MT X W (.Compare a [.In] [b] pos) (eT (e2 oInS f g)) := mt_cmp op_in_sign o2_inS ha hb hm
theorem mt_ninS (ha : ME X W a f) (hb : ME X W b g) (hm : behindInMarks .NotIn b = false := by rfl) : MT X W (.Compare a [.NotIn] [b] pos) (eT (e2 oNinS f g)) := mt_cmp op_notIn_sign o2_ninS ha hb hm
/-! a text, sign by sign -/
def signs (x : Str) : List D := x.cps.toList.map fun c => .str ⟨#[c]⟩
def kStr (x : D) (S : Sto) : Out Src := match x with
  | .str z => .ok ⟨signs z, noGd⟩ S
  | _ => .bad
def iStrD (f : FE) : FI := fun l S => (f l S).bind kStr
theorem mi_str (h : ME X W e f) : MI X W tg e (iStrD f) := (pi_str h).imp fun σ H Q ⟨l, m, S, R, q⟩ => ⟨l, m, S, R, post.bind (PR := pD X.K) anti_I q fun x S1 v H1 m1 E1 R1 V1 q1 => by
  cases x with
  | str z =>
    simp only [VR] at V1
    subst V1
    refine ⟨z, rfl, q1 _ H1 m1 .refl R1 fun m' H' S' E s' _ i => ⟨fun d hd => ?_, fun hi => ?_⟩⟩
    · simp only [signs, List.getElem?_map, Option.map_eq_some_iff, Array.getElem?_toList] at hd
      obtain ⟨c, hc, rfl⟩ := hd
      refine ⟨(Array.getElem?_eq_some_iff.mp hc).1, fun y H2 ⟨e, c', hc', hy⟩ => ?_⟩
      rw [hc] at hc'
      cases hc'
      subst e hy
      exact ⟨.refl, s', by simp only [VR]⟩
    · show z.cps.size ≤ i
      rw [← hi]; simp [signs]
  | _ => exact q1.elim⟩
/-! what is never reached -/
def sNever : FS := fun _ _ => .bad
theorem ms_never : MS X W st sNever := ps_never.imp fun D' σ H ⟨l, m, S, R, q⟩ => q.elim
end
end Pz

set_option Elab.async false
set_option linter.all false
set_option maxRecDepth 100000
set_option maxHeartbeats 4000000
/-! Pz21: calls of own defs by keywords alone. -/
namespace Pz
open PySem PySem.Spec PyProof.Rows L2
def permL {α : Type} (perm : List Nat) (xs : List α) : List α := perm.filterMap fun i => xs[i]?
/-- a def that is called by keywords alone -/
structure FnK (P : Program) (w : World) (K : PySem.W.Frag) (mg : Str → Option Value) (base : Heap) (k : Nat) (x : Str) (ks : List Str) (perm : List Nat) (F : List D → Sto → Out D) : Prop where
  ex : ∃ f fd ps, FnOk P w K mg base (L2.CX P w) k f fd ps (spF K F) ∧ mg x = some (.ref f) ∧ PySem.W.keepIn K (.ref f) = true ∧
    ∀ (s : Shared) (ws : List Value), ws.length = ks.length → BindsTo s fd ⟨[], ks.zip ws⟩ (ps.zip (permL perm ws))
structure TxK (K : PySem.W.Frag) (mg : Str → Option Value) (x : Str) (st : Stmt) (ps ks : List Str) (perm : List Nat) : Prop where
  ex : ∃ f fd, Fun K x x st f fd ∧ mg x = some (.ref f) ∧ ∀ (s : Shared) (ws : List Value), ws.length = ks.length → BindsTo s fd ⟨[], ks.zip ws⟩ (ps.zip (permL perm ws))
section
variable {P : Program} {w : World} {K : PySem.W.Frag} {mg : Str → Option Value} {base h : Heap} {x : Str} {st : Stmt} {ps ks N : List Str} {perm : List Nat} {k : Nat} {b : FS}
theorem fnK_of {F : List D → Sto → Out D} {n m : Nat} (hF : F = runF n m b) (t : TxK K mg x st ps ks perm) (hn : ps.length = n) (hm : N.length = m) (sc : FnScope N ps (defScope st))
    (hbody : ∀ (f : Addr) (cdv : Value) (A : Around) (outer : List Env) (s : Shared) (H : Hp) (E : XK), Room k (cxB P w K mg base N x st f cdv A outer s H E).A → MSs (cxB P w K mg base N x st f cdv A outer s H E) (wE E) (defBody st) b) :
    FnK P w K mg base (k + 1) x ks perm F := by
  subst hF hn hm
  obtain ⟨f, fd, h1, h2, h3⟩ := t.ex
  exact ⟨f, fd, ps, fn_ok h1 sc (hbody f), h2, h1.kp, h3⟩
theorem txk_mk {f : Addr} {oc : Value} {od an : Option Addr} {osl : Array (Option Value)} {kV doc pm cdv ct : Value} (X : K.In h) (G : h.Ns mainGlobals mg)
    (bd : ∀ (kV doc pm : Value) (an : Option Addr) (cdv ct : Value) (ws : List Value), ws.length = ks.length → bindArgs (PySem.W.fnOf x x (defArgs st) (defBody st) (defScope st) .none kV doc pm an cdv ct) ⟨[], ks.zip ws⟩ = pure (ps.zip (permL perm ws)))
    (a : PySem.W.nsIn K mainGlobals x = some (some (.ref f)))
    (l : K.lookup f = some ⟨oc, od, .func (PySem.W.fnOf x x (defArgs st) (defBody st) (defScope st) .none kV doc pm an cdv ct), osl⟩) (c : PySem.W.codeIn K cdv x = true) (k : PySem.W.keepIn K (.ref f) = true) : TxK K mg x st ps ks perm :=
  ⟨f, _, fun_mk l c k, PySem.W.mg_of X G a, fun s ws hl => .of_eq (bd kV doc pm an cdv ct ws hl)⟩
end
section
variable {X : Cx} {W : WX} {k : Nat} {x : Str} {e : Expr} {kws : List Keyword} {p pos kpos : Pos} {F : List D → Sto → Out D} {fa : FA} {f : FE} {nm : Option Str} {ks : List Str} {perm : List Nat}
abbrev MK (X : Cx) (W : WX) (kws : List Keyword) (f : FA) : Prop := PK X kws (tX X.K W (pA X.K) f)
theorem _root_.L2.PK.imp {X : Cx} {e : List Keyword} {t t' : TA} (h : PK X e t) (i : ∀ σ H Q, t' σ H Q → t σ H Q) : PK X e t' := ⟨fun pos pins s σ H Q I q => h.run pos pins s σ H Q I (i _ _ _ q)⟩
theorem mk_nil : MK X W [] aN := pk_nil.imp fun σ H Q ⟨l, m, S, R, q⟩ => q [] H m .refl R.sr .nil
theorem mk_cons {g : FA} (ha : ME X W e f) (hr : MK X W kws g) : MK X W (⟨nm, e, kpos⟩ :: kws) (aC f g) :=
  (pk_cons ha hr).imp fun σ H Q ⟨l, m, S, R, q⟩ => ⟨l, m, S, R, post.bind (PR := pD X.K) anti_A q fun x S1 v H1 m1 E1 R1 V1 q1 => ⟨l, m1, S1, R.ext E1 R1, post.bind (PR := pA X.K) anti_A q1 fun xs S2 vs H2 m2 E2 R2 V2 q2 =>
    q2 _ H2 m2 .refl R2 (.cons (VR.ext E2 x v V1) V2)⟩⟩
def oPerm (n : Nat) (perm : List Nat) (F : List D → Sto → Out D) (ds : List D) (S : Sto) : Out D := if ds.length = n then F (permL perm ds) S else .bad
def eCallK (n : Nat) (perm : List Nat) (F : List D → Sto → Out D) (fa : FA) : FE := fun l S => (fa l S).bind (oPerm n perm F)
theorem permL_get {α : Type} (perm : List Nat) (xs : List α) (i : Nat) : permL (i :: perm) xs = match xs[i]? with
    | some x => x :: permL perm xs
    | none => permL perm xs := by
  simp only [permL, List.filterMap_cons]
  cases xs[i]? <;> rfl
theorem VRs.permL {K : PySem.W.Frag} {m : List Addr} {H : Hp} {ds : List D} {vs : List V} (h : VRs K m H ds vs) : ∀ perm : List Nat, VRs K m H (permL perm ds) (permL perm vs)
  | [] => .nil
  | i :: perm => by
    rw [permL_get, permL_get]
    cases hd : ds[i]? with
    | some d =>
      obtain ⟨v, h1, h2⟩ := h.get hd
      rw [h1]
      exact .cons h2 (VRs.permL h perm)
    | none =>
      have : vs[i]? = none := by
        rw [List.getElem?_eq_none_iff] at hd ⊢
        rw [h.length]; exact hd
      rw [this]
      exact VRs.permL h perm
theorem Vals.permL {vs : List V} {us : List Value} (h : Vals vs us) : ∀ perm : List Nat, Vals (Pz.permL perm vs) (Pz.permL perm us)
  | [] => .nil
  | i :: perm => by
    have key : ∀ {vs : List V} {us : List Value} (i : Nat), Vals vs us → (∃ v u, vs[i]? = some v ∧ us[i]? = some u ∧ RelV v u) ∨ (vs[i]? = none ∧ us[i]? = none) := by
      intro vs us i h
      induction h generalizing i with
      | nil => exact .inr ⟨by simp, by simp⟩
      | cons r h ih =>
        cases i with
        | zero => exact .inl ⟨_, _, rfl, rfl, r⟩
        | succ i => simpa using ih i
    rw [permL_get, permL_get]
    rcases key i h with ⟨v, u, h1, h2, h3⟩ | ⟨h1, h2⟩
    · rw [h1, h2]; exact .cons h3 (Vals.permL h perm)
    · rw [h1, h2]; exact Vals.permL h perm
theorem vals_rep : ∀ n : Nat, Vals (List.replicate n V.non) (List.replicate n Value.none)
  | 0 => .nil
  | n + 1 => .cons rfl (vals_rep n)
theorem run_fnkD {CX : CXT} {pins : List (Addr × Obj)} {σ : L2.St} {H : Hp} {s : Shared} {Q : VK} {f : Addr} {fd : FuncData} {ps : List Str} {sp : Sp} {E : XK} {g : List Value → List Value → List Value} {gV : List V → List V → List V} {us ws : List Value} {vs zs : List V} (F : FnOk X.prog X.w X.K X.mg X.base CX k f fd ps sp) (hr : Room k X.A) (hb : KBinds X.K fd ps ks g gV)
    (hx : PassesAt CX X σ E) (I : Inv X pins σ H s) (r : Vals vs us) (rz : Vals zs ws) (h : sp (gV vs zs) H Q E) : wpAny (model X.prog X.w) X.A (call (.ref f) us (ks.zip ws)) (EP X pins σ Q) X.xe s := by
  have l2 : (g us ws).length = ps.length := by rw [← (hb.rel r rz).length]; exact F.len _ _ _ _ h
  refine wpAny_call (codeAny_mono (F.run X.A X.stack s H ⟨us, ks.zip ws⟩ _ _ Q E hr I.env0 (hb.to s us ws I.kIn l2) (hb.rel r rz) h) fun r s' z => ?_)
  match r, z with
  | .error e, z => exact hx pins H s e s' I z
  | .ok (.ret u), z => exact I.after z
theorem me_callK {n : Nat} (h : FnK X.prog X.w X.K X.mg X.base k x ks perm F) (hr : Room k X.A) (tk : Takes X W) (hg : Gl X x) (ha : MK X W kws fa) (hn : ks.length = n) (hdb : (x == ("__debug__" : Str)) = false := by decide)
    (hall : (backToKw pos (keywordEach kws X.env)).all (·.1.isSome) = true := by rfl) (hks : (backToKw pos (keywordEach kws X.env)).filterMap (·.1) = ks := by rfl)
    (hpl : ((backTo pos (starEach [] X.env)).any (·.1) || (backToKw pos (keywordEach kws X.env)).any (·.1.isNone)) = false := by rfl) : ME X W (.Call (.Name x p) [] kws pos) (eCallK n perm F fa) := by
  obtain ⟨f, fd, ps, h1, h2, h3, h4⟩ := h.ex
  have kb : KBinds X.K fd ps ks (fun us ws => if us.length = 0 ∧ ws.length = n then permL perm ws else List.replicate (ps.length + 1) .none) (fun vs zs => if vs.length = 0 ∧ zs.length = n then permL perm zs else List.replicate (ps.length + 1) .non) := by
    refine ⟨fun s us ws _ hl => ?_, fun r rz => ?_⟩
    · by_cases q : us.length = 0 ∧ ws.length = n
      · rw [if_pos q]
        obtain ⟨q1, q2⟩ := q
        have : us = [] := List.eq_nil_of_length_eq_zero q1
        subst this
        exact h4 s ws (by omega)
      · rw [if_neg q] at hl
        simp at hl
    · rw [r.length, rz.length]
      split
      · exact Vals.permL rz perm
      · exact vals_rep _
  refine ⟨fun pins s σ H Q I ⟨l, m, S, R, q⟩ => ?_⟩
  refine wpAny_Call_Name_kw (ld_glob I hg h2 ?_ hdb)
  refine PySem.W.callWith_KW0 (h₀ := X.base) I.ok.mod.kin h3 hall (thn (ha.run pos pins s σ H (fun vs H1 => spF X.K F (if vs.length = n then permL perm vs else List.replicate (ps.length + 1) .non) H1 Q (fun cls d H => W cls d σ H)) I ⟨l, m, S, R, post.bind (PR := pA X.K) anti_D q fun ds S1 vs H1 m1 E1 R1 V1 q1 => ?_⟩) fun ws s2 ⟨zs, H2, I2, rz, q2⟩ => ⟨I2.kIn, ?_⟩) hpl
  · unfold oPerm at q1
    split at q1
    · rename_i hl
      rw [if_pos (by rw [V1.length]; exact hl)]
      exact ⟨_, m1, S1, V1.permL perm, R1, post.wE q1⟩
    · exact q1.elim
  · rw [hks]
    refine run_fnkD h1 hr kb (passAt tk σ) I2 .nil rz ?_
    show spF X.K F (if ([] : List V).length = 0 ∧ zs.length = n then permL perm zs else List.replicate (ps.length + 1) .non) H2 Q _
    have e : (([] : List V).length = 0 ∧ zs.length = n) ↔ zs.length = n := by simp
    simp only [e]
    exact q2
end
end Pz

set_option Elab.async false
set_option linter.all false
set_option maxRecDepth 100000
set_option maxHeartbeats 4000000
/-! Pz22: instances of own classes: made, their fields, their methods. -/
namespace Pz
open PySem PySem.Spec PyProof.Rows L2

/-! ### fields -/
def putFD (f : Str) (d : D) : List (Str × D) → List (Str × D)
  | [] => [(f, d)]
  | (g, x) :: r => if g = f then (g, d) :: r else (g, x) :: putFD f d r
section
variable {K : PySem.W.Frag} {m : List Addr} {H : Hp} {S : Sto}
theorem AR.putF {f : Str} {d : D} {v : V} (r : VR K m H d v) : ∀ {ds : List (Str × D)} {us : List (Str × V)}, AR K m H ds us → AR K m H (putFD f d ds) (L2.putF f v us)
  | [], us, h => by
    simp only [AR] at h
    subst h
    exact ⟨v, [], rfl, r, rfl⟩
  | (g, x) :: ds, us, h => by
    obtain ⟨w, q, rfl, h1, h2⟩ := h
    simp only [putFD, L2.putF]
    split
    · exact ⟨v, q, rfl, r, h2⟩
    · exact ⟨w, _, rfl, h1, AR.putF r h2⟩
theorem AR.lookF {f : Str} {d : D} {ds : List (Str × D)} {us : List (Str × V)} (h : AR K m H ds us) (e : ds.lookup f = some d) : ∃ v, us.lookup f = some v ∧ VR K m H d v := by
  have := AR.lookup (k := f) h
  rw [e] at this
  exact this
theorem AR.lookN {f : Str} {ds : List (Str × D)} {us : List (Str × V)} (h : AR K m H ds us) (e : ds.lookup f = none) : us.lookup f = none := by
  have := AR.lookup (k := f) h
  rw [e] at this
  exact this
end
def oFld (Cs : List Str) (f : Str) (x : D) (S : Sto) : Out D := match x with
  | .ref n => match S[n]? with
    | some (.ins C fs) => if C ∈ Cs then match fs.lookup f with
      | some d => .ok d S
      | none => .bad else .bad
    | _ => .bad
  | _ => .bad
/-- what a class must say, so that a field of its instances may be read and stored -/
structure FldC (K : PySem.W.Frag) (C f : Str) : Prop where
  cl : Cls K (clsA K C)
  no : NoAttr K (clsA K C) f
section
variable {X : Cx} {W : WX} {a b c e o : Expr} {rest es : List Expr} {f g h : FE} {pos p apos : Pos} {K : PySem.W.Frag} {m : List Addr} {H : Hp} {S : Sto} {C : Str} {Cs : List Str} {nm : Str} {k : Nat} {F : List D → Sto → Out D} {fa : FA}
theorem me_fld (hc : ∀ C ∈ Cs, FldC X.K C nm) (ho : ME X W o f) (hb : attributeBase o nm X.env (eval o X.env) = eval o X.env := by rfl) : ME X W (.Attribute o nm pos) (e1 (oFld Cs nm) f) :=
  (pe_fld ho hb).imp fun σ H Q ⟨l, m, S, R, q⟩ => ⟨l, m, S, R, post.bind (PR := pD X.K) anti_D q fun x S1 v H1 m1 E1 R1 V1 q1 => by
    cases x with
    | ref n =>
      simp only [oFld] at q1
      split at q1
      · rename_i C fs hn
        split at q1
        · rename_i hC
          split at q1
          · rename_i d hd
            obtain ⟨a, rfl, h1, h2, dx, us, h3, h4⟩ := R1.ref hn V1
            obtain ⟨w, h5, h6⟩ := AR.lookF h4 hd
            exact ⟨a, clsA X.K C, dx, us, w, rfl, h3, (hc C hC).cl, (hc C hC).no, h5, q1 w H1 m1 .refl R1 h6⟩
          · exact q1.elim
        · exact q1.elim
      · exact q1.elim
    | _ => exact q1.elim⟩
def oSetF (Cs : List Str) (f : Str) (d x : D) (S : Sto) : Option Sto := match x with
  | .ref n => match S[n]? with
    | some (.ins C fs) => if C ∈ Cs ∧ fs.length < 1000 then some (S.set n (.ins C (putFD f d fs))) else none
    | _ => none
  | _ => none
def sSetF (Cs : List Str) (nm : Str) (f g : FE) : FS := fun l S => toS l (f l S) fun d S1 => toS l (g l S1) fun x S2 => match oSetF Cs nm d x S2 with
  | some S3 => .nx l S3
  | none => .bad
theorem ms_setF {p1 : Pos} (hc : ∀ C ∈ Cs, FldC X.K C nm) (he : ME X W e f) (ho : ME X W o g) (hs : swapsWith e (some (.Attribute o nm p1)) pos.line X.env = pure false := by rfl) : MS X W (.Assign [.Attribute o nm p1] e pos) (sSetF Cs nm f g) :=
  (ps_fld ho he hs).imp fun D' σ H ⟨l, m, S, R, q⟩ => ⟨l, m, S, R, postS.bind (PR := pD X.K) R q fun d S1 v H1 m1 E1 R1 V1 R2 q1 => ⟨l, m1, S1, R2, postS.bind (PR := pD X.K) R2 q1 fun x S2 u H2 m2 E2 R3 V2 R4 q2 => by
    cases x with
    | ref n =>
      simp only [oSetF] at q2
      cases hn : S2[n]? with
      | none => rw [hn] at q2; exact q2.elim
      | some o =>
        rw [hn] at q2
        cases o with
        | ins C fs =>
          by_cases hC : C ∈ Cs ∧ fs.length < 1000
          · simp only [if_pos hC] at q2
            obtain ⟨a, rfl, h1, h2, dx, us, h3, h4⟩ := R3.ref hn V2
            have mu : Mu (H2 a) := OR.mu (K := X.K) (m := m2) (o := .ins C fs) ⟨dx, us, h3, h4⟩
            have E3 : Ext m2 H2 m2 (upd H2 a (.ins (clsA X.K C) dx (L2.putF nm v us))) := Ext.wr h2 mu
            have new : OR X.K m2 (upd H2 a (.ins (clsA X.K C) dx (L2.putF nm v us))) (.ins C (putFD nm d fs)) a := ⟨dx, _, upd_same, AR.ext E3 _ _ (AR.putF (VR.ext E2 _ _ V1) h4)⟩
            exact ⟨a, clsA X.K C, dx, us, rfl, h3, (hc C hC.1).cl, (hc C hC.1).no, by rw [AR.length h4]; exact hC.2, q2 σ _ m2 E3 (R4.ext E3 (R3.wr h1 mu new))⟩
          · simp only [if_neg hC] at q2
            exact q2.elim
        | lst xs => exact q2.elim
        | dk xs => exact q2.elim
        | dn xs => exact q2.elim
    | _ => exact q2.elim⟩⟩
/-! ### methods -/
def isIns (C : Str) (nm : Str) (x : D) (S : Sto) : Out D := match x with
  | .ref n => match S[n]? with
    | some (.ins C' fs) => if C' = C ∧ fs.lookup nm = none then .ok x S else .bad
    | _ => .bad
  | _ => .bad
def eMeth (C : Str) (nm : Str) (F : List D → Sto → Out D) (f : FE) (fa : FA) : FE := fun l S => (f l S).bind fun x S1 => (isIns C nm x S1).bind fun _ _ => (fa l S1).bind fun ds S2 => F (x :: ds) S2
structure FnM (P : Program) (w : World) (K : PySem.W.Frag) (mg : Str → Option Value) (base : Heap) (k : Nat) (C x : Str) (F : List D → Sto → Out D) : Prop where
  ex : ∃ f fd ps, FnOk P w K mg base (L2.CX P w) k f fd ps (spF K F) ∧ Meth K (clsA K C) x f ∧ Binds K fd ps [] ∧ Cls K (clsA K C)
theorem isIns_ok {x : D} {v : V} {α : Type} {kk : Out α} {PR : PRel α V} {σ : L2.St} {Q : VK} (s : SR K m H S) (rx : VR K m H x v) (q : post K W PR σ m H Q ((isIns C nm x S).bind fun _ _ => kk)) :
    ∃ a dx us, v = .ref a ∧ H a = some (.ins (clsA K C) dx us) ∧ us.lookup nm = none ∧ post K W PR σ m H Q kk := by
  cases x with
  | ref n =>
    simp only [isIns] at q
    cases hn : S[n]? with
    | none => rw [hn] at q; exact q.elim
    | some o =>
      rw [hn] at q
      cases o with
      | ins C' fs =>
        simp only at q
        by_cases h : C' = C ∧ fs.lookup nm = none
        · rw [if_pos h] at q
          obtain ⟨rfl, h⟩ := h
          obtain ⟨a, rfl, h1, h2, dx, us, h3, h4⟩ := s.ref hn rx
          exact ⟨a, dx, us, rfl, h3, AR.lookN h4 h, q⟩
        · rw [if_neg h] at q; exact q.elim
      | lst xs => exact q.elim
      | dk xs => exact q.elim
      | dn xs => exact q.elim
  | _ => exact q.elim
def tMethS (C : Addr) (m : Str) (sp : Sp) (E : L2.St → XK) (ta : TE) (t : TA) : TE := fun σ H Q => ta σ H fun x H1 => ∃ a dx fs, x = .ref a ∧ H1 a = some (.ins C dx fs) ∧ fs.lookup m = none ∧ t σ H1 fun vs H2 => sp (x :: vs) H2 Q (E σ)
theorem pe_methS {ta : TE} {t : TA} {fm : Addr} {fd : FuncData} {ps : List Str} {sp : Sp} {E : L2.St → XK} {pl : Sem Bool} {C : Addr} (he : PE X o ta) (c : Cls X.K C) (hm : Meth X.K C nm fm) (F : FnOk X.prog X.w X.K X.mg X.base (L2.CX X.prog X.w) k fm fd ps sp) (hr : Room k X.A) (hb : Binds X.K fd ps []) (hx : ∀ σ, PassesAt (L2.CX X.prog X.w) X σ (E σ)) (ha : PA X (e :: es) t)
    (hst : starEach (e :: es) X.env = (false, eval e X.env) :: starEach es X.env := by rfl) (hpl : (backTo pos (starEach es X.env)).any (·.1) = false := by rfl)
    (ht : eval (.Call (.Attribute o nm apos) (e :: es) [] pos) X.env = (do
      let ov ← eval o X.env
      standAt apos.atName
      let (f, first) ← holding [ov] (getMethod ov nm pl)
      callWith pos f first (backTo pos (starEach (e :: es) X.env)) (backToKw pos (keywordEach [] X.env))) := by rfl) : PE X (.Call (.Attribute o nm apos) (e :: es) [] pos) (tMethS C nm sp E ta t) := by
  refine ⟨fun pins s σ H Q I h => PySem.W.methodCall_KW (pl := pl) (thn (he.run pins s σ H _ I h) fun u s1 ⟨x, H1, I1, rx, a, dx, fs, ex, ea, l, q⟩ => ?_) ht⟩
  subst ex
  obtain rfl : u = Value.ref a := rx
  exact getmeth_ok I1 ea c hm l (PySem.W.callWith_K (first := [.ref a]) (h₀ := X.base) I.ok.mod.kin hm.kp (thn (ha.run pos pins s1 σ H1 _ I1 q) fun us s2 ⟨vs, H2, I2, r, q2⟩ => ⟨I2.kIn, run_fnS (us := .ref a :: us) (vs := .ref a :: vs) F hr hb (hx σ) I2 (.cons rfl r) q2⟩) hst hpl)
theorem pe_methS0 {ta : TE} {fm : Addr} {fd : FuncData} {ps : List Str} {sp : Sp} {E : L2.St → XK} {pl : Sem Bool} {C : Addr} (he : PE X o ta) (c : Cls X.K C) (hm : Meth X.K C nm fm) (F : FnOk X.prog X.w X.K X.mg X.base (L2.CX X.prog X.w) k fm fd ps sp) (hr : Room k X.A) (hb : Binds X.K fd ps []) (hx : ∀ σ, PassesAt (L2.CX X.prog X.w) X σ (E σ))
    (ht : eval (.Call (.Attribute o nm apos) [] [] pos) X.env = (do
      let ov ← eval o X.env
      standAt apos.atName
      let (f, first) ← holding [ov] (getMethod ov nm pl)
      callWith pos f first (backTo pos (starEach [] X.env)) (backToKw pos (keywordEach [] X.env))) := by rfl) : PE X (.Call (.Attribute o nm apos) [] [] pos) (tMethS C nm sp E ta tNil) := by
  refine ⟨fun pins s σ H Q I h => PySem.W.methodCall_KW (pl := pl) (thn (he.run pins s σ H _ I h) fun u s1 ⟨x, H1, I1, rx, a, dx, fs, ex, ea, l, q⟩ => ?_) ht⟩
  subst ex
  obtain rfl : u = Value.ref a := rx
  exact getmeth_ok I1 ea c hm l (PySem.W.callWith_K0 (first := [.ref a]) I1.kIn hm.kp (run_fnS (us := [.ref a]) (vs := [.ref a]) F hr hb (hx σ) I1 (.cons rfl .nil) q))
theorem me_meth {pl : Sem Bool} (h : FnM X.prog X.w X.K X.mg X.base k C nm F) (hr : Room k X.A) (tk : Takes X W) (ho : ME X W o f) (ha : MA X W (e :: es) fa)
    (hst : starEach (e :: es) X.env = (false, eval e X.env) :: starEach es X.env := by rfl) (hpl : (backTo pos (starEach es X.env)).any (·.1) = false := by rfl)
    (ht : eval (.Call (.Attribute o nm apos) (e :: es) [] pos) X.env = (do
      let ov ← eval o X.env
      standAt apos.atName
      let (f, first) ← holding [ov] (getMethod ov nm pl)
      callWith pos f first (backTo pos (starEach (e :: es) X.env)) (backToKw pos (keywordEach [] X.env))) := by rfl) : ME X W (.Call (.Attribute o nm apos) (e :: es) [] pos) (eMeth C nm F f fa) := by
  obtain ⟨fm, fd, ps, h1, h2, h3, h4⟩ := h.ex
  refine (pe_methS (pl := pl) (E := fun σ cls d H => W cls d σ H) ho h4 h2 h1 hr h3 (fun σ => passAt tk σ) ha hst hpl ht).imp fun σ H Q ⟨l, m, S, R, q⟩ => ⟨l, m, S, R, post.bind (PR := pD X.K) anti_D q fun x S1 v H1 m1 E1 R1 V1 q1 => ?_⟩
  obtain ⟨a, dx, us, rfl, h5, h6, q1⟩ := isIns_ok R1 V1 q1
  refine ⟨a, dx, us, rfl, h5, h6, l, m1, S1, R.ext E1 R1, post.bind (PR := pA X.K) anti_D q1 fun ds S2 vs H2 m2 E2 R2 V2 q2 => ?_⟩
  exact ⟨x :: ds, m2, S2, .cons (VR.ext E2 _ _ V1) V2, R2, post.wE q2⟩
theorem me_meth0 {pl : Sem Bool} (h : FnM X.prog X.w X.K X.mg X.base k C nm F) (hr : Room k X.A) (tk : Takes X W) (ho : ME X W o f)
    (ht : eval (.Call (.Attribute o nm apos) [] [] pos) X.env = (do
      let ov ← eval o X.env
      standAt apos.atName
      let (f, first) ← holding [ov] (getMethod ov nm pl)
      callWith pos f first (backTo pos (starEach [] X.env)) (backToKw pos (keywordEach [] X.env))) := by rfl) : ME X W (.Call (.Attribute o nm apos) [] [] pos) (eMeth C nm F f aN) := by
  obtain ⟨fm, fd, ps, h1, h2, h3, h4⟩ := h.ex
  refine (pe_methS0 (pl := pl) (E := fun σ cls d H => W cls d σ H) ho h4 h2 h1 hr h3 (fun σ => passAt tk σ) ht).imp fun σ H Q ⟨l, m, S, R, q⟩ => ⟨l, m, S, R, post.bind (PR := pD X.K) anti_D q fun x S1 v H1 m1 E1 R1 V1 q1 => ?_⟩
  obtain ⟨a, dx, us, rfl, h5, h6, q1⟩ := isIns_ok R1 V1 q1
  refine ⟨a, dx, us, rfl, h5, h6, ?_⟩
  show spF X.K F [.ref a] H1 Q _
  exact ⟨[x], m1, S1, .cons V1 .nil, R1, post.wE q1⟩

/-! ### defs of classes -/
/-- a def of a class, as the module holds it -/
structure TxM (K : PySem.W.Frag) (C x qual : Str) (st : Stmt) (ps : List Str) : Prop where
  ex : ∃ f fd, Fun K x qual st f fd ∧ Binds K fd ps [] ∧ Meth K (clsA K C) x f ∧ Cls K (clsA K C)
structure FnI (P : Program) (w : World) (K : PySem.W.Frag) (mg : Str → Option Value) (base : Heap) (k : Nat) (C : Str) (F : List D → Sto → Out D) : Prop where
  ex : ∃ f fd ps, FnOk P w K mg base (L2.CX P w) k f fd ps (spF K F) ∧ Mk K (clsA K C) f ∧ mg C = some (.ref (clsA K C)) ∧ Binds K fd ps []
structure TxI (K : PySem.W.Frag) (mg : Str → Option Value) (C x qual : Str) (st : Stmt) (ps : List Str) : Prop where
  ex : ∃ f fd, Fun K x qual st f fd ∧ Binds K fd ps [] ∧ Mk K (clsA K C) f ∧ mg C = some (.ref (clsA K C))
section
variable {P : Program} {w : World} {K : PySem.W.Frag} {mg : Str → Option Value} {base h : Heap} {C x qual : Str} {st : Stmt} {ps N : List Str} {k : Nat} {b : FS}
theorem fnM_of {F : List D → Sto → Out D} {n m : Nat} (hF : F = runF n m b) (t : TxM K C x qual st ps) (hn : ps.length = n) (hm : N.length = m) (sc : FnScope N ps (defScope st))
    (hbody : ∀ (f : Addr) (cdv : Value) (A : Around) (outer : List Env) (s : Shared) (H : Hp) (E : XK), Room k (cxB P w K mg base N qual st f cdv A outer s H E).A → MSs (cxB P w K mg base N qual st f cdv A outer s H E) (wE E) (defBody st) b) :
    FnM P w K mg base (k + 1) C x F := by
  subst hF hn hm
  obtain ⟨f, fd, h1, h2, h3, h4⟩ := t.ex
  exact ⟨f, fd, ps, fn_ok h1 sc (hbody f), h3, h2, h4⟩
theorem fnI_of {F : List D → Sto → Out D} {n m : Nat} (hF : F = runF n m b) (t : TxI K mg C x qual st ps) (hn : ps.length = n) (hm : N.length = m) (sc : FnScope N ps (defScope st))
    (hbody : ∀ (f : Addr) (cdv : Value) (A : Around) (outer : List Env) (s : Shared) (H : Hp) (E : XK), Room k (cxB P w K mg base N qual st f cdv A outer s H E).A → MSs (cxB P w K mg base N qual st f cdv A outer s H E) (wE E) (defBody st) b) :
    FnI P w K mg base (k + 1) C F := by
  subst hF hn hm
  obtain ⟨f, fd, h1, h2, h3, h4⟩ := t.ex
  exact ⟨f, fd, ps, fn_ok h1 sc (hbody f), h3, h4, h2⟩
/-- at depth 0 nothing runs -/
theorem TxM.fn0 (t : TxM K C x qual st ps) : FnM P w K mg base k C x (fun _ _ => .bad) := by
  obtain ⟨f, fd, h1, h2, h3, h4⟩ := t.ex
  exact ⟨f, fd, ps, ⟨fun vs H Q E h => by obtain ⟨_, _, _, _, _, q⟩ := h; exact q.elim, fun A st s H args us vs Q E _ _ _ _ h => by obtain ⟨_, _, _, _, _, q⟩ := h; exact q.elim⟩, h3, h2, h4⟩
theorem clsA_of {Cd : Addr} (e : PySem.W.nsIn K mainGlobals C = some (some (.ref Cd))) : clsA K C = Cd := by
  unfold clsA; rw [e]
end
end
/-! ### instances are made -/
section
variable {X : Cx} {W : WX} {a b c e o : Expr} {rest es : List Expr} {f g h : FE} {pos p apos : Pos} {K : PySem.W.Frag} {m : List Addr} {H : Hp} {S : Sto} {C : Str} {k : Nat} {F : List D → Sto → Out D} {fa : FA}
/-- a new object, its __init__; it gives nothing else than None -/
def oMk (C : Str) (F : List D → Sto → Out D) (ds : List D) (S : Sto) : Out D :=
  (F (.ref S.length :: ds) (S ++ [.ins C []])).bind fun d S1 => match d with
    | .non => .ok (.ref S.length) S1
    | _ => .bad
def eMk (C : Str) (F : List D → Sto → Out D) (fa : FA) : FE := fun l S => (fa l S).bind (oMk C F)
theorem run_makeS {CX : CXT} {f C : Addr} {fd : FuncData} {ps : List Str} {sp : Sp} {E : XK} {pins : List (Addr × Obj)} {σ : L2.St} {H : Hp} {s : Shared} {Q : VK} {us : List Value} {vs : List V} (M : Mk X.K C f) (F : FnOk X.prog X.w X.K X.mg X.base CX k f fd ps sp) (hr : Room (k + 1) X.A) (hb : Binds X.K fd ps [])
    (hx : PassesAt CX X σ E) (I : Inv X pins σ H s) (r : Vals vs us)
    (h : ∀ x dx, H x = none → H dx = none → dx ≠ x → sp (.ref x :: vs) (upd (upd H dx (.own x)) x (.ins C dx [])) (fun v H2 => v = .non ∧ Q (.ref x) H2) E) :
    wpAny (model X.prog X.w) X.A (call (.ref C) us) (EP X pins σ Q) X.xe s := by
  have hq := h (s.heap.objs.size + 1) s.heap.objs.size (I.hok.fresh (Nat.le_succ _)) (I.hok.fresh (Nat.le_refl _)) (Nat.ne_of_lt (Nat.lt_succ_self _))
  have I2 := Inv.made (C := C) I
  have r2 : Vals (V.ref (s.heap.objs.size + 1) :: vs) (Value.ref (s.heap.objs.size + 1) :: us) := .cons rfl r
  have hl : ((Value.ref (s.heap.objs.size + 1) :: us) ++ ([] : List Value)).length = ps.length := by
    rw [List.append_nil]
    have e := r2.length
    rw [F.len _ _ _ _ hq] at e
    exact e.symm
  have hb' := hb _ (Value.ref (s.heap.objs.size + 1) :: us) I2.kIn hl
  rw [List.append_nil] at hb'
  refine wpAny_call (make_map (f := f) I.kIn M.makes M.init (beq_iff_eq.mp M.fn) (codeAny_mono (F.run _ X.stack _ _ ⟨Value.ref (s.heap.objs.size + 1) :: us, []⟩ (Value.ref (s.heap.objs.size + 1) :: us) _ _ E (hr.make C us [])
    (I2.env0.make C us []) hb' r2 hq) fun r s' hq' => ?_))
  match r, hq' with
  | .error e, hq' => exact hx pins _ _ e s' I2 hq'
  | .ok (.ret u), hq' =>
    obtain ⟨v, H', I3, rv, ev, q3⟩ := I2.after hq'
    subst ev
    exact ⟨rv, ⟨V.ref (s.heap.objs.size + 1), H', I3, rfl, q3⟩⟩
theorem mk_run {f : Addr} {fd : FuncData} {ps : List Str} {pins : List (Addr × Obj)} {σ : L2.St} {H : Hp} {s : Shared} {Q : VK} {us : List Value} {vs : List V} {ds : List D} (M : Mk X.K (clsA X.K C) f) (hF : FnOk X.prog X.w X.K X.mg X.base (L2.CX X.prog X.w) k f fd ps (spF X.K F)) (hr : Room (k + 1) X.A) (hb : Binds X.K fd ps [])
    (tk : Takes X W) (I : Inv X pins σ H s) (r : Vals vs us) (R : SR X.K m H S) (V : VRs X.K m H ds vs) (q : post X.K W (pD X.K) σ m H Q (oMk C F ds S)) :
    wpAny (model X.prog X.w) X.A (call (.ref (clsA X.K C)) us) (EP X pins σ Q) X.xe s := by
  refine run_makeS M hF hr hb (passAt tk σ) I r fun x dx hx hdx hne => ?_
  have E1 : Ext m H m (upd H dx (.own x)) := Ext.tmp hdx
  have hx1 : (upd H dx (.own x)) x = none := by rw [upd_ne hne.symm]; exact hx
  have E2 : Ext m (upd H dx (.own x)) m (upd (upd H dx (.own x)) x (.ins (clsA X.K C) dx [])) := Ext.tmp hx1
  have E3 : Ext m H (m ++ [x]) (upd (upd H dx (.own x)) x (.ins (clsA X.K C) dx [])) := Ext.into hx (E1.trans E2)
  have hxm : x ∉ m := R.notin hx
  have R2 : SR X.K (m ++ [x]) (upd (upd H dx (.own x)) x (.ins (clsA X.K C) dx [])) (S ++ [.ins C []]) := SR.grow ((R.tmp hdx).tmp hx1) hxm ⟨dx, [], upd_same, rfl⟩
  have hrx : VR X.K (m ++ [x]) (upd (upd H dx (.own x)) x (.ins (clsA X.K C) dx [])) (.ref S.length) (.ref x) := ⟨x, by rw [← R.len, List.getElem?_concat_length], rfl⟩
  refine ⟨.ref S.length :: ds, m ++ [x], S ++ [.ins C []], .cons hrx (VRs.ext E3 _ _ V), R2, ?_⟩
  have q2 := post.mono (PR := pD X.K) anti_D E3 q
  unfold oMk at q2
  refine post.wE (W := W) (σ := σ) ?_
  refine post.bind (PR := pD X.K) anti_D q2 fun d S1 v H1 m1 E4 R4 V4 q3 => ?_
  cases d with
  | non =>
    simp only [VR] at V4
    exact ⟨V4, q3 _ H1 m1 .refl R4 ⟨x, by
      obtain ⟨ν, rfl, _⟩ := E4.mu
      rw [List.getElem?_append_left (by simp [R.len]), ← R.len, List.getElem?_concat_length], rfl⟩⟩
  | _ => exact q3.elim
theorem me_mk (h : FnI X.prog X.w X.K X.mg X.base k C F) (hr : Room (k + 1) X.A) (tk : Takes X W) (hg : Gl X C) (ha : MA X W (e :: es) fa) (hdb : (C == ("__debug__" : Str)) = false := by decide)
    (he : starEach (e :: es) X.env = (false, eval e X.env) :: starEach es X.env := by rfl) (hpl : (backTo pos (starEach es X.env)).any (·.1) = false := by rfl) : ME X W (.Call (.Name C p) (e :: es) [] pos) (eMk C F fa) := by
  obtain ⟨f, fd, ps, h1, h2, h3, h4⟩ := h.ex
  refine ⟨fun pins s σ H Q I ⟨l, m, S, R, q⟩ => ?_⟩
  refine wpAny_Call_Name_kw (ld_glob I hg h3 ?_ hdb)
  refine PySem.W.callWith_K (h₀ := X.base) I.ok.mod.kin h2.kp (thn (ha.run pos pins s σ H (fun vs H1 => ∃ ds m1 S1, VRs X.K m1 H1 ds vs ∧ SR X.K m1 H1 S1 ∧ post X.K W (pD X.K) σ m1 H1 Q (oMk C F ds S1)) I ⟨l, m, S, R, post.bind (PR := pA X.K) anti_D q fun ds S1 vs H1 m1 E1 R1 V1 q1 => ⟨ds, m1, S1, V1, R1, q1⟩⟩) fun us s1 ⟨vs, H1, I1, r, ds, m1, S1, V1, R1, q1⟩ => ⟨I1.kIn, ?_⟩) he hpl
  exact mk_run h2 h1 hr h4 tk I1 r R1 V1 q1
theorem me_mk0 (h : FnI X.prog X.w X.K X.mg X.base k C F) (hr : Room (k + 1) X.A) (tk : Takes X W) (hg : Gl X C) (hdb : (C == ("__debug__" : Str)) = false := by decide) : ME X W (.Call (.Name C p) [] [] pos) (eMk C F aN) := by
  obtain ⟨f, fd, ps, h1, h2, h3, h4⟩ := h.ex
  refine ⟨fun pins s σ H Q I ⟨l, m, S, R, q⟩ => ?_⟩
  refine wpAny_Call_Name_kw (ld_glob I hg h3 ?_ hdb)
  exact PySem.W.callWith_K0 I.kIn h2.kp (mk_run (us := []) (vs := []) h2 h1 hr h4 tk I .nil R.sr .nil q)
end
end Pz

set_option Elab.async false
set_option linter.all false
set_option maxRecDepth 100000
set_option maxHeartbeats 4000000
/-! Pz23: own exceptions with one field: their __init__, raise. -/
namespace Pz
open PySem PySem.Spec PyProof.Rows L2
section
variable {X : Cx} {e : Expr} {es : List Expr} {ta : TA} {p1 p2 pos : Pos} {x : Str} {B : Addr}
/-- the class whose __init__ is ValueError's -/
structure BaseX (K : PySem.W.Frag) (mg : Str → Option Value) (x : Str) : Prop where
  mg : mg x = some (.ref (clsA K x))
  rd : PySem.W.readsIn K (clsA K x) (.type "type") = true
  ga : PySem.W.specialIn K (.ref (clsA K x)) "__getattribute__" = some (some (.builtin "type.__getattribute__"))
  ini : PySem.W.findCls K (.ref (clsA K x)) (.type "type") "__init__" = some (.val (.builtin "ValueError.__init__"))
/-- Base.__init__(self, ..) -/
theorem pe_binit {pl : Sem Bool} (T : BaseX X.K X.mg x) (hg : Gl X x) (ha : PA X (e :: es) ta) (hdb : (x == ("__debug__" : Str)) = false := by decide)
    (hc : eval (.Call (.Attribute (.Name x p1) "__init__" p2) (e :: es) [] pos) X.env = (do
      let ov ← eval (.Name x p1) X.env
      standAt p2.atName
      let (f, first) ← holding [ov] (getMethod ov "__init__" pl)
      callWith pos f first (backTo pos (starEach (e :: es) X.env)) (backToKw pos (keywordEach [] X.env))) := by rfl)
    (he : starEach (e :: es) X.env = (false, eval e X.env) :: starEach es X.env := by rfl) (hpl : (backTo pos (starEach es X.env)).any (·.1) = false := by rfl) :
    PE X (.Call (.Attribute (.Name x p1) "__init__" p2) (e :: es) [] pos) (tVeI X.K ta) := by
  refine ⟨fun pins s σ H Q I h => ?_⟩
  refine PySem.W.methodCall_KW (ld_glob I hg T.mg ?_ hdb) hc
  refine PySem.W.method_cls I.kIn T.ga (PySem.W.cls_value I.kIn T.rd T.ini rfl ?_)
  refine callWith_method1 (thn (ha.run pos pins _ σ H _ (I.tok _) h) fun us s1 ⟨vs, H1, I1, r1, a, C, ws, ev, hl, Tc, ea, q⟩ => ?_) he hpl
  subst ev
  cases r1 with
  | @cons _ u0 _ ur ra rw' =>
    obtain rfl : u0 = Value.ref a := ra
    have hlen : ur.length ≤ sizeLine := by
      rw [← Paired.length rw', sizeLine_eq]
      omega
    exact oinit_ok Tc I1 ea hlen fun s' J => ⟨.non, H1, J, rfl, q⟩
end
/-- what the __init__ of an own exception with one field does: a further field of a new exception -/
def spEx (C : Addr) (f : Str) : Sp := fun vs H Q _ => ∃ a x, vs = [.ref a, x] ∧ H a = some (exo a C none) ∧ ∀ dx, H dx = none → dx ≠ a → Q .non (upd (upd H dx (exd dx [(f, x)])) a (exo a C (some dx)))
/-- the text of such an __init__, read -/
abbrev tExI (K : PySem.W.Frag) (t f : Str) : TS := tSeq (tDrop (tVeI K (tCons (tVar 0) (tCons (tC (.str t)) tNil)))) (tOst K f (tVar 0) (tVar 1))
structure ExT (K : PySem.W.Frag) (mg : Str → Option Value) (C f : Str) (fI : Addr) (fd : FuncData) : Prop where
  o : OexC K (clsA K C)
  gl : mg C = some (.ref (clsA K C))
  ini : PySem.W.findIn K (.ref (clsA K C)) "__init__" = some (some (.ref fI))
  ty : PySem.W.typeIn K (.ref fI) = some (.type "function")
  bd : Binds K fd ["self", f] []
  no : PySem.W.findIn K (.ref (clsA K C)) f = some none
/-- an own exception that may be raised -/
structure FnX (P : Program) (w : World) (K : PySem.W.Frag) (mg : Str → Option Value) (base : Heap) (C f : Str) : Prop where
  ex : ∃ fI fd, ExT K mg C f fI fd ∧ FnOk P w K mg base CX0 1 fI fd ["self", f] (spEx (clsA K C) f)
structure TxX (K : PySem.W.Frag) (mg : Str → Option Value) (C f qual : Str) (st : Stmt) : Prop where
  ex : ∃ fI fd, ExT K mg C f fI fd ∧ Fun K "__init__" qual st fI fd
section
variable {P : Program} {w : World} {K : PySem.W.Frag} {mg : Str → Option Value} {base : Heap} {C f qual t : Str} {st : Stmt}
theorem fnX_of (T : TxX K mg C f qual st) (sc : FnScope ["self", f] ["self", f] (defScope st))
    (hbody : ∀ (fI : Addr) (cdv : Value) (A : Around) (outer : List Env) (s : Shared) (H : Hp) (E : XK), PSs (cxOf CX0 P w K mg base ["self", f] qual (defScope st) fI cdv A outer s H E).nox (defBody st) (tExI K t f)) : FnX P w K mg base C f := by
  obtain ⟨fI, fd, h1, h2⟩ := T.ex
  refine ⟨fI, fd, h1, h2.ok sc (fun vs H Q E h => ?_) fun cdv A outer s H vs Q E hr h => ?_⟩
  · obtain ⟨a, x, rfl, _⟩ := h; rfl
  · obtain ⟨a, x, rfl, ha, k⟩ := h
    refine ⟨_, hbody fI cdv A outer s H E, ?_⟩
    refine ⟨.ref a, rfl, a, clsA K C, [.str t], rfl, (by show 1 ≤ 1000; decide), h1.o, ha, ?_⟩
    exact ⟨x, rfl, .ref a, rfl, a, clsA K C, rfl, h1.o, h1.no, .inl ⟨ha, k⟩⟩
end
section
variable {X : Cx} {W : WX} {e : Expr} {g : FE} {C f : Str} {p pos rpos : Pos}
/-- raise C(e) -/
def sRaise (C f : Str) (g : FE) : FS := fun l S => toS l (g l S) fun d S1 => .ex l C (some [(f, d)]) S1
theorem ms_raise (h : FnX X.prog X.w X.K X.mg X.base C f) (hc : X.calm = true) (hr : Room 2 X.A) (tk : Takes X W) (hg : Gl X C) (he : ME X W e g) (hdb : (C == ("__debug__" : Str)) = false := by decide)
    (h1 : starEach (e :: []) X.env = (false, eval e X.env) :: starEach [] X.env := by rfl) (hpl : (backTo pos (starEach [] X.env)).any (·.1) = false := by rfl) :
    MS X W (.Raise (some (.Call (.Name C p) [e] [] pos)) none rpos) (sRaise C f g) := by
  obtain ⟨fI, fd, T, F⟩ := h.ex
  refine (ps_raise hc tk (pmk_oex T.o T.ini T.ty F hr T.bd .nil pass0 hg T.gl (pa_cons (hs := h1) he pa_nil) hdb h1 hpl)).imp fun D' σ H ⟨l, m, S, R, q⟩ => ⟨l, m, S, R, postS.bind (PR := pD X.K) R q fun d S1 v H1 m1 E1 R1 V1 R2 q1 => ?_⟩
  refine ⟨(by show 1 ≤ 1000; decide), fun a ha => ⟨a, v, rfl, upd_same, fun dx hdx hne => ⟨rfl, dx, [(f, v)], upd_same, by rw [upd_ne hne, upd_same], ?_, ?_⟩⟩⟩
  · rw [upd_ne hne] at hdx; exact hdx
  · have hdx1 : H1 dx = none := by rw [upd_ne hne] at hdx; exact hdx
    have e1 : upd (del (upd (upd (upd H1 a (exo a (clsA X.K C) none)) dx (exd dx [(f, v)])) a (exo a (clsA X.K C) (some dx))) a) dx (.xd [(f, v)]) = upd H1 dx (.xd [(f, v)]) := by
      funext b
      by_cases hb : b = dx
      · rw [hb, upd_same, upd_same]
      · rw [upd_ne hb, upd_ne hb]
        by_cases hba : b = a
        · rw [hba, del_same, ha]
        · rw [del_ne hba, upd_ne hba, upd_ne hb, upd_ne hba]
    rw [e1]
    exact q1 _ _ _ _ m1 (Ext.tmp hdx1) (R2.ext (Ext.tmp hdx1) (R1.tmp hdx1)) ⟨rfl, dx, [(f, v)], rfl, upd_same, v, [], rfl, VR.ext (Ext.tmp hdx1) _ _ V1, rfl⟩
end
end Pz

set_option Elab.async false
set_option linter.all false
set_option maxRecDepth 100000
set_option maxHeartbeats 4000000
/-! Pz24: try .. except, with and without a name. -/
namespace PySem.W
open PySem PySem.Spec PySem.Calls PyProof.Rows
section
variable {prog : Program} {w : World} {A : Around} {E : Value → Shared → Prop} {s : Shared} {K : Frag} {x D : Addr} {ox od : Obj}
/-- the class that an own exception with a dict tells (HandS.ExcIs' walk, turned to one with a dict) -/
theorem pz_class {Q : Option Value → Shared → Prop} (C : L2.ExcC K D) (X : K.In s.heap) (I : InstAt s.heap x ox D (some od)) (h : Q (some (.ref D)) { s with toks := s.toks + 1 }) : wpAny (model prog w) A (getAttr? (.ref x) "__class__") Q E s := by
  have hf : findObj K D (some od) "__class__" = some (.bind (.builtin "getset_descriptor.__get__") (.builtin "object.__class__")) := findObj_data (by obtain ⟨cd, hc, _⟩ := any_some C.hd; rw [hc]; rfl) C.ha C.hn C.ht
  obtain ⟨hp, g, d, t, os⟩ := s
  have L0 := I.type (M := model prog w)
  have L3 := looks_find (M := model prog w) X I hf
  have hx2 : (Value.builtin "BaseException.__getattribute__" == Value.builtin "object.__getattribute__") = false := by decide +kernel
  have hx1 : (onTheHeap (Value.ref D) && Value.builtin "BaseException.__getattribute__" == Value.builtin "object.__getattribute__") = false := by rw [hx2]; rfl
  unfold getAttr? getAttrBy? getAttrBy
  refine wpAny_bind (wpAny_mkText (wpAny_bind (wpAny_attempt (wpAny_holding (wpAny_bind (L0.at (wpAny_bind ((looks_findIn (M := model prog w) X C.hg).at ?_))))))))
  show wpAny _ _ (if (onTheHeap (Value.ref D) && Value.builtin "BaseException.__getattribute__" == Value.builtin "object.__getattribute__") = true then _ else _) _ _ _
  rw [hx1, if_neg Bool.false_ne_true]
  unfold getAttrByItsOwn hookBefore
  refine wpAny_bind ?_
  rw [if_pos (show onTheHeap (Value.ref D) = true from rfl)]
  refine (looks_findIn (M := model prog w) X C.hk).at ?_
  refine wpAny_bind (wpAny_attempt (wpAny_holding ?_))
  unfold callGetattribute
  rw [show (false && onTheHeap (Value.builtin "BaseException.__getattribute__")) = false from rfl, if_neg Bool.false_ne_true]
  unfold boundAndCalled
  rw [PySem.F.excAttr_ValueError.ga.bind (.ref x)]
  refine wpAny_bind (wpAny_pure ?_)
  show wpAny _ _ (call (.builtin "BaseException.__getattribute__") [.ref x, .str "__class__" t]) _ _ _
  refine wpAny_call (codeAny_call_builtin PySem.F.excAttr_ValueError.ga.plain PySem.F.entry_bexc_ga ?_)
  refine @check_slot (model prog w) _ _ ⟨hp, g, d, t + 1, os⟩ "BaseException.__getattribute__" "BaseException" "__getattribute__" (.ref x) [.str "__class__" t] [] _ (by decide +kernel) (by decide +kernel) (L0.andThen (looks_subIn X C.hs)) (PySem.F.args_bexc_ga (.ref x) (.str "__class__" t)) ?_
  unfold Builtin.«object.__getattribute__»
  refine wpAny_bind (wpAny_of_eq (a := ((Value.ref x : Value), [Value.str "__class__" t])) (by first | rfl | (simp only [slotArgs]; rfl)) ?_)
  refine wpAny_bind (wpAny_pure (wpAny_bind (L0.at (wpAny_bind (L3.at ?_)))))
  show wpAny _ _ (holding [Value.builtin "object.__class__"] (call (.builtin "getset_descriptor.__get__") [.builtin "object.__class__", .ref x, .ref D]) >>= ret) _ _ _
  refine wpAny_bind (wpAny_holding (wpAny_call (class_get (s := ⟨hp, g, d, t + 1, os⟩) (ox := ox) (od := some od) X I C.hm ?_)))
  refine wpAny_pure ?_
  show wpAny _ _ (handedOut (.ref D)) _ _ _
  rw [handedOut_of (v := .ref D) rfl]
  first
    | exact wpAny_pure (wpAny_pure h)
    | exact wpAny_pure h
    | exact wpAny_pure (wpAny_bind (wpAny_pure (wpAny_pure h)))
theorem pz_kitx (C : L2.ExcC K D) : KitX K (.ref x) (.ref D) (fun h => ∃ od, InstAt h x ox D (some od)) where
  ty := fun _ _ _ ⟨_, I⟩ => I.type
  it := fun _ _ X _ => by
    obtain ⟨cdD, hcD, _⟩ := any_some C.hd
    unfold clsIn at hcD
    split at hcD
    · rename_i c' d' cd' sl' ho
      intro A' Q' E' s' k q
      unfold isType loadHead
      exact wpAny_bind (wpAny_loadPart (k _ _ (X _ _ ho)) (wpAny_pure q))
    · cases hcD
  ne := fun h tp dd its n sl X htp => by
    obtain ⟨cdD, hcD, _⟩ := any_some C.hd
    refine Bool.eq_false_iff.mpr fun q => ?_
    have e : D = tp := Value.ref.inj (beq_iff_eq.mp q)
    subst e
    unfold clsIn at hcD
    split at hcD
    · rename_i c' d' cd' sl' ho
      have z := (X _ _ ho).symm.trans htp
      cases z
    · cases hcD
  ca := fun X ⟨_, I⟩ k => pz_class C X I k
end
end PySem.W
namespace Pz
open PySem PySem.Spec PyProof.Rows L2
/-! ### several clauses 'except x as n' (HandS.Exc's and HandS.TryMany's walks put together) -/
def wAsMany (K : PySem.W.Frag) (i : Nat) (Wout : WX) (D : Ends) : List (Value × (Addr → Value → Option Addr → TS)) → WX
  | [] => Wout
  | (c, ts) :: r => fun cls d σ H => ∃ b, PySem.W.exmOne K cls c = some b ∧
      (b = true → ∀ a, H a = none → ts a cls d { nx := fun σ' H' => D.nx (σ'.set i none) H', rt := D.rt, bk := fun σ' H' => D.bk (σ'.set i none) H', ct := fun σ' H' => D.ct (σ'.set i none) H' } (σ.set i (some (.ref a))) H) ∧
      (b = false → wAsMany K i Wout D r cls d σ H)
inductive HdsA (X : Cx) (n : Str) : List ExceptHandler → List (Value × (Addr → Value → Option Addr → TS)) → Prop
  | nil : HdsA X n [] []
  | cons {x : Str} {c : Value} {ts : Addr → Value → Option Addr → TS} {b₀ : Stmt} {suite : List Stmt} {np pos' : Pos} {hds : List ExceptHandler} {l : List (Value × (Addr → Value → Option Addr → TS))} (hc : Names X x c)
      (hsu : ∀ (a : Addr) (oe : Obj) (cls : Value) (d : Option Addr) (pn : List (Addr × Obj)), Zc cls d oe → (∃ vs, oe.data = .fields vs) → PSs (X.suite a ((a, oe) :: pn)) (b₀ :: suite) (ts a cls d)) (r : HdsA X n hds l) :
      HdsA X n (.ExceptHandler (some (.Name x np)) (some n) (b₀ :: suite) pos' :: hds) ((c, ts) :: l)
section
variable {X : Cx} {body : List Stmt} {h₀ : ExceptHandler} {hds : List ExceptHandler} {l : List (Value × (Addr → Value → Option Addr → TS))} {pos : Pos} {tb : WX → TS} {Wout : WX} {n : Str} {i : Nat}
theorem ps_try_asMany (hs : X.stack = X.env :: X.outer) (hf : X.env.frame = some X.env.locals) (hN : X.N.Nodup) (hi : X.N[i]? = some n) (hln : X.env.kindOf n = some .local) (tk : Takes X Wout)
    (hb : ∀ (W : WX) (pn : List (Addr × Obj)) (xe : Value → Shared → Prop), Takes (X.tr pn xe) W → PassesOwn (model X.prog X.w) X.A X.env xe → PSs (X.tr pn xe) body (tb W))
    (hh : HdsA X n (h₀ :: hds) l) : PS X (.Try body (h₀ :: hds) [] [] pos) (fun D σ H => tb (wAsMany X.K i Wout D l) D σ H) := by
  refine ⟨fun pins s σ H D I h => ?_⟩
  have ok := I.ok
  have hfr : X.A.frames = some (X.env :: X.outer) := by rw [ok.frames, hs]
  have hloc : L2.Loc X.env.scope n := .inl hln
  refine wpAny_Try_except ?_
  refine wpAny_mono ((hb (wAsMany X.K i Wout D l) (X.pn ++ pins) (fun e s₁ => wpAny (model X.prog X.w) X.A (noteFrame e X.env) (fun _ s₂ => wpAny (model X.prog X.w) X.A (setFlight e none) (fun _ s₃ =>
    wpAny (model X.prog X.w) X.A (handleBy e X.env (h₀ :: hds)) (SP X pins D) X.xe s₃) X.xe s₂) X.xe s₁) (fun u s' xx => ?_) PassesOwn.looking).run [] s σ H D (I.toTry _) h) (fun f s1 hsp => ?_) (fun e s1 he => he)
  · obtain ⟨a, B, sI, pins', σ', H', cls, d, rfl, J', nb, up, sky, na, os, ag, w⟩ := xx
    have J : Inv X pins σ' H' sI := J'.ofTry ok
    have sky' : Sky B (X.env :: X.outer) a (Zc cls d) X.env.locals s'.heap := by rw [← hs]; exact sky
    show wpAny (model X.prog X.w) X.A (noteFrame (.ref a) X.env) _ _ _
    refine Sky.land Zc.steady hfr hf sky' fun h3 fl3 up3 => ?_
    have J3 : Inv X pins σ' H' { s' with heap := h3 } := J.landed nb fl3.1 (up.trans up3) os ag
    obtain ⟨oe3, vs3, he3, hz3, hd3⟩ := fl3.there
    have nfr : a ∉ frs (X.env :: X.outer) := fun hm => by
      obtain ⟨_, o', e', hnf⟩ := fl3.2.2.1.mem hm
      rw [he3] at e'; cases e'
      exact hnf _ hd3
    have nL : a ≠ X.env.locals := fun z => nfr (List.mem_filterMap.mpr ⟨X.env, List.mem_cons_self, by rw [hf, z]⟩)
    have nF : a ∉ X.fs := fun hm => by
      obtain ⟨e, he, q⟩ := List.mem_filterMap.mp hm
      exact nfr (List.mem_filterMap.mpr ⟨e, List.mem_cons_of_mem _ he, q⟩)
    have S3 := J3.suite he3 hd3 na nL nF
    have go : ∀ {hds' : List ExceptHandler} {l' : List (Value × (Addr → Value → Option Addr → TS))}, HdsA X n hds' l' → wAsMany X.K i Wout D l' cls d σ' H' →
        wpAny (model X.prog X.w) X.A (handleBy (.ref a) X.env hds') (SP X pins D) X.xe { s' with heap := h3 } := by
      intro hds' l' hk
      induction hk with
      | nil =>
        intro w
        refine wpAny_handleBy_nil ?_
        obtain ⟨k1, k2, k3, oe, vs, T, oT, ts', he, hz, hd, h1, hr⟩ := id fl3
        unfold PySem.passOn
        refine wpAny_bind (wpAny_field he hd h1 ?_)
        rw [if_neg (show ¬ ((Value.ref T == Value.none) = true) from by simp)]
        have fin : wpAny (model X.prog X.w) X.A (setFlight (.ref a) X.env.frame) (fun _ s4 => wpAny (model X.prog X.w) X.A (throw (.ref a) : Sem Flow) (SP X pins D) X.xe s4) X.xe { s' with heap := h3 } := by
          rw [hf]
          refine HandSPX.setFlight_upZ fl3 fun h4 hh4 up4 => wpAny_throw (tk _ _ ?_)
          exact ⟨a, B, sI, pins, σ', H', cls, d, rfl, J, nb, (up.trans up3).trans up4, .inr (.inr (by rw [hs]; exact hh4)), na, os, ag, w⟩
        first
          | exact wpAny_bind (wpAny_pure (wpAny_bind fin))
          | exact wpAny_bind fin
      | @cons x c ts b₀ suite np pos' hds2 l2 hc hsu r ih =>
        intro w
        obtain ⟨b, hb1, hyes, hno⟩ := w
        refine wpAny_handleBy_cons (codeAny_handlers_test ?_) (by intro q; cases q)
        have LT : PySem.W.Looks (model X.prog X.w) h3 (typeOf (.ref a)) cls := fun A Q E s k q => wpAny_typeOf_ref (k _ _ he3) (by rw [hz3.1]; exact q)
        have LM := PySem.W.exm_one (M := model X.prog X.w) (J3.kIn) LT hb1
        have test : ∀ {Q : Value → Shared → Prop} {E : Value → Shared → Prop}, Q c { s' with heap := h3 } → wpAny (model X.prog X.w) (X.A.mark (some (.ref a))) (eval (.Name x np) X.env) Q E { s' with heap := h3 } := fun {Q E} q => by
          obtain ⟨hg, hdbg, hm | ⟨hm, hv, hnn⟩⟩ := hc
          · exact ld_glob (X := X.suite a ((a, oe3) :: (X.pn ++ pins))) S3 hg hm q hdbg
          · exact ld_blt (X := X.suite a ((a, oe3) :: (X.pn ++ pins))) S3 hg hm hv q hnn hdbg
        refine test (LM.here ?_)
        cases b with
        | true =>
          refine codeAny_handlers_suite_as ?_
          refine HandSPX.lands_againZ fl3 fun h4 fl4 up4 => ?_
          have J4 : Inv X pins σ' H' { s' with heap := h4 } := J.landed nb fl4.1 ((up.trans up3).trans up4) os ag
          obtain ⟨oe4, vs4, he4, hz4, hd4⟩ := fl4.there
          have S4 := J4.suite he4 hd4 na nL nF
          refine store_ok (X := X.suite a ((a, oe4) :: (X.pn ++ pins))) (v := .ref a) S4 hN hi hloc rfl (fun s5 S5 => ?_) (.inr hln)
          refine wpAny_mono ((hsu a oe4 cls d (X.pn ++ pins) hz4 ⟨_, hd4⟩).run [] s5 _ H' _ S5 (hyes rfl a na)) (fun f s6 hsp => ?_) (fun _ _ z => False.elim z)
          have end_ : ∀ {σ6 : L2.St} {H6 : Hp} {Q : Shared → Prop}, Inv (X.suite a ((a, oe4) :: (X.pn ++ pins))) [] σ6 H6 s6 → (∀ s7, Inv X pins (σ6.set i none) H6 s7 → Q s7) →
              wpAny (model X.prog X.w) X.A (do bindName X.env n .none; unbindBehindTheSuite X.env n pos') (fun _ s7 => Q s7) X.xe s6 := fun {σ6 H6 Q} S6 hq => gone_ok (S6.unsuite ok) hN hi hln hq
          cases f with
          | next =>
            obtain ⟨σ6, H6, S6, q6⟩ := hsp
            exact end_ S6 fun s7 J7 => ⟨_, _, J7, q6⟩
          | brk =>
            obtain ⟨σ6, H6, S6, q6⟩ := hsp
            exact end_ S6 fun s7 J7 => ⟨_, _, J7, q6⟩
          | cont =>
            obtain ⟨σ6, H6, S6, q6⟩ := hsp
            exact end_ S6 fun s7 J7 => ⟨_, _, J7, q6⟩
          | ret u =>
            obtain ⟨v6, σ6, H6, S6, r6, q6⟩ := hsp
            exact end_ S6 fun s7 J7 => ⟨_, _, _, J7, r6, q6⟩
        | false =>
          show wpAny _ X.A (handleBy (.ref a) X.env hds2) _ _ _
          exact ih (hno rfl)
    exact go hh w
  · cases f with
    | next =>
      obtain ⟨σ', H', J', q⟩ := hsp
      exact wpAny_execs_nil ⟨σ', H', J'.ofTry ok, q⟩
    | brk =>
      obtain ⟨σ', H', J', q⟩ := hsp
      exact ⟨σ', H', J'.ofTry ok, q⟩
    | cont =>
      obtain ⟨σ', H', J', q⟩ := hsp
      exact ⟨σ', H', J'.ofTry ok, q⟩
    | ret u =>
      obtain ⟨v, σ', H', J', r, q⟩ := hsp
      exact ⟨v, σ', H', J'.ofTry ok, r, q⟩
end
/-! ### own errors in an except suite -/
/-- what is asked of a class whose instances a suite looks at; B: the class that isinstance names -/
structure ErrT (K : PySem.W.Frag) (C f : Str) (cv : Value) : Prop where
  ec : ExcC K (clsA K C)
  no : PySem.W.findIn K (.ref (clsA K C)) f = some none
  kit : PySem.W.kitOne K (.ref (clsA K C)) cv = some true
theorem _root_.L2.ExcC.xf {K : PySem.W.Frag} {D : Addr} (C : ExcC K D) : XfC K D := ⟨C.hg, C.hk, C.hs, C.hd⟩
def rIsO (K : PySem.W.Frag) (D a : Addr) (d : Option Addr) : List V → Hp → VK → Prop := fun xs H Q => ∃ (c : V) (cv : Value) (b : Bool) (dd : Addr) (us : List (Str × V)), xs = [.ref a, c] ∧ (∀ u, RelV c u → u = cv) ∧ PySem.W.kitOne K (.ref D) cv = some b ∧ d = some dd ∧ H dd = some (.xd us) ∧ Q (.bl b) H
theorem call_isO {X : Cx} {a D : Addr} {d : Option Addr} {oe : Obj} {pn : List (Addr × Obj)} (C : ExcC X.K D) (hz : Zc (.ref D) d oe) (hf : ∃ vs, oe.data = .fields vs) : CallR (X.suite a ((a, oe) :: pn)) (.builtin "isinstance") (rIsO X.K D a d) := by
  intro pins s σ H xs us Q I r h
  obtain ⟨c, cv, b, dd, fs, rfl, hcv, e, rfl, hd, q⟩ := h
  cases r with
  | cons rx rr =>
    cases rr with
    | cons rt rr =>
      cases rr
      cases rx
      have ec := hcv _ rt
      subst ec
      obtain ⟨hget, _⟩ := I.pin (a, oe) (List.mem_append.mpr (.inl List.mem_cons_self))
      obtain ⟨vs, hv⟩ := hf
      have hx : ObjOk X.prog X.w H s.heap dd (.xd fs) := I.hok dd _ hd
      obtain ⟨mA, hns, _⟩ := hx
      obtain ⟨od, ho, _⟩ := lookIn_ns hns
      have J : PySem.W.InstAt s.heap a oe D (some od) := ⟨hget, hz.1, by unfold PySem.W.notCls; rw [hv] <;> rfl, by rw [hz.2]; exact ho⟩
      exact PySem.W.kia_one (PySem.W.pz_kitx C) I.kIn ⟨od, J⟩ e (fun z => nomatch z) fun tk => ⟨.bl b, H, I.kept (t' := tk) fun _ _ z => z, rfl, q⟩
structure ErrH where
  C : Str
  f : Str
  c : Str
  b : Bool
def ErrH.tl (h : ErrH) : List V := if h.b = true then [.bl true] else []
def ErrH.tlD (h : ErrH) : List D := if h.b = true then [.bl true] else []
def tsErr (K : PySem.W.Frag) (i j : Nat) (h : ErrH) : Addr → Value → Option Addr → TS := fun a cls d D σ H => ∃ dd us v, cls = .ref (clsA K h.C) ∧ d = some dd ∧ H dd = some (.xd us) ∧ us.lookup h.f = some v ∧ σ[i]? = some (some (.ref a)) ∧
  ∀ t, H t = none → D.nx (σ.set j (some (.ref t))) (upd H t (.lst (.str h.c :: v :: h.tl)))
abbrev tErrIs (K : PySem.W.Frag) (C : Str) (a : Addr) (d : Option Addr) (i : Nat) (cv : V) : TE := tCB (rIsO K (clsA K C) a d) (tCons (tVar i) (tCons (tC cv) tNil))
abbrev tErrF (K : PySem.W.Frag) (C f : Str) (a : Addr) (d : Option Addr) (i : Nat) : TE := tXf a (.ref (clsA K C)) d (clsA K C) f (tVar i)
/-- found = [c, n.f] if isinstance(n, B) else [c2] -/
abbrev tErrA (K : PySem.W.Frag) (C f c c2 : Str) (i j : Nat) (cv : V) (a : Addr) (d : Option Addr) : TS :=
  tAsg (tIf (tB (tErrIs K C a d i cv)) (tLst (tCons (tC (.str c)) (tCons (tErrF K C f a d i) tNil))) (tLst (tCons (tC (.str c2)) tNil))) (gName j)
/-- found = [c, n.f, isinstance(n, B)] -/
abbrev tErrB (K : PySem.W.Frag) (C f c : Str) (i j : Nat) (cv : V) (a : Addr) (d : Option Addr) : TS :=
  tAsg (tLst (tCons (tC (.str c)) (tCons (tErrF K C f a d i) (tCons (tErrIs K C a d i cv) tNil)))) (gName j)
section
variable {X : Cx} {i j : Nat} {n C f c c2 : Str} {cv : V} {cu : Value} {np pos' : Pos} {hds : List ExceptHandler} {l : List ErrH} {b₀ : Stmt} {suite : List Stmt}
abbrev MHs (X : Cx) (n : Str) (i j : Nat) (hds : List ExceptHandler) (l : List ErrH) : Prop := HdsA X n hds (l.map fun h => (.ref (clsA X.K h.C), tsErr X.K i j h))
theorem mh_nil : MHs X n i j [] [] := .nil
theorem mh_cons {t : Addr → Option Addr → TS} {h : ErrH} (hC : Names X h.C (.ref (clsA X.K h.C)))
    (hi : ∀ a d D σ H dd us v, d = some dd → H dd = some (.xd us) → us.lookup h.f = some v → σ[i]? = some (some (.ref a)) → (∀ t, H t = none → D.nx (σ.set j (some (.ref t))) (upd H t (.lst (.str h.c :: v :: h.tl)))) → t a d D σ H)
    (hsu : ∀ (a : Addr) (oe : Obj) (d : Option Addr) (pn : List (Addr × Obj)), Zc (.ref (clsA X.K h.C)) d oe → (∃ vs, oe.data = .fields vs) → PSs (X.suite a ((a, oe) :: pn)) (b₀ :: suite) (t a d)) (r : MHs X n i j hds l) :
    MHs X n i j (.ExceptHandler (some (.Name h.C np)) (some n) (b₀ :: suite) pos' :: hds) (h :: l) := by
  refine .cons hC (fun a oe cls d pn hz hf => ⟨fun pins s σ H D I ⟨dd, us, v, h1, h2, h3, h4, h5, h6⟩ => ?_⟩) r
  subst h1
  exact (hsu a oe d pn hz hf).run pins s σ H D I (hi a d D σ H dd us v h2 h3 h4 h5 h6)
theorem mh_consA (T : ErrT X.K C f cu) (hcv : ∀ u, RelV cv u → u = cu) (hC : Names X C (.ref (clsA X.K C)))
    (hsu : ∀ (a : Addr) (oe : Obj) (d : Option Addr) (pn : List (Addr × Obj)), Zc (.ref (clsA X.K C)) d oe → (∃ vs, oe.data = .fields vs) → PSs (X.suite a ((a, oe) :: pn)) (b₀ :: suite) (tErrA X.K C f c c2 i j cv a d)) (r : MHs X n i j hds l) :
    MHs X n i j (.ExceptHandler (some (.Name C np)) (some n) (b₀ :: suite) pos' :: hds) (⟨C, f, c, false⟩ :: l) := by
  refine mh_cons (h := ⟨C, f, c, false⟩) hC (fun a d D σ H dd us v h2 h3 h4 h5 h6 => ?_) hsu r
  refine ⟨_, h5, cv, cu, true, dd, us, rfl, hcv, T.kit, h2, h3, true, rfl, iteT ?_⟩
  exact ⟨_, h5, rfl, rfl, dd, us, v, h2, h3, h4, (show 2 ≤ sizeLine from by decide), fun p hp => h6 p hp⟩
theorem mh_consB (T : ErrT X.K C f cu) (hcv : ∀ u, RelV cv u → u = cu) (hC : Names X C (.ref (clsA X.K C)))
    (hsu : ∀ (a : Addr) (oe : Obj) (d : Option Addr) (pn : List (Addr × Obj)), Zc (.ref (clsA X.K C)) d oe → (∃ vs, oe.data = .fields vs) → PSs (X.suite a ((a, oe) :: pn)) (b₀ :: suite) (tErrB X.K C f c i j cv a d)) (r : MHs X n i j hds l) :
    MHs X n i j (.ExceptHandler (some (.Name C np)) (some n) (b₀ :: suite) pos' :: hds) (⟨C, f, c, true⟩ :: l) := by
  refine mh_cons (h := ⟨C, f, c, true⟩) hC (fun a d D σ H dd us v h2 h3 h4 h5 h6 => ?_) hsu r
  exact ⟨_, h5, rfl, rfl, dd, us, v, h2, h3, h4, _, h5, cv, cu, true, dd, us, rfl, hcv, T.kit, h2, h3, (show 3 ≤ sizeLine from by decide), fun p hp => h6 p hp⟩
end
/-- of these classes each is caught by itself alone -/
def XmL (K : PySem.W.Frag) (l : List Str) : Prop := ∀ C ∈ l, ∀ B ∈ l, PySem.W.exmOne K (.ref (clsA K C)) (.ref (clsA K B)) = some (decide (C = B))
def errL (h : ErrH) (fs : List (Str × D)) : Option (List D) := (fs.lookup h.f).map fun d => .str h.c :: d :: h.tlD
def sTryAs (i j : Nat) (body : FS) (hs : List ErrH) : FS := fun l S => match body l S with
  | .ex l1 C (some fs) S1 => match hs.find? fun h => h.C == C with
    | some h => match errL h fs with
      | some ds => if i < l1.length then .nx ((l1.set j (some (.ref S1.length))).set i none) (S1 ++ [.lst ds]) else .bad
      | none => .bad
    | none => .bad
  | .ex _ _ none _ => .bad
  | o => o
section
variable {X : Cx} {W : WX} {i j : Nat} {n C f c : Str} {pos : Pos} {hds : List ExceptHandler} {l : List ErrH} {body : List Stmt} {h₀ : ExceptHandler} {fb : FS} {K : PySem.W.Frag} {D' : Ends}
theorem Rel.slot {lc : Loc} {σ : L2.St} {m : List Addr} {S : Sto} {H : Hp} (r : Rel K lc σ m S H) (k : Nat) {d : Option D} {v : Option V} (h : ∀ x, d = some x → ∃ y, v = some y ∧ VR K m H x y) : Rel K (lc.set k d) (σ.set k v) m S H := by
  refine ⟨r.sr, by simp [r.len], fun q x hq => ?_⟩
  by_cases e : q = k
  · subst e
    by_cases hl : q < lc.length
    · rw [List.getElem?_set_self hl] at hq
      obtain ⟨y, h1, h2⟩ := h x (Option.some.inj hq)
      exact ⟨y, by rw [List.getElem?_set_self (by rw [r.len]; exact hl), h1], h2⟩
    · rw [List.getElem?_eq_none (by simpa using hl)] at hq; cases hq
  · rw [List.getElem?_set_ne (Ne.symm e)] at hq ⊢
    exact r.at q x hq
theorem wAs_ok {L1 : Loc} {C : Str} {fs : List (Str × D)} {S1 : Sto} {cls : Value} {dd : Option Addr} {σ : L2.St} {m0 m : List Addr} {H0 H : Hp} (hij : i ≠ j) (E0 : Ext m0 H0 m H) (R : Rel K L1 σ m S1 H) (x : XR K m H C (some fs) cls dd) :
    ∀ hs : List ErrH, (∀ h ∈ hs, PySem.W.exmOne K (.ref (clsA K C)) (.ref (clsA K h.C)) = some (decide (C = h.C))) →
      postS K W m0 H0 D' (match hs.find? fun h => h.C == C with
        | some h => match errL h fs with
          | some ds => if i < L1.length then .nx ((L1.set j (some (.ref S1.length))).set i none) (S1 ++ [.lst ds]) else .bad
          | none => .bad
        | none => .bad) → wAsMany K i W D' (hs.map fun h => (.ref (clsA K h.C), tsErr K i j h)) cls dd σ H
  | [], _, q => q.elim
  | h :: hs, hx, q => by
    obtain ⟨rfl, a', us, rfl, h3, h4⟩ := x
    have h1 := hx h List.mem_cons_self
    by_cases e : C = h.C
    · refine ⟨true, by rw [h1, decide_eq_true e], fun _ a ha => ?_, fun z => nomatch z⟩
      rw [List.find?_cons_of_pos (by simp [e])] at q
      unfold errL at q
      cases hl : fs.lookup h.f with
      | none => simp only [hl, Option.map_none] at q; exact q.elim
      | some d =>
        simp only [hl, Option.map_some] at q
        by_cases hN : i < L1.length
        case neg => rw [if_neg hN] at q; exact q.elim
        rw [if_pos hN] at q
        obtain ⟨v, h5, h6⟩ := AR.lookF h4 hl
        have hi : i < σ.length := by rw [R.len]; exact hN
        refine ⟨a', us, v, by rw [e], rfl, h3, h5, by rw [List.getElem?_set_self hi], fun t ht => ?_⟩
        have Et : Ext m H m (upd H t (.lst (.str h.c :: v :: h.tl))) := Ext.tmp ht
        have tl : VRs K m (upd H t (.lst (.str h.c :: v :: h.tl))) h.tlD h.tl := by
          unfold ErrH.tlD ErrH.tl
          split
          · exact .cons (by simp only [VR]) .nil
          · exact .nil
        have vs : VRs K m (upd H t (.lst (.str h.c :: v :: h.tl))) (.str h.c :: d :: h.tlD) (.str h.c :: v :: h.tl) := .cons (by simp only [VR]) (.cons (VR.ext Et _ _ h6) tl)
        have key : ∀ (n : Nat) (b : Addr), m[n]? = some b → (m ++ [t])[n]? = some b := fun n b h => by
          rw [List.getElem?_append_left (List.getElem?_eq_some_iff.mp h).1]; exact h
        have R2 : Rel K L1 σ (m ++ [t]) (S1 ++ [.lst (.str h.c :: d :: h.tlD)]) (upd H t (.lst (.str h.c :: v :: h.tl))) :=
          R.ext (Ext.into ht Et) (SR.grow (R.sr.tmp ht) (R.sr.notin ht) ⟨_, upd_same, vs⟩)
        have hm : (m ++ [t])[S1.length]? = some t := by rw [← R.sr.len, List.getElem?_concat_length]
        have e2 : (((σ.set i (some (.ref a))).set j (some (.ref t))).set i none : L2.St) = ((σ.set j (some (.ref t))).set i none : L2.St) := by
          rw [List.set_comm _ _ hij, List.set_set]
        show D'.nx (((σ.set i (some (.ref a))).set j (some (.ref t))).set i none) _
        rw [e2]
        exact q _ _ (m ++ [t]) (E0.trans (Ext.into ht Et)) ((R2.slot j (fun x hx => ⟨.ref t, rfl, by cases hx; exact ⟨t, hm, rfl⟩⟩)).slot i (fun x hx => nomatch hx))
    · refine ⟨false, by rw [h1, decide_eq_false e], fun z => (nomatch z), fun _ => ?_⟩
      rw [List.find?_cons_of_neg (by simpa using fun z => e z.symm)] at q
      exact wAs_ok hij E0 R ⟨rfl, a', us, rfl, h3, h4⟩ hs (fun h' hh => hx h' (List.mem_cons_of_mem _ hh)) q
/-- try: body / except C as n: found = [c, n.f] .. / .. -/
theorem ms_tryAs (hs : X.stack = X.env :: X.outer) (hf : X.env.frame = some X.env.locals) (hN : X.N.Nodup) (hi : X.N[i]? = some n) (hln : X.env.kindOf n = some .local) (hij : i ≠ j) (tk : Takes X W)
    (hb : ∀ (W' : WX) (pn : List (Addr × Obj)) (xe : Value → Shared → Prop), Takes (X.tr pn xe) W' → PassesOwn (model X.prog X.w) X.A X.env xe → MSs (X.tr pn xe) W' body fb)
    (hh : MHs X n i j (h₀ :: hds) l) (hx : XmL X.K (l.map (·.C))) : MS X W (.Try body (h₀ :: hds) [] [] pos) (sTryAs i j fb l) := by
  refine (ps_try_asMany (Wout := W) (tb := fun W' => tS X.K W' fb) hs hf hN hi hln tk hb hh).imp fun D' σ H ⟨lc, m, S, R, q⟩ => ⟨lc, m, S, R, ?_⟩
  unfold sTryAs at q
  cases e : fb lc S with
  | nx l1 S1 => rw [e] at q; exact q
  | rt d S1 => rw [e] at q; exact q
  | bk l1 S1 => rw [e] at q; exact q
  | ct l1 S1 => rw [e] at q; exact q
  | bad => rw [e] at q; exact q
  | ex l1 C fs S1 =>
    rw [e] at q
    cases fs with
    | none => exact q.elim
    | some fs =>
      intro cls dd σ1 H1 m1 E1 R1 x1
      by_cases hC : C ∈ l.map (·.C)
      · exact wAs_ok hij E1 R1 x1 l (fun h hh => hx C hC h.C (List.mem_map_of_mem hh)) q
      · have e1 : (l.find? fun h => h.C == C) = none := List.find?_eq_none.mpr fun h hh z => hC (by rw [← (beq_iff_eq.mp z)]; exact List.mem_map_of_mem hh)
        simp only [e1] at q
        exact q.elim
/-! ### try without a name: one clause that hands back -/
def sTry1 (C0 : Str) (body g : FS) : FS := fun l S => match body l S with
  | .ex l1 C _ S1 => if C = C0 then g l1 S1 else .bad
  | o => o
theorem ms_try1 {b₀ : Stmt} {suite : List Stmt} {np pos' : Pos} {g : FS} (hs : X.stack = X.env :: X.outer) (hf : X.env.frame = some X.env.locals) (tk : Takes X W) (hC : Names X C (.ref (clsA X.K C))) (hx : XmL X.K [C])
    (hb : ∀ (W' : WX) (pn : List (Addr × Obj)) (xe : Value → Shared → Prop), Takes (X.tr pn xe) W' → PassesOwn (model X.prog X.w) X.A X.env xe → MSs (X.tr pn xe) W' body fb)
    (hsu : ∀ (a : Addr) (oe : Obj) (cls : Value) (d : Option Addr) (pn : List (Addr × Obj)), Zc cls d oe → (∃ vs, oe.data = .fields vs) → MSs (X.suite a ((a, oe) :: pn)) W (b₀ :: suite) g) :
    MS X W (.Try body [.ExceptHandler (some (.Name C np)) none (b₀ :: suite) pos'] [] [] pos) (sTry1 C fb g) := by
  refine (ps_try_many (l := [(.ref (clsA X.K C), fun _ _ _ => tS X.K W g)]) (Wout := W) (tb := fun W' => tS X.K W' fb) hs hf tk hb (.cons hC (fun a oe cls d pn hz hv => hsu a oe cls d pn hz hv) .nil)).imp fun D' σ H ⟨lc, m, S, R, q⟩ => ⟨lc, m, S, R, ?_⟩
  unfold sTry1 at q
  cases e : fb lc S with
  | nx l1 S1 => rw [e] at q; exact q
  | rt d S1 => rw [e] at q; exact q
  | bk l1 S1 => rw [e] at q; exact q
  | ct l1 S1 => rw [e] at q; exact q
  | bad => rw [e] at q; exact q
  | ex l1 B fs S1 =>
    rw [e] at q
    simp only at q
    intro cls dd σ1 H1 m1 E1 R1 x1
    by_cases hB : B = C
    · rw [if_pos hB] at q
      obtain ⟨rfl, _⟩ := x1
      subst hB
      refine ⟨true, by rw [hx B (by simp) B (by simp)]; simp, fun _ a ha => ⟨l1, m1, S1, R1, postS.mono E1 q⟩, fun z => nomatch z⟩
    · rw [if_neg hB] at q; exact q.elim
end
end Pz

set_option Elab.async false
set_option linter.all false
set_option maxRecDepth 100000
set_option maxHeartbeats 4000000
/-! Pz25: what the top has written of classes: each fact from what k_is finds. -/
namespace Pz
open PySem PySem.Spec PyProof.Rows L2
section
variable {K : PySem.W.Frag} {h : Heap} {mg : Str → Option Value} {C x f qual : Str} {st : Stmt} {ps : List Str} {Cd fm : Addr} {oc : Value} {od an : Option Addr} {osl : Array (Option Value)} {kV doc pm cdv ct : Value}
theorem clsF_mk (pg : PySem.W.plainGet K Cd Str.empty = true) (hd : PySem.W.hasDictIn K Cd = true) (po : PySem.W.plainOver K Cd = true) (sa : PySem.W.findIn K (.ref Cd) "__setattr__" = some (some (.builtin "object.__setattr__"))) : Cls K Cd := ⟨pg, hd, po, sa⟩
theorem txm_mk (aC : PySem.W.nsIn K mainGlobals C = some (some (.ref Cd)))
    (bd : ∀ (kV doc pm : Value) (an : Option Addr) (cdv ct : Value) (us : List Value), us.length = ps.length → bindArgs (PySem.W.fnOf x qual (defArgs st) (defBody st) (defScope st) .none kV doc pm an cdv ct) ⟨us, []⟩ = pure (ps.zip us))
    (a : PySem.W.findIn K (.ref Cd) x = some (some (.ref fm))) (i : PySem.W.isFn K (.ref fm) = true)
    (l : K.lookup fm = some ⟨oc, od, .func (PySem.W.fnOf x qual (defArgs st) (defBody st) (defScope st) .none kV doc pm an cdv ct), osl⟩) (c : PySem.W.codeIn K cdv qual = true) (k : PySem.W.keepIn K (.ref fm) = true) (cl : Cls K Cd) : TxM K C x qual st ps := by
  have F := fun_mk (st := st) l c k
  refine ⟨fm, _, F, F.binds fun kV doc pm an cdv ct us hl => bd kV doc pm an cdv ct us hl, ?_, ?_⟩
  · rw [clsA_of aC]; exact ⟨a, i, k⟩
  · rw [clsA_of aC]; exact cl
theorem txi_mk (X : K.In h) (G : h.Ns mainGlobals mg) (aC : PySem.W.nsIn K mainGlobals C = some (some (.ref Cd)))
    (bd : ∀ (kV doc pm : Value) (an : Option Addr) (cdv ct : Value) (us : List Value), us.length = ps.length → bindArgs (PySem.W.fnOf x qual (defArgs st) (defBody st) (defScope st) .none kV doc pm an cdv ct) ⟨us, []⟩ = pure (ps.zip us))
    (a : PySem.W.findIn K (.ref Cd) "__init__" = some (some (.ref fm))) (i : PySem.W.isFn K (.ref fm) = true)
    (l : K.lookup fm = some ⟨oc, od, .func (PySem.W.fnOf x qual (defArgs st) (defBody st) (defScope st) .none kV doc pm an cdv ct), osl⟩) (c : PySem.W.codeIn K cdv qual = true) (k : PySem.W.keepIn K (.ref fm) = true)
    (mk : PySem.W.makesIn K Cd = true) (kc : PySem.W.keepIn K (.ref Cd) = true) : TxI K mg C x qual st ps := by
  have F := fun_mk (st := st) l c k
  refine ⟨fm, _, F, F.binds fun kV doc pm an cdv ct us hl => bd kV doc pm an cdv ct us hl, ?_, ?_⟩
  · rw [clsA_of aC]; exact ⟨mk, a, i, kc⟩
  · rw [clsA_of aC]; exact PySem.W.mg_of X G aC
theorem fldC_mk (aC : PySem.W.nsIn K mainGlobals C = some (some (.ref Cd))) (cl : Cls K Cd) (no : PySem.W.findIn K (.ref Cd) f = some none) : FldC K C f := by
  refine ⟨?_, ?_⟩ <;> rw [clsA_of aC]
  · exact cl
  · exact no
theorem mgC_mk (X : K.In h) (G : h.Ns mainGlobals mg) (aC : PySem.W.nsIn K mainGlobals C = some (some (.ref Cd))) : mg C = some (.ref (clsA K C)) := by
  rw [clsA_of aC]; exact PySem.W.mg_of X G aC
theorem baseX_mk (X : K.In h) (G : h.Ns mainGlobals mg) (aC : PySem.W.nsIn K mainGlobals C = some (some (.ref Cd))) (rd : PySem.W.readsIn K Cd (.type "type") = true) (ga : PySem.W.specialIn K (.ref Cd) "__getattribute__" = some (some (.builtin "type.__getattribute__")))
    (ini : PySem.W.findCls K (.ref Cd) (.type "type") "__init__" = some (.val (.builtin "ValueError.__init__"))) : BaseX K mg C := by
  have e := clsA_of aC
  exact ⟨by rw [e]; exact PySem.W.mg_of X G aC, by rw [e]; exact rd, by rw [e]; exact ga, by rw [e]; exact ini⟩
theorem txx_mk {nm q : Str} {N Wd : Addr} {bs : List Value} {sn : List Str} {sub : List Value} {ab : Bool} {col : Option Bool} {dd : Option Addr} {m0 m1 m2 m3 m5 : Option Value} (X : K.In h) (G : h.Ns mainGlobals mg) (aC : PySem.W.nsIn K mainGlobals C = some (some (.ref Cd)))
    (bd : ∀ (kV doc pm : Value) (an : Option Addr) (cdv ct : Value) (us : List Value), us.length = (["self", f] : List Str).length → bindArgs (PySem.W.fnOf "__init__" qual (defArgs st) (defBody st) (defScope st) .none kV doc pm an cdv ct) ⟨us, []⟩ = pure ((["self", f] : List Str).zip us))
    (xL : K.lookup Cd = some (excClassObj nm q Cd N bs [.ref Wd, .type "ValueError", .type "Exception", .type "BaseException", .type "object"] true sn sub ab col dd m0 m1 m2 m3 m5 "ValueError.__new__"))
    (sa : PySem.W.findIn K (.ref Cd) "__setattr__" = some (some (.builtin "object.__setattr__"))) (eC : PySem.W.subIn K (.ref Cd) (.type "BaseException") = some true) (tC : PySem.W.typeIn K (.ref Cd) = some (.type "type")) (kC : PySem.W.keepIn K (.ref Cd) = true)
    (a1 : PySem.W.findIn K (.ref Cd) "__init__" = some (some (.ref fm))) (t1 : PySem.W.typeIn K (.ref fm) = some (.type "function"))
    (l : K.lookup fm = some ⟨oc, od, .func (PySem.W.fnOf "__init__" qual (defArgs st) (defBody st) (defScope st) .none kV doc pm an cdv ct), osl⟩) (c : PySem.W.codeIn K cdv qual = true) (k : PySem.W.keepIn K (.ref fm) = true) (no : PySem.W.findIn K (.ref Cd) f = some none) : TxX K mg C f qual st := by
  have F := fun_mk (st := st) l c k
  have e := clsA_of aC
  refine ⟨fm, _, ⟨?_, ?_, ?_, t1, F.binds fun kV doc pm an cdv ct us hl => bd kV doc pm an cdv ct us hl, ?_⟩, F⟩
  · rw [e]; exact ⟨⟨nm, q, N, bs, _, sn, sub, ab, col, dd, m0, m1, m2, m3, m5, xL, by show PySem.HandSPX.refsVE PySem.HandSPX.veTail = true; decide +kernel⟩, sa, eC, tC, kC⟩
  · rw [e]; exact PySem.W.mg_of X G aC
  · rw [e]; exact a1
  · rw [e]; exact no
theorem errT_mk {cv : Value} (aC : PySem.W.nsIn K mainGlobals C = some (some (.ref Cd))) (hg : PySem.W.findIn K (.ref Cd) "__getattribute__" = some (some (.builtin "BaseException.__getattribute__"))) (hk : PySem.W.findIn K (.ref Cd) "__getattr__" = some none)
    (hs : PySem.W.subIn K (.ref Cd) (.type "BaseException") = some true) (hd : PySem.W.hasDictIn K Cd = true) (ha : PySem.W.findIn K (.ref Cd) "__class__" = some (some (.builtin "object.__class__")))
    (hn : PySem.W.specialIn K (.builtin "object.__class__") "__get__" = some (some (.builtin "getset_descriptor.__get__"))) (ht : PySem.W.takesIn K (.builtin "object.__class__") = some true) (hm : PySem.W.mroIn K Cd (.type "object") = some true)
    (no : PySem.W.findIn K (.ref Cd) f = some none) (kit : PySem.W.kitOne K (.ref Cd) cv = some true) : ErrT K C f cv := by
  have e := clsA_of aC
  exact ⟨by rw [e]; exact ⟨hg, hk, hs, hd, ha, hn, ht, hm⟩, by rw [e]; exact no, by rw [e]; exact kit⟩
theorem exm_mk {B : Str} {Bd : Addr} {b : Bool} (aC : PySem.W.nsIn K mainGlobals C = some (some (.ref Cd))) (aB : PySem.W.nsIn K mainGlobals B = some (some (.ref Bd))) (h1 : PySem.W.subIn K (.ref Bd) (.type "BaseException") = some true) (hd : PySem.W.hasDictIn K Bd = true)
    (ht : PySem.W.typeIn K (.ref Bd) = some (.type "type")) (h4 : PySem.W.subIn K (.ref Cd) (.ref Bd) = some b) (hb : b = decide (C = B)) : PySem.W.exmOne K (.ref (clsA K C)) (.ref (clsA K B)) = some (decide (C = B)) := by
  rw [clsA_of aC, clsA_of aB, ← hb]
  exact PySem.W.exm_ref h1 hd ht h4
theorem xmL_1 {A : Str} (h : PySem.W.exmOne K (.ref (clsA K A)) (.ref (clsA K A)) = some (decide (A = A))) : XmL K [A] := by
  intro C hC B hB
  obtain rfl := List.mem_singleton.mp hC
  obtain rfl := List.mem_singleton.mp hB
  exact h
theorem xmL_2 {A B : Str} (h1 : PySem.W.exmOne K (.ref (clsA K A)) (.ref (clsA K A)) = some (decide (A = A))) (h2 : PySem.W.exmOne K (.ref (clsA K A)) (.ref (clsA K B)) = some (decide (A = B)))
    (h3 : PySem.W.exmOne K (.ref (clsA K B)) (.ref (clsA K A)) = some (decide (B = A))) (h4 : PySem.W.exmOne K (.ref (clsA K B)) (.ref (clsA K B)) = some (decide (B = B))) : XmL K [A, B] := by
  intro C hC D hD
  simp only [List.mem_cons, List.not_mem_nil, or_false] at hC hD
  rcases hC with rfl | rfl <;> rcases hD with rfl | rfl <;> assumption
theorem fld1 (h : FldC K C f) : ∀ D ∈ [C], FldC K D f := fun D hD => by
  obtain rfl := List.mem_singleton.mp hD
  exact h
end
end Pz

set_option Elab.async false
set_option linter.all false
set_option maxRecDepth 100000
set_option maxHeartbeats 4000000
/-! Pz26: x.index(y), x a tuple of numbers or a list. -/
namespace Pz
open PySem PySem.Spec PyProof.Rows L2
def rIndexT (K : PySem.W.Frag) : V → List V → Hp → VK → Prop := fun x xs H Q => ∃ p, ∃ ns : List Int, ∃ k, x = .ref p ∧ xs = [.int k] ∧ SqT K H p (ns.map V.int) ∧ k ∈ ns ∧ Q (.int (ns.idxOf k : Nat)) H
section
variable {X : Cx} {W : WX} {e o : Expr} {f g : FE} {apos cpos : Pos} {K : PySem.W.Frag} {m : List Addr} {H : Hp} {S : Sto}
theorem mt_indexT : MtR X "tuple.index" (rIndexT X.K) := by
  intro pins s σ H x xs v us Q I rx rs h
  obtain ⟨p, ns, k, rfl, rfl, hq, hk, q⟩ := h
  cases rx
  obtain ⟨u, rfl, t, rfl⟩ := vals1 rs
  obtain ⟨its, r, hl, hz⟩ := I.tuple hq
  exact PySem.SeqAt.tuple_index_ints hl (intsAre_of r) hk ⟨.int (ns.idxOf k : Nat), H, I.tok _, ⟨_, rfl⟩, q⟩
/-- the method of a tuple that has no dict -/
def tTI (K : PySem.W.Frag) (to : TE) (t : TA) : TE := fun σ H Q => to σ H fun x H1 => ∃ a vs, x = .ref a ∧ SqN K H1 a vs ∧ t σ H1 fun xs H2 => rIndexT K x xs H2 Q
theorem pe_tindex {to : TE} {t : TA} (ho : PE X o to) (ha : PA X [e] t)
    (hbase : attributeBase o "index" X.env (eval o X.env) = eval o X.env := by rfl)
    (hfew : ((backTo cpos (starEach [e] X.env)).all (fun x => !x.1) && (backToKw cpos (keywordEach [] X.env)).all (fun x => x.1.isSome) && decide ([e].length + ([] : List Keyword).length + (if ([] : List Keyword).isEmpty then 0 else 1) < 30)) = true := by rfl)
    (hline : (apos.endLine == cpos.line) = true := by rfl) (hs : starEach [e] X.env = (false, eval e X.env) :: starEach [] X.env := by rfl) (hplain : (backTo cpos (starEach [] X.env)).any (·.1) = false := by rfl) :
    PE X (.Call (.Attribute o "index" apos) [e] [] cpos) (tTI X.K to t) := by
  refine ⟨fun pins s σ H Q I h => ?_⟩
  refine wpAny_Call_method_late hbase hfew hline rfl (thn (ho.run pins s σ H _ I h) fun v s1 ⟨x, H1, I1, r1, a, vs, ex, hn, q1⟩ => ?_)
  subst ex
  cases r1
  have tn : s1.TypeIs (.ref a) "tuple" ∧ ∀ b, Value.ref a = .ref b → ∃ ob, s1.heap.get? b = some ob ∧ ob.dict = none := by
    rcases hn with ⟨ob, hd, hf⟩ | ⟨ob, its, n, hl, hc, hd, _⟩
    · obtain ⟨h1, _, _, _, o2, h2, h3, _⟩ := I1.hok a _ hf
      have e : ob = o2 := Option.some.inj (h1.symm.trans h2)
      subst e
      exact ⟨⟨ob, h1, h3⟩, fun b z => by cases z; exact ⟨ob, h1, hd⟩⟩
    · have h1 := I1.kIn _ _ hl
      exact ⟨⟨ob, h1, hc⟩, fun b z => by cases z; exact ⟨ob, h1, hd⟩⟩
  refine ⟨"tuple", "tuple.index", PySem.F.plainAttrs_tuple, PySem.F.slot_tuple_index, PySem.F.type_tuple_index, tn.1, tn.2, ?_⟩
  have hA := ha.run cpos pins s1 σ H1 _ I1 q1
  rw [hs] at hA ⊢
  refine Calls.callWith_builtin (by show (false || (backTo cpos (starEach [] X.env)).any (·.1)) = false; rw [hplain] <;> rfl) (Calls.evalArgs_plain ?_)
  exact thn hA fun us s2 ⟨vs, H2, I2, r2, q2⟩ => mt_indexT pins s2 σ H2 (.ref a) vs (.ref a) us Q I2 rfl r2 q2
/-- x.index(y) -/
def oIndexT (x y : D) (S : Sto) : Out D := match x, y with
  | .tup xs, .int k => match intsD xs with
    | some ns => if k ∈ ns then .ok (.int (ns.idxOf k : Nat)) S else .bad
    | none => .bad
  | _, _ => .bad
def eIxB (g : FE) (l : Loc) (x : D) (S1 : Sto) : Out D := match x with
  | .tup xs => (g l S1).bind fun y S2 => oIndexT (.tup xs) y S2
  | x => (isL x S1).bind fun _ _ => (g l S1).bind fun y S2 => oIndex x y S2
def eIx (f g : FE) : FE := fun l S => (f l S).bind fun x S1 => eIxB g l x S1
theorem me_index (ho : ME X W o f) (he : ME X W e g)
    (hbase : attributeBase o "index" X.env (eval o X.env) = eval o X.env := by rfl) (hfew : ((backTo cpos (starEach [e] X.env)).all (fun x => !x.1) && (backToKw cpos (keywordEach [] X.env)).all (fun x => x.1.isSome) && decide ([e].length + ([] : List Keyword).length + (if ([] : List Keyword).isEmpty then 0 else 1) < 30)) = true := by rfl) (hline : (apos.endLine == cpos.line) = true := by rfl) (hs : starEach [e] X.env = (false, eval e X.env) :: starEach [] X.env := by rfl)
    (hplain : (backTo cpos (starEach [] X.env)).any (·.1) = false := by rfl) : ME X W (.Call (.Attribute o "index" apos) [e] [] cpos) (eIx f g) := by
  have h1 := pe_tindex (X := X) ho (pa_cons he pa_nil hs) hbase hfew hline hs hplain
  have h2 := pe_bm (X := X) PySem.F.plainAttrs_list PySem.F.slot_list_index PySem.F.type_list_index mt_index ho (pa_cons he pa_nil hs) hbase hfew hline hs hplain
  have key : PE X (.Call (.Attribute o "index" apos) [e] [] cpos) (fun σ H Q => tTI X.K (tX X.K W (pD X.K) f) (tCons (tX X.K W (pD X.K) g) tNil) σ H Q ∨ tBM X.K "list" (rIndex X.K) (tX X.K W (pD X.K) f) (tCons (tX X.K W (pD X.K) g) tNil) σ H Q) :=
    ⟨fun pins s σ H Q I q => q.elim (h1.run pins s σ H Q I) (h2.run pins s σ H Q I)⟩
  refine key.imp fun σ H Q ⟨l, m, S, R, q⟩ => ?_
  unfold eIx at q
  cases e1 : f l S with
  | bad => rw [e1] at q; exact q.elim
  | ex C fs S1 =>
    rw [e1] at q
    exact .inl ⟨l, m, S, R, by rw [e1]; exact q⟩
  | ok d S1 =>
    rw [e1] at q
    have q : post X.K W (pD X.K) σ m H Q (eIxB g l d S1) := q
    by_cases hd : ∃ xs, d = .tup xs
    · obtain ⟨xs, rfl⟩ := hd
      refine .inl ⟨l, m, S, R, ?_⟩
      rw [e1]
      intro v H1 m1 E1 R1 V1
      have V1' := V1
      simp only [VR] at V1
      obtain ⟨a, vs, rfl, h3, h4⟩ := V1
      refine ⟨a, vs, rfl, h3, l, m1, S1, R.ext E1 R1, post.bind (PR := pD X.K) anti_D (post.mono (PR := pD X.K) anti_D E1 q) fun y S2 u H2 m2 E2 R2 V2 q2 => ?_⟩
      cases y with
      | int k =>
        simp only [oIndexT] at q2
        split at q2
        · rename_i ns hns
          split at q2
          · rename_i hk
            obtain rfl := intsD_ok hns
            simp only [VR] at V2
            have h5 : VRs X.K m1 H1 (ns.map D.int) vs := h4
            obtain rfl := h5.ints
            exact ⟨a, ns, k, rfl, by rw [V2], (h3.ext E2).t, hk, q2 _ H2 m2 .refl R2 (by simp only [VR])⟩
          · exact q2.elim
        · exact q2.elim
      | _ => exact q2.elim
    · refine .inr ⟨l, m, S, R, ?_⟩
      rw [e1]
      intro v H1 m1 E1 R1 V1
      have q : post X.K W (pD X.K) σ m H Q ((isL d S1).bind fun _ _ => (g l S1).bind fun y S2 => oIndex d y S2) := by
        cases d <;> first | exact q | exact absurd ⟨_, rfl⟩ hd
      obtain ⟨h1, q2⟩ := isL_ok R1 V1 (post.mono (PR := pD X.K) anti_D E1 q)
      exact ⟨h1, l, m1, S1, R.ext E1 R1, post.bind (PR := pD X.K) anti_D q2 fun y S2 u H2 m2 E2 R2 V2 q3 => o2_index W σ m2 H2 S2 d y v u Q R2 (VR.ext E2 d v V1) V2 q3⟩
end
end Pz

set_option Elab.async false
set_option linter.all false
set_option maxRecDepth 100000
set_option maxHeartbeats 4000000
/-! Pz27: dicts: d[k], d[k] = v, k in d, d.get, d.pop, sorted(d). -/
namespace Pz
open PySem PySem.Spec PyProof.Rows L2
section
variable {X : Cx} {W : WX} {a b c e o i : Expr} {f g h : FE} {pos p p' : Pos} {K : PySem.W.Frag} {m : List Addr} {H : Hp} {S : Sto}
def dkD (x : D) (S : Sto) : Option (List (Key × D)) := match x with
  | .ref n => match S[n]? with
    | some (.dk kvs) => some kvs
    | _ => none
  | _ => none
theorem dkD_ok (s : SR K m H S) {x : D} {v : V} {kvs : List (Key × D)} (h : dkD x S = some kvs) (r : VR K m H x v) : ∃ n q us, x = .ref n ∧ S[n]? = some (.dk kvs) ∧ v = .ref q ∧ m[n]? = some q ∧ H q = some (.dK us) ∧ AR K m H kvs us := by
  cases x with
  | ref n =>
    simp only [dkD] at h
    split at h
    · rename_i xs hn
      cases h
      obtain ⟨q, rfl, h1, _, us, h2, h3⟩ := s.ref hn r
      exact ⟨n, q, us, rfl, hn, rfl, h1, h2, h3⟩
    · cases h
  | _ => cases h
def oDGet (x y : D) (S : Sto) : Out D := match dkD x S, keyD y with
  | some kvs, some k => match Pz.getD kvs k with
    | some d => .ok d S
    | none => .bad
  | _, _ => .bad
theorem me_dget (hu : X.A.units + 64 < cLine) (ho : ME X W o f) (hi : ME X W i g) (hs : NoSl i := by exact fun _ _ => rfl) : ME X W (.Subscript o i pos) (e2 oDGet f g) :=
  (pe_dget (by omega) ho hi hs).imp fun σ H Q q => by
    obtain ⟨l, m, S, R, q⟩ := q
    refine ⟨l, m, S, R, post.bind (PR := pD X.K) anti_D q fun x S1 v H1 m1 E1 R1 V1 q1 => ⟨l, m1, S1, R.ext E1 R1, post.bind (PR := pD X.K) anti_D q1 fun y S2 u H2 m2 E2 R2 V2 q2 => ?_⟩⟩
    unfold oDGet at q2
    split at q2
    · rename_i kvs k hx hk
      split at q2
      · rename_i d hd
        obtain ⟨n, a, us, rfl, hn, rfl, h1, h2, h3⟩ := dkD_ok R2 hx (VR.ext E2 _ _ V1)
        have ek := keyD_ok hk V2
        rcases h3.get (k := k) with ⟨h4, _⟩ | ⟨d', w, h4, h5, h6⟩
        · rw [hd] at h4; cases h4
        · rw [hd] at h4
          cases h4
          exact ⟨a, w, rfl, by rw [ek, ← h5]; exact DGet.k h2, q2 w H2 m2 .refl R2 h6⟩
      · exact q2.elim
    · exact q2.elim
theorem dkD_at (s : SR K m H S) {n : Nat} {kvs : List (Key × D)} (h : S[n]? = some (.dk kvs)) : dkD (.ref n) S = some kvs := by simp only [dkD, h]
/-! y in d -/
def oDIn (y x : D) (S : Sto) : Out D := match dkD x S, keyD y with
  | some kvs, some k => .ok (.bl (Pz.getD kvs k).isSome) S
  | _, _ => .bad
def oDNin (y x : D) (S : Sto) : Out D := match dkD x S, keyD y with
  | some kvs, some k => .ok (.bl (!(Pz.getD kvs k).isSome)) S
  | _, _ => .bad
theorem dGet_ok {kvs : List (Key × D)} {us : List (Key × V)} (h : AR K m H kvs us) (k : Key) : (valV us k).isSome = (Pz.getD kvs k).isSome := by
  rcases h.get (k := k) with ⟨h1, h2⟩ | ⟨d, v, h1, h2, _⟩ <;> rw [h1, h2] <;> rfl
theorem tX_din {Q : VK} {σ : L2.St} (q : tX K W (pD K) (e2 oDIn g f) σ H Q) : tDIn (tX K W (pD K) g) (tX K W (pD K) f) σ H Q := by
  obtain ⟨l, m, S, R, q⟩ := q
  refine ⟨l, m, S, R, post.bind (PR := pD K) anti_D q fun y S1 v H1 m1 E1 R1 V1 q1 => ⟨l, m1, S1, R.ext E1 R1, post.bind (PR := pD K) anti_D q1 fun x S2 u H2 m2 E2 R2 V2 q2 => ?_⟩⟩
  unfold oDIn at q2
  split at q2
  · rename_i kvs k hx hk
    obtain ⟨n, a, us, rfl, hn, rfl, h1, h2, h3⟩ := dkD_ok R2 hx V2
    have ek := keyD_ok hk (VR.ext E2 _ _ V1)
    refine ⟨a, _, rfl, by rw [ek]; exact DGet.k h2, ?_⟩
    rw [dGet_ok h3]
    exact q2 _ H2 m2 .refl R2 (by simp only [VR])
  · exact q2.elim
theorem tX_dnin {Q : VK} {σ : L2.St} (q : tX K W (pD K) (e2 oDNin g f) σ H Q) : tDNotIn (tX K W (pD K) g) (tX K W (pD K) f) σ H Q := by
  obtain ⟨l, m, S, R, q⟩ := q
  refine ⟨l, m, S, R, post.bind (PR := pD K) anti_D q fun y S1 v H1 m1 E1 R1 V1 q1 => ⟨l, m1, S1, R.ext E1 R1, post.bind (PR := pD K) anti_D q1 fun x S2 u H2 m2 E2 R2 V2 q2 => ?_⟩⟩
  unfold oDNin at q2
  split at q2
  · rename_i kvs k hx hk
    obtain ⟨n, a, us, rfl, hn, rfl, h1, h2, h3⟩ := dkD_ok R2 hx V2
    have ek := keyD_ok hk (VR.ext E2 _ _ V1)
    refine ⟨a, _, rfl, by rw [ek]; exact DGet.k h2, ?_⟩
    rw [dGet_ok h3]
    exact q2 _ H2 m2 .refl R2 (by simp only [VR])
  · exact q2.elim
theorem me_din (hu : X.A.units + 64 < cLine) (hi : ME X W i g) (ho : ME X W o f) (h1 : behindInMarks .In o = false := by first | exact nobehind _ (by decide) (by decide) | rfl) : ME X W (.Compare i [.In] [o] pos) (e2 oDIn g f) := (pe_cmp (pc_din (by omega) hi ho) h1).imp fun σ H Q q => tX_din q
theorem me_dnin (hu : X.A.units + 64 < cLine) (hi : ME X W i g) (ho : ME X W o f) (h1 : behindInMarks .NotIn o = false := by first | exact nobehind _ (by decide) (by decide) | rfl) : ME X W (.Compare i [.NotIn] [o] pos) (e2 oDNin g f) := (pe_cmp (pc_dnotin (by omega) hi ho) h1).imp fun σ H Q q => tX_dnin q
theorem tB_of {t : TE} {ff : FE} (i : ∀ σ H Q, tX K W (pD K) ff σ H Q → t σ H Q) {σ : L2.St} {Q : Bool → Hp → Prop} (q : tX K W pB (eT ff) σ H Q) : tB t σ H Q := i _ _ _ (tX_tst q)
theorem mt_din (hu : X.A.units + 64 < cLine) (hi : ME X W i g) (ho : ME X W o f) (h1 : behindInMarks .In o = false := by first | exact nobehind _ (by decide) (by decide) | rfl) : MT X W (.Compare i [.In] [o] pos) (eT (e2 oDIn g f)) := (pt_cmp (pc_din (by omega) hi ho) h1).imp fun σ H Q q => tB_of (fun _ _ _ q => tX_din q) q
theorem mt_dnin (hu : X.A.units + 64 < cLine) (hi : ME X W i g) (ho : ME X W o f) (h1 : behindInMarks .NotIn o = false := by first | exact nobehind _ (by decide) (by decide) | rfl) : MT X W (.Compare i [.NotIn] [o] pos) (eT (e2 oDNin g f)) := (pt_cmp (pc_dnotin (by omega) hi ho) h1).imp fun σ H Q q => tB_of (fun _ _ _ q => tX_dnin q) q
/-! d[y] = v -/
def oDPut (v x y : D) (S : Sto) : Option Sto := match x, keyD y with
  | .ref n, some k => match S[n]? with
    | some (.dk kvs) => if kvs.length < sizeLine then some (S.set n (.dk (putD kvs k v))) else none
    | _ => none
  | _, _ => none
def sDPutF (f g h : FE) : FS := fun l S => toS l (f l S) fun v S1 => toS l (g l S1) fun x S2 => toS l (h l S2) fun y S3 => match oDPut v x y S3 with
  | some S4 => .nx l S4
  | none => .bad
theorem ms_dput {p1 : Pos} (hu : X.A.units + 64 < cLine) (he : ME X W e f) (ho : ME X W o g) (hi : ME X W i h) (hs : swapsWith e (some (.Subscript o i p1)) pos.line X.env = pure false := by rfl) : MS X W (.Assign [.Subscript o i p1] e pos) (sDPutF f g h) :=
  (ps_dput (by omega) ho hi he hs).imp fun D' σ H ⟨l, m, S, R, q⟩ => ⟨l, m, S, R, postS.bind (PR := pD X.K) R q fun d S1 w H1 m1 E1 R1 V1 R2 q1 => ⟨l, m1, S1, R2, postS.bind (PR := pD X.K) R2 q1 fun x S2 v H2 m2 E2 R3 V2 R4 q2 =>
    ⟨l, m2, S2, R4, postS.bind (PR := pD X.K) R4 q2 fun y S3 u H3 m3 E3 R5 V3 R6 q3 => by
      cases e4 : oDPut d x y S3 with
      | none => rw [e4] at q3; exact q3.elim
      | some S4 =>
        rw [e4] at q3
        unfold oDPut at e4
        split at e4
        · rename_i n k hk
          split at e4
          · rename_i kvs hn
            split at e4
            · rename_i hl
              cases e4
              have V2 := VR.ext E3 _ _ V2
              have V1 := VR.ext (E2.trans E3) _ _ V1
              obtain ⟨a, rfl, h1, hmem, us, h2, h3⟩ := R5.ref hn V2
              have ek := keyD_ok hk V3
              have mu : Mu (H3 a) := OR.mu (K := X.K) (m := m3) (o := .dk kvs) ⟨us, h2, h3⟩
              have E4 : Ext m3 H3 m3 (upd H3 a (.dK (putK us k w))) := Ext.wr hmem mu
              have new : OR X.K m3 (upd H3 a (.dK (putK us k w))) (.dk (putD kvs k d)) a := ⟨_, upd_same, AR.ext E4 _ _ (AR.put V1 h3)⟩
              exact ⟨a, _, rfl, by rw [ek]; exact DPut.k h2 (by rw [AR.length h3]; exact hl), q3 σ _ m3 E4 (R6.ext E4 (R5.wr h1 mu new))⟩
            · cases e4
          · cases e4
        · cases e4⟩⟩⟩
/-! {k: v, ..}[x] -/
def oIxD (kvs : List (Key × D)) (k : D) (S : Sto) : Out D := match keyD k with
  | some k => match Pz.getD (mergeD [] kvs) k with
    | some d => .ok d S
    | none => .bad
  | none => .bad
def eDispIx (r : FP) (f : FE) : FE := fun l S => (r l S).bind fun kvs S1 => if kvs.length ≤ 15 then (f l S1).bind fun k S2 => oIxD kvs k S2 else .bad
theorem me_dispIx {ks : List (Option Expr)} {vs : List Expr} {p1 : Pos} {r : FP} (hu : X.A.units + 64 < cLine) (hr : MP X W p1 ks vs r) (ha : ME X W a f) (hs : NoSl a := by exact fun _ _ => rfl) (hall : ks.all (·.isSome) = true := by rfl) (hl : ks.length = vs.length := by rfl) (h0 : ks ≠ [] := by simp) (h15 : ks.length ≤ 15 := by decide) :
    ME X W (.Subscript (.Dict ks vs p1) a pos) (eDispIx r f) := by
  obtain ⟨trs, h1, h2⟩ := hr.ex
  refine (pe_dget (by omega) (pe_disp h1 hall hl h0 h15) ha hs).imp fun σ H Q ⟨l, m, S, R, q⟩ t ht => ?_
  have Et : Ext m H m (upd H t (.dK [])) := Ext.tmp ht
  have hnt0 : t ∉ m := R.sr.notin ht
  refine h2 σ _ _ ⟨l, m, S, R.ext Et (R.sr.tmp ht), ?_⟩
  unfold eDispIx at q
  cases e0 : r l S with
  | bad => rw [e0] at q; exact q.elim
  | ex C fs S1 => rw [e0] at q; exact post.mono (PR := pD X.K) anti_D Et (o := .ex C fs S1) q
  | ok kvs S1 =>
    rw [e0] at q
    intro ps H1 m1 E1 R1 ⟨us, e1, V1⟩
    subst e1
    have hnt : t ∉ m1 := E1.notin hnt0 (by rw [upd_same]; exact fun z => by cases z)
    have ht1 : H1 t = some (.dK []) := E1.oth _ _ upd_same hnt0
    have q : post X.K W (pD X.K) σ m H Q (if kvs.length ≤ 15 then (f l S1).bind fun k S2 => oIxD kvs k S2 else .bad) := q
    split at q
    · rename_i hz
      have mu : Mu (some (HO.dK [])) := ⟨fun _ z => (by cases z), fun _ _ z => (by cases z)⟩
      have E2 : Ext m H m1 (upd H1 t (.dK (mergeK [] us))) := Ext.over1 ht (Et.trans E1)
      have R2 : SR X.K m1 (upd H1 t (.dK (mergeK [] us))) S1 := SR.overD R1 ht1 mu hnt
      have V2 : AR X.K m1 (upd H1 t (.dK (mergeK [] us))) (mergeD [] kvs) (mergeK [] us) := AR.overD ht1 mu (AR.merge _ V1 rfl)
      refine ⟨ht1, us, rfl, by rw [V1.length]; exact hz, l, m1, S1, R.ext E2 R2, post.bind (PR := pD X.K) anti_D (post.mono anti_D E2 q) fun k S2 kv H2 m2 E3 R3 V3 q2 => ?_⟩
      unfold oIxD at q2
      split at q2
      · rename_i kk hkk
        have hd3 : H2 t = some (.dK (mergeK [] us)) := E3.oth _ _ upd_same hnt
        have V5 := AR.ext E3 _ _ V2
        rw [keyD_ok hkk V3]
        rcases AR.get (k := kk) V5 with ⟨g1, g2⟩ | ⟨x, w, g1, g2, g3⟩
        · rw [g1] at q2; exact q2.elim
        · rw [g1] at q2; exact ⟨t, w, rfl, by rw [← g2]; exact DGet.k hd3, q2 _ H2 m2 .refl R3 g3⟩
      · exact q2.elim
    · exact q.elim
/-! sorted(d), int keys -/
def intK : List (Key × D) → Option (List Int)
  | [] => some []
  | (.inl k, _) :: r => (intK r).map (k :: ·)
  | _ :: _ => none
theorem intK_ok : ∀ {kvs : List (Key × D)} {us : List (Key × V)} {ks : List Int}, AR K m H kvs us → intK kvs = some ks → us.map (·.1) = ks.map Sum.inl
  | [], _, _, h, e => by simp only [AR] at h; subst h; cases e; rfl
  | (.inl k, d) :: r, _, _, h, e => by
    obtain ⟨w, q, rfl, h1, h2⟩ := h
    simp only [intK, Option.map_eq_some_iff] at e
    obtain ⟨t, e, rfl⟩ := e
    rw [List.map_cons, List.map_cons, intK_ok h2 e]
  | (.inr k, d) :: r, _, _, _, e => by cases e
def oSortD (x : D) (S : Sto) : Out LV := match dkD x S with
  | some kvs => match intK kvs with
    | some ks => if ks.length < 64 then .ok (.tmp ((ks.mergeSort fun a b => decide (a ≤ b)).map .int)) S else .bad
    | none => .bad
  | none => .bad
theorem ml_sortD (hc : X.calm = true) (hg : Gl X "sorted") (hm : X.mg "sorted" = none) (hb : bootBuiltins "sorted" = some (.builtin "sorted")) (he : ME X W e f) (s1 : starEach [e] X.env = (false, eval e X.env) :: starEach [] X.env := by rfl) (hpl : (backTo pos (starEach [] X.env)).any (·.1) = false := by rfl) : ML X W (.Call (.Name "sorted" p) [e] [] pos) (eB1 oSortD f) :=
  call1B (PR := pD X.K) (call_sortedDI hc) (fun W σ m H H0 S x v Q R V1 q => by
    unfold oSortD at q
    split at q
    · rename_i kvs hx
      split at q
      · rename_i ks hk
        split at q
        · rename_i hl
          obtain ⟨n, a, us, rfl, hn, rfl, h1, h2, h3⟩ := dkD_ok R hx V1
          refine ⟨a, us, ks, rfl, .inl h2, intK_ok h3 hk, hl, fun ms t pm so ht => ?_⟩
          rw [sort_uniqI pm so]
          exact q _ _ m (Ext.tmp ht) (R.tmp ht) (pL.new .refl R ht (VRs.of_ints _))
        · exact q.elim
      · exact q.elim
    · exact q.elim) anti_L hg hm hb he (by decide) (by decide) s1 hpl
/-! d.get(k, x) -/
def oDGet2 (x y z : D) (S : Sto) : Out D := match dkD x S, keyD y with
  | some kvs, some k => .ok ((Pz.getD kvs k).getD z) S
  | _, _ => .bad
def eDGet2 (f g h : FE) : FE := fun l S => (f l S).bind fun x S1 => match dkD x S1 with
  | some _ => (g l S1).bind fun y S2 => (h l S2).bind fun z S3 => oDGet2 x y z S3
  | none => .bad
theorem me_dget2 {apos cpos : Pos} (hu : X.A.units + 64 < cLine) (ho : ME X W o f) (ha : ME X W a g) (hb : ME X W b h) (mm : M2 X o "get" apos a b cpos := by exact ⟨rfl, rfl, rfl, rfl⟩) : ME X W (.Call (.Attribute o "get" apos) [a, b] [] cpos) (eDGet2 f g h) :=
  (pe_dget2 (by omega) ho ha hb mm).imp fun σ H Q q => by
    obtain ⟨l, m, S, R, q⟩ := q
    refine ⟨l, m, S, R, post.bind (PR := pD X.K) anti_D q fun x S1 v H1 m1 E1 R1 V1 q1 => ?_⟩
    split at q1
    · rename_i kvs0 hx0
      obtain ⟨n0, a0, us0, rfl, hn0, rfl, g1, g2, g3⟩ := dkD_ok R1 hx0 V1
      refine ⟨a0, rfl, .inl ⟨us0, .inl g2⟩, l, m1, S1, R.ext E1 R1, post.bind (PR := pD X.K) anti_D q1 fun y S2 u H2 m2 E2 R2 V2 q2 => ⟨l, m2, S2, R.ext (E1.trans E2) R2, post.bind (PR := pD X.K) anti_D q2 fun z S3 w H3 m3 E3 R3 V3 q3 => ?_⟩⟩
      unfold oDGet2 at q3
      split at q3
      · rename_i kvs k hx hk
        obtain ⟨n, a1, us, hr, hn, hr2, h1, h2, h3⟩ := dkD_ok R3 hx (VR.ext (E2.trans E3) _ _ V1)
        cases hr
        cases hr2
        rw [keyD_ok hk (VR.ext E3 _ _ V2)]
        refine ⟨_, DGet.k h2, ?_⟩
        rcases h3.get (k := k) with ⟨h4, h5⟩ | ⟨d, w', h4, h5, h6⟩
        · rw [h4] at q3; rw [h5]; exact q3 _ H3 m3 .refl R3 V3
        · rw [h4] at q3; rw [h5]; exact q3 _ H3 m3 .refl R3 h6
      · exact q3.elim
    · exact q1.elim
end
end Pz

set_option Elab.async false
set_option linter.all false
set_option maxRecDepth 100000
set_option maxHeartbeats 4000000
/-! Pz28: in, index, of nested data. -/
namespace Pz
open PySem PySem.Spec PyProof.Rows L2
section
variable {X : Cx} {W : WX} {K : PySem.W.Frag} {a b : Expr} {f g : FE} {pos : Pos}
def oInP (x y : D) (S : Sto) : Out D := match toPy 40 S x, toPy 40 S y with
  | some d, some (.list ds) => if SeqAt.shaped d && SeqAt.shaped (.list ds) then .ok (.bl (ds.any fun z => PyData.eqv z d)) S else .bad
  | _, _ => .bad
theorem o2_inP : O2 K (rInD K) oInP := fun W σ m H S x y v u Q s rx ry q => by
  unfold oInP at q
  split at q
  · rename_i d ds h1 h2
    split at q
    · rename_i hs
      rw [Bool.and_eq_true] at hs
      exact ⟨d, ds, toPy_dp s _ _ _ _ rx h1, toPy_dp s _ _ _ _ ry h2, hs.1, hs.2, q _ H m .refl s (by simp only [VR])⟩
    · exact q.elim
  · exact q.elim
theorem me_inP (hu : X.A.units + 150 < cLine) (ha : ME X W a f) (hb : ME X W b g) (hm : behindInMarks .In b = false := by rfl) : ME X W (.Compare a [.In] [b] pos) (e2 oInP f g) := me_cmp (op_inD (by omega)) o2_inP ha hb hm
theorem mt_inP (hu : X.A.units + 150 < cLine) (ha : ME X W a f) (hb : ME X W b g) (hm : behindInMarks .In b = false := by rfl) : MT X W (.Compare a [.In] [b] pos) (eT (e2 oInP f g)) := mt_cmp (op_inD (by omega)) o2_inP ha hb hm
def oIndexP (x y : D) (S : Sto) : Out D := match x with
  | .ref n => match S[n]? with
    | some (.lst _) => match toPy 40 S (.ref n), toPy 40 S y with
      | some (.list ds), some d => if SeqAt.shaped (.list ds) && SeqAt.shaped d then match ds.findIdx? fun z => PyData.eqv z d with
        | some j => .ok (.int (j : Nat)) S
        | none => .bad else .bad
      | _, _ => .bad
    | _ => .bad
  | _ => .bad
theorem o2_indexP : O2 K (fun x y H Q => rIndexD K x [y] H Q) oIndexP := fun W σ m H S x y v u Q s rx ry q => by
  cases x with
  | ref n =>
    simp only [oIndexP] at q
    split at q
    · rename_i xs hn
      obtain ⟨p, rfl, _⟩ := s.ref hn rx
      split at q
      · rename_i ds d h1 h2
        split at q
        · rename_i hs
          rw [Bool.and_eq_true] at hs
          split at q
          · rename_i j hj
            rw [List.findIdx?_eq_some_iff_getElem] at hj
            obtain ⟨hl, h3, h4⟩ := hj
            refine ⟨p, u, d, ds, j, ds[j], rfl, rfl, toPy_dp s _ _ _ _ rx h1, toPy_dp s _ _ _ _ ry h2, hs.1, hs.2, List.getElem?_eq_getElem hl, h3, fun k z hk hz => ?_, q _ H m .refl s (by simp only [VR])⟩
            obtain ⟨hk2, rfl⟩ := List.getElem?_eq_some_iff.mp hz
            have := h4 k hk
            simpa using this
          · exact q.elim
        · exact q.elim
      · exact q.elim
    · exact q.elim
  | _ => exact q.elim
theorem mt_indexP (hu : X.A.units + 150 < cLine) : MtR X "list.index" (rIndexD X.K) := mt_indexD (by omega)
end
end Pz

set_option Elab.async false
set_option linter.all false
set_option maxRecDepth 100000
set_option maxHeartbeats 4000000
/-! Pz29: dicts whose keys are nested tuples, their values numbers. -/
namespace Pz
open PySem PySem.Spec PyProof.Rows L2
section
variable {X : Cx} {W : WX} {K : PySem.W.Frag} {a b c e o i : Expr} {f g h : FE} {pos p p' : Pos} {m : List Addr} {H : Hp} {S : Sto} {pins : List (Addr × Obj)} {σ : L2.St} {s : Shared}
mutual
theorem nk_is (I : L2.Inv X pins σ H s) : ∀ (d : D) (v : V) (u : Value) (k : NestedKey), VR X.K m H d v → L2.RelV v u → nkD d = some k → NestedIs s.heap k u
  | .non, v, u, k, r, q, e => by
    simp only [VR] at r; subst r; cases e
    simp only [L2.RelV] at q; subst q; exact .none
  | .bl z, v, u, k, r, q, e => by
    simp only [VR] at r; subst r; cases e
    simp only [L2.RelV] at q; subst q; exact .bool rfl
  | .int z, v, u, k, r, q, e => by
    simp only [VR] at r; subst r; cases e
    simp only [L2.RelV] at q; obtain ⟨t, rfl⟩ := q; exact .int _ _
  | .tup xs, v, u, k, r, q, e => by
    simp only [VR] at r
    obtain ⟨a, vs, rfl, h1, h2⟩ := r
    simp only [L2.RelV] at q; subst q
    simp only [nkD] at e
    cases e2 : nkDs xs with
    | none => rw [e2] at e; cases e
    | some ks =>
      rw [e2] at e; cases e
      obtain ⟨its, v1, ⟨o, t1, t2, n, t3⟩, _⟩ := I.tuple h1.t
      exact .tup t1 t2 t3 (by simpa using nks_is I xs vs its ks h2 v1 e2)
  | .str _, _, _, _, _, _, e => by cases e
  | .ref _, _, _, _, _, _, e => by cases e
  | .fn _, _, _, _, _, _, e => by cases e
  | .rl _, _, _, _, _, _, e => by cases e
theorem nks_is (I : L2.Inv X pins σ H s) : ∀ (ds : List D) (vs : List V) (us : List Value) (ks : List NestedKey), VRs X.K m H ds vs → Vals vs us → nkDs ds = some ks → NestedAll s.heap ks us
  | [], vs, us, ks, r, q, e => by
    simp only [VRs] at r; subst r; cases e
    cases q; exact .nil
  | d :: ds, vs, us, ks, r, q, e => by
    simp only [VRs] at r
    obtain ⟨v, w, rfl, h1, h2⟩ := r
    cases q with
    | cons q1 q2 =>
      simp only [nkDs] at e
      cases e1 : nkD d with
      | none => rw [e1] at e; cases e
      | some k1 =>
        cases e2 : nkDs ds with
        | none => rw [e1, e2] at e; cases e
        | some k2 =>
          rw [e1, e2] at e; cases e
          exact .cons (nk_is I d v _ k1 h1 q1 e1) (nks_is I ds w _ k2 h2 q2 e2)
end
mutual
theorem nk_hash (w w' : World) : ∀ (d : D) (k : NestedKey), nkD d = some k → NestedKey.hash w k = NestedKey.hash w' k
  | .non, k, e => by cases e; rfl
  | .bl z, k, e => by cases e; rfl
  | .int z, k, e => by cases e; rfl
  | .tup xs, k, e => by
    simp only [nkD] at e
    cases e2 : nkDs xs with
    | none => rw [e2] at e; cases e
    | some ks =>
      rw [e2] at e; cases e
      simp only [NestedKey.hash]
      rw [nks_hash w w' xs ks e2]
  | .str _, _, e => by cases e
  | .ref _, _, e => by cases e
  | .fn _, _, e => by cases e
  | .rl _, _, e => by cases e
theorem nks_hash (w w' : World) : ∀ (ds : List D) (ks : List NestedKey), nkDs ds = some ks → NestedKey.hashes w ks = NestedKey.hashes w' ks
  | [], ks, e => by cases e; rfl
  | d :: ds, ks, e => by
    simp only [nkDs] at e
    cases e1 : nkD d with
    | none => rw [e1] at e; cases e
    | some k1 =>
      cases e2 : nkDs ds with
      | none => rw [e1, e2] at e; cases e
      | some k2 =>
        rw [e1, e2] at e; cases e
        simp only [NestedKey.hashes]
        rw [nk_hash w w' d k1 e1, nks_hash w w' ds k2 e2]
end
/-- the key that a tuple is -/
def keyN : D → Option NestedKey
  | .tup xs => match nkD (.tup xs) with
    | some k => if k.depth ≤ 8 then some k else none
    | none => none
  | _ => none
theorem keyN_ok {d : D} {k : NestedKey} (h : keyN d = some k) : (∃ xs, d = .tup xs) ∧ nkD d = some k ∧ k.depth ≤ 8 := by
  unfold keyN at h
  split at h
  · split at h
    · split at h
      · rename_i e hd
        cases h
        exact ⟨⟨_, rfl⟩, e, hd⟩
      · cases h
    · cases h
  · cases h
def findN (kvs : List (Int × D)) (k : NestedKey) : Option Int := (kvs.find? fun p => decide (nkD p.2 = some k)).map (·.1)
def putK8 (kvs : List (Int × D)) (k : NestedKey) (d : D) (z : Int) : List (Int × D) := if (findN kvs k).isSome = true then kvs.map (fun p => if nkD p.2 = some k then (z, p.2) else p) else kvs ++ [(z, d)]
theorem DnE.at {kvs : List (Int × D)} {us : List (Int × V)} {xs : List (NestedKey × Addr × Value)} (h : DnE kvs us xs) (k : NestedKey) : (findN kvs k = none ∧ atKey xs k = none) ∨ ∃ z b t, findN kvs k = some z ∧ atKey xs k = some (b, .int z t) := by
  induction h with
  | nil => exact .inl ⟨rfl, rfl⟩
  | @cons z d k' b t r us xs hk hd h ih =>
    unfold findN atKey at *
    by_cases e : k' = k
    · subst e
      exact .inr ⟨z, b, t, by simp [List.find?_cons, hk], by simp [List.find?_cons]⟩
    · rw [List.find?_cons, List.find?_cons]
      simp only [hk, Option.some.injEq, e, decide_false]
      exact ih
theorem DnE.is (I : L2.Inv X pins σ H s) {kvs : List (Int × D)} {us : List (Int × V)} {xs : List (NestedKey × Addr × Value)} (h : DnE kvs us xs) : AR X.K m H kvs us → ∀ x ∈ xs, (nestedKind X.prog X.w).is s.heap x.1 x.2.1 := by
  induction h with
  | nil => exact fun _ x hx => by cases hx
  | @cons z d k' b t r us xs hk hd h ih =>
    rintro ⟨v, q, e, h1, h2⟩ x hx
    cases e
    rcases List.mem_cons.mp hx with rfl | hx
    · exact ⟨nk_is I _ _ _ _ h1 (by simp only [L2.RelV]) hk, hd⟩
    · exact ih h2 x hx
theorem DnE.ents {w w' : World} {P P' : Program} {kvs : List (Int × D)} {us : List (Int × V)} {xs : List (NestedKey × Addr × Value)} (h : DnE kvs us xs) : xs.map (entryOfKey (nestedKind P w)) = xs.map (entryOfKey (nestedKind P' w')) := by
  induction h with
  | nil => rfl
  | @cons z d k' b t r us xs hk hd h ih =>
    rw [List.map_cons, List.map_cons, ih]
    have : entryOfKey (nestedKind P w) (k', b, .int z t) = entryOfKey (nestedKind P' w') (k', b, .int z t) := by
      simp only [entryOfKey]
      exact congrArg (fun x => DictEntry.mk x (.ref b) (.int z t)) (nk_hash w w' d k' hk)
    rw [this]
theorem dn_dict (I : L2.Inv X pins σ H s) {a : Addr} {kvs : List (Int × D)} {us : List (Int × V)} (hH : H a = some (.ext (DnO a kvs us))) (hA : AR X.K m H kvs us) : ∃ xs, DnE kvs us xs ∧ Heap.DictOfH (nestedKind X.prog X.w) s.heap a xs := by
  have ok := I.hok a _ hH
  obtain ⟨⟨o, es, ep, xs, h1, h2, h3, h4, h5, h6⟩, _⟩ := ok
  exact ⟨xs, h4, o, es, ep, h1, h2, h3, h6 _ _, h4.is I hA, h5⟩
/-- a key in such a dict -/
def rDnIn (K : PySem.W.Frag) (neg : Bool) : R2 := fun x y H Q => ∃ (m : List Addr) (a q : Addr) (kvs : List (Int × D)) (us : List (Int × V)) (d : D) (k : NestedKey), (a == sysModules) = false ∧ H a = some (.ext (DnO a kvs us)) ∧ AR K m H kvs us ∧ keyN d = some k ∧ VR K m H d (.ref q) ∧ x = .ref q ∧ y = .ref a ∧ Q (.bl (if neg then !(findN kvs k).isSome else (findN kvs k).isSome)) H
theorem room_of (hu : X.A.units + 150 < cLine) : (nestedKind X.prog X.w).room X.A.in1 := by
  show X.A.units + 1 + 8 < cLine
  omega
theorem op_dnIn (hu : X.A.units + 150 < cLine) : OpR X (compareOp .In) (rDnIn X.K false) := by
  rintro pins s σ H x y v u Q I rx ry ⟨m, a, q, kvs, us, d, k, hs, hH, hA, hk, hV, rfl, rfl, hQ⟩
  obtain ⟨hd, h1, h2⟩ := keyN_ok hk
  simp only [L2.RelV] at rx ry
  subst rx ry
  obtain ⟨xs, hE, hD⟩ := dn_dict I hH hA
  have hi : (nestedKind X.prog X.w).is s.heap k q := ⟨nk_is I d _ _ k hV (by simp only [L2.RelV]) h1, h2⟩
  refine wpAny_in_heap (knd := nestedKind X.prog X.w) (room_of hu) hi hs hD ⟨.bl (atKey xs k).isSome, H, I.tok _, by simp only [L2.RelV], ?_⟩
  have e : (atKey xs k).isSome = (findN kvs k).isSome := by
    rcases hE.at k with ⟨a1, a2⟩ | ⟨z, b, t, a1, a2⟩ <;> rw [a1, a2] <;> rfl
  rw [e]
  exact hQ
theorem op_dnNotIn (hu : X.A.units + 150 < cLine) : OpR X (compareOp .NotIn) (rDnIn X.K true) := by
  rintro pins s σ H x y v u Q I rx ry ⟨m, a, q, kvs, us, d, k, hs, hH, hA, hk, hV, rfl, rfl, hQ⟩
  obtain ⟨hd, h1, h2⟩ := keyN_ok hk
  simp only [L2.RelV] at rx ry
  subst rx ry
  obtain ⟨xs, hE, hD⟩ := dn_dict I hH hA
  have hi : (nestedKind X.prog X.w).is s.heap k q := ⟨nk_is I d _ _ k hV (by simp only [L2.RelV]) h1, h2⟩
  refine notIn_keyed (knd := nestedKind X.prog X.w) (kvs := pairsH xs) (room_of hu) hi hs ⟨xs, hD, rfl⟩ ⟨.bl (!(valueAt (pairsH xs) k).isSome), H, I.tok _, by simp only [L2.RelV], ?_⟩
  have e : (valueAt (pairsH xs) k).isSome = (findN kvs k).isSome := by
    have e2 : (valueAt (pairsH xs) k).isSome = (atKey xs k).isSome := by
      unfold valueAt atKey pairsH
      rw [List.find?_map, Option.isSome_map, Option.isSome_map, Option.isSome_map]
      rfl
    rw [e2]
    rcases hE.at k with ⟨a1, a2⟩ | ⟨z, b, t, a1, a2⟩ <;> rw [a1, a2] <;> rfl
  rw [e]
  exact hQ
def rDnGet (K : PySem.W.Frag) : R2 := fun x y H Q => ∃ (m : List Addr) (a q : Addr) (kvs : List (Int × D)) (us : List (Int × V)) (d : D) (k : NestedKey) (z : Int), H a = some (.ext (DnO a kvs us)) ∧ AR K m H kvs us ∧ keyN d = some k ∧ VR K m H d (.ref q) ∧ x = .ref a ∧ y = .ref q ∧ findN kvs k = some z ∧ Q (.int z) H
theorem ix_dn (hu : X.A.units + 150 < cLine) : IxR X (rDnGet X.K) := by
  rintro value slice pins s σ H x y v u Q I rx ry ⟨m, a, q, kvs, us, d, k, z, hH, hA, hk, hV, rfl, rfl, hz, hQ⟩ hsub
  obtain ⟨hd, h1, h2⟩ := keyN_ok hk
  simp only [L2.RelV] at rx ry
  subst rx ry
  obtain ⟨xs, hE, hD⟩ := dn_dict I hH hA
  have hi : (nestedKind X.prog X.w).is s.heap k q := ⟨nk_is I d _ _ k hV (by simp only [L2.RelV]) h1, h2⟩
  rcases hE.at k with ⟨a1, a2⟩ | ⟨z', b, t, a1, a2⟩
  · rw [hz] at a1; cases a1
  rw [hz] at a1; cases a1
  refine subscriptTail_builtin_flat (T := "dict") (id := "dict.__getitem__") (Heap.DictKeyed.typeIs (kvs := pairsH xs) ⟨xs, hD, rfl⟩) F.slot_dict_getitem.lookup ?_ hsub
  exact wpAny_getItem_heap (knd := nestedKind X.prog X.w) (room_of hu) hi hD a2 ⟨(fun _ hz => by cases hz), V.int z, H, I.tok _, (by simp only [L2.RelV]; exact ⟨_, rfl⟩), hQ⟩
theorem DnE.put {kvs : List (Int × D)} {us : List (Int × V)} {xs : List (NestedKey × Addr × Value)} (h : DnE kvs us xs) {k : NestedKey} {d : D} {q : Addr} {z : Int} {t : Tok} (hk : nkD d = some k) (hd : k.depth ≤ 8) (hV : VR K m H d (.ref q)) (hA : AR K m H kvs us) : ∃ us', DnE (putK8 kvs k d z) us' (storedH xs k q (.int z t)) ∧ AR K m H (putK8 kvs k d z) us' := by
  unfold putK8 storedH
  have e : (atKey xs k).isSome = (findN kvs k).isSome := by
    rcases h.at k with ⟨a1, a2⟩ | ⟨z, b, t, a1, a2⟩ <;> rw [a1, a2] <;> rfl
  rw [e]
  split
  · clear e
    rename_i hh
    clear hh
    induction h with
    | nil => exact ⟨[], .nil, rfl⟩
    | @cons z' d' k' b' t' r us xs hk' hd' h ih =>
      obtain ⟨v, q', e, h1, h2⟩ := hA
      cases e
      obtain ⟨us', i1, i2⟩ := ih h2
      rw [List.map_cons, List.map_cons]
      by_cases e : k' = k
      · subst e
        refine ⟨(z, .ref b') :: us', ?_, ?_⟩
        · simp only [hk', if_true, putAt]
          exact .cons hk' hd' i1
        · simp only [hk', if_true]
          exact ⟨_, _, rfl, h1, i2⟩
      · refine ⟨(z', .ref b') :: us', ?_, ?_⟩
        · simp only [hk', Option.some.injEq, e, if_false, putAt]
          exact .cons hk' hd' i1
        · simp only [hk', Option.some.injEq, e, if_false]
          exact ⟨_, _, rfl, h1, i2⟩
  · clear e
    rename_i hh
    clear hh
    induction h with
    | nil => exact ⟨[(z, .ref q)], .cons hk hd .nil, ⟨_, _, rfl, hV, rfl⟩⟩
    | @cons z' d' k' b' t' r us xs hk' hd' h ih =>
      obtain ⟨v, q', e, h1, h2⟩ := hA
      cases e
      obtain ⟨us', i1, i2⟩ := ih h2
      exact ⟨(z', .ref b') :: us', .cons hk' hd' i1, ⟨_, _, rfl, h1, i2⟩⟩
def rDnSet (K : PySem.W.Frag) : TSet := fun o i v H Q => ∃ (m : List Addr) (a q : Addr) (kvs : List (Int × D)) (us : List (Int × V)) (d : D) (k : NestedKey) (z : Int), H a = some (.ext (DnO a kvs us)) ∧ AR K m H kvs us ∧ keyN d = some k ∧ VR K m H d (.ref q) ∧ o = .ref a ∧ i = .ref q ∧ v = .int z ∧ kvs.length ≤ 12000000 ∧ ∀ us', AR K m H (putK8 kvs k d z) us' → Q (upd H a (.ext (DnO a (putK8 kvs k d z) us')))
theorem DnE.len {kvs : List (Int × D)} {us : List (Int × V)} {xs : List (NestedKey × Addr × Value)} (h : DnE kvs us xs) : xs.length = kvs.length := by
  induction h with
  | nil => rfl
  | cons _ _ _ ih => simp [ih]
theorem set_dn (hu : X.A.units + 150 < cLine) : PSet X (rDnSet X.K) := by
  rintro pins s σ H o i v ov iv u Q I ro ri rv ⟨m, a, q, kvs, us, d, k, z, hH, hA, hk, hV, rfl, rfl, rfl, hl, hQ⟩
  obtain ⟨hd, h1, h2⟩ := keyN_ok hk
  simp only [L2.RelV] at ro ri rv
  subst ro ri
  obtain ⟨t, rfl⟩ := rv
  obtain ⟨xs, hE, hD⟩ := dn_dict I hH hA
  have hi : (nestedKind X.prog X.w).is s.heap k q := ⟨nk_is I d _ _ k hV (by simp only [L2.RelV]) h1, h2⟩
  refine wpAny_setItem_heap (knd := nestedKind X.prog X.w) (room_of hu) hi hD (fun h' hD' hS => ?_) (by rw [hE.len, sizeLine_eq]; omega)
  obtain ⟨us', e1, e2⟩ := hE.put (t := t) (z := z) h1 h2 hV hA
  obtain ⟨ob, es, ep, g1, g2, g3, g4, g5, g6⟩ := hD'
  have okx : DnO a (putK8 kvs k d z) us' h' := ⟨ob, es, ep, _, g1, g2, g3, e1, g6, fun P w => by rw [g4]; exact e1.ents⟩
  refine ⟨_, d_write I (by rw [hH]; trivial) hS ⟨_, g1⟩ ?_, hQ us' e2⟩
  refine ⟨okx, ⟨_, g1⟩, fun ha hb hx hc => ?_⟩
  obtain ⟨ob, es, ep, xs, g1, g2⟩ := hx
  exact ⟨ob, es, ep, xs, hc _ g1, g2⟩
/-! the rules -/
def dnD (x : D) (S : Sto) : Option (List (Int × D)) := match x with
  | .ref n => match S[n]? with
    | some (.dn kvs) => some kvs
    | _ => none
  | _ => none
theorem dnD_ok (s : SR K m H S) {x : D} {v : V} {kvs : List (Int × D)} (h : dnD x S = some kvs) (r : VR K m H x v) : ∃ n q us, x = .ref n ∧ S[n]? = some (.dn kvs) ∧ v = .ref q ∧ m[n]? = some q ∧ H q = some (.ext (DnO q kvs us)) ∧ AR K m H kvs us ∧ (q == sysModules) = false := by
  cases x with
  | ref n =>
    simp only [dnD] at h
    split at h
    · rename_i xs hn
      cases h
      obtain ⟨q, rfl, h1, _, us, h2, h3⟩ := s.ref hn r
      refine ⟨n, q, us, rfl, hn, rfl, h1, h2, h3, ?_⟩
      obtain ⟨o, u, hs⟩ := s.sys
      rw [beq_eq_false_iff_ne]
      intro e
      rw [e, hs] at h2
      cases h2
    · cases h
  | _ => cases h
def oNIn (y x : D) (S : Sto) : Out D := match dnD x S, keyN y with
  | some kvs, some k => .ok (.bl (findN kvs k).isSome) S
  | _, _ => .bad
def oNNin (y x : D) (S : Sto) : Out D := match dnD x S, keyN y with
  | some kvs, some k => .ok (.bl (!(findN kvs k).isSome)) S
  | _, _ => .bad
def oNGet (x y : D) (S : Sto) : Out D := match dnD x S, keyN y with
  | some kvs, some k => match findN kvs k with
    | some z => .ok (.int z) S
    | none => .bad
  | _, _ => .bad
theorem keyN_ref {d : D} {k : NestedKey} {v : V} (h : keyN d = some k) (r : VR K m H d v) : ∃ q, v = .ref q := by
  obtain ⟨⟨xs, rfl⟩, _⟩ := keyN_ok h
  simp only [VR] at r
  obtain ⟨a, vs, rfl, _⟩ := r
  exact ⟨a, rfl⟩
theorem o2_nIn : O2 K (rDnIn K false) oNIn := fun W σ m H S x y v u Q s rx ry q => by
  unfold oNIn at q
  split at q
  · rename_i kvs k h1 h2
    obtain ⟨n, a, us, rfl, hn, rfl, e1, e2, e3, e4⟩ := dnD_ok s h1 ry
    obtain ⟨b, rfl⟩ := keyN_ref h2 rx
    exact ⟨m, a, b, kvs, us, x, k, e4, e2, e3, h2, rx, rfl, rfl, q _ H m .refl s (by simp only [VR, Bool.false_eq_true, if_false])⟩
  · exact q.elim
theorem o2_nNin : O2 K (rDnIn K true) oNNin := fun W σ m H S x y v u Q s rx ry q => by
  unfold oNNin at q
  split at q
  · rename_i kvs k h1 h2
    obtain ⟨n, a, us, rfl, hn, rfl, e1, e2, e3, e4⟩ := dnD_ok s h1 ry
    obtain ⟨b, rfl⟩ := keyN_ref h2 rx
    exact ⟨m, a, b, kvs, us, x, k, e4, e2, e3, h2, rx, rfl, rfl, q _ H m .refl s (by simp only [VR, if_true])⟩
  · exact q.elim
theorem o2_nGet : O2 K (rDnGet K) oNGet := fun W σ m H S x y v u Q s rx ry q => by
  unfold oNGet at q
  split at q
  · rename_i kvs k h1 h2
    split at q
    · rename_i z hz
      obtain ⟨n, a, us, rfl, hn, rfl, e1, e2, e3, e4⟩ := dnD_ok s h1 rx
      obtain ⟨b, rfl⟩ := keyN_ref h2 ry
      exact ⟨m, a, b, kvs, us, y, k, z, e2, e3, h2, ry, rfl, rfl, hz, q _ H m .refl s (by simp only [VR])⟩
    · exact q.elim
  · exact q.elim
theorem me_nIn (hu : X.A.units + 150 < cLine) (ha : ME X W a f) (hb : ME X W b g) (hm : behindInMarks .In b = false := by first | exact nobehind _ (by decide) (by decide) | rfl) : ME X W (.Compare a [.In] [b] pos) (e2 oNIn f g) := me_cmp (op_dnIn hu) o2_nIn ha hb hm
theorem mt_nIn (hu : X.A.units + 150 < cLine) (ha : ME X W a f) (hb : ME X W b g) (hm : behindInMarks .In b = false := by first | exact nobehind _ (by decide) (by decide) | rfl) : MT X W (.Compare a [.In] [b] pos) (eT (e2 oNIn f g)) := mt_cmp (op_dnIn hu) o2_nIn ha hb hm
theorem me_nNin (hu : X.A.units + 150 < cLine) (ha : ME X W a f) (hb : ME X W b g) (hm : behindInMarks .NotIn b = false := by first | exact nobehind _ (by decide) (by decide) | rfl) : ME X W (.Compare a [.NotIn] [b] pos) (e2 oNNin f g) := me_cmp (op_dnNotIn hu) o2_nNin ha hb hm
theorem mt_nNin (hu : X.A.units + 150 < cLine) (ha : ME X W a f) (hb : ME X W b g) (hm : behindInMarks .NotIn b = false := by first | exact nobehind _ (by decide) (by decide) | rfl) : MT X W (.Compare a [.NotIn] [b] pos) (eT (e2 oNNin f g)) := mt_cmp (op_dnNotIn hu) o2_nNin ha hb hm
theorem me_nGet (hu : X.A.units + 150 < cLine) (ha : ME X W a f) (hb : ME X W b g) (hs : PlainIx b := by exact fun _ _ => rfl) : ME X W (.Subscript a b pos) (e2 oNGet f g) := (pe_ix (ix_dn hu) ha hb hs).imp fun σ H Q q => tX_2 o2_nGet q
def oNPut (v x y : D) (S : Sto) : Option Sto := match x, keyN y, v with
  | .ref n, some k, .int z => match S[n]? with
    | some (.dn kvs) => if kvs.length < 12000000 then some (S.set n (.dn (putK8 kvs k y z))) else none
    | _ => none
  | _, _, _ => none
def sNPutF (f g h : FE) : FS := fun l S => toS l (f l S) fun v S1 => toS l (g l S1) fun x S2 => toS l (h l S2) fun y S3 => match oNPut v x y S3 with
  | some S4 => .nx l S4
  | none => .bad
theorem ms_nput {p1 : Pos} (hu : X.A.units + 150 < cLine) (he : ME X W e f) (ho : ME X W o g) (hi : ME X W i h) (hs : swapsWithSole [.Subscript o i p1] e pos.line X.env = pure false := by rfl) (hw : swappedStores [.Subscript o i p1] e X.env = pure none := by rfl) (h1 : (assignEach [.Subscript o i p1] X.env).map (·.2) = [assign (.Subscript o i p1) X.env] := by rfl)
    (ha : ∀ v : Value, assign (.Subscript o i p1) X.env v = (do
      let ov ← holding [v] (eval o X.env)
      let iv ← holding [v, ov] (eval i X.env)
      standAt p1
      holding [v, ov, iv] (setItem ov iv v)
      release [v, ov, iv] []) := by exact fun _ => rfl) : MS X W (.Assign [.Subscript o i p1] e pos) (sNPutF f g h) :=
  (ps_asg he (pg_sub ho hi (set_dn hu) ha) hs hw h1).imp fun D' σ H ⟨l, m, S, R, q⟩ => ⟨l, m, S, R, postS.bind (PR := pD X.K) R q fun d S1 w H1 m1 E1 R1 V1 R2 q1 => ⟨l, m1, S1, R2, postS.bind (PR := pD X.K) R2 q1 fun x S2 v H2 m2 E2 R3 V2 R4 q2 =>
    ⟨l, m2, S2, R4, postS.bind (PR := pD X.K) R4 q2 fun y S3 u H3 m3 E3 R5 V3 R6 q3 => by
      cases e4 : oNPut d x y S3 with
      | none => rw [e4] at q3; exact q3.elim
      | some S4 =>
        rw [e4] at q3
        unfold oNPut at e4
        split at e4
        · rename_i n k z hk
          split at e4
          · rename_i kvs hn
            split at e4
            · rename_i hl
              cases e4
              have V2 := VR.ext E3 _ _ V2
              obtain ⟨a, rfl, h1, hmem, us, h2, h3⟩ := R5.ref hn V2
              obtain ⟨b, rfl⟩ := keyN_ref hk V3
              simp only [VR] at V1
              refine ⟨m3, a, b, kvs, us, y, k, z, h2, h3, hk, V3, rfl, rfl, V1, by omega, fun us' hA => ?_⟩
              have mu : Mu (H3 a) := OR.mu (K := X.K) (m := m3) (o := .dn kvs) ⟨us, h2, h3⟩
              have E4 : Ext m3 H3 m3 (upd H3 a (.ext (DnO a (putK8 kvs k y z) us'))) := Ext.wr hmem mu
              have new : OR X.K m3 (upd H3 a (.ext (DnO a (putK8 kvs k y z) us'))) (.dn (putK8 kvs k y z)) a := ⟨_, upd_same, AR.ext E4 _ _ hA⟩
              exact q3 σ _ m3 E4 (R6.ext E4 (R5.wr h1 mu new))
            · cases e4
          · cases e4
        · cases e4⟩⟩⟩
/-! {} -/
def tDn0 : TE := fun σ H Q => ∀ a, H a = none → (a == sysModules) = false → Q (.ref a) (upd H a (.ext (DnO a [] [])))
theorem pe_dn0 : PE X (.Dict [] [] pos) tDn0 := ⟨fun pins s σ H Q I q => by
  have hs : (H sysModules).isSome = true ∨ H sysModules = none := by cases H sysModules <;> simp
  refine wpAny_mono (pe_dnewK.run pins s σ H (fun v H1 => ∃ a, v = .ref a ∧ H a = none ∧ H1 = upd H a (.dK [])) I fun t ht => ⟨t, rfl, ht, rfl⟩) ?_ (fun _ _ h => h)
  rintro u s' ⟨v, H', I', rv, a, rfl, ha, rfl⟩
  obtain ⟨hl, hsys, vs, hv, o, es, ep, g1, g2, g3, g4, g5, g6⟩ := I'.hok a _ upd_same
  refine ⟨.ref a, upd H a (.ext (DnO a [] [])), ?_, rv, q a ha hsys⟩
  have e0 : es = #[] := by
    cases hv
    cases es with
    | mk l =>
      cases l with
      | nil => rfl
      | cons x r => cases g5
  have okx : DnO a [] [] s'.heap := ⟨o, es, ep, [], g1, g2, g3, .nil, List.nodup_nil, fun P w => by rw [e0]; rfl⟩
  have := I'.write (x := a) (e := a) (h' := s'.heap) (o := .ext (DnO a [] [])) (t' := s'.toks) (by rw [upd_same]; trivial) (.inl rfl) (fun b u _ h => h) ⟨_, g1⟩ ⟨okx, ⟨_, g1⟩, fun ha hb hx hc => by
    obtain ⟨ob, es, ep, xs, g1, g2⟩ := hx
    exact ⟨ob, es, ep, xs, hc _ g1, g2⟩⟩
  have eu : upd (upd H a (.dK [])) a (.ext (DnO a [] [])) = upd H a (.ext (DnO a [] [])) := by
    funext b
    by_cases hb : b = a
    · subst hb; rw [upd_same, upd_same]
    · simp [upd, hb]
  rw [eu] at this
  exact this⟩
def eDn0 : FE := fun _ S => .ok (.ref S.length) (S ++ [.dn []])
theorem me_dn0 : ME X W (.Dict [] [] pos) eDn0 := pe_dn0.imp fun σ H Q ⟨l, m, S, R, q⟩ t ht _ => by
  have hn : t ∉ m := R.sr.notin ht
  refine q _ _ (m ++ [t]) ((Ext.tmp ht).into ht) ((R.sr.tmp ht).grow hn ⟨[], upd_same, rfl⟩) ?_
  simp only [VR]
  exact ⟨t, by rw [← R.sr.len, List.getElem?_concat_length], rfl⟩
end
end Pz

set_option Elab.async false
set_option linter.all false
set_option maxRecDepth 100000
set_option maxHeartbeats 4000000
/-! Pz30: d == {}, d != {}, dict(d), d.pop(k, x). -/
namespace Pz
open PySem PySem.Spec PyProof.Rows L2
section
variable {X : Cx} {W : WX} {K : PySem.W.Frag} {a b c e o i : Expr} {f g h : FE} {p pos p' cpos apos : Pos} {m : List Addr} {H : Hp} {S : Sto}
def rD0 (k : Bool → Bool) : R2 := fun x y H Q => ∃ a b kvs, x = .ref a ∧ y = .ref b ∧ H a = some (.dK kvs) ∧ H b = some (.dK []) ∧ Q (.bl (k kvs.isEmpty)) H
theorem kv_len {κ : Type} {kvs : List (κ × V)} {vs : List (κ × Value)} (h : KV kvs vs) : vs.length = kvs.length := by
  induction h with
  | nil => rfl
  | cons _ _ ih => simp [ih]
theorem op_eqD0 (hu : X.A.units + 64 < cLine) : OpR X (compareOp .Eq) (rD0 id) := by
  rintro pins s σ H x y v u Q I rx ry ⟨a, b, kvs, rfl, rfl, ha, hb, hQ⟩
  simp only [L2.RelV] at rx ry
  subst rx ry
  obtain ⟨_, h1, vs, h2, h3⟩ := I.hok a _ ha
  obtain ⟨_, h4, us, h5, h6⟩ := I.hok b _ hb
  cases h5
  refine PySem.W.keq_eq (r := true) h1 h4 h3 h6 (by omega) (fun hl => ?_) ⟨.bl (vs.length == 0 && true), H, I.tok _, by simp only [L2.RelV]; rfl, ?_⟩
  · cases vs with
    | nil => exact .nil
    | cons => simp at hl
  · have e : (vs.length == 0 && true) = kvs.isEmpty := by
      rw [kv_len h2]
      cases kvs <;> rfl
    rw [e]
    exact hQ
theorem op_neD0 (hu : X.A.units + 64 < cLine) : OpR X (compareOp .NotEq) (rD0 not) := by
  rintro pins s σ H x y v u Q I rx ry ⟨a, b, kvs, rfl, rfl, ha, hb, hQ⟩
  simp only [L2.RelV] at rx ry
  subst rx ry
  obtain ⟨_, h1, vs, h2, h3⟩ := I.hok a _ ha
  obtain ⟨_, h4, us, h5, h6⟩ := I.hok b _ hb
  cases h5
  refine PySem.W.keq_ne (r := true) h1 h4 h3 h6 (by omega) (fun hl => ?_) ⟨.bl (!(vs.length == 0 && true)), H, I.tok _, by simp only [L2.RelV]; rfl, ?_⟩
  · cases vs with
    | nil => exact .nil
    | cons => simp at hl
  · have e : (vs.length == 0 && true) = kvs.isEmpty := by
      rw [kv_len h2]
      cases kvs <;> rfl
    rw [e]
    exact hQ
def oD0 (k : Bool → Bool) (x : D) (S : Sto) : Out D := match dkD x S with
  | some kvs => .ok (.bl (k kvs.isEmpty)) S
  | none => .bad
theorem tX_d0 {k : Bool → Bool} {σ : L2.St} {H : Hp} {Q : VK} (q : tX K W (pD K) (e1 (oD0 k) f) σ H Q) : tOp (rD0 k) (tX K W (pD K) f) tDNewK σ H Q := by
  obtain ⟨l, m, S, R, q⟩ := q
  refine ⟨l, m, S, R, post.bind (PR := pD K) anti_D q fun x S1 v H1 m1 E1 R1 V1 q1 t ht => ?_⟩
  unfold oD0 at q1
  split at q1
  · rename_i kvs hk
    obtain ⟨n, a, us, rfl, hn, rfl, h1, h2, h3⟩ := dkD_ok R1 hk V1
    have ha : a ≠ t := fun z => by rw [z, ht] at h2; cases h2
    have e : us.isEmpty = kvs.isEmpty := by
      have := AR.length h3
      cases us <;> cases kvs <;> simp at this ⊢
    refine ⟨a, t, us, rfl, rfl, by rw [upd_ne ha]; exact h2, upd_same, ?_⟩
    rw [e]
    exact q1 _ _ m1 (Ext.tmp ht) (R1.tmp ht) (by simp only [VR])
  · exact q1.elim
theorem mt_eqD0 {p1 : Pos} (hu : X.A.units + 64 < cLine) (ha : ME X W a f) : MT X W (.Compare a [.Eq] [.Dict [] [] p1] pos) (eT (e1 (oD0 id) f)) := (pt_cmpR (op_eqD0 hu) ha pe_dnewK (nomark _)).imp fun σ H Q q => tst_of (fun _ _ _ q => tX_d0 q) q
theorem mt_neD0 {p1 : Pos} (hu : X.A.units + 64 < cLine) (ha : ME X W a f) : MT X W (.Compare a [.NotEq] [.Dict [] [] p1] pos) (eT (e1 (oD0 not) f)) := (pt_cmpR (op_neD0 hu) ha pe_dnewK (nomark _)).imp fun σ H Q q => tst_of (fun _ _ _ q => tX_d0 q) q
theorem me_eqD0 {p1 : Pos} (hu : X.A.units + 64 < cLine) (ha : ME X W a f) : ME X W (.Compare a [.Eq] [.Dict [] [] p1] pos) (e1 (oD0 id) f) := (pe_cmpR (op_eqD0 hu) ha pe_dnewK (nomark _)).imp fun σ H Q q => tX_d0 q
theorem me_neD0 {p1 : Pos} (hu : X.A.units + 64 < cLine) (ha : ME X W a f) : ME X W (.Compare a [.NotEq] [.Dict [] [] p1] pos) (e1 (oD0 not) f) := (pe_cmpR (op_neD0 hu) ha pe_dnewK (nomark _)).imp fun σ H Q q => tX_d0 q
/-! d.pop(k, x) -/
def dropD (kvs : List (Key × D)) (k : Key) : List (Key × D) := kvs.filter fun kv => decide (kv.1 ≠ k)
theorem AR.drop {k : Key} : ∀ {kvs : List (Key × D)} {us : List (Key × V)}, AR K m H kvs us → AR K m H (dropD kvs k) (dropK us k)
  | [], _, h => by simp only [AR] at h; subst h; rfl
  | (k', d) :: r, us, h => by
    obtain ⟨v, q, rfl, h1, h2⟩ := h
    have ih := AR.drop (k := k) h2
    unfold dropD dropK at *
    by_cases e : k' = k
    · rw [List.filter_cons_of_neg (by simp [e]), List.filter_cons_of_neg (by simp [e])]
      exact ih
    · rw [List.filter_cons_of_pos (by simp [e]), List.filter_cons_of_pos (by simp [e])]
      exact ⟨v, _, rfl, h1, ih⟩
def oDPop2 (x y z : D) (S : Sto) : Out D := match x, keyD y with
  | .ref n, some k => match S[n]? with
    | some (.dk kvs) => match Pz.getD kvs k with
      | some d => .ok d (S.set n (.dk (dropD kvs k)))
      | none => .ok z S
    | _ => .bad
  | _, _ => .bad
def eDPop2 (f g h : FE) : FE := fun l S => (f l S).bind fun x S1 => if (dkD x S1).isSome then (g l S1).bind fun y S2 => (h l S2).bind fun z S3 => oDPop2 x y z S3 else .bad
theorem me_dpop2 (ho : ME X W o f) (he : ME X W a g) (hx : ME X W b h) (M : M2 X o "pop" apos a b cpos := by exact ⟨rfl, rfl, rfl, rfl⟩) : ME X W (.Call (.Attribute o "pop" apos) [a, b] [] cpos) (eDPop2 f g h) :=
  (pe_dpop2 ho he hx M).imp fun σ H Q ⟨l, m, S, R, q⟩ => ⟨l, m, S, R, post.bind (PR := pD X.K) anti_D q fun x S1 v H1 m1 E1 R1 V1 q1 => by
    split at q1
    · rename_i hd
      cases hd2 : dkD x S1 with
      | none => rw [hd2] at hd; cases hd
      | some kvs =>
        obtain ⟨n, a, us, rfl, hn, rfl, h1, h2, h3⟩ := dkD_ok R1 hd2 V1
        refine ⟨a, rfl, .inl ⟨us, .inl h2⟩, l, m1, S1, R.ext E1 R1, post.bind (PR := pD X.K) anti_D q1 fun y S2 u H2 m2 E2 R2 V2 q2 => ⟨l, m2, S2, (R.ext E1 R1).ext E2 R2, post.bind (PR := pD X.K) anti_D q2 fun z S3 w H3 m3 E3 R3 V3 q3 => ?_⟩⟩
        unfold oDPop2 at q3
        split at q3
        · rename_i x' y' n' k hx hk
          cases hx
          split at q3
          · rename_i kvs' hn3
            have V1' := VR.ext (E2.trans E3) _ _ V1
            obtain ⟨a', e', g1, hmem, us', g2, g3⟩ := R3.ref hn3 V1'
            cases e'
            have ek := keyD_ok hk (VR.ext E3 _ _ V2)
            refine ⟨us', k, g2, ek, fun v' hv => ?_, fun hv => ?_⟩
            · rcases AR.get (k := k) g3 with ⟨c1, c2⟩ | ⟨d, w', c1, c2, c3⟩
              · rw [c2] at hv; cases hv
              · rw [c2] at hv; cases hv
                rw [c1] at q3
                have mu : Mu (H3 a) := OR.mu (K := X.K) (m := m3) (o := .dk kvs') ⟨us', g2, g3⟩
                have E4 : Ext m3 H3 m3 (upd H3 a (.dK (dropK us' k))) := Ext.wr hmem mu
                have new : OR X.K m3 (upd H3 a (.dK (dropK us' k))) (.dk (dropD kvs' k)) a := ⟨_, upd_same, AR.ext E4 _ _ (AR.drop g3)⟩
                exact q3 v' _ m3 E4 (R3.wr g1 mu new) (VR.ext E4 _ _ c3)
            · rcases AR.get (k := k) g3 with ⟨c1, c2⟩ | ⟨d, w', c1, c2, c3⟩
              · rw [c1] at q3
                exact q3 w H3 m3 .refl R3 V3
              · rw [c2] at hv; cases hv
          · exact q3.elim
        · exact q3.elim
    · exact q1.elim⟩
/-! dict(d) -/
def oDCopy (x : D) (S : Sto) : Out D := match dkD x S with
  | some kvs => .ok (.ref S.length) (S ++ [.dk kvs])
  | none => .bad
theorem me_dictOf (hg : Gl X "dict") (hm : X.mg "dict" = none) (hb : bootBuiltins "dict" = some (.type "dict")) (he : ME X W e f) (s1 : starEach [e] X.env = (false, eval e X.env) :: starEach [] X.env := by rfl) (hpl : (backTo pos (starEach [] X.env)).any (·.1) = false := by rfl) : ME X W (.Call (.Name "dict" p) [e] [] pos) (eB1 oDCopy f) :=
  call1T (PR := pD X.K) call_dictD (fun W σ m H H0 S x v Q R V1 q => by
    unfold oDCopy at q
    split at q
    · rename_i kvs hx
      obtain ⟨n, a, us, rfl, hn, rfl, h1, h2, h3⟩ := dkD_ok R hx V1
      refine ⟨a, us, rfl, .inl h2, fun t ht => ?_⟩
      have hn : t ∉ m := R.notin ht
      refine q _ _ (m ++ [t]) ((Ext.tmp ht).into ht) ((R.tmp ht).grow hn ⟨us, upd_same, AR.ext (Ext.tmp ht) _ _ h3⟩) ?_
      simp only [VR]
      exact ⟨t, by rw [← R.len, List.getElem?_concat_length], rfl⟩
    · exact q.elim) anti_D hg hm hb he (by decide) (by decide) s1 hpl
end
end Pz

set_option Elab.async false
set_option linter.all false
set_option maxRecDepth 100000
set_option maxHeartbeats 4000000
/-! Pz31: a comprehension over the items of a dict in a list in a field: [e for k, v in self.f[y].items() if c], numbers alone. -/
namespace Pz
open PySem PySem.Spec PyProof.Rows L2
section
variable {X : Cx} {W : WX} {K : PySem.W.Frag} {f g h : FE} {p pos p' cpos apos : Pos} {m : List Addr} {H H' : Hp} {S : Sto} {l : Loc} {σ : L2.St}
def intL (l : Loc) : Loc := l.map fun o => match o with
  | some (.int i) => some (.int i)
  | some (.bl b) => some (.bl b)
  | _ => none
theorem Rel.intL (R : Rel K l σ m S H) (hs : ∃ o u, H' sysModules = some (.frz o u)) : Rel K (intL l) σ [] [] H' := by
  refine ⟨⟨rfl, List.nodup_nil, fun n o h => by simp at h, hs⟩, by rw [R.len, Pz.intL, List.length_map], fun i d h => ?_⟩
  unfold Pz.intL at h
  rw [List.getElem?_map, Option.map_eq_some_iff] at h
  obtain ⟨o, h1, h2⟩ := h
  cases o with
  | none => cases h2
  | some d' =>
    cases d' <;> simp only [Option.some.injEq, reduceCtorEq] at h2
    all_goals
      subst h2
      obtain ⟨v, h3, h4⟩ := R.at i _ h1
      exact ⟨v, h3, by simp only [VR] at h4 ⊢; exact h4⟩
def keyBack : Key → D
  | .inl i => .int i
  | .inr s => .str s
theorem keyBack_vr (k : Key) : VR K m H (keyBack k) (kV k) := by cases k <;> simp [keyBack, VR, kV]
theorem AR.ent : ∀ {ks : List (Key × D)} {ws : List (Key × V)} {i : Nat} {a : Key × D} {b : Key × V}, AR K m H ks ws → ks[i]? = some a → ws[i]? = some b → a.1 = b.1 ∧ VR K m H a.2 b.2
  | [], ws, i, a, b, h, e, _ => by simp at e
  | (k0, d0) :: ks, ws, 0, a, b, h, e, e2 => by
    obtain ⟨v0, q0, rfl, g1, g2⟩ := h
    simp at e e2; subst e e2; exact ⟨rfl, g1⟩
  | (k0, d0) :: ks, ws, i + 1, a, b, h, e, e2 => by
    obtain ⟨v0, q0, rfl, g1, g2⟩ := h
    exact AR.ent g2 (by simpa using e) (by simpa using e2)
def goI (ts : List Tg) (tt : FT) (te : FE) (l : Loc) : List (Key × D) → List Int → Option (List Int)
  | [], acc => some acc
  | (k, .int z) :: r, acc => match Tg.puts ts [keyBack k, .int z] l with
    | some l1 => match tt l1 [] with
      | .ok true [] => match te l1 [] with
        | .ok (.int y) [] => goI ts tt te l r (acc ++ [y])
        | _ => none
      | .ok false [] => goI ts tt te l r acc
      | _ => none
    | none => none
  | _ :: _, _ => none
def lItems (vs : List Nat) (i j : Nat) (nm C : Str) (ts : List Tg) (tt : FT) (te : FE) : FL := fun l S => match l[i]?, l[j]? with
  | some (some (.ref n)), some (some (.int g)) => match S[n]? with
    | some (.ins C' fs) => if C' = C then match fs.lookup nm with
      | some (.ref p) => match S[p]? with
        | some (.lst xs) => match L2.atI xs g with
          | some (.ref r) => match S[r]? with
            | some (.dk kvs) => if kvs.length ≤ 1000 then match goI ts tt te (intL (wipeL l vs)) kvs [] with
                | some ys => .ok (.tmp (ys.map .int)) S
                | none => .bad
              else .bad
            | _ => .bad
          | _ => .bad
        | _ => .bad
      | _ => .bad
      else .bad
    | _ => .bad
  | _, _ => .bad
theorem tX_items {vs : List Nat} {i j : Nat} {nm C : Str} {ts : List Tg} {tt : FT} {te : FE} (hF : FldC K C nm) (hn2 : ts.length = 2) (hv : (Tg.slotss ts).all (fun i => vs.contains i) = true) {Q : VK} (q : tX K W (pL K) (lItems vs i j nm C ts tt te) σ H Q) :
    tLockE (tLc (iItems (tOp (rIx K) (tFld K (tVar i) nm) (tVar j))) (gTup K 2 (tGs K ts)) (tX K WF pB tt) (tX K WF (pD K) te) vs) σ H Q := by
  obtain ⟨l, m, S, R, q⟩ := q
  unfold lItems at q
  split at q
  case h_2 => exact q.elim
  rename_i n gi hi hj
  split at q
  case h_2 => exact q.elim
  rename_i C' fs hn
  split at q
  case isFalse => exact q.elim
  rename_i hC
  subst hC
  split at q
  case h_2 => exact q.elim
  rename_i p hp
  split at q
  case h_2 => exact q.elim
  rename_i xs hx
  split at q
  case h_2 => exact q.elim
  rename_i r hr
  split at q
  case h_2 => exact q.elim
  rename_i kvs hk
  split at q
  case isFalse => exact q.elim
  rename_i hlen
  split at q
  case h_2 => exact q.elim
  rename_i ys hy
  obtain ⟨v1, s1, r1⟩ := R.at i _ hi
  obtain ⟨v2, s2, r2⟩ := R.at j _ hj
  obtain ⟨a0, rfl, h0, _, dx, us0, h1, h2⟩ := R.sr.ref hn r1
  obtain ⟨w, h3, r3⟩ := AR.lookF h2 hp
  obtain ⟨a1, rfl, h4, _, vs1, h5, h6⟩ := R.sr.ref hx r3
  obtain ⟨w2, h7, r4⟩ := h6.atI hr
  obtain ⟨a2, rfl, h8, _, us, h9, h10⟩ := R.sr.ref hk r4
  simp only [VR] at r2
  subst r2
  have n0 : a0 ≠ a2 := fun z => by rw [z, h9] at h1; cases h1
  have n1 : a1 ≠ a2 := fun z => by rw [z, h9] at h5; cases h5
  have hl : us.length = kvs.length := AR.length h10
  have hsl : ∀ i ∈ Tg.slotss ts, i ∈ vs := fun i hi => by
    have := List.all_eq_true.mp hv i hi
    simpa using this
  refine ⟨a2, .dK us, h9, trivial, fun od => ?_⟩
  have hsy : ∃ o u, (upd H a2 (.frz od (.dK us))) sysModules = some (.frz o u) := by
    obtain ⟨o, u, hs⟩ := R.sr.sys
    exact ⟨o, u, by rw [upd_ne (fun z => by rw [← z, hs] at h9; cases h9)]; exact hs⟩
  obtain ⟨Hf, hHf⟩ : ∃ Hf, Hf = upd H a2 (.frz od (.dK us)) := ⟨_, rfl⟩
  rw [← hHf] at hsy ⊢
  have hf2 : Hf a2 = some (.frz od (.dK us)) := by rw [hHf]; exact upd_same
  have hne : ∀ b, b ≠ a2 → Hf b = H b := fun b hb => by rw [hHf, upd_ne hb]
  refine ⟨_, s1, a0, clsA K C', dx, us0, _, rfl, by rw [hne _ n0]; exact h1, hF.cl, hF.no, h3, _, s2, .inl ⟨a1, vs1, gi, _, rfl, rfl, .inl (.inl (by rw [hne _ n1]; exact h5)), h7, a2, od, us, rfl, hf2, fun D hD => ?_⟩⟩
  have RI : Rel K (intL (wipeL l vs)) (L2.wipe σ vs) [] [] Hf := (R.wipe vs).intL hsy
  refine ⟨fun i k H' => k = us.length - i ∧ i ≤ us.length ∧ Ext [] Hf [] H' ∧ ∃ acc : List Int, H' D = some (.lst (acc.map V.int)) ∧ acc.length ≤ i ∧ goI ts tt te (intL (wipeL l vs)) (kvs.drop i) acc = some ys, ⟨_, rfl, Nat.zero_le _, Ext.tmp hD, [], upd_same, Nat.le_refl _, hy⟩, ?_⟩
  rintro i k H' ⟨rfl, hi, E', acc, hA, hal, hgo⟩
  have fz : H' a2 = some (.frz od (.dK us)) := E'.frz _ _ _ hf2
  by_cases hlt : i < us.length
  · refine .inr ⟨⟨fz, hlt⟩, fun H2 => Ext [] Hf [] H2 ∧ ∃ acc : List Int, H2 D = some (.lst (acc.map V.int)) ∧ acc.length ≤ i + 1 ∧ goI ts tt te (intL (wipeL l vs)) (kvs.drop (i + 1)) acc = some ys, fun H2 h => ⟨us.length - (i + 1), by omega, rfl, hlt, h⟩, fun y H2 hy2 => ?_⟩
    obtain ⟨T, kk, v, hu, rfl, hT, rfl⟩ := hy2
    have hk2 : i < kvs.length := by omega
    rw [List.drop_eq_getElem_cons hk2] at hgo
    obtain ⟨kd, hkd⟩ : ∃ kd, kvs[i] = kd := ⟨_, rfl⟩
    rw [hkd] at hgo
    have hkg : kvs[i]? = some kd := by rw [List.getElem?_eq_getElem hk2, hkd]
    obtain ⟨kd1, d⟩ := kd
    -- the entry
    have ent : kd1 = kk ∧ VR K m H d v := by
      exact AR.ent h10 hkg hu
    obtain ⟨rfl, hVd⟩ := ent
    cases d with
    | int z =>
      simp only [VR] at hVd
      subst hVd
      simp only [goI] at hgo
      cases e1 : Tg.puts ts [keyBack kd1, .int z] (intL (wipeL l vs)) with
      | none => rw [e1] at hgo; cases hgo
      | some l1 =>
        rw [e1] at hgo
        simp only at hgo
        have ET : Ext [] H' [] (upd H' T (.tup [kV kd1, .int z])) := Ext.tmp hT
        have hsy2 : ∃ o u, (upd H' T (.tup [kV kd1, .int z])) sysModules = some (.frz o u) := by
          obtain ⟨o, u, hs⟩ := hsy
          exact ⟨o, u, (E'.trans ET).frz _ _ _ hs⟩
        have S0 : ∀ {H'' : Hp}, (∃ o u, H'' sysModules = some (.frz o u)) → SR K [] H'' [] := fun hs => ⟨rfl, List.nodup_nil, fun n o h => by simp at h, hs⟩
        refine ⟨T, [kV kd1, .int z], rfl, .inl (.inl upd_same), rfl, intL (wipeL l vs), [], [], [keyBack kd1, .int z], l1, RI.ext (E'.trans ET) (S0 hsy2), .cons (keyBack_vr _) (.cons (by simp only [VR]) .nil), e1, fun σ3 R3 w3 => ⟨?_, l1, [], [], R3, ?_⟩⟩
        · have := w3 vs hsl
          rw [this]
          exact wipe_wipe σ vs
        · cases e2 : tt l1 [] with
          | bad => rw [e2] at hgo; cases hgo
          | ex c f s => rw [e2] at hgo; cases hgo
          | ok b S2 =>
            rw [e2] at hgo
            have hDT : D ≠ T := fun z => by rw [← z, hA] at hT; cases hT
            cases S2 with
            | cons => cases b <;> cases hgo
            | nil =>
              intro bb H3 m3 E3 R4 eb
              subst eb
              have E13 := (E'.trans ET).trans E3
              have m30 : m3 = [] := by
                obtain ⟨ν, e, _⟩ := E3.mu
                have := R4.len
                simpa using this
              subst m30
              have hD3 : H3 D = some (.lst (acc.map V.int)) := E3.oth _ _ (by rw [upd_ne hDT]; exact hA) (by simp)
              cases b with
              | false =>
                rw [if_neg (by decide)]
                exact ⟨E13, acc, hD3, by omega, hgo⟩
              | true =>
                rw [if_pos rfl]
                simp only at hgo
                refine ⟨l1, [], [], R3.ext E3 R4, ?_⟩
                cases e3 : te l1 [] with
                | bad => rw [e3] at hgo; cases hgo
                | ex c f s => rw [e3] at hgo; cases hgo
                | ok y S3 =>
                  rw [e3] at hgo
                  cases S3 with
                  | cons => cases y <;> cases hgo
                  | nil =>
                    cases y with
                    | int y =>
                      simp only at hgo
                      intro w H4 m4 E4 R5 V4
                      have m40 : m4 = [] := by
                        obtain ⟨ν, e, _⟩ := E4.mu
                        have := R5.len
                        simpa using this
                      subst m40
                      simp only [VR] at V4
                      subst V4
                      have hD4 : H4 D = some (.lst (acc.map V.int)) := E4.oth _ _ hD3 (by simp)
                      refine ⟨acc.map V.int, hD4, by rw [List.length_map, sizeLine_eq]; omega, Ext.over1 hD (E13.trans E4), acc ++ [y], by rw [upd_same, List.map_append]; rfl, by simp; omega, hgo⟩
                    | _ => cases hgo
    | _ => cases hgo
  · have e : i = us.length := by omega
    subst e
    rw [hl, List.drop_length] at hgo
    simp only [goI, Option.some.injEq] at hgo
    subst hgo
    refine .inl ⟨⟨fz, Nat.le_refl _⟩, fz, ?_⟩
    have hD2 : D ≠ a2 := fun z => by rw [z, hf2] at hD; cases hD
    have hH : ∀ b o, H b = some o → upd H' a2 (.dK us) b = some o := fun b o hb => by
      by_cases e : b = a2
      · subst e; rw [upd_same, ← hb, h9]
      · rw [upd_ne e]
        exact E'.oth _ _ (by rw [hne _ e]; exact hb) (by simp)
    have EF : Ext m H m (upd H' a2 (.dK us)) := ⟨⟨[], by simp, fun _ h => nomatch h⟩, fun a xs h => hH a _ h, fun a o u h => hH a _ h, fun a o h _ => hH a _ h, fun a h => by
      by_cases e : a = a2
      · subst e; rw [upd_same] at h; cases h
      · rw [upd_ne e] at h
        have := E'.dom a h
        rwa [hne _ e] at this⟩
    have SF : SR K m (upd H' a2 (.dK us)) S := ⟨R.sr.len, R.sr.nd, fun n o ho => by
      obtain ⟨a, g1, g2⟩ := R.sr.at n o ho
      cases e : H a with
      | none => exact absurd e g2.here
      | some u => exact ⟨a, g1, OR.ext EF (by rw [hH a u e, e]) o g2⟩, by
      obtain ⟨o, u, hs⟩ := R.sr.sys
      exact ⟨o, u, hH _ _ hs⟩⟩
    have hD0 : H D = none := by rw [← hne D hD2]; exact hD
    refine q _ _ m EF SF ⟨D, acc.map V.int, rfl, by rw [upd_ne hD2]; exact hA, R.sr.notin hD0, hD0, ?_⟩
    have : ∀ zs : List Int, VRs K m (upd H' a2 (.dK us)) (zs.map .int) (zs.map V.int) := VRs.of_ints
    exact this acc
theorem ml_items {C : Str} {own : List (Str × Nat)} {scope : Scope} {elt : Expr} {ifs : List Expr} {x y nm : Str} {i j : Nat} {es : List Expr} {k : Nat} {ts : List Tg} {tt : FT} {te : FE} {tpos p1 p2 p3 p4 : Pos} (hc : X.calm = true) (hN : X.N.Nodup) (hF : FldC X.K C nm) (hi : X.N[i]? = some x := by rfl) (hj : X.N[j]? = some y := by rfl) (hvx : Vis X.env.scope x := by first | exact Or.inl rfl | exact Or.inr (Or.inl rfl) | exact Or.inr (Or.inr rfl)) (hvy : Vis X.env.scope y := by first | exact Or.inl rfl | exact Or.inr (Or.inl rfl) | exact Or.inr (Or.inr rfl))
    (ok : BlkOk X.N X.env.scope scope own)
    (hg : ∀ (s : Shared) (H : Hp) (C : Addr) (cl : List (Str × Addr)) (fp : List Addr), MGs (X.blk s H scope (compEnvC scope cl C X.env) fp) es ts) (ht : ∀ (s : Shared) (H : Hp) (C : Addr) (cl : List (Str × Addr)) (fp : List Addr), MTs (X.blk s H scope (compEnvC scope cl C X.env) fp) WF ifs tt)
    (he : ∀ (s : Shared) (H : Hp) (C : Addr) (cl : List (Str × Addr)) (fp : List Addr), ME (X.blk s H scope (compEnvC scope cl C X.env) fp) WF elt te)
    (hn2 : ts.length = 2 := by rfl) (hne : ∀ (s : Shared) (H : Hp) (C : Addr) (cl : List (Str × Addr)) (fp : List Addr), (assignEach es (X.blk s H scope (compEnvC scope cl C X.env) fp).env).length = 2 := by intros; rfl) (hst : ∀ (s : Shared) (H : Hp) (C : Addr) (cl : List (Str × Addr)) (fp : List Addr), (assignEach es (X.blk s H scope (compEnvC scope cl C X.env) fp).env).findIdx? (·.1) = none := by intros; rfl)
    (hv : (Tg.slotss ts).all (fun i => (own.map (·.2)).contains i) = true := by rfl) (hb : attributeBase (.Name x p1) nm X.env (eval (.Name x p1) X.env) = eval (.Name x p1) X.env := by rfl) (hs : PlainIx (.Name y p3) := by exact fun _ _ => rfl)
    (hd1 : (x == ("__debug__" : Str)) = false := by decide) (hd2 : (x == ("__classdict__" : Str)) = false := by decide) (hd3 : (y == ("__debug__" : Str)) = false := by decide) (hd4 : (y == ("__classdict__" : Str)) = false := by decide)
    (hbi : attributeBase (.Subscript (.Attribute (.Name x p1) nm p2) (.Name y p3) p4) "items" X.env (eval (.Subscript (.Attribute (.Name x p1) nm p2) (.Name y p3) p4) X.env) = eval (.Subscript (.Attribute (.Name x p1) nm p2) (.Name y p3) p4) X.env := by rfl) (hal : (apos.endLine == cpos.line) = true := by rfl)
    (hfs : ∀ x', foldedSetIterable (.Call (.Attribute (.Subscript (.Attribute (.Name x p1) nm p2) (.Name y p3) p4) "items" apos) [] [] cpos) X.env x' = pure x' := by intro _; rfl) :
    ML X W (.ListComp elt [⟨.Tuple es k tpos, .Call (.Attribute (.Subscript (.Attribute (.Name x p1) nm p2) (.Name y p3) p4) "items" apos) [] [] cpos, ifs, 0⟩] scope pos) (lItems (own.map (·.2)) i j nm C ts tt te) :=
  (pe_lock (pe_lc hc hN (pi_items (pe_ix ix_seq (pe_fld (pe_var hi hvx hd1 hd2) hb) (pe_var hj hvy hd3 hd4) hs) hbi hal) ok (fun s H C cl fp => pg_tup (X := X.blk s H scope (compEnvC scope cl C X.env) fp) (n := 2) hc (hg s H C cl fp) (hne s H C cl fp) (hst s H C cl fp)) ht he hfs)).imp fun σ H Q q => tX_items hF hn2 hv q
end
end Pz

set_option Elab.async false
set_option linter.all false
set_option maxRecDepth 100000
set_option maxHeartbeats 4000000
/-! Pz32: a generator that is asked for its first item alone: a yield is the end of its run. -/
namespace Pz
open PySem PySem.Spec PyProof.Rows L2 GenW

/-! ### the protocol: at the first yield -/
def FY (X : Cx) (Y : VK) : Protocol := fun _ _ v s _ => ∃ x ip σ H, RelV x v ∧ Inv X ip σ H s ∧ Y x H
structure FC (X : Cx) (A : Around) (c : Code) (fs : List Frame) (gd : Bool → Bool) : Prop where
  over : A.over c fs = X.A
  split : splitAtGen fs = none
  guard : fs.any Frame.guarded = false
  gd : gd false = false
def FSP (X : Cx) (ip : List (Addr × Obj)) (D' : Ends) (f : Flow) (s : Shared) : Prop := match f with
  | .next => ∃ σ H, Inv X ip σ H s ∧ D'.nx σ H
  | .brk => ∃ σ H, Inv X ip σ H s ∧ D'.bk σ H
  | .cont => ∃ σ H, Inv X ip σ H s ∧ D'.ct σ H
  | .ret _ => False
structure FK (X : Cx) (ip : List (Addr × Obj)) (A : Around) (R : GenEnd) (c : Code) (fs : List Frame) (K : Flow → Sem PySem.Fin) (J : Value → Sem PySem.Fin) (D' : Ends) : Prop where
  ok : ∀ (s₀ s : Shared) (f : Flow), FSP X ip D' f s → Seg (model X.prog X.w) A R (FY X D'.rt) 1 s₀ c (K f) fs s
  exc : ∀ (s₀ : Shared) (e : Value) (s : Shared), X.xe e s → Seg (model X.prog X.w) A R (FY X D'.rt) 1 s₀ c (J e) fs s
structure FGS (X : Cx) (st : Stmt) (t : TS) : Prop where
  run : ∀ (A : Around) (ip : List (Addr × Obj)) (R : GenEnd) (s₀ : Shared) (c : Code) (fs : List Frame) (K : Flow → Sem PySem.Fin) (J : Value → Sem PySem.Fin) (gd : Bool → Bool) (lv : List Value → List Value) (s : Shared) (σ : L2.St) (H : Hp) (D' : Ends),
    FC X A c fs gd → FK X ip A R c fs K J D' → Inv X ip σ H s → t D' σ H → Seg (model X.prog X.w) A R (FY X D'.rt) 1 s₀ c ((exec st X.env).wrap K J gd lv) fs s
structure FGSs (X : Cx) (st : List Stmt) (t : TS) : Prop where
  run : ∀ (A : Around) (ip : List (Addr × Obj)) (R : GenEnd) (s₀ : Shared) (c : Code) (fs : List Frame) (K : Flow → Sem PySem.Fin) (J : Value → Sem PySem.Fin) (gd : Bool → Bool) (lv : List Value → List Value) (s : Shared) (σ : L2.St) (H : Hp) (D' : Ends),
    FC X A c fs gd → FK X ip A R c fs K J D' → Inv X ip σ H s → t D' σ H → Seg (model X.prog X.w) A R (FY X D'.rt) 1 s₀ c ((execs st X.env).wrap K J gd lv) fs s
section
variable {X : Cx} {st : Stmt} {rest as bs body : List Stmt} {t u : TS} {e c : Expr} {yp pos : Pos}
theorem FGS.imp {t' : TS} (h : FGS X st t) (i : ∀ D' σ H, t' D' σ H → t D' σ H) : FGS X st t' := ⟨fun A ip R s₀ c fs K J gd lv s σ H D' g k I q => h.run A ip R s₀ c fs K J gd lv s σ H D' g k I (i _ _ _ q)⟩
theorem FGSs.imp {t' : TS} (h : FGSs X rest t) (i : ∀ D' σ H, t' D' σ H → t D' σ H) : FGSs X rest t' := ⟨fun A ip R s₀ c fs K J gd lv s σ H D' g k I q => h.run A ip R s₀ c fs K J gd lv s σ H D' g k I (i _ _ _ q)⟩
/-- a statement that hands out nothing -/
def tPl (t : TS) : TS := fun D' σ H => t { D' with rt := fun _ _ => False } σ H
theorem fgs_ps (h : PS X st t) : FGS X st (tPl t) := by
  refine ⟨fun A ip R s₀ c fs K J gd lv s σ H D' g k I ht => seg_wrap ?_⟩
  rw [g.over]
  refine wpAny_mono (h.run ip s σ H _ I ht) (fun f s' hs => k.ok s₀ s' f ?_) fun x s' hx => k.exc s₀ x s' hx
  cases f with
  | next => exact hs
  | brk => exact hs
  | cont => exact hs
  | ret v => obtain ⟨_, _, _, _, _, q⟩ := hs; exact q
theorem fgss_nil : FGSs X [] (fun D' σ H => D'.nx σ H) :=
  ⟨fun A ip R s₀ c fs K J gd lv s σ H D' g k I ht => seg_execs_nil (k.ok s₀ s .next ⟨σ, H, I, ht⟩)⟩
theorem fgss_cons (a : FGS X st t) (b : FGSs X rest u) : FGSs X (st :: rest) (fun D' σ H => t { D' with nx := fun σ' H' => u D' σ' H' } σ H) := by
  refine ⟨fun A ip R s₀ c fs K J gd lv s σ H D' g k I ht => seg_execs_cons ?_⟩
  refine a.run A ip R s₀ c fs _ J gd lv s σ H { D' with nx := fun σ' H' => u D' σ' H' } g ⟨fun s₀' s' f hs => ?_, k.exc⟩ I ht
  cases f with
  | next =>
    obtain ⟨σ', H', I', q⟩ := hs
    exact b.run A ip R s₀' c fs K J gd lv s' σ' H' D' g k I' q
  | brk => exact k.ok s₀' s' .brk hs
  | cont => exact k.ok s₀' s' .cont hs
  | ret v => exact k.ok s₀' s' (.ret v) hs
theorem fgs_if {tc : TT} (hc : L2.PT X c tc) (ha : FGSs X as t) (hb : FGSs X bs u) : FGS X (.If c as bs pos) (tIfS tc t u) := by
  refine ⟨fun A ip R s₀ co fs K J gd lv s σ H D' g k I ht => ?_⟩
  rw [exec_If]
  show Seg _ A R _ 1 s₀ co (.at pos fun _ => ((isTrue c X.env (eval c X.env) >>= fun b => if b = true then execs as X.env else execs bs X.env)).wrap K J gd lv) fs s
  refine seg_at (seg_bind_wrap ?_)
  rw [g.over]
  refine wpAny_mono (hc.run ip s σ H _ I ht) (fun b s' hb' => ?_) fun x s' hx => k.exc s₀ x s' hx
  obtain ⟨H2, I2, q2⟩ := hb'
  cases b with
  | true => exact ha.run A ip R s₀ co fs K J gd lv s' σ H2 D' g k I2 q2
  | false => exact hb.run A ip R s₀ co fs K J gd lv s' σ H2 D' g k I2 q2
theorem fgs_yield {te : TE} (he : PE X e te) (hco : X.env.scope.isCoroutine = false := by rfl) (hi : interactive X.env = false := by rfl) : FGS X (.Expr (.Yield (some e) yp) pos) (tRet te) := by
  refine ⟨fun A ip R s₀ c fs K J gd lv s σ H D' g k I ht => ?_⟩
  refine seg_Expr_Yield (n := 0) g.split g.gd g.guard ?_ hco hi
  rw [g.over]
  refine wpAny_mono (he.run ip s σ H _ I ht) (fun v s' hv => ?_) fun x s' hx => k.exc _ x s' hx
  obtain ⟨x, H1, I1, rv, q⟩ := hv
  exact fun kap _ => ⟨x, ip, σ, H1, rv, I1, q⟩
theorem fc_loop {A : Around} {c c' : Code} {fs : List Frame} {gd : Bool → Bool} {k : Result → Sem PySem.Fin} {l kp : List Value} {p : Pos} (g : FC X A c fs gd) (hw : c'.weight = 0) (hu : c'.cUnits = 0) :
    FC X A c' (.ret k none (gd false) l c p kp :: fs) id where
  over := (over_loop hw hu).trans g.over
  split := by
    show (splitAtGen fs).map _ = none
    rw [g.split]; rfl
  guard := by
    show (gd false || fs.any Frame.guarded) = false
    rw [g.gd, g.guard]; rfl
  gd := rfl
theorem fseg_back {A : Around} {R : GenEnd} {ip : List (Addr × Obj)} {c : Code} {fs : List Frame} {K : Flow → Sem PySem.Fin} {J : Value → Sem PySem.Fin} {gd : Bool → Bool} {lv : List Value → List Value} {D' : Ends} {s₀ s : Shared} {e : Value}
    (g : FC X A c fs gd) (k : FK X ip A R c fs K J D') (h : cameBackBy (model X.prog X.w) X.A X.env X.xe e s) :
    Seg (model X.prog X.w) A R (FY X D'.rt) 1 s₀ c (((Sem.raise e : Sem Flow).onRaise (cameBack X.env)).wrap K J gd lv) fs s := by
  show Seg _ _ _ _ _ _ _ (((cameBack X.env e).bind fun _ => (Sem.raise e : Sem Flow)).wrap K J gd lv) _ _
  rw [Sem.bind_eq_wrap, Sem.wrap_wrap]
  refine seg_wrap ?_
  rw [g.over]
  exact wpAny_mono h (fun _ s' hx => k.exc s₀ e s' hx) fun x s' hx => k.exc s₀ x s' hx
/-- while -/
theorem fgs_while {tc : TT} {tb : TS} (hp : PassesOwn (model X.prog X.w) X.A X.env X.xe) (hc : L2.PT X c tc) (hb : FGSs X body tb) : FGS X (.While c body [] pos)
    (fun D' σ H => ∃ W : Nat → L2.St → Hp → Prop, (∃ m, W m σ H) ∧ ∀ m σ H, W m σ H → tc σ H fun b H1 => if b = true then ∃ N : L2.St → Hp → Prop, (∀ σ' H', N σ' H' → ∃ m', m' < m ∧ W m' σ' H') ∧ tb { D' with nx := N, ct := N, bk := D'.nx } σ H1 else D'.nx σ H1) := by
  refine ⟨fun A ip R s₀ co fs K J gd lv s σ H D' g k I ht => ?_⟩
  obtain ⟨W, ⟨m0, w0⟩, turn⟩ := ht
  refine seg_While fun p => ?_
  have gl := fun (kk : Result → Sem PySem.Fin) => fc_loop (k := kk) (c' := .whileLoop c body [] X.env) (l := lv []) (kp := []) (p := p) g rfl rfl
  have loop : ∀ (m : Nat) (s₀ s : Shared) (σ : L2.St) (H : Hp), W m σ H → Inv X ip σ H s →
      Seg (model X.prog X.w) A R (FY X D'.rt) 1 s₀ (.whileLoop c body [] X.env) ((model X.prog X.w).den (.whileLoop c body [] X.env))
        (.ret (fun r => ((match r with | .ok f => (.pure f : Sem Flow) | .error e => .raise e).onRaise (cameBack X.env)).wrap K J gd lv) none (gd false) (lv []) co p [] :: fs) s := by
    intro m
    induction m using Nat.strongRecOn with
    | ind m ih =>
      intro s₀ s σ H w I
      have ee : ∀ (s₀ : Shared) (x : Value) (s' : Shared), X.xe x s' → Seg (model X.prog X.w) A R (FY X D'.rt) 1 s₀ (.whileLoop c body [] X.env)
          ((do noteFrame x X.env; theTreesLotGoes x : Sem Unit).wrap (fun _ => .raise x) .raise id id)
          (.ret (fun r => ((match r with | .ok f => (.pure f : Sem Flow) | .error e => .raise e).onRaise (cameBack X.env)).wrap K J gd lv) none (gd false) (lv []) co p [] :: fs) s' := fun s₀ x s' hx => by
        refine seg_wrap ?_
        rw [(gl _).over]
        refine wpAny_bind (wpAny_mono (hp x s' hx) (fun _ s'' hcb => wpAny_theTreesLotGoes ?_) fun y s'' hcb => ?_)
        · exact seg_leaf (.error x) (fseg_back g k hcb)
        · exact seg_leaf (.error y) (fseg_back g k hcb)
      refine seg_whileLoop ?_
      rw [(gl _).over]
      refine wpAny_mono (hc.run _ s σ H _ I (turn m σ H w)) (fun b s' hb' => ?_) fun x s' hx => ee s₀ x s' hx
      obtain ⟨H2, I2, q2⟩ := hb'
      cases b with
      | true =>
        obtain ⟨N, hN, q2⟩ := q2
        rw [if_pos rfl]
        refine hb.run A ip R s₀ _ _ _ _ id id s' σ H2 { D' with nx := N, ct := N, bk := D'.nx } (gl _) ⟨fun s₀' s3 f hs => ?_, fun s₀' x s3 hx => ee s₀' x s3 hx⟩ I2 q2
        cases f with
        | next =>
          obtain ⟨σ3, H3, I3, n3⟩ := hs
          obtain ⟨m', hm, w3⟩ := hN σ3 H3 n3
          exact seg_again rfl (ih m' hm s₀' s3 σ3 H3 w3 I3)
        | cont =>
          obtain ⟨σ3, H3, I3, n3⟩ := hs
          obtain ⟨m', hm, w3⟩ := hN σ3 H3 n3
          exact seg_again rfl (ih m' hm s₀' s3 σ3 H3 w3 I3)
        | brk => exact seg_leaf (.ok .next) (k.ok s₀' s3 .next hs)
        | ret v => exact hs.elim
      | false =>
        rw [if_neg Bool.false_ne_true]
        refine seg_execs_nil ?_
        exact seg_leaf (.ok .next) (k.ok s₀ s' .next ⟨σ, H2, I2, q2⟩)
  exact loop m0 s₀ s σ H w0 I
end

/-! ### the generator's object -/
structure FOut (P : Program) (w : World) (outer : List Env) (H : Hp) (s : Shared) (H' : Hp) (s1 : Shared) : Prop where
  os : s1.os = s.os
  bare : AllBare s1.gens
  un : Un (frs outer) [] H H' s.heap s1.heap
  hok : HOk P w H' s1.heap
def FEnd (P : Program) (w : World) (outer : List Env) (H : Hp) (s : Shared) (Qe : Hp → Prop) : GenEnd := fun _ _ r s1 =>
  ((r = .ok (.ret .none) ∨ r = .ok .next) ∧ ∃ H', FOut P w outer H s H' s1 ∧ Qe H') ∨ ∃ e, r = .error e ∧ False
def FItem (P : Program) (w : World) (outer : List Env) (H : Hp) (s : Shared) (Qy : VK) : Protocol := fun _ _ v s1 _ => ∃ x H', RelV x v ∧ FOut P w outer H s H' s1 ∧ Qy x H'
def FMade (P : Program) (w : World) (k : Nat) (outer : List Env) (H : Hp) (s : Shared) (Qy : VK) (Qe : Hp → Prop) (u : Value) (s' : Shared) : Prop :=
  ∃ (a : Addr) (g : Nat) (c : Code), u = .ref a ∧ s'.heap.IsGen a g ∧ s'.gens[g]? = some (.fresh c) ∧ s'.os = s.os ∧ AllBare s'.gens ∧ s'.heap.NoLimit ∧ (∀ b o, s.heap.get? b = some o → s'.heap.get? b = some o) ∧
    ∀ (A : Around) (s2 : Shared), Room k A → A.frames = some outer → (∀ b o, s'.heap.get? b = some o → s2.heap.get? b = some o) → s2.os = s.os → AllBare s2.gens →
      Seg (model P w) A (FEnd P w outer H s Qe) (FItem P w outer H s Qy) 1 s2 c ((model P w).den c) [] s2
/-- what is promised of a generator def: arguments, heap, the first item, its end -/
abbrev SpFG := List V → Hp → VK → (Hp → Prop) → Prop
structure FFn (P : Program) (w : World) (K : PySem.W.Frag) (mg : Str → Option Value) (base : Heap) (k : Nat) (f : Addr) (fd : FuncData) (ps : List Str) (sp : SpFG) : Prop where
  len : ∀ vs H Q E, sp vs H Q E → vs.length = ps.length
  run : ∀ (A : Around) (outer : List Env) (s : Shared) (H : Hp) (args : Args) (us : List Value) (vs : List V) (Qy : VK) (Qe : Hp → Prop), Room k A → Env0 P w K mg base A outer s H → BindsTo s fd args (ps.zip us) → Vals vs us → sp vs H Qy Qe →
    codeAny (model P w) A (.call (.ref f) args) (fun r s' => match r with | .ok (.ret u) => FMade P w k outer H s Qy Qe u s' | _ => False) s
abbrev noE : XK := fun _ _ _ => False
theorem inv_ofG {P : Program} {w : World} {K : PySem.W.Frag} {mg : Str → Option Value} {base : Heap} {N : List Str} {qual : Str} {st : Stmt} {f : Addr} {cdv : Value} {A : Around} {outer : List Env} {s s1 : Shared} {H H' : Hp} {E : XK} {σ : L2.St}
    (I : Inv (gcxOf P w K mg base N qual (defScope st) f cdv A outer s H E []) [] σ H' s1) : Inv (cxB P w K mg base N qual st f cdv A outer s H E) [] σ H' s1 :=
  ⟨⟨I.ok.mod, I.ok.kind, I.ok.glob, I.ok.blt, I.ok.above, I.ok.inj, I.ok.has, I.ok.cab, I.ok.hd, I.ok.frames, I.ok.stk, I.ok.exf, I.ok.bs, I.ok.bsz, I.ok.noex, I.ok.exfs, I.ok.funs, I.ok.frf⟩, I.os, I.bare, I.base, I.loc, I.cell, I.free, I.freeC, fun p hp => by simp at hp; exact absurd hp (fun z => by cases z), I.hok, I.len⟩
theorem cx_noE {P : Program} {w : World} {outer : List Env} {H : Hp} {s s' : Shared} {e : Value} (q : L2.CX P w outer H s noE e s') : False := by
  obtain ⟨_, _, _, _, _, _, _, _, _, _, _, _, q⟩ := q
  exact q
/-- THE RULE: a generator def, by its body -/
theorem ffn_of {P : Program} {w : World} {K : PySem.W.Frag} {mg : Str → Option Value} {base : Heap} {k : Nat} {f : Addr} {name qual : Str} {st : Stmt} {kV doc pm cdv ct oc : Value} {an od : Option Addr}
    {osl : Array (Option Value)} {N ps : List Str} {sp : SpFG} (lk : K.lookup f = some ⟨oc, od, .func (PySem.W.fnOf name qual (defArgs st) (defBody st) (defScope st) .none kV doc pm an cdv ct), osl⟩) (hcd : PySem.W.codeIn K cdv qual = true) (S : GScope N ps (defScope st))
    (len : ∀ vs H Q E, sp vs H Q E → vs.length = ps.length)
    (hbody : ∀ (A : Around) (outer : List Env) (s : Shared) (H : Hp) (vs : List V) (Qy : VK) (Qe : Hp → Prop), Room k (A.deeper (envOfC qual (defScope st) s.heap.objs.size f cdv)) → sp vs H Qy Qe →
      ∃ t, FGSs (cxB P w K mg base N qual st f cdv A outer s H noE) (defBody st) t ∧ t { nx := fun _ H' => Qe H', rt := Qy } (start N vs) H) :
    FFn P w K mg base (k + 1) f (PySem.W.fnOf name qual (defArgs st) (defBody st) (defScope st) .none kV doc pm an cdv ct) ps sp := by
  refine ⟨len, fun A outer s H args us vs Qy Qe hr e0 hb r hsp => ?_⟩
  have hl := len _ _ _ _ hsp
  have KX : K.In s.heap := e0.mod.kin.keeps fun b o e => (e0.bs b o e).1
  have lim : s.heap.NoLimit := e0.mod.nolimit.keeps fun b o e => (e0.bs b o e).1
  have hkind : ∀ y ∈ ps.zip us, (defScope st).names.lookup y.1 = some .local ∨ ((defScope st).names.lookup y.1 = some .cell ∧ ((cellsFrom (s.heap.objs.size + 1) (defScope st).names []).lookup y.1).isSome = true) := fun ⟨n, v⟩ hy => by
    rcases S.par n (List.of_mem_zip hy).1 with q | q
    · exact .inl q
    · exact .inr ⟨q, PySem.W.cellsFrom_some _ _ _ (.inl q)⟩
  refine codeAny_call_generator hr.depth (KX _ _ lk) rfl S.co S.gen rfl (PySem.W.codeRec_of KX hcd) (hb _ _ _ _ ?_)
  refine wpAny_newFunctionEnv_cells S.kind hkind fun env he s1 x => ?_
  subst he
  have lim1 : s1.heap.NoLimit := lim.keeps x.toInCall.keep
  refine ⟨lim1, ?_⟩
  obtain ⟨h1, tk, es1, hk1⟩ := x.done
  have os1 : s1.os = s.os := by rw [es1]
  have gen1 : s1.gens = s.gens := by rw [es1]
  have kp1 : ∀ b o, s.heap.get? b = some o → s1.heap.get? b = some o := x.toInCall.keep
  have main : ∀ (go : Obj) (nm qn : Value) (tk2 : Nat), go.cls = .type "generator" → go.data = .fields #[.int s1.gens.size 0, nm, qn] → go.slots = #[] → (∀ h : Heap, (h.push go).get? h.objs.size = some go) →
      FMade P w (k + 1) outer H s Qy Qe (.ref s1.heap.objs.size) { s1 with gens := s1.gens.push (.fresh (.func (defBody st) (envOfC qual (defScope st) s.heap.objs.size f cdv))), toks := tk2, heap := s1.heap.push go } := by
    intro go nm qn tk2 hgc hgd0 hgs hgp
    refine ⟨s1.heap.objs.size, s1.gens.size, _, rfl, ⟨go, nm, qn, hgp _, hgc, hgd0, hgs⟩, Array.getElem?_push_size .., os1, ?_, lim1.keeps fun b o e => Heap.get?_push_of_some _ e, fun b o e => Heap.get?_push_of_some _ (kp1 b o e), ?_⟩
    · exact AllBare.push (by rw [gen1]; exact e0.bare) rfl
    intro Aw s2 hrw hfr hk2 hos hba
    have e0w : Env0 P w K mg base Aw outer s H := ⟨hfr, e0.mod, e0.bs, e0.bsz, e0.funs, e0.frf, e0.hok, e0.bare⟩
    obtain ⟨t, ht, hq⟩ := hbody Aw outer s H vs Qy Qe (hrw.deeper _) hsp
    have I1 : Inv (gcxOf P w K mg base N qual (defScope st) f cdv Aw outer s H noE []) [] (start N vs) H s1 := inv_startG S hrw.hd e0w hl r x
    have kp2 : ∀ b o, s1.heap.get? b = some o → s2.heap.get? b = some o := fun b o e => hk2 b o (Heap.get?_push_of_some _ e)
    have I2 := inv_ofG (I1.call' (ch := []) (hos.trans os1.symm) (Un.kept kp2) (I1.hok.kept kp2) hba fun b z => by simp at z)
    refine seg_func ?_
    refine seg_imp (R := fun _ _ r s' => match r with
      | .ok (.ret u) => u = .none ∧ ∃ ip σ H', Inv (cxB P w K mg base N qual st f cdv Aw outer s H noE) ip σ H' s' ∧ Qe H'
      | _ => False) (Y := FY (cxB P w K mg base N qual st f cdv Aw outer s H noE) Qy) (fun n s₀ r s1' hR => ?_) (fun n s₀ v s1' kap kap' hkk hY => ?_) 1 ?_
    · cases r with
      | error e => exact hR.elim
      | ok fl =>
        cases fl with
        | next => exact False.elim hR
        | brk => exact False.elim hR
        | cont => exact False.elim hR
        | ret u =>
          obtain ⟨rfl, ip, σ', H', J, hQ⟩ := hR
          exact .inl ⟨.inl rfl, H', ⟨J.os, J.bare, J.base, J.hok⟩, hQ⟩
    · obtain ⟨xx, ip, σ', H', h2, J, h3⟩ := hY
      exact ⟨xx, H', h2, ⟨J.os, J.bare, J.base, J.hok⟩, h3⟩
    · refine ht.run Aw [] _ s2 _ [] _ _ id id s2 (start N vs) H { nx := fun _ H' => Qe H', rt := Qy } ⟨over_func, rfl, rfl, rfl⟩ ⟨fun s₀ s' fl hs => ?_, fun s₀ e s' hx => ?_⟩ I2 hq
      · cases fl with
        | next =>
          obtain ⟨σ', H', hI, hQ⟩ := hs
          exact seg_end (.ok (.ret .none)) ⟨rfl, [], σ', H', hI, hQ⟩
        | brk => obtain ⟨_, _, _, q⟩ := hs; exact False.elim q
        | cont => obtain ⟨_, _, _, q⟩ := hs; exact False.elim q
        | ret u => exact hs.elim
      · refine seg_wrap ?_
        rw [over_func]
        refine wpAny_mono (show wpAny (model P w) (Aw.deeper (envOfC qual (defScope st) s.heap.objs.size f cdv)) (leaving (envOfC qual (defScope st) s.heap.objs.size f cdv) e) (fun _ s'' => L2.CX P w outer H s noE e s'') (fun e' s'' => L2.CX P w outer H s noE e' s'') s' from hx) (fun _ s'' q => (cx_noE q).elim) fun _ s'' q => (cx_noE q).elim
  exact main _ _ _ _ rfl rfl rfl fun h => Heap.get?_push_size _ rfl

/-! ### an expression whose value is a generator -/
abbrev TFG := L2.St → Hp → VK → (Hp → Prop) → Prop
structure PFG (X : Cx) (k : Nat) (e : Expr) (tg : TFG) : Prop where
  run : ∀ (pins : List (Addr × Obj)) (s : Shared) (σ : L2.St) (H : Hp) (Qy : VK) (Qe : Hp → Prop), Inv X pins σ H s → tg σ H Qy Qe → wpAny (model X.prog X.w) X.A (eval e X.env)
    (fun u s' => ∃ H1 sc, Inv X pins σ H1 sc ∧ FMade X.prog X.w k X.stack H1 sc Qy Qe u s') X.xe s
section
variable {X : Cx} {k : Nat} {f : Addr} {fd : FuncData} {ps : List Str} {sp : SpFG} {nm : Str} {o iter tg e : Expr} {es : List Expr} {body : List Stmt} {apos pos p : Pos} {ta : TE} {t : TA}
theorem run_ffn {pins : List (Addr × Obj)} {σ : L2.St} {H : Hp} {s : Shared} {us : List Value} {vs : List V} {Qy : VK} {Qe : Hp → Prop} {E1 : Value → Shared → Prop} (F : FFn X.prog X.w X.K X.mg X.base k f fd ps sp) (hr : Room k X.A) (hb : Binds X.K fd ps [])
    (I : Inv X pins σ H s) (r : Vals vs us) (h : sp vs H Qy Qe) :
    wpAny (model X.prog X.w) X.A (call (.ref f) us) (fun u s' => ∃ H1 sc, Inv X pins σ H1 sc ∧ FMade X.prog X.w k X.stack H1 sc Qy Qe u s') E1 s := by
  have hl2 : (us ++ []).length = ps.length := by rw [List.append_nil, ← r.length]; exact F.len _ _ _ _ h
  have hb' := hb s us I.kIn hl2
  rw [List.append_nil] at hb'
  refine wpAny_call (codeAny_mono (F.run X.A X.stack s H ⟨us, []⟩ us vs Qy Qe hr I.env0 hb' r h) fun r s' hq => ?_)
  cases r with
  | error e => exact False.elim hq
  | ok fl =>
    cases fl with
    | ret u => exact ⟨H, s, I, hq⟩
    | next => exact False.elim hq
    | brk => exact False.elim hq
    | cont => exact False.elim hq
def tMethF (C : Addr) (m : Str) (sp : SpFG) (ta : TE) : TFG := fun σ H Qy Qe => ta σ H fun x H1 => ∃ a dx fs, x = .ref a ∧ H1 a = some (.ins C dx fs) ∧ fs.lookup m = none ∧ sp [x] H1 Qy Qe
theorem pfg_meth0 {pl : Sem Bool} {C : Addr} (he : PE X o ta) (c : Cls X.K C) (hm : Meth X.K C nm f) (F : FFn X.prog X.w X.K X.mg X.base k f fd ps sp) (hr : Room k X.A) (hb : Binds X.K fd ps [])
    (ht : eval (.Call (.Attribute o nm apos) [] [] pos) X.env = (do
      let ov ← eval o X.env
      standAt apos.atName
      let (f, first) ← holding [ov] (getMethod ov nm pl)
      callWith pos f first (backTo pos (starEach [] X.env)) (backToKw pos (keywordEach [] X.env))) := by rfl) :
    PFG X k (.Call (.Attribute o nm apos) [] [] pos) (tMethF C nm sp ta) := by
  refine ⟨fun pins s σ H Qy Qe I h => ?_⟩
  refine PySem.W.methodCall_KW (pl := pl) (thn (he.run pins s σ H _ I h) fun u s1 ⟨x, H1, I1, rx, a, dx, fs, ex, ea, l, q⟩ => ?_) ht
  subst ex
  obtain rfl : u = Value.ref a := rx
  refine getmeth_ok I1 ea c hm l ?_
  exact PySem.W.callWith_K0 (first := [.ref a]) I1.kIn hm.kp (run_ffn (us := [.ref a]) (vs := [.ref a]) F hr hb I1 (.cons rfl .nil) q)

/-! ### for x in g: what is done with the first item; the body hands back, or breaks -/
theorem ps_forF {tgen : TFG} {g : TG} {tb : TS} {x : Str} {px : Pos} (hp : PassesOwn (model X.prog X.w) X.A X.env X.xe) (hr : Room (k + 2) X.A) (hi : PFG X k iter tgen) (hg : PG X (.Name x px) g) (hb : PSs X body tb)
    (hs : ∀ x, foldedSetIterable iter X.env x = pure x := by intro _; rfl) : PS X (.For (.Name x px) iter body [] pos)
      (fun D' σ H => tgen σ H (fun v H1 => g v σ H1 fun σ2 H2 => tb { D' with nx := fun _ _ => False, ct := fun _ _ => False, bk := D'.nx } σ2 H2) fun H1 => D'.nx σ H1) := by
  refine ⟨fun pins s σ H D' I h => ?_⟩
  refine wpAny_For (thn (hi.run pins s σ H _ _ I h) fun v s1 h1 => ?_) hs
  obtain ⟨H1, sc, I1, a, gi, c, rfl, hgen, hgs, hos, hbare, hlim, hkp, wake⟩ := h1
  refine wpAny_pyIter_gen hgen ?_
  refine codeAny_forLoop_any (fun n s' => s' = s1) ?_ 0 rfl
  rintro n s' rfl
  have outI : ∀ {H' : Hp} {s2 : Shared}, FOut X.prog X.w X.stack H1 sc H' s2 → Inv X pins σ H' s2 := fun {H' s2} o => I1.call' (ch := []) o.os o.un o.hok o.bare fun b z => by simp at z
  refine next_genG (n := 1) (F := fun _ _ s1 => ∃ H', FOut X.prog X.w X.stack H1 sc H' s1 ∧ D'.nx σ H') (Er := fun _ _ => False) (Y := FItem X.prog X.w X.stack H1 sc fun v H1 => g v σ H1 fun σ2 H2 => tb { D' with nx := fun _ _ => False, ct := fun _ _ => False, bk := D'.nx } σ2 H2)
    hr.hd hlim (by have := hr.dp; omega) hgen hgs ⟨rfl, ?_⟩ (fun v s₁ gs' hbr hY => ?_) (fun s₁ hF h' hk => ?_) fun e s₁ he => he.elim
  · exact wake X.A.in1 _ (Room.in1 (hr.mono (Nat.le_succ _))) I1.ok.frames (fun _ _ e => e) hos (allBare_setGen hbare rfl)
  · obtain ⟨x, H', rv, fo, hq⟩ := hY
    refine wpAny_pure ?_
    have I2 : Inv X pins σ H' (s₁.setGen gi gs') := outI ⟨fo.os, allBare_setGen fo.bare hbr, fo.un, fo.hok⟩
    refine wpAny_passesOwn hp (thn (hg.run _ _ σ H' x v _ I2 rv hq) fun _ s6 ⟨σ6, H6, I6, q6⟩ => ?_)
    refine wpAny_passesOwn hp (thn (hb.run _ s6 σ6 H6 _ I6 q6) fun f s7 q7 => ?_)
    cases f with
    | next => obtain ⟨_, _, _, q⟩ := q7; exact q.elim
    | cont => obtain ⟨_, _, _, q⟩ := q7; exact q.elim
    | brk => exact q7
    | ret v => exact q7
  · obtain ⟨H', fo, hq⟩ := hF
    have I2 : Inv X pins σ H' { s₁.setGen gi .finished with heap := h' } := outI ⟨fo.os, allBare_setGen fo.bare rfl, fo.un.trans (Un.kept hk), fo.hok.kept hk⟩
    exact wpAny_execs_nil ⟨σ, H', I2, hq⟩
end
end Pz

set_option Elab.async false
set_option linter.all false
set_option maxRecDepth 100000
set_option maxHeartbeats 4000000
/-! Pz33: what a generator def computes up to its first item (a yield is told as a return); a for over it that takes the first item alone. -/
namespace Pz
open PySem PySem.Spec PyProof.Rows L2 GenW
abbrev MF (X : Cx) (W : WX) (st : Stmt) (f : FS) : Prop := FGS X st (tS X.K W f)
abbrev MFs (X : Cx) (W : WX) (st : List Stmt) (f : FS) : Prop := FGSs X st (tS X.K W f)
section
variable {X : Cx} {W : WX} {a b c e o iter : Expr} {rest es : List Expr} {f g h : FE} {pos yp p apos px : Pos} {K : PySem.W.Frag} {m m' : List Addr} {H H' : Hp} {S S' : Sto} {st : Stmt} {sts as bs body : List Stmt} {u v : FS}
/-- a statement that hands out nothing -/
def sPl (f : FS) : FS := fun l S => match f l S with
  | .rt _ _ => .bad
  | o => o
theorem mf_pl (h1 : MS X W st u) : MF X W st (sPl u) := (fgs_ps h1).imp fun D' σ H ⟨l, m, S, R, q⟩ => ⟨l, m, S, R, by
  unfold sPl at q
  cases e1 : u l S with
  | rt d S1 => rw [e1] at q; exact q.elim
  | nx l1 S1 => rw [e1] at q; exact q
  | bk l1 S1 => rw [e1] at q; exact q
  | ct l1 S1 => rw [e1] at q; exact q
  | ex l1 C fs S1 => rw [e1] at q; exact q
  | bad => rw [e1] at q; exact q⟩
theorem mf_nil : MFs X W [] sNx := fgss_nil.imp fun D' σ H ⟨l, m, S, R, q⟩ => q σ H m .refl R
theorem mf_cons (h1 : MF X W st u) (h2 : MFs X W sts v) : MFs X W (st :: sts) (sSeq u v) := (fgss_cons h1 h2).imp fun D' σ H ⟨l, m, S, R, q⟩ => ⟨l, m, S, R, by
  unfold sSeq at q
  cases e1 : u l S with
  | nx l1 S1 =>
    rw [e1] at q
    exact fun σ' H' m' E' R' => ⟨l1, m', S1, R', postS.mono E' q⟩
  | rt d S1 => rw [e1] at q; exact q
  | bk l1 S1 => rw [e1] at q; exact q
  | ct l1 S1 => rw [e1] at q; exact q
  | ex l1 C fs S1 => rw [e1] at q; exact q
  | bad => rw [e1] at q; exact q⟩
theorem mf_one (h1 : MF X W st u) : MFs X W [st] u := (fgss_cons h1 fgss_nil).imp fun D' σ H ⟨l, m, S, R, q⟩ => ⟨l, m, S, R, by
  cases e1 : u l S with
  | nx l1 S1 => rw [e1] at q; exact q
  | rt d S1 => rw [e1] at q; exact q
  | bk l1 S1 => rw [e1] at q; exact q
  | ct l1 S1 => rw [e1] at q; exact q
  | ex l1 C fs S1 => rw [e1] at q; exact q
  | bad => rw [e1] at q; exact q⟩
theorem mf_if {t : FT} (hc : MT X W c t) (ha : MFs X W as u) (hb : MFs X W bs v) : MF X W (.If c as bs pos) (sIf t u v) := (fgs_if hc ha hb).imp fun D' σ H ⟨l, m, S, R, q⟩ => ⟨l, m, S, R,
  postS.bind (PR := pB) R q fun k S1 w H1 m1 E1 R1 V1 R2 q1 => by
    subst V1
    cases k with
    | true => exact ⟨l, m1, S1, R2, q1⟩
    | false => exact ⟨l, m1, S1, R2, q1⟩⟩
theorem mf_yield (he : ME X W e f) (hco : X.env.scope.isCoroutine = false := by rfl) (hi : interactive X.env = false := by rfl) : MF X W (.Expr (.Yield (some e) yp) pos) (sRet f) := (fgs_yield he hco hi).imp fun D' σ H ⟨l, m, S, R, q⟩ => ⟨l, m, S, R,
  postS.bind (PR := pD X.K) R q fun d S1 w H1 m1 E1 R1 V1 R2 q1 => q1 w H1 m1 .refl R1 V1⟩
theorem mf_while {t : FT} (hp : PassesOwn (model X.prog X.w) X.A X.env X.xe) (hc : MT X W c t) (hb : MFs X W body u) : MF X W (.While c body [] pos) (sWhile t u) := (fgs_while hp hc hb).imp fun D' σ H ⟨l, m, S, R, q⟩ => by
  refine ⟨fun n σ H => ∃ l m S, Rel X.K l σ m S H ∧ postS X.K W m H D' (loopW t u n l S), ⟨_, l, m, S, R, q⟩, ?_⟩
  rintro n σ H ⟨l, m, S, R, q⟩
  cases n with
  | zero => exact q.elim
  | succ n =>
    refine ⟨l, m, S, R, postS.bind (PR := pB) R q fun k S1 w H1 m1 E1 R1 V1 R2 q1 => ?_⟩
    subst V1
    cases k with
    | false => exact q1 σ H1 m1 .refl R2
    | true =>
      refine ⟨fun σ' H' => ∃ l m S, Rel X.K l σ' m S H' ∧ postS X.K W m H' D' (loopW t u n l S), fun σ' H' h => ⟨n, Nat.lt_succ_self n, h⟩, l, m1, S1, R2, ?_⟩
      rw [if_pos rfl] at q1
      cases e1 : u l S1 with
      | nx l2 S2 => rw [e1] at q1; exact fun σ' H' m' E' R' => ⟨l2, m', S2, R', postS.mono E' q1⟩
      | ct l2 S2 => rw [e1] at q1; exact fun σ' H' m' E' R' => ⟨l2, m', S2, R', postS.mono E' q1⟩
      | bk l2 S2 => rw [e1] at q1; exact q1
      | rt d S2 => rw [e1] at q1; exact q1
      | ex l2 C fs S2 => rw [e1] at q1; exact q1
      | bad => rw [e1] at q1; exact q1
end

/-! ### the def -/
def spFG (K : PySem.W.Frag) (F : List D → Sto → OutS) : SpFG := fun vs H Qy Qe => ∃ ds m S, VRs K m H ds vs ∧ SR K m H S ∧ postS K (wE noE) m H { nx := fun _ H' => Qe H', rt := Qy } (F ds S)
noncomputable def runG (n nl : Nat) (b : FS) (ds : List D) (S : Sto) : OutS :=
  if ds.length = n then match b (ds.map some ++ List.replicate (nl - n) none) S with
    | .rt d S' => toS [] (gc S d S') fun d1 S1 => .rt d1 S1
    | .nx _ S' => toS [] (gc S .non S') fun _ S1 => .nx [] S1
    | _ => .bad
  else .bad
structure FnGen (P : Program) (w : World) (K : PySem.W.Frag) (mg : Str → Option Value) (base : Heap) (k : Nat) (C x : Str) (F : List D → Sto → OutS) : Prop where
  ex : ∃ f fd ps, FFn P w K mg base k f fd ps (spFG K F) ∧ Meth K (clsA K C) x f ∧ Binds K fd ps [] ∧ Cls K (clsA K C)
theorem gc_is (S : Sto) (d : D) (S' : Sto) : ∃ d1 S1, gc S d S' = .ok d1 S1 := by
  unfold gc
  repeat' split
  all_goals exact ⟨_, _, rfl⟩
section
variable {P : Program} {w : World} {K : PySem.W.Frag} {mg : Str → Option Value} {base h : Heap} {C x qual : Str} {st : Stmt} {ps N : List Str} {k : Nat} {b : FS}
theorem fnGen_of {F : List D → Sto → OutS} {n m : Nat} (hF : F = runG n m b) (t : TxM K C x qual st ps) (hn : ps.length = n) (hm : N.length = m) (sc : GScope N ps (defScope st))
    (hbody : ∀ (f : Addr) (cdv : Value) (A : Around) (outer : List Env) (s : Shared) (H : Hp), Room k (cxB P w K mg base N qual st f cdv A outer s H noE).A → MFs (cxB P w K mg base N qual st f cdv A outer s H noE) (wE noE) (defBody st) b) :
    FnGen P w K mg base (k + 1) C x F := by
  subst hF hn hm
  obtain ⟨f, fd, h1, h2, h3, h4⟩ := t.ex
  obtain ⟨oc, od, kV, doc, pm, an, cdv, ct, osl, rfl, lk, hcd⟩ := h1.ex
  have len : ∀ {vs H Qy Qe}, spFG K (runG ps.length N.length b) vs H Qy Qe → vs.length = ps.length := fun {vs H Qy Qe} h => by
    obtain ⟨ds, m, S, h1, _, h2⟩ := h
    unfold runG at h2
    split at h2
    · rename_i e; rw [h1.length]; exact e
    · exact h2.elim
  refine ⟨f, _, ps, ffn_of lk hcd sc (fun vs H Q E h => len h) (fun A outer s H vs Qy Qe hr hsp => ?_), h3, h2, h4⟩
  refine ⟨_, hbody f cdv A outer s H hr, ?_⟩
  obtain ⟨ds, m, S, h1, h2, h3⟩ := hsp
  unfold runG at h3
  split at h3
  · rename_i hl
    rw [← hl] at h3
    refine ⟨_, m, S, Rel.start h2 h1, ?_⟩
    split at h3
    · rename_i d S' e
      rw [e]
      obtain ⟨d1, S1, e1⟩ := gc_is S d S'
      rw [e1] at h3
      refine fun v H' m' e2 s1 r1 => gc_ok (W := wE noE) (σ := []) (Q := Qy) h2 ?_ e2 s1 r1
      rw [e1]
      exact fun v H2 m2 e3 s3 r3 => h3 v H2 m2 e3 s3 r3
    · rename_i l S' e
      rw [e]
      obtain ⟨d1, S1, e1⟩ := gc_is S .non S'
      rw [e1] at h3
      refine fun σ' H' m' e2 r1 => gc_ok (W := wE noE) (σ := []) (Q := fun _ H2 => Qe H2) (d := .non) (v := .non) h2 ?_ e2 r1.sr (by simp only [VR])
      rw [e1]
      exact fun v H2 m2 e3 s3 r3 => h3 [] H2 m2 e3 ⟨s3, rfl, fun i d hd => by simp at hd⟩
    · exact h3.elim
  · exact h3.elim
end

/-! ### for x in o.m(): .. -/
def noNx : OutS → OutS
  | .nx _ _ => .bad
  | .ct _ _ => .bad
  | .bk l S => .nx l S
  | o => o
def sForF (C nm : Str) (F : List D → Sto → OutS) (f : FE) (t : Tg) (u : FS) : FS := fun l S => toS l (f l S) fun x S1 => toS l (isIns C nm x S1) fun _ _ => match F [x] S1 with
  | .rt d S2 => match t.put d l with
    | some l1 => noNx (u l1 S2)
    | none => .bad
  | .nx _ S2 => .nx l S2
  | _ => .bad
section
variable {X : Cx} {W : WX} {o : Expr} {f : FE} {k : Nat} {C nm x : Str} {F : List D → Sto → OutS} {t : Tg} {u : FS} {body : List Stmt} {px apos pos' pos : Pos}
theorem ms_forF {pl : Sem Bool} (h : FnGen X.prog X.w X.K X.mg X.base k C nm F) (hp : PassesOwn (model X.prog X.w) X.A X.env X.xe) (hr : Room (k + 2) X.A) (ho : ME X W o f) (hg : MG X (.Name x px) t) (hb : MSs X W body u)
    (ht : eval (.Call (.Attribute o nm apos) [] [] pos') X.env = (do
      let ov ← eval o X.env
      standAt apos.atName
      let (f, first) ← holding [ov] (getMethod ov nm pl)
      callWith pos' f first (backTo pos' (starEach [] X.env)) (backToKw pos' (keywordEach [] X.env))) := by rfl)
    (hs : ∀ x, foldedSetIterable (.Call (.Attribute o nm apos) [] [] pos') X.env x = pure x := by intro _; rfl) : MS X W (.For (.Name x px) (.Call (.Attribute o nm apos) [] [] pos') body [] pos) (sForF C nm F f t u) := by
  obtain ⟨fm, fd, ps, h1, h2, h3, h4⟩ := h.ex
  refine (ps_forF hp hr (pfg_meth0 (pl := pl) ho h4 h2 h1 (hr.mono (by omega)) h3 ht) hg hb hs).imp fun D' σ H ⟨l, m, S, R, q⟩ => ⟨l, m, S, R, postS.bind (PR := pD X.K) R q fun d S1 v H1 m1 E1 R1 V1 R2 q1 => ?_⟩
  have e : isIns C nm d S1 = .ok d S1 := by
    cases e : isIns C nm d S1 with
    | ok x' S2 =>
      unfold isIns at e
      repeat' split at e
      all_goals first | exact e ▸ rfl | cases e
    | ex _ _ _ => 
      unfold isIns at e
      repeat' split at e
      all_goals cases e
    | bad => rw [e] at q1; exact q1.elim
  obtain ⟨a, dx, us, rfl, h5, h6, _⟩ := isIns_ok (W := W) (σ := σ) (Q := fun _ _ => True) (PR := pD X.K) (kk := Out.ok d S1) (nm := nm) (C := C) R1 V1 (by rw [e]; exact fun _ _ _ _ _ _ => trivial)
  rw [e] at q1
  refine ⟨a, dx, us, rfl, h5, h6, [d], m1, S1, .cons V1 .nil, R1, ?_⟩
  have q2 : postS X.K W m1 H1 D' (match F [d] S1 with
    | .rt d S2 => match t.put d l with
      | some l1 => noNx (u l1 S2)
      | none => .bad
    | .nx _ S2 => .nx l S2
    | _ => .bad) := q1
  cases e2 : F [d] S1 with
  | rt d2 S2 =>
    rw [e2] at q2
    refine fun v2 H2 m2 E2 R3 V3 => ?_
    cases e3 : t.put d2 l with
    | none => simp only [e3] at q2; exact q2.elim
    | some l1 =>
      simp only [e3] at q2
      refine ⟨l, m2, S2, d2, l1, R2.ext E2 R3, V3, e3, fun σ' R' _ => ⟨l1, m2, S2, R', ?_⟩⟩
      have q3 := postS.mono E2 q2
      cases e4 : u l1 S2 with
      | nx l2 S3 => rw [e4] at q3; exact q3.elim
      | ct l2 S3 => rw [e4] at q3; exact q3.elim
      | bk l2 S3 => rw [e4] at q3; exact q3
      | rt d3 S3 => rw [e4] at q3; exact q3
      | ex l2 C fs S3 => rw [e4] at q3; exact q3
      | bad => rw [e4] at q3; exact q3
  | nx l2 S2 =>
    rw [e2] at q2
    exact fun σ2 H2 m2 E2 R3 => q2 σ H2 m2 E2 (R2.ext E2 R3.sr)
  | bk l2 S2 => rw [e2] at q2; exact q2.elim
  | ct l2 S2 => rw [e2] at q2; exact q2.elim
  | ex l2 C fs S2 => rw [e2] at q2; exact q2.elim
  | bad => rw [e2] at q2; exact q2.elim
end
end Pz

set_option Elab.async false
set_option linter.all false
set_option maxRecDepth 100000
set_option maxHeartbeats 4000000
/-! Pz34: {k: v for x in ..}, keys ints or texts. -/
namespace Pz
open PySem PySem.Spec PyProof.Rows L2
section
variable {K : PySem.W.Frag} {m m' : List Addr} {H H' : Hp} {S S' : Sto} {a q : Addr} {ho : HO}
theorem VR.ovr (mu : Mu (H q)) {d : D} {v : V} (r : VR K m H d v) : VR K m (upd H q ho) d v :=
  VR.mono (fun _ _ h => h) (fun a xs h => by rw [upd_ne (fun z => mu.1 xs (by rw [← z]; exact h))]; exact h) (fun a o u h => by rw [upd_ne (fun z => mu.2 o u (by rw [← z]; exact h))]; exact h) _ _ r
theorem VRs.ovr (mu : Mu (H q)) {d : List D} {v : List V} (r : VRs K m H d v) : VRs K m (upd H q ho) d v :=
  VRs.mono (fun _ _ h => h) (fun a xs h => by rw [upd_ne (fun z => mu.1 xs (by rw [← z]; exact h))]; exact h) (fun a o u h => by rw [upd_ne (fun z => mu.2 o u (by rw [← z]; exact h))]; exact h) _ _ r
theorem AR.ovr {κ : Type} (mu : Mu (H q)) {d : List (κ × D)} {v : List (κ × V)} (r : AR K m H d v) : AR K m (upd H q ho) d v :=
  AR.mono (fun _ _ h => h) (fun a xs h => by rw [upd_ne (fun z => mu.1 xs (by rw [← z]; exact h))]; exact h) (fun a o u h => by rw [upd_ne (fun z => mu.2 o u (by rw [← z]; exact h))]; exact h) _ _ r
theorem SR.ovr (s : SR K m H S) (mu : Mu (H q)) (hn : q ∉ m) : SR K m (upd H q ho) S := ⟨s.len, s.nd, fun n o hno => by
  obtain ⟨a, h1, h2⟩ := s.at n o hno
  have ha : a ≠ q := fun e => hn (by rw [← e]; exact List.mem_of_getElem? h1)
  refine ⟨a, h1, ?_⟩
  cases o with
  | lst xs => obtain ⟨vs, h3, h4⟩ := h2; exact ⟨vs, by rw [upd_ne ha]; exact h3, VRs.ovr mu h4⟩
  | dk xs => obtain ⟨vs, h3, h4⟩ := h2; exact ⟨vs, by rw [upd_ne ha]; exact h3, AR.ovr mu h4⟩
  | ins C fs => obtain ⟨dx, vs, h3, h4⟩ := h2; exact ⟨dx, vs, by rw [upd_ne ha]; exact h3, AR.ovr mu h4⟩
  | dn xs => obtain ⟨vs, h3, h4⟩ := h2; exact ⟨vs, by rw [upd_ne ha]; exact h3, AR.ovr mu h4⟩, by
  obtain ⟨o, u, h⟩ := s.sys
  exact ⟨o, u, by rw [upd_ne (fun z => mu.2 o u (by rw [← z]; exact h))]; exact h⟩⟩
theorem mu_dk {us : List (Key × V)} (h : H q = some (.dK us)) : Mu (H q) := by rw [h]; exact ⟨fun _ z => (by cases z), fun _ _ z => (by cases z)⟩
end
section
variable {X : Cx} {W : WX} {a b c e o i kx vx tg iter : Expr} {pos p : Pos} {K : PySem.W.Frag} {m : List Addr} {H : Hp} {S : Sto}
open Classical in
noncomputable def dcL (gd : Sto → Prop) (t : Tg) (tk tv : FE) (l : Loc) : List D → List (Key × D) → Sto → Out (List (Key × D))
  | [], acc, S => if gd S then .ok acc S else .bad
  | x :: xs, acc, S => if gd S then match t.put x l with
      | some l1 => (noX (tk l1 S)).bind fun y S1 => (noX (tv l1 S1)).bind fun z S2 => match keyD y with
        | some k => dcL gd t tk tv l xs (putD acc k z) S2
        | none => .bad
      | none => .bad
    else .bad
noncomputable def eDc (vs : List Nat) (fi : FI) (t : Tg) (tk tv : FE) : FE := fun l S => (fi l S).bind fun x S1 => if x.its.length ≤ sizeLine then (dcL x.gd t tk tv (wipeL l vs) x.its [] S1).bind fun kvs S2 => .ok (.ref S2.length) (S2 ++ [Ob.dk kvs]) else .bad
theorem putD_len (kvs : List (Key × D)) (k : Key) (v : D) : (putD kvs k v).length ≤ kvs.length + 1 := by
  unfold putD
  split <;> simp
theorem tX_dc {fi : FI} {t : Tg} {tk tv : FE} {vs : List Nat} (hv : t.slots.all (fun i => vs.contains i) = true) {σ : L2.St} {H : Hp} {Q : VK} (q : tX K W (pD K) (eDc vs fi t tk tv) σ H Q) :
    tDc (tX K W (pI K) fi) (tG K t) (tX K WF pB tTrue) (tX K WF (pD K) tk) (tX K WF (pD K) tv) vs σ H Q := by
  obtain ⟨l, m, S, R, q⟩ := q
  refine ⟨l, m, S, R, post.bind (PR := pI K) anti_D q fun x S1 J H1 m1 E1 R1 V1 q1 D hD => ?_⟩
  split at q1
  · rename_i hz
    have hsl : ∀ i ∈ t.slots, i ∈ vs := fun i hi => by
      have := List.all_eq_true.mp hv i hi
      simpa using this
    have ED : Ext m1 H1 m1 (upd H1 D (.dK [])) := Ext.tmp hD
    have RW : Rel K (wipeL l vs) (L2.wipe σ vs) m1 S1 H1 := (R.ext E1 R1).wipe vs
    refine ⟨fun i k H' => k = x.its.length - i ∧ i ≤ x.its.length ∧ ∃ m' S' acc us, Ext m1 H1 m' H' ∧ SR K m' H' S' ∧ H' D = some (.dK us) ∧ D ∉ m' ∧ AR K m' H' acc us ∧ acc.length ≤ i ∧ post K W (pD K) σ m1 H1 Q ((dcL x.gd t tk tv (wipeL l vs) (x.its.drop i) acc S').bind fun kvs S2 => .ok (.ref S2.length) (S2 ++ [Ob.dk kvs])),
      ⟨_, rfl, Nat.zero_le _, m1, S1, [], [], ED, R1.tmp hD, upd_same, R1.notin hD, rfl, Nat.le_refl _, q1⟩, ?_⟩
    rintro i k H' ⟨rfl, hi, m', S', acc, us, E', R', hH, hn, hacc, hal, q'⟩
    by_cases hlt : i < x.its.length
    · rw [List.drop_eq_getElem_cons hlt] at q'
      simp only [dcL] at q'
      split at q'
      · rename_i hgd
        obtain ⟨h1, _⟩ := V1 m' H' S' E' R' hgd i
        obtain ⟨h2, h3⟩ := h1 x.its[i] (by simp [hlt])
        refine .inr ⟨h2, fun H2 => ∃ m2 S2 acc us, Ext m1 H1 m2 H2 ∧ SR K m2 H2 S2 ∧ H2 D = some (.dK us) ∧ D ∉ m2 ∧ AR K m2 H2 acc us ∧ acc.length ≤ i + 1 ∧ post K W (pD K) σ m1 H1 Q ((dcL x.gd t tk tv (wipeL l vs) (x.its.drop (i + 1)) acc S2).bind fun kvs S2 => .ok (.ref S2.length) (S2 ++ [Ob.dk kvs])),
          fun H2 h => ⟨x.its.length - (i + 1), by omega, rfl, hlt, h⟩, fun y H2 hy => ?_⟩
        obtain ⟨h4, h5, h6⟩ := h3 y H2 hy
        cases e1 : t.put x.its[i] (wipeL l vs) with
        | none => rw [e1] at q'; exact q'.elim
        | some l1 =>
          rw [e1] at q'
          refine ⟨wipeL l vs, m', S', x.its[i], l1, RW.ext (E'.trans h4) h5, h6, e1, fun σ3 R3 w3 => ⟨?_, l1, m', S', R3, ?_⟩⟩
          · have := w3 vs hsl
            rw [this]
            have ww : ∀ us : List Nat, L2.wipe (L2.wipe σ us) us = L2.wipe σ us := wipe_wipe σ
            exact ww vs
          · have q2 : post K W (pD K) σ m1 H1 Q (((noX (tk l1 S')).bind fun y S1 => (noX (tv l1 S1)).bind fun z S2 => match keyD y with
                | some k => dcL x.gd t tk tv (wipeL l vs) (x.its.drop (i + 1)) (putD acc k z) S2
                | none => .bad).bind fun kvs S2 => .ok (.ref S2.length) (S2 ++ [Ob.dk kvs])) := q'
            intro bb H3 m3 E3 R4 eb
            subst eb
            rw [if_pos rfl]
            have hH3 : H3 D = some (.dK us) := E3.oth _ _ (h4.oth _ _ hH hn) hn
            have hn3 : D ∉ m3 := E3.notin hn (by rw [h4.oth _ _ hH hn]; exact fun q => by cases q)
            refine ⟨l1, m3, S', R3.ext E3 R4, ?_⟩
            cases e2 : tk l1 S' with
            | bad => rw [e2] at q2; exact q2.elim
            | ex C fs S2 => rw [e2] at q2; exact q2.elim
            | ok yk S2 =>
              rw [e2] at q2
              intro u H4 m4 E4 R5 V4
              have hH4 : H4 D = some (.dK us) := E4.oth _ _ hH3 hn3
              have hn4 : D ∉ m4 := E4.notin hn3 (by rw [hH3]; exact fun q => by cases q)
              refine ⟨l1, m4, S2, R3.ext (E3.trans E4) R5, ?_⟩
              have q3 : post K W (pD K) σ m1 H1 Q (((noX (tv l1 S2)).bind fun z S2 => match keyD yk with
                | some k => dcL x.gd t tk tv (wipeL l vs) (x.its.drop (i + 1)) (putD acc k z) S2
                | none => .bad).bind fun kvs S2 => .ok (.ref S2.length) (S2 ++ [Ob.dk kvs])) := q2
              cases e3 : tv l1 S2 with
              | bad => rw [e3] at q3; exact q3.elim
              | ex C fs S3 => rw [e3] at q3; exact q3.elim
              | ok zv S3 =>
                rw [e3] at q3
                intro w H5 m5 E5 R6 V5
                have hH5 : H5 D = some (.dK us) := E5.oth _ _ hH4 hn4
                have hn5 : D ∉ m5 := E5.notin hn4 (by rw [hH4]; exact fun q => by cases q)
                cases ek : keyD yk with
                | none =>
                  have q4 : post K W (pD K) σ m1 H1 Q ((match keyD yk with
                    | some k => dcL x.gd t tk tv (wipeL l vs) (x.its.drop (i + 1)) (putD acc k zv) S3
                    | none => .bad).bind fun kvs S2 => .ok (.ref S2.length) (S2 ++ [Ob.dk kvs])) := q3
                  rw [ek] at q4
                  exact q4.elim
                | some kk =>
                  have q4 : post K W (pD K) σ m1 H1 Q ((match keyD yk with
                    | some k => dcL x.gd t tk tv (wipeL l vs) (x.its.drop (i + 1)) (putD acc k zv) S3
                    | none => .bad).bind fun kvs S2 => .ok (.ref S2.length) (S2 ++ [Ob.dk kvs])) := q3
                  rw [ek] at q4
                  have ey := keyD_ok ek V4
                  have hacc5 := AR.ext ((h4.trans E3).trans (E4.trans E5)) _ _ hacc
                  have lp := putD_len acc kk zv
                  refine ⟨us, kk, ey, hH5, by rw [hacc5.length]; omega, m5, S3, putD acc kk zv, putK us kk w, ?_, R6.ovr (mu_dk hH5) hn5, upd_same, hn5, AR.ovr (mu_dk hH5) (AR.put V5 hacc5), by omega, q4⟩
                  exact Ext.over1 hD (E'.trans (h4.trans (E3.trans (E4.trans E5))))
      · exact q'.elim
    · have e : i = x.its.length := by omega
      subst e
      rw [List.drop_length] at q'
      simp only [dcL] at q'
      split at q'
      · rename_i hgd
        have q2 : post K W (pD K) σ m1 H1 Q (.ok (.ref S'.length) (S' ++ [.dk acc])) := q'
        refine .inl ⟨(V1 m' H' S' E' R' hgd _).2 rfl, q2 _ H' (m' ++ [D]) (E'.into hD) (R'.grow hn ⟨us, hH, hacc⟩) ?_⟩
        simp only [VR]
        exact ⟨D, by rw [← R'.len, List.getElem?_concat_length], rfl⟩
      · exact q'.elim
  · exact q1.elim
theorem me_dc {scope : Scope} {own : List (Str × Nat)} {fi : FI} {t : Tg} {tk tv : FE} (hc : X.calm = true) (hN : X.N.Nodup) (hi : MI X W tg iter fi) (ok : BlkOk X.N X.env.scope scope own)
    (hg : ∀ (s : Shared) (H : Hp) (C : Addr) (cl : List (Str × Addr)) (fp : List Addr), MG (X.blk s H scope (compEnvC scope cl C X.env) fp) tg t)
    (hk : ∀ (s : Shared) (H : Hp) (C : Addr) (cl : List (Str × Addr)) (fp : List Addr), ME (X.blk s H scope (compEnvC scope cl C X.env) fp) WF kx tk)
    (he : ∀ (s : Shared) (H : Hp) (C : Addr) (cl : List (Str × Addr)) (fp : List Addr), ME (X.blk s H scope (compEnvC scope cl C X.env) fp) WF vx tv)
    (hv : t.slots.all (fun i => (own.map (·.2)).contains i) = true := by rfl) (hs : ∀ x, foldedSetIterable iter X.env x = pure x := by intro _; rfl) : ME X W (.DictComp kx vx [⟨tg, iter, [], 0⟩] scope pos) (eDc (own.map (·.2)) fi t tk tv) :=
  (pe_dc hc hN hi ok hg (fun _ _ _ _ _ => mts_nil) hk he hs).imp fun σ H Q q => tX_dc hv q
theorem sw_trueD {gs : List Comprehension} {scope : Scope} {pos py : Pos} {y : Str} {l : Nat} {env : Env} (hk : env.scope.kind = .function) (hy : env.scope.names.lookup y = some .local) (hl : (py.line == pos.line) = true)
    (ha : (scope.names.any fun (n, k) => n == y && (k == .local || k == .cell)) = false) : swapsWith (.DictComp kx vx gs scope pos) (some (.Name y py)) l env = pure true := by
  have ky : env.kindOf y = some .local := hy
  have hb : env.blockKind = .function := by unfold Env.blockKind; rw [hk]; rfl
  unfold swapsWith
  simp only [hb, ky, ha, Expr.pos, hl]
  rfl
/-- name = {..} on one line, the name a local -/
theorem ps_setDc {i : Nat} {y : Str} {py : Pos} {scope : Scope} {own : List (Str × Nat)} {pos spos : Pos} {wi : TI} {g : TG} {tt : TT} {tk tv : TE} {ifs : List Expr} (hc : X.calm = true) (hN : X.N.Nodup) (hy : X.N[i]? = some y) (hyl : X.env.scope.names.lookup y = some .local)
    (hsw : swapsWith (.DictComp kx vx [⟨tg, iter, ifs, 0⟩] scope pos) (some (.Name y py)) spos.line X.env = pure true) (hi : PI X tg iter wi) (ok : BlkOk X.N X.env.scope scope own)
    (hg : ∀ (s : Shared) (H : Hp) (C : Addr) (cl : List (Str × Addr)) (fp : List Addr), PG (X.blk s H scope (compEnvC scope cl C X.env) fp) tg g) (ht : ∀ (s : Shared) (H : Hp) (C : Addr) (cl : List (Str × Addr)) (fp : List Addr), PTs (X.blk s H scope (compEnvC scope cl C X.env) fp) ifs tt)
    (hk : ∀ (s : Shared) (H : Hp) (C : Addr) (cl : List (Str × Addr)) (fp : List Addr), PE (X.blk s H scope (compEnvC scope cl C X.env) fp) kx tk)
    (he : ∀ (s : Shared) (H : Hp) (C : Addr) (cl : List (Str × Addr)) (fp : List Addr), PE (X.blk s H scope (compEnvC scope cl C X.env) fp) vx tv) (hs : ∀ x, foldedSetIterable iter X.env x = pure x := by intro _; rfl) :
    PS X (.Assign [.Name y py] (.DictComp kx vx [⟨tg, iter, ifs, 0⟩] scope pos) spos) (tAsg (tDc wi g tt tk tv (own.map (·.2))) (gName i)) := by
  refine ⟨fun pins s σ H D I h => ?_⟩
  rw [exec_Assign_Name_used _ _ _ _ hsw]
  refine wpAny_bind (wpAny_standAt (wpAny_bind ?_))
  show wpAny _ X.A (do let _ ← comprehension (.DictComp kx vx [⟨tg, iter, ifs, 0⟩] scope pos) scope X.env (firstIterPos [⟨tg, iter, ifs, 0⟩] pos) newDict false (eval iter X.env) (some (assign (.Name y py) X.env))) _ _ s
  have h : tDc wi g tt tk tv (own.map (·.2)) σ H (fun x H1 => gName i x σ H1 D.nx) := h
  refine wpAny_bind (thn (dc_core (Qf := fun _ s' => SP X pins D .next s') hc hN I hi ok hg ht hk he hs h fun L C s' m H' I' q hn f => ?_) fun _ s' hq => wpAny_pure (wpAny_pure hq))
  show wpAny _ _ (assign (.Name y py) X.env (.ref L)) _ _ _
  refine wpAny_assign_Name (store_ok2 (v := V.ref L) I' hN hy (.inl hyl) rfl (fun s2 I2 ⟨a, sb, ha⟩ => ?_) (.inr hyl))
  obtain ⟨f0, f1, f2, f3, f4, f5⟩ := f
  have haC : C ≠ a := by
    rcases ha with z | z
    · rw [z]; exact f1
    · exact fun e => f4 y a z e.symm
  refine ⟨m, hn.sameBut sb haC, fun h3 sb3 => ?_⟩
  exact ⟨_, H', I2.turned (t' := s2.toks) (fun b o hb e => (sb3.2 b hb).trans e) f0 f1 f3 f4 f5, q⟩
theorem ms_setDc {i : Nat} {y : Str} {py spos : Pos} {scope : Scope} {own : List (Str × Nat)} {fi : FI} {t : Tg} {tk tv : FE} (hc : X.calm = true) (hN : X.N.Nodup) (hy : X.N[i]? = some y) (hyl : X.env.scope.names.lookup y = some .local)
    (hsw : swapsWith (.DictComp kx vx [⟨tg, iter, [], 0⟩] scope pos) (some (.Name y py)) spos.line X.env = pure true) (hi : MI X W tg iter fi) (ok : BlkOk X.N X.env.scope scope own)
    (hg : ∀ (s : Shared) (H : Hp) (C : Addr) (cl : List (Str × Addr)) (fp : List Addr), MG (X.blk s H scope (compEnvC scope cl C X.env) fp) tg t)
    (hk : ∀ (s : Shared) (H : Hp) (C : Addr) (cl : List (Str × Addr)) (fp : List Addr), ME (X.blk s H scope (compEnvC scope cl C X.env) fp) WF kx tk)
    (he : ∀ (s : Shared) (H : Hp) (C : Addr) (cl : List (Str × Addr)) (fp : List Addr), ME (X.blk s H scope (compEnvC scope cl C X.env) fp) WF vx tv)
    (hv : t.slots.all (fun i => (own.map (·.2)).contains i) = true := by rfl) (hs : ∀ x, foldedSetIterable iter X.env x = pure x := by intro _; rfl) : MS X W (.Assign [.Name y py] (.DictComp kx vx [⟨tg, iter, [], 0⟩] scope pos) spos) (sSet (.nm i) (eDc (own.map (·.2)) fi t tk tv)) :=
  (ps_setDc hc hN hy hyl hsw hi ok hg (fun _ _ _ _ _ => mts_nil) hk he hs).imp fun D' σ H ⟨l, m, S, R, q⟩ => tX_dc hv ⟨l, m, S, R, postS.bind (PR := pD X.K) R q fun d S1 w H1 m1 E1 R1 V1 R2 q1 => q1 _ H1 m1 .refl (R2.put V1)⟩
end
end Pz

set_option Elab.async false
set_option linter.all false
set_option maxRecDepth 100000
set_option maxHeartbeats 4000000
/-! The walk of pilepass_k30_heights_of_orders: printed by gen.py -/
namespace Pz
open PySem PySem.Spec PyProof.Rows L2
def tp (i : Nat) : Stmt := PySem.Challenge.pw_pilepass_k30_heights_of_orders.main.body.getD i (.Pass ⟨0, 0, 0, 0⟩)
abbrev s__law_deck : Stmt := tp 10
abbrev s__law_draw : Stmt := tp 11
abbrev s__law_mixed : Stmt := tp 13
abbrev s__law_renumbered : Stmt := tp 15
abbrev s__law_one : Stmt := tp 12
abbrev s__law_kind : Stmt := tp 14
abbrev s__law_woven : Stmt := tp 16
abbrev s_Passes_is_done : Stmt := inClass (tp 4) 5
abbrev s_Passes_cells : Stmt := inClass (tp 4) 1
abbrev s_Passes_behind : Stmt := inClass (tp 4) 3
abbrev s_Passes_finds : Stmt := inClass (tp 4) 2
abbrev s_Passes_nexts : Stmt := inClass (tp 4) 4
abbrev s_Passes_ways : Stmt := inClass (tp 4) 6
abbrev s_Passes_orders : Stmt := inClass (tp 4) 10
abbrev s_Passes_first_order : Stmt := inClass (tp 4) 11
abbrev s_ties : Stmt := tp 2
abbrev s_Passes_init : Stmt := inClass (tp 4) 0
abbrev s_order_of : Stmt := tp 8
abbrev s_heights : Stmt := tp 6
abbrev s__law_inputs : Stmt := tp 18
abbrev s__law_ties : Stmt := tp 17
abbrev s__law_heights : Stmt := tp 19
abbrev s_law : Stmt := tp 20
structure Txt (K : PySem.W.Frag) (mg : Str → Option Value) : Prop where
  g_abs : mg "abs" = none
  g_dict : mg "dict" = none
  g_enumerate : mg "enumerate" = none
  g_int : mg "int" = none
  g_len : mg "len" = none
  g_list : mg "list" = none
  g_min : mg "min" = none
  g_range : mg "range" = none
  g_repr : mg "repr" = none
  g_sorted : mg "sorted" = none
  g_sum : mg "sum" = none
  g_tuple : mg "tuple" = none
  t__law_deck : Tx K mg "_law_deck" s__law_deck ["script"]
  t__law_draw : Tx K mg "_law_draw" s__law_draw ["deck", "many"]
  t__law_mixed : Tx K mg "_law_mixed" s__law_mixed ["deck", "items"]
  t__law_renumbered : Tx K mg "_law_renumbered" s__law_renumbered ["web", "order"]
  t__law_one : Tx K mg "_law_one" s__law_one ["deck", "items"]
  t__law_kind : Tx K mg "_law_kind" s__law_kind ["deck", "many"]
  t__law_woven : Tx K mg "_law_woven" s__law_woven ["deck", "most", "is_queue"]
  t_Passes_is_done : TxM K "Passes" "is_done" "Passes.is_done" s_Passes_is_done ["self", "done"]
  t_Passes_cells : TxM K "Passes" "cells" "Passes.cells" s_Passes_cells ["self", "done", "giver"]
  t_Passes_behind : TxM K "Passes" "behind" "Passes.behind" s_Passes_behind ["self", "done", "line", "step"]
  t_Passes_finds : TxM K "Passes" "finds" "Passes.finds" s_Passes_finds ["self", "done", "line", "step"]
  t_Passes_nexts : TxM K "Passes" "nexts" "Passes.nexts" s_Passes_nexts ["self", "done", "line"]
  t_Passes_ways : TxM K "Passes" "ways" "Passes.ways" s_Passes_ways ["self", "done", "line"]
  t_Passes_orders : TxM K "Passes" "orders" "Passes.orders" s_Passes_orders ["self"]
  t_Passes_first_order : TxM K "Passes" "first_order" "Passes.first_order" s_Passes_first_order ["self"]
  t_ties : Tx K mg "ties" s_ties ["web"]
  t_Passes_init : TxI K mg "Passes" "__init__" "Passes.__init__" s_Passes_init ["self", "web", "is_queue"]
  t_order_of : Tx K mg "order_of" s_order_of ["web"]
  t_heights : Tx K mg "heights" s_heights ["web", "order"]
  tk_heights_0 : TxK K mg "heights" s_heights ["web", "order"] ["order", "web"] [1, 0]
  t__law_inputs : Tx K mg "_law_inputs" s__law_inputs ["web"]
  t__law_ties : Tx K mg "_law_ties" s__law_ties ["web"]
  t__law_heights : Tx K mg "_law_heights" s__law_heights ["web", "order"]
  f_Passes_is_queue : FldC K "Passes" "is_queue"
  f_Passes_known : FldC K "Passes" "known"
  f_Passes_many : FldC K "Passes" "many"
  f_Passes_peaks : FldC K "Passes" "peaks"
  f_Passes_uses : FldC K "Passes" "uses"
  f_Passes_wants : FldC K "Passes" "wants"
abbrev TxtAt {K : PySem.W.Frag} {h : Heap} (_ : K.In h) (mg : Str → Option Value) : Prop := Txt K mg
section
variable {P : Program} {w : World} {K : PySem.W.Frag} {mg : Str → Option Value} {base : Heap}
/-! ### _law_deck: slots 0 script, 1 cell -/
theorem sc__law_deck : FnScope ["script", "cell"] ["script"] (defScope s__law_deck) := ⟨rfl, rfl, rfl, by decide +kernel, rfl, by decide +kernel, by decide +kernel⟩
noncomputable def b__law_deck_0 : FS := sRet (eL (lLst (aC (eL (lComp [1] (iE (eSl (eV 0) (pN) (pS1 (eC (.int 63))))) (.nm 1) (tTrue) (eB1 oAbs (eV 1)))) (aC (eC (.int 0)) (aN)))))
noncomputable def b__law_deck : FS := b__law_deck_0
noncomputable def F__law_deck : List D → Sto → Out D := runF 1 2 b__law_deck
theorem fn__law_deck (T : Txt K mg) : Fn P w K mg base 1 "_law_deck" F__law_deck :=
  fn_of (b := b__law_deck) rfl T.t__law_deck rfl rfl sc__law_deck fun _ cdv A outer s H E hr =>
      ms_one (ms_ret (me_l (ml_lst (ma_cons (me_l (ml_lc (own := [("cell", 1)]) rfl sc__law_deck.nd (mi_e (me_sl (mv 0) (mo_none) (mo_some (me_int)))) (blkOk_by (by kernel_rfl)) (fun _ _ _ _ _ => mg_nm 1 sc__law_deck.nd) (fun _ _ _ _ _ => mts_nil) (fun _ _ _ _ _ => me_abs rfl T.g_abs bt_abs (mv 1)))) (ma_cons (me_int) (ma_nil))) (len_cons (len_cons len_nil)))))
/-! ### _law_draw: slots 0 deck, 1 many, 2 cell, 3 at, 4 mixed -/
theorem sc__law_draw : FnScope ["deck", "many", "cell", "at", "mixed"] ["deck", "many"] (defScope s__law_draw) := ⟨rfl, rfl, rfl, by decide +kernel, rfl, by decide +kernel, by decide +kernel⟩
noncomputable def b__law_draw_0 : FS := sSetIx (e2 oAdd (e2 oIx (eV 0) (eC (.int 1))) (eC (.int 1))) (eV 0) (eC (.int 1))
noncomputable def b__law_draw_1 : FS := sSet (.tp [.nm 2, .nm 3]) (eTup (aC (eC (.int 0)) (aC (e1 oNeg (eC (.int 1))) (aN))))
noncomputable def b__law_draw_2_0 : FS := sSet (.nm 3) (e2 oMod (eB1 oInt (e2 oIx (eV 0) (eC (.int 1)))) (eB1 oLenQ (eQ (e2 oIx (eV 0) (eC (.int 0))))))
noncomputable def b__law_draw_2_1 : FS := sSet (.nm 2) (e2 oIx (e2 oIx (eV 0) (eC (.int 0))) (eV 3))
noncomputable def b__law_draw_2 : FS := sIf (eT (e2 oGt (eB1 oLenQ (eQ (e2 oIx (eV 0) (eC (.int 0))))) (eC (.int 0)))) (sSeq (b__law_draw_2_0) (b__law_draw_2_1)) (sNx)
noncomputable def b__law_draw_3_0 : FS := sSetIx (e2 oDiv (eB1 oInt (eV 2)) (eV 1)) (e2 oIx (eV 0) (eC (.int 0))) (eV 3)
noncomputable def b__law_draw_3_1 : FS := sRet (e2 oMod (eB1 oInt (eV 2)) (eV 1))
noncomputable def b__law_draw_3 : FS := sIf (eT (e2 oGe (eV 2) (e2 oPow (eC (.int 10)) (eC (.int 18))))) (sSeq (b__law_draw_3_0) (b__law_draw_3_1)) (sNx)
noncomputable def b__law_draw_4 : FS := sSet (.nm 4) (e2 oAdd (e2 oAdd (e2 oMod (eB1 oInt (eV 2)) (eC (.int 2147483477))) (e2 oMul (eC (.int 11213)) (e2 oIx (eV 0) (eC (.int 1))))) (eC (.int 7)))
noncomputable def b__law_draw_5 : FS := sRet (e2 oMod (eB1 oInt (e2 oMod (eB1 oInt (e2 oPow (eV 4) (eC (.int 5)))) (eC (.int 2147483543)))) (eV 1))
noncomputable def b__law_draw : FS := sSeq (b__law_draw_0) (sSeq (b__law_draw_1) (sSeq (b__law_draw_2) (sSeq (b__law_draw_3) (sSeq (b__law_draw_4) (b__law_draw_5)))))
noncomputable def F__law_draw : List D → Sto → Out D := runF 2 5 b__law_draw
theorem fn__law_draw (T : Txt K mg) : Fn P w K mg base 1 "_law_draw" F__law_draw :=
  fn_of (b := b__law_draw) rfl T.t__law_draw rfl rfl sc__law_draw fun _ cdv A outer s H E hr =>
      ms_cons (ms_setIx (me_add (me_ix (mv 0) (me_int)) (me_int)) (mv 0) (me_int))
      (ms_cons (ms_set (me_tup (ma_cons (me_int) (ma_cons (me_neg (me_int)) (ma_nil))) (len_cons (len_cons len_nil))) (mg_tp rfl (mgs_cons (mg_nm 2 sc__law_draw.nd) (mgs_cons (mg_nm 3 sc__law_draw.nd) (mgs_nil)))))
      (ms_cons (ms_if (mt_gt (me_len rfl T.g_len (mq_e (me_ix (mv 0) (me_int)))) (me_int)) (ms_cons (ms_set (me_mod (me_intOf rfl T.g_int bt_int (me_ix (mv 0) (me_int))) (me_len rfl T.g_len (mq_e (me_ix (mv 0) (me_int))))) (mg_nm 3 sc__law_draw.nd)) (ms_one (ms_set (me_ix (me_ix (mv 0) (me_int)) (mv 3)) (mg_nm 2 sc__law_draw.nd)))) (ms_nil))
      (ms_cons (ms_if (mt_ge (mv 2) (me_pow (me_int) (me_int))) (ms_cons (ms_setIx (me_div (me_intOf rfl T.g_int bt_int (mv 2)) (mv 1)) (me_ix (mv 0) (me_int)) (mv 3)) (ms_one (ms_ret (me_mod (me_intOf rfl T.g_int bt_int (mv 2)) (mv 1))))) (ms_nil))
      (ms_cons (ms_set (me_add (me_add (me_mod (me_intOf rfl T.g_int bt_int (mv 2)) (me_int)) (me_mul (me_int) (me_ix (mv 0) (me_int)))) (me_int)) (mg_nm 4 sc__law_draw.nd))
      (ms_one (ms_ret (me_mod (me_intOf rfl T.g_int bt_int (me_mod (me_intOf rfl T.g_int bt_int (me_pow (mv 4) (me_int))) (me_int))) (mv 1))))))))
/-! ### _law_mixed: slots 0 deck, 1 items, 2 left, 3 found, 4 k -/
theorem sc__law_mixed : FnScope ["deck", "items", "left", "found", "k"] ["deck", "items"] (defScope s__law_mixed) := ⟨rfl, rfl, rfl, by decide +kernel, rfl, by decide +kernel, by decide +kernel⟩
noncomputable def b__law_mixed_0 : FS := sPar 2 3 (aC (eL (eB1 oLst (eQ (eV 1)))) (aC (eL (lLst (aN))) (aN)))
noncomputable def b__law_mixed_1 : FS := sFor (iRg1 (eB1 oLenQ (eQ (eV 1)))) (.nm 4) (sExp (eM1 oApp (eV 3) (eM1 oPopAt (eV 2) (eCall F__law_draw (aC (eV 0) (aC (eB1 oLenQ (eQ (eV 2))) (aN)))))))
noncomputable def b__law_mixed_2 : FS := sRet (eV 3)
noncomputable def b__law_mixed : FS := sSeq (b__law_mixed_0) (sSeq (b__law_mixed_1) (b__law_mixed_2))
noncomputable def F__law_mixed : List D → Sto → Out D := runF 2 5 b__law_mixed
theorem fn__law_mixed (T : Txt K mg) : Fn P w K mg base 2 "_law_mixed" F__law_mixed :=
  fn_of (b := b__law_mixed) rfl T.t__law_mixed rfl rfl sc__law_mixed fun _ cdv A outer s H E hr =>
      ms_cons (ms_par (i := 2) (j := 3) rfl sc__law_mixed.nd (ma_cons (me_l (ml_listOf rfl T.g_list bt_list (mq_e (mv 1)))) (ma_cons (me_l (ml_lst (ma_nil) len_nil)) (ma_nil))))
      (ms_cons (ms_for (passes_of rfl) rfl (mi_range1 rfl T.g_range (me_len rfl T.g_len (mq_e (mv 1)))) (mg_nm 4 sc__law_mixed.nd) (ms_one (ms_exp (me_lm1 PySem.F.slot_list_append PySem.F.type_list_append mt_append o2_app (mv 3) (me_lm1 PySem.F.slot_list_pop PySem.F.type_list_pop mt_popAt o2_popAt (mv 2) (me_call (fn__law_draw T) (hr.mono (by decide)) (takes_of rfl rfl rfl rfl) rfl (ma_cons (mv 0) (ma_cons (me_len rfl T.g_len (mq_e (mv 2))) (ma_nil)))))))))
      (ms_one (ms_ret (mv 3))))
/-! ### _law_renumbered: slots 0 web, 1 order, 2 old, 3 one -/
theorem sc__law_renumbered : FnScope ["web", "order", "old", "one"] ["web", "order"] (defScope s__law_renumbered) := ⟨rfl, rfl, rfl, by decide +kernel, rfl, by decide +kernel, by decide +kernel⟩
noncomputable def b__law_renumbered_0 : FS := sRet (eB1 oTup (lQ (lComp [2] (iE (eV 1)) (.nm 2) (tTrue) (eTup (aC (e2 oIx (e2 oIx (eV 0) (eV 2)) (eC (.int 0))) (aC (eB1 oTup (lQ (lComp [3] (iE (e2 oIx (e2 oIx (eV 0) (eV 2)) (eC (.int 1)))) (.nm 3) (tTrue) (eM1 oIndex (eV 1) (eV 3))))) (aN)))))))
noncomputable def b__law_renumbered : FS := b__law_renumbered_0
noncomputable def F__law_renumbered : List D → Sto → Out D := runF 2 4 b__law_renumbered
theorem fn__law_renumbered (T : Txt K mg) : Fn P w K mg base 1 "_law_renumbered" F__law_renumbered :=
  fn_of (b := b__law_renumbered) rfl T.t__law_renumbered rfl rfl sc__law_renumbered fun _ cdv A outer s H E hr =>
      ms_one (ms_ret (me_tupOf rfl T.g_tuple bt_tuple (mq_l (ml_lc (own := [("old", 2)]) rfl sc__law_renumbered.nd (mi_e (mv 1)) (blkOk_by (by kernel_rfl)) (fun _ _ _ _ _ => mg_nm 2 sc__law_renumbered.nd) (fun _ _ _ _ _ => mts_nil) (fun _ _ _ _ _ => me_tup (ma_cons (me_ix (me_ix (mv 0) (mv 2)) (me_int)) (ma_cons (me_tupOf rfl T.g_tuple bt_tuple (mq_l (ml_lc (own := [("one", 3)]) rfl sc__law_renumbered.nd (mi_e (me_ix (me_ix (mv 0) (mv 2)) (me_int))) (blkOk_by (by kernel_rfl)) (fun _ _ _ _ _ => mg_nm 3 sc__law_renumbered.nd) (fun _ _ _ _ _ => mts_nil) (fun _ _ _ _ _ => me_lm1 PySem.F.slot_list_index PySem.F.type_list_index mt_index o2_index (mv 1) (mv 3))))) (ma_nil))) (len_cons (len_cons len_nil)))))))
/-! ### _law_one: slots 0 deck, 1 items -/
theorem sc__law_one : FnScope ["deck", "items"] ["deck", "items"] (defScope s__law_one) := ⟨rfl, rfl, rfl, by decide +kernel, rfl, by decide +kernel, by decide +kernel⟩
noncomputable def b__law_one_0 : FS := sRet (e2 oIx (eV 1) (eCall F__law_draw (aC (eV 0) (aC (eB1 oLenQ (eQ (eV 1))) (aN)))))
noncomputable def b__law_one : FS := b__law_one_0
noncomputable def F__law_one : List D → Sto → Out D := runF 2 2 b__law_one
theorem fn__law_one (T : Txt K mg) : Fn P w K mg base 2 "_law_one" F__law_one :=
  fn_of (b := b__law_one) rfl T.t__law_one rfl rfl sc__law_one fun _ cdv A outer s H E hr =>
      ms_one (ms_ret (me_ix (mv 1) (me_call (fn__law_draw T) (hr.mono (by decide)) (takes_of rfl rfl rfl rfl) rfl (ma_cons (mv 0) (ma_cons (me_len rfl T.g_len (mq_e (mv 1))) (ma_nil))))))
/-! ### _law_kind: slots 0 deck, 1 many, 2 kinds -/
theorem sc__law_kind : FnScope ["deck", "many", "kinds"] ["deck", "many"] (defScope s__law_kind) := ⟨rfl, rfl, rfl, by decide +kernel, rfl, by decide +kernel, by decide +kernel⟩
noncomputable def b__law_kind_0 : FS := sSet (.nm 2) (eL (lLst (aC (eL (lLst (aC (eC (.str "in")) (aC (eC (.str "in")) (aC (eC (.str "in")) (aC (e2 oSub (eCall F__law_draw (aC (eV 0) (aC (eC (.int 199)) (aN)))) (eC (.int 99))) (aC (eC (.int 0)) (aC (eC (.int 7)) (aN))))))))) (aC (eL (lLst (aC (eC (.str "neg")) (aN)))) (aC (eL (lLst (aC (eC (.str "+")) (aC (eC (.str "-")) (aC (eC (.str "*")) (aN)))))) (aC (eL (lLst (aC (eC (.str "pick")) (aN)))) (aN)))))))
noncomputable def b__law_kind_1 : FS := sRet (eCall F__law_one (aC (eV 0) (aC (e2 oIx (eV 2) (eV 1)) (aN))))
noncomputable def b__law_kind : FS := sSeq (b__law_kind_0) (b__law_kind_1)
noncomputable def F__law_kind : List D → Sto → Out D := runF 2 3 b__law_kind
theorem fn__law_kind (T : Txt K mg) : Fn P w K mg base 3 "_law_kind" F__law_kind :=
  fn_of (b := b__law_kind) rfl T.t__law_kind rfl rfl sc__law_kind fun _ cdv A outer s H E hr =>
      ms_cons (ms_set (me_l (ml_lst (ma_cons (me_l (ml_lst (ma_cons (me_str) (ma_cons (me_str) (ma_cons (me_str) (ma_cons (me_sub (me_call (fn__law_draw T) (hr.mono (by decide)) (takes_of rfl rfl rfl rfl) rfl (ma_cons (mv 0) (ma_cons (me_int) (ma_nil)))) (me_int)) (ma_cons (me_int) (ma_cons (me_int) (ma_nil))))))) (len_cons (len_cons (len_cons (len_cons (len_cons (len_cons len_nil)))))))) (ma_cons (me_l (ml_lst (ma_cons (me_str) (ma_nil)) (len_cons len_nil))) (ma_cons (me_l (ml_lst (ma_cons (me_str) (ma_cons (me_str) (ma_cons (me_str) (ma_nil)))) (len_cons (len_cons (len_cons len_nil))))) (ma_cons (me_l (ml_lst (ma_cons (me_str) (ma_nil)) (len_cons len_nil))) (ma_nil))))) (len_cons (len_cons (len_cons (len_cons len_nil)))))) (mg_nm 2 sc__law_kind.nd))
      (ms_one (ms_ret (me_call (fn__law_one T) (hr.mono (by decide)) (takes_of rfl rfl rfl rfl) rfl (ma_cons (mv 0) (ma_cons (me_ix (mv 2) (mv 1)) (ma_nil))))))
/-! ### _law_woven: slots 0 deck, 1 most, 2 is_queue, 3 cells, 4 steps, 5 k, 6 many, 7 taken, 8 mixed -/
theorem sc__law_woven : FnScope ["deck", "most", "is_queue", "cells", "steps", "k", "many", "taken", "mixed"] ["deck", "most", "is_queue"] (defScope s__law_woven) := ⟨rfl, rfl, rfl, by decide +kernel, rfl, by decide +kernel, by decide +kernel⟩
noncomputable def b__law_woven_0 : FS := sPar 3 4 (aC (eL (lLst (aN))) (aC (eL (lLst (aN))) (aN)))
noncomputable def b__law_woven_1_0 : FS := sSet (.nm 6) (eB2 oMin2 (eCall F__law_one (aC (eV 0) (aC (eL (lLst (aC (eC (.int 0)) (aC (eC (.int 0)) (aC (eC (.int 1)) (aC (eC (.int 2)) (aC (eC (.int 2)) (aC (eC (.int 3)) (aN))))))))) (aN)))) (eB1 oLenQ (eQ (eV 3))))
noncomputable def b__law_woven_1_1 : FS := sSet (.nm 7) (eIf (eT (eV 2)) (eSl (eV 3) (pN) (pS1 (eV 6))) (eSl (eV 3) (pS1 (e2 oSub (eB1 oLenQ (eQ (eV 3))) (eV 6))) (pN)))
noncomputable def b__law_woven_1_2 : FS := sSet (.nm 3) (eIf (eT (eV 2)) (eSl (eV 3) (pS1 (eV 6)) (pN)) (eSl (eV 3) (pN) (pS1 (e2 oSub (eB1 oLenQ (eQ (eV 3))) (eV 6)))))
noncomputable def b__law_woven_1_3 : FS := sExp (eM1 oApp (eV 4) (eTup (aC (eCall F__law_kind (aC (eV 0) (aC (eV 6) (aN)))) (aC (eB1 oTup (eQ (eCall F__law_mixed (aC (eV 0) (aC (eV 7) (aN)))))) (aN)))))
noncomputable def b__law_woven_1_4 : FS := sSet (.nm 3) (eL (lCat (lE (eV 3)) (lRep (lLst (aC (eV 5) (aN))) (eCall F__law_draw (aC (eV 0) (aC (eC (.int 4)) (aN)))))))
noncomputable def b__law_woven_1 : FS := sFor (iRg1 (e2 oAdd (eC (.int 1)) (eCall F__law_draw (aC (eV 0) (aC (eV 1) (aN)))))) (.nm 5) (sSeq (b__law_woven_1_0) (sSeq (b__law_woven_1_1) (sSeq (b__law_woven_1_2) (sSeq (b__law_woven_1_3) (b__law_woven_1_4)))))
noncomputable def b__law_woven_2 : FS := sSet (.nm 8) (eCall F__law_mixed (aC (eV 0) (aC (eL (lRg1 (eB1 oLenQ (eQ (eV 4))))) (aN))))
noncomputable def b__law_woven_3 : FS := sRet (eTup (aC (eCall F__law_renumbered (aC (eV 4) (aC (eV 8) (aN)))) (aC (eB1 oTup (lQ (lComp [5] (iRg1 (eB1 oLenQ (eQ (eV 4)))) (.nm 5) (tTrue) (eM1 oIndex (eV 8) (eV 5))))) (aN))))
noncomputable def b__law_woven : FS := sSeq (b__law_woven_0) (sSeq (b__law_woven_1) (sSeq (b__law_woven_2) (b__law_woven_3)))
noncomputable def F__law_woven : List D → Sto → Out D := runF 3 9 b__law_woven
theorem fn__law_woven (T : Txt K mg) : Fn P w K mg base 4 "_law_woven" F__law_woven :=
  fn_of (b := b__law_woven) rfl T.t__law_woven rfl rfl sc__law_woven fun _ cdv A outer s H E hr =>
      ms_cons (ms_par (i := 3) (j := 4) rfl sc__law_woven.nd (ma_cons (me_l (ml_lst (ma_nil) len_nil)) (ma_cons (me_l (ml_lst (ma_nil) len_nil)) (ma_nil))))
      (ms_cons (ms_for (passes_of rfl) rfl (mi_range1 rfl T.g_range (me_add (me_int) (me_call (fn__law_draw T) (hr.mono (by decide)) (takes_of rfl rfl rfl rfl) rfl (ma_cons (mv 0) (ma_cons (mv 1) (ma_nil)))))) (mg_nm 5 sc__law_woven.nd) (ms_cons (ms_set (me_min2 rfl rfl T.g_min bt_min (me_call (fn__law_one T) (hr.mono (by decide)) (takes_of rfl rfl rfl rfl) rfl (ma_cons (mv 0) (ma_cons (me_l (ml_lst (ma_cons (me_int) (ma_cons (me_int) (ma_cons (me_int) (ma_cons (me_int) (ma_cons (me_int) (ma_cons (me_int) (ma_nil))))))) (len_cons (len_cons (len_cons (len_cons (len_cons (len_cons len_nil)))))))) (ma_nil)))) (me_len rfl T.g_len (mq_e (mv 3)))) (mg_nm 6 sc__law_woven.nd)) (ms_cons (ms_set (me_if (mt_val (mv 2)) (me_sl (mv 3) (mo_none) (mo_some (mv 6))) (me_sl (mv 3) (mo_some (me_sub (me_len rfl T.g_len (mq_e (mv 3))) (mv 6))) (mo_none))) (mg_nm 7 sc__law_woven.nd)) (ms_cons (ms_set (me_if (mt_val (mv 2)) (me_sl (mv 3) (mo_some (mv 6)) (mo_none)) (me_sl (mv 3) (mo_none) (mo_some (me_sub (me_len rfl T.g_len (mq_e (mv 3))) (mv 6))))) (mg_nm 3 sc__law_woven.nd)) (ms_cons (ms_exp (me_lm1 PySem.F.slot_list_append PySem.F.type_list_append mt_append o2_app (mv 4) (me_tup (ma_cons (me_call (fn__law_kind T) (hr.mono (by decide)) (takes_of rfl rfl rfl rfl) rfl (ma_cons (mv 0) (ma_cons (mv 6) (ma_nil)))) (ma_cons (me_tupOf rfl T.g_tuple bt_tuple (mq_e (me_call (fn__law_mixed T) (hr.mono (by decide)) (takes_of rfl rfl rfl rfl) rfl (ma_cons (mv 0) (ma_cons (mv 7) (ma_nil)))))) (ma_nil))) (len_cons (len_cons len_nil))))) (ms_one (ms_set (me_l (ml_cat (ml_e (mv 3)) (ml_rep (ml_lst (ma_cons (mv 5) (ma_nil)) (len_cons len_nil)) (me_call (fn__law_draw T) (hr.mono (by decide)) (takes_of rfl rfl rfl rfl) rfl (ma_cons (mv 0) (ma_cons (me_int) (ma_nil))))))) (mg_nm 3 sc__law_woven.nd))))))))
      (ms_cons (ms_set (me_call (fn__law_mixed T) (hr.mono (by decide)) (takes_of rfl rfl rfl rfl) rfl (ma_cons (mv 0) (ma_cons (me_l (ml_range1 rfl rfl T.g_list rfl T.g_range (me_len rfl T.g_len (mq_e (mv 4))))) (ma_nil)))) (mg_nm 8 sc__law_woven.nd))
      (ms_one (ms_ret (me_tup (ma_cons (me_call (fn__law_renumbered T) (hr.mono (by decide)) (takes_of rfl rfl rfl rfl) rfl (ma_cons (mv 4) (ma_cons (mv 8) (ma_nil)))) (ma_cons (me_tupOf rfl T.g_tuple bt_tuple (mq_l (ml_lc (own := [("k", 5)]) rfl sc__law_woven.nd (mi_range1 rfl T.g_range (me_len rfl T.g_len (mq_e (mv 4)))) (blkOk_by (by kernel_rfl)) (fun _ _ _ _ _ => mg_nm 5 sc__law_woven.nd) (fun _ _ _ _ _ => mts_nil) (fun _ _ _ _ _ => me_lm1 PySem.F.slot_list_index PySem.F.type_list_index mt_index o2_index (mv 8) (mv 5))))) (ma_nil))) (len_cons (len_cons len_nil)))))))
/-! ### Passes.is_done: slots 0 self, 1 done -/
theorem sc_Passes_is_done : FnScope ["self", "done"] ["self", "done"] (defScope s_Passes_is_done) := ⟨rfl, rfl, rfl, by decide +kernel, rfl, by decide +kernel, by decide +kernel⟩
noncomputable def b_Passes_is_done_0 : FS := sRet (e2 oEq (eV 1) (e2 oSub (e2 oShl (eC (.int 1)) (e1 (oFld ["Passes"] "many") (eV 0))) (eC (.int 1))))
noncomputable def b_Passes_is_done : FS := b_Passes_is_done_0
noncomputable def F_Passes_is_done : List D → Sto → Out D := runF 2 2 b_Passes_is_done
theorem fn_Passes_is_done (T : Txt K mg) : FnM P w K mg base 1 "Passes" "is_done" F_Passes_is_done :=
  fnM_of (b := b_Passes_is_done) rfl T.t_Passes_is_done rfl rfl sc_Passes_is_done fun _ cdv A outer s H E hr =>
      ms_one (ms_ret (me_eq hr.units (mv 1) (me_sub (me_shl (me_int) (me_fld (fld1 T.f_Passes_many) (mv 0))) (me_int))))
/-! ### Passes.cells: slots 0 self, 1 done, 2 giver, 3 taker, 4 number -/
theorem sc_Passes_cells : FnScope ["self", "done", "giver", "taker", "number"] ["self", "done", "giver"] (defScope s_Passes_cells) := ⟨rfl, rfl, rfl, by decide +kernel, rfl, by decide +kernel, by decide +kernel⟩
noncomputable def b_Passes_cells_0 : FS := sRet (eB1 oSum (lQ (lItems [3, 4] 0 2 "uses" "Passes" [.nm 3, .nm 4] (eT (e2 oEq (e2 oAnd (e2 oShr (eV 1) (eV 3)) (eC (.int 1))) (eC (.int 0)))) (eV 4))))
noncomputable def b_Passes_cells : FS := b_Passes_cells_0
noncomputable def F_Passes_cells : List D → Sto → Out D := runF 3 5 b_Passes_cells
theorem fn_Passes_cells (T : Txt K mg) : FnM P w K mg base 1 "Passes" "cells" F_Passes_cells :=
  fnM_of (b := b_Passes_cells) rfl T.t_Passes_cells rfl rfl sc_Passes_cells fun _ cdv A outer s H E hr =>
      ms_one (ms_ret (me_sum rfl rfl T.g_sum bt_sum (ms_l (ml_items (own := [("taker", 3), ("number", 4)]) (i := 0) (j := 2) rfl sc_Passes_cells.nd ((fld1 T.f_Passes_uses) _ (List.mem_singleton.mpr rfl)) rfl rfl (ok := blkOk_by (by kernel_rfl)) (hg := fun _ _ _ _ _ => mgs_cons (mg_nm 3 sc_Passes_cells.nd) (mgs_cons (mg_nm 4 sc_Passes_cells.nd) (mgs_nil))) (ht := fun _ _ _ _ _ => mts_one (mt_eq hr.units (me_band (me_shr (mv 1) (mv 3)) (me_int)) (me_int))) (he := fun _ _ _ _ _ => mv 4)))))
/-! ### Passes.behind: slots 0 self, 1 done, 2 line, 3 step, 4 later, 5 giver -/
theorem sc_Passes_behind : FnScope ["self", "done", "line", "step", "later", "giver"] ["self", "done", "line", "step"] (defScope s_Passes_behind) := ⟨rfl, rfl, rfl, by decide +kernel, rfl, by decide +kernel, by decide +kernel⟩
noncomputable def b_Passes_behind_0 : FS := sSet (.nm 4) (e2 oOr (eV 1) (e2 oShl (eC (.int 1)) (eV 3)))
noncomputable def b_Passes_behind_1 : FS := sRet (eTup (aC (eV 4) (aC (eB1 oTup (lQ (lComp [5] (iE (e2 oAdd (eV 2) (eTup (aC (eV 3) (aN))))) (.nm 5) (eT (e2 oGt (eMeth "Passes" "cells" F_Passes_cells (eV 0) (aC (eV 4) (aC (eV 5) (aN)))) (eC (.int 0)))) (eV 5)))) (aN))))
noncomputable def b_Passes_behind : FS := sSeq (b_Passes_behind_0) (b_Passes_behind_1)
noncomputable def F_Passes_behind : List D → Sto → Out D := runF 4 6 b_Passes_behind
theorem fn_Passes_behind (T : Txt K mg) : FnM P w K mg base 2 "Passes" "behind" F_Passes_behind :=
  fnM_of (b := b_Passes_behind) rfl T.t_Passes_behind rfl rfl sc_Passes_behind fun _ cdv A outer s H E hr =>
      ms_cons (ms_set (me_bor (mv 1) (me_shl (me_int) (mv 3))) (mg_nm 4 sc_Passes_behind.nd))
      (ms_one (ms_ret (me_tup (ma_cons (mv 4) (ma_cons (me_tupOf rfl T.g_tuple bt_tuple (mq_l (ml_lc (own := [("giver", 5)]) rfl sc_Passes_behind.nd (mi_e (me_add (mv 2) (me_tup (ma_cons (mv 3) (ma_nil)) (len_cons len_nil)))) (blkOk_by (by kernel_rfl)) (fun _ _ _ _ _ => mg_nm 5 sc_Passes_behind.nd) (fun _ _ _ _ _ => mts_one (mt_gt (me_meth (fn_Passes_cells T) (hr.mono (by decide)) takes0 (mv 0) (ma_cons (mv 4) (ma_cons (mv 5) (ma_nil)))) (me_int))) (fun _ _ _ _ _ => mv 5)))) (ma_nil))) (len_cons (len_cons len_nil)))))
/-! ### Passes.finds: slots 0 self, 1 done, 2 line, 3 step, 4 wanted, 5 giver, 6 number -/
theorem sc_Passes_finds : FnScope ["self", "done", "line", "step", "wanted", "giver", "number"] ["self", "done", "line", "step"] (defScope s_Passes_finds) := ⟨rfl, rfl, rfl, by decide +kernel, rfl, by decide +kernel, by decide +kernel⟩
noncomputable def b_Passes_finds_0 : FS := sSet (.nm 4) (eB1 oDCopy (e2 oIx (e1 (oFld ["Passes"] "wants") (eV 0)) (eV 3)))
noncomputable def b_Passes_finds_1_0 : FS := sIf (eT (e1 (oD0 id) (eV 4))) (sRet (eC (.bl true))) (sNx)
noncomputable def b_Passes_finds_1_1 : FS := sSet (.nm 6) (eDPop2 (eV 4) (eV 5) (eC (.int 0)))
noncomputable def b_Passes_finds_1_2 : FS := sIf (tOrF (eT (e2 oEq (eV 6) (eC (.int 0)))) (tAndF (eT (e2 oLt (eV 6) (eMeth "Passes" "cells" F_Passes_cells (eV 0) (aC (eV 1) (aC (eV 5) (aN)))))) (eT (e1 (oD0 not) (eV 4))))) (sRet (eC (.bl false))) (sNx)
noncomputable def b_Passes_finds_1 : FS := sFor (iE (eIf (eT (e1 (oFld ["Passes"] "is_queue") (eV 0))) (eV 2) (e1 oRev (eV 2)))) (.nm 5) (sSeq (b_Passes_finds_1_0) (sSeq (b_Passes_finds_1_1) (b_Passes_finds_1_2)))
noncomputable def b_Passes_finds_2 : FS := sRet (e1 (oD0 id) (eV 4))
noncomputable def b_Passes_finds : FS := sSeq (b_Passes_finds_0) (sSeq (b_Passes_finds_1) (b_Passes_finds_2))
noncomputable def F_Passes_finds : List D → Sto → Out D := runF 4 7 b_Passes_finds
theorem fn_Passes_finds (T : Txt K mg) : FnM P w K mg base 2 "Passes" "finds" F_Passes_finds :=
  fnM_of (b := b_Passes_finds) rfl T.t_Passes_finds rfl rfl sc_Passes_finds fun _ cdv A outer s H E hr =>
      ms_cons (ms_set (me_dictOf rfl T.g_dict bt_dict (me_ix (me_fld (fld1 T.f_Passes_wants) (mv 0)) (mv 3))) (mg_nm 4 sc_Passes_finds.nd))
      (ms_cons (ms_for (passes_of rfl) rfl (mi_e (me_if (mt_val (me_fld (fld1 T.f_Passes_is_queue) (mv 0))) (mv 2) (me_rev (mv 2)))) (mg_nm 5 sc_Passes_finds.nd) (ms_cons (ms_if (mt_eqD0 hr.units (mv 4)) (ms_one (ms_ret (me_bl))) (ms_nil)) (ms_cons (ms_set (me_dpop2 (mv 4) (mv 5) (me_int)) (mg_nm 6 sc_Passes_finds.nd)) (ms_one (ms_if (mt_w (mw_or (mt_eq hr.units (mv 6) (me_int)) (mw_or1 (mt_w (mw_and (mt_lt (mv 6) (me_meth (fn_Passes_cells T) (hr.mono (by decide)) (takes_of rfl rfl rfl rfl) (mv 0) (ma_cons (mv 1) (ma_cons (mv 5) (ma_nil))))) (mw_and1 (mt_neD0 hr.units (mv 4)))))))) (ms_one (ms_ret (me_bl))) (ms_nil))))))
      (ms_one (ms_ret (me_eqD0 hr.units (mv 4)))))
/-! ### Passes.nexts: slots 0 self, 1 done, 2 line, 3 some, 4 step -/
theorem sc_Passes_nexts : FnScope ["self", "done", "line", "some", "step"] ["self", "done", "line"] (defScope s_Passes_nexts) := ⟨rfl, rfl, rfl, by decide +kernel, rfl, by decide +kernel, by decide +kernel⟩
noncomputable def b_Passes_nexts_0 : FS := sSet (.nm 3) (eL (lComp [4] (iRg1 (e1 (oFld ["Passes"] "many") (eV 0))) (.nm 4) (tAndF (eT (e2 oEq (e2 oAnd (e2 oShr (eV 1) (eV 4)) (eC (.int 1))) (eC (.int 0)))) (eT (eMeth "Passes" "finds" F_Passes_finds (eV 0) (aC (eV 1) (aC (eV 2) (aC (eV 4) (aN))))))) (eV 4)))
noncomputable def b_Passes_nexts_1 : FS := sRet (eL (lComp [4] (iE (eV 3)) (.nm 4) (tTrue) (eTup (aC (eV 4) (aC (eMeth "Passes" "behind" F_Passes_behind (eV 0) (aC (eV 1) (aC (eV 2) (aC (eV 4) (aN))))) (aN))))))
noncomputable def b_Passes_nexts : FS := sSeq (b_Passes_nexts_0) (b_Passes_nexts_1)
noncomputable def F_Passes_nexts : List D → Sto → Out D := runF 3 5 b_Passes_nexts
theorem fn_Passes_nexts (T : Txt K mg) : FnM P w K mg base 3 "Passes" "nexts" F_Passes_nexts :=
  fnM_of (b := b_Passes_nexts) rfl T.t_Passes_nexts rfl rfl sc_Passes_nexts fun _ cdv A outer s H E hr =>
      ms_cons (ms_setLc (i := 3) (own := [("step", 4)]) rfl sc_Passes_nexts.nd rfl rfl (sw_true rfl rfl rfl (by decide +kernel)) (mi_range1 rfl T.g_range (me_fld (fld1 T.f_Passes_many) (mv 0))) (blkOk_by (by kernel_rfl)) (fun _ _ _ _ _ => mg_nm 4 sc_Passes_nexts.nd) (fun _ _ _ _ _ => mts_one (mt_w (mw_and (mt_eq hr.units (me_band (me_shr (mv 1) (mv 4)) (me_int)) (me_int)) (mw_and1 (mt_val (me_meth (fn_Passes_finds T) (hr.mono (by decide)) takes0 (mv 0) (ma_cons (mv 1) (ma_cons (mv 2) (ma_cons (mv 4) (ma_nil)))))))))) (fun _ _ _ _ _ => mv 4))
      (ms_one (ms_ret (me_l (ml_lc (own := [("step", 4)]) rfl sc_Passes_nexts.nd (mi_e (mv 3)) (blkOk_by (by kernel_rfl)) (fun _ _ _ _ _ => mg_nm 4 sc_Passes_nexts.nd) (fun _ _ _ _ _ => mts_nil) (fun _ _ _ _ _ => me_tup (ma_cons (mv 4) (ma_cons (me_meth (fn_Passes_behind T) (hr.mono (by decide)) takes0 (mv 0) (ma_cons (mv 1) (ma_cons (mv 2) (ma_cons (mv 4) (ma_nil))))) (ma_nil))) (len_cons (len_cons len_nil)))))))
/-! ### Passes.ways: slots 0 self, 1 done, 2 line, 3 found, 4 step, 5 later, 6 behind -/
theorem sc_Passes_ways : FnScope ["self", "done", "line", "found", "step", "later", "behind"] ["self", "done", "line"] (defScope s_Passes_ways) := ⟨rfl, rfl, rfl, by decide +kernel, rfl, by decide +kernel, by decide +kernel⟩
noncomputable def b_Passes_ways_0 (R : List D → Sto → Out D) : FS := sIf (eT (eMeth "Passes" "is_done" F_Passes_is_done (eV 0) (aC (eV 1) (aN)))) (sRet (eC (.int 1))) (sNx)
noncomputable def b_Passes_ways_1_0 (R : List D → Sto → Out D) : FS := sSet (.nm 3) (eB1 oSum (lQ (lComp [4, 5, 6] (iE (eMeth "Passes" "nexts" F_Passes_nexts (eV 0) (aC (eV 1) (aC (eV 2) (aN))))) (.tp [.nm 4, .tp [.nm 5, .nm 6]]) (tTrue) (eMeth "Passes" "ways" R (eV 0) (aC (eV 5) (aC (eV 6) (aN)))))))
noncomputable def b_Passes_ways_1_1 (R : List D → Sto → Out D) : FS := sNPutF (eV 3) (e1 (oFld ["Passes"] "known") (eV 0)) (eTup (aC (eV 1) (aC (eV 2) (aN))))
noncomputable def b_Passes_ways_1 (R : List D → Sto → Out D) : FS := sIf (eT (e2 oNNin (eTup (aC (eV 1) (aC (eV 2) (aN)))) (e1 (oFld ["Passes"] "known") (eV 0)))) (sSeq (b_Passes_ways_1_0 R) (b_Passes_ways_1_1 R)) (sNx)
noncomputable def b_Passes_ways_2 (R : List D → Sto → Out D) : FS := sRet (e2 oNGet (e1 (oFld ["Passes"] "known") (eV 0)) (eTup (aC (eV 1) (aC (eV 2) (aN)))))
noncomputable def b_Passes_ways (R : List D → Sto → Out D) : FS := sSeq (b_Passes_ways_0 R) (sSeq (b_Passes_ways_1 R) (b_Passes_ways_2 R))
noncomputable def F_Passes_ways : Nat → List D → Sto → Out D
  | 0 => fun _ _ => .bad
  | n + 1 => runF 3 7 (b_Passes_ways (F_Passes_ways n))
theorem rec_Passes_ways (T : Txt K mg) : ∀ n : Nat, FnM P w K mg base (n + 3) "Passes" "ways" (F_Passes_ways n)
  | 0 => T.t_Passes_ways.fn0
  | n + 1 => fnM_of (b := b_Passes_ways (F_Passes_ways n)) rfl T.t_Passes_ways rfl rfl sc_Passes_ways fun _ cdv A outer s H E hr =>
      have hR := rec_Passes_ways T n
      ms_cons (ms_if (mt_val (me_meth (fn_Passes_is_done T) (hr.mono (by omega)) (takes_of rfl rfl rfl rfl) (mv 0) (ma_cons (mv 1) (ma_nil)))) (ms_one (ms_ret (me_int))) (ms_nil))
      (ms_cons (ms_if (mt_nNin (by have := hr.un; omega) (me_tup (ma_cons (mv 1) (ma_cons (mv 2) (ma_nil))) (len_cons (len_cons len_nil))) (me_fld (fld1 T.f_Passes_known) (mv 0))) (ms_cons (ms_set (me_sum rfl rfl T.g_sum bt_sum (ms_l (ml_lc (own := [("step", 4), ("later", 5), ("behind", 6)]) rfl sc_Passes_ways.nd (mi_e (me_meth (fn_Passes_nexts T) (hr.mono (by omega)) (takes_of rfl rfl rfl rfl) (mv 0) (ma_cons (mv 1) (ma_cons (mv 2) (ma_nil))))) (blkOk_by (by kernel_rfl)) (fun _ _ _ _ _ => mg_tp rfl (mgs_cons (mg_nm 4 sc_Passes_ways.nd) (mgs_cons (mg_tp rfl (mgs_cons (mg_nm 5 sc_Passes_ways.nd) (mgs_cons (mg_nm 6 sc_Passes_ways.nd) (mgs_nil)))) (mgs_nil)))) (fun _ _ _ _ _ => mts_nil) (fun _ _ _ _ _ => me_meth hR (hr.mono (Nat.le_refl _)) takes0 (mv 0) (ma_cons (mv 5) (ma_cons (mv 6) (ma_nil))))))) (mg_nm 3 sc_Passes_ways.nd)) (ms_one (ms_nput (by have := hr.un; omega) (mv 3) (me_fld (fld1 T.f_Passes_known) (mv 0)) (me_tup (ma_cons (mv 1) (ma_cons (mv 2) (ma_nil))) (len_cons (len_cons len_nil)))))) (ms_nil))
      (ms_one (ms_ret (me_nGet (by have := hr.un; omega) (me_fld (fld1 T.f_Passes_known) (mv 0)) (me_tup (ma_cons (mv 1) (ma_cons (mv 2) (ma_nil))) (len_cons (len_cons len_nil)))))))
theorem fn_Passes_ways (T : Txt K mg) : FnM P w K mg base 15 "Passes" "ways" (F_Passes_ways 12) := rec_Passes_ways T 12
/-! ### Passes.orders: slots 0 self, 1 waiting, 2 steps, 3 done, 4 line, 5 some, 6 pair, 7 step, 8 standing -/
theorem sc_Passes_orders : GScope ["self", "waiting", "steps", "done", "line", "some", "pair", "step", "standing"] ["self"] (defScope s_Passes_orders) := ⟨rfl, rfl, rfl, by decide +kernel, rfl, by decide +kernel, by decide +kernel⟩
noncomputable def b_Passes_orders_0 : FS := sPl (sSet (.nm 1) (eL (lLst (aC (eTup (aC (eTup (aN)) (aC (eTup (aC (eC (.int 0)) (aC (eTup (aN)) (aN)))) (aN)))) (aN)))))
noncomputable def b_Passes_orders_1_0 : FS := sPl (sSet (.tp [.nm 2, .tp [.nm 3, .nm 4]]) (eM0 oPop (eV 1)))
noncomputable def b_Passes_orders_1_1_e0 : FS := sPl (sSet (.nm 5) (eL (lComp [6] (iE (eMeth "Passes" "nexts" F_Passes_nexts (eV 0) (aC (eV 3) (aC (eV 4) (aN))))) (.nm 6) (eT (e2 oGt (eMeth "Passes" "ways" (F_Passes_ways 12) (eV 0) (aC (e2 oIx (e2 oIx (eV 6) (eC (.int 1))) (eC (.int 0))) (aC (e2 oIx (e2 oIx (eV 6) (eC (.int 1))) (eC (.int 1))) (aN)))) (eC (.int 0)))) (eV 6))))
noncomputable def b_Passes_orders_1_1_e1 : FS := sPl (sExp (eExt (eV 1) (lComp [7, 8] (iE (e1 oRev (eV 5))) (.tp [.nm 7, .nm 8]) (tTrue) (eTup (aC (e2 oAdd (eV 2) (eTup (aC (eV 7) (aN)))) (aC (eV 8) (aN)))))))
noncomputable def b_Passes_orders_1_1 : FS := sIf (eT (eMeth "Passes" "is_done" F_Passes_is_done (eV 0) (aC (eV 3) (aN)))) (sRet (eV 2)) (sSeq (b_Passes_orders_1_1_e0) (b_Passes_orders_1_1_e1))
noncomputable def b_Passes_orders_1 : FS := sWhile (eT (eNil not (eS (eV 1)))) (sSeq (b_Passes_orders_1_0) (b_Passes_orders_1_1))
noncomputable def b_Passes_orders : FS := sSeq (b_Passes_orders_0) (b_Passes_orders_1)
noncomputable def F_Passes_orders : List D → Sto → OutS := runG 1 9 b_Passes_orders
theorem fn_Passes_orders (T : Txt K mg) : FnGen P w K mg base 16 "Passes" "orders" F_Passes_orders :=
  fnGen_of (b := b_Passes_orders) rfl T.t_Passes_orders rfl rfl sc_Passes_orders fun _ cdv A outer s H hr =>
      mf_cons (mf_pl (ms_set (me_l (ml_lst (ma_cons (me_tup (ma_cons (me_tup (ma_nil) len_nil) (ma_cons (me_tup (ma_cons (me_int) (ma_cons (me_tup (ma_nil) len_nil) (ma_nil))) (len_cons (len_cons len_nil))) (ma_nil))) (len_cons (len_cons len_nil))) (ma_nil)) (len_cons len_nil))) (mg_nm 1 sc_Passes_orders.nd)))
      (mf_one (mf_while (passes_of rfl) (mt_neNil hr.units (ms_e (mv 1))) (mf_cons (mf_pl (ms_set (me_lm0 PySem.F.slot_list_pop PySem.F.type_list_pop mt_pop o1_pop (mv 1)) (mg_tp rfl (mgs_cons (mg_nm 2 sc_Passes_orders.nd) (mgs_cons (mg_tp rfl (mgs_cons (mg_nm 3 sc_Passes_orders.nd) (mgs_cons (mg_nm 4 sc_Passes_orders.nd) (mgs_nil)))) (mgs_nil)))))) (mf_one (mf_if (mt_val (me_meth (fn_Passes_is_done T) (hr.mono (by decide)) (takes_of rfl rfl rfl rfl) (mv 0) (ma_cons (mv 3) (ma_nil)))) (mf_one (mf_yield (mv 2))) (mf_cons (mf_pl (ms_setLc (i := 5) (own := [("pair", 6)]) rfl sc_Passes_orders.nd rfl rfl (sw_true rfl rfl rfl (by decide +kernel)) (mi_e (me_meth (fn_Passes_nexts T) (hr.mono (by decide)) (takes_of rfl rfl rfl rfl) (mv 0) (ma_cons (mv 3) (ma_cons (mv 4) (ma_nil))))) (blkOk_by (by kernel_rfl)) (fun _ _ _ _ _ => mg_nm 6 sc_Passes_orders.nd) (fun _ _ _ _ _ => mts_one (mt_gt (me_meth (fn_Passes_ways T) (hr.mono (by decide)) takes0 (mv 0) (ma_cons (me_ix (me_ix (mv 6) (me_int)) (me_int)) (ma_cons (me_ix (me_ix (mv 6) (me_int)) (me_int)) (ma_nil)))) (me_int))) (fun _ _ _ _ _ => mv 6))) (mf_one (mf_pl (ms_exp (me_ext (mv 1) (ml_lc (own := [("step", 7), ("standing", 8)]) rfl sc_Passes_orders.nd (mi_e (me_rev (mv 5))) (blkOk_by (by kernel_rfl)) (fun _ _ _ _ _ => mg_tp rfl (mgs_cons (mg_nm 7 sc_Passes_orders.nd) (mgs_cons (mg_nm 8 sc_Passes_orders.nd) (mgs_nil)))) (fun _ _ _ _ _ => mts_nil) (fun _ _ _ _ _ => me_tup (ma_cons (me_add (mv 2) (me_tup (ma_cons (mv 7) (ma_nil)) (len_cons len_nil))) (ma_cons (mv 8) (ma_nil))) (len_cons (len_cons len_nil))))))))))))))
/-! ### Passes.first_order: slots 0 self, 1 steps -/
theorem sc_Passes_first_order : FnScope ["self", "steps"] ["self"] (defScope s_Passes_first_order) := ⟨rfl, rfl, rfl, by decide +kernel, rfl, by decide +kernel, by decide +kernel⟩
noncomputable def b_Passes_first_order_0 : FS := sForF "Passes" "orders" F_Passes_orders (eV 0) (.nm 1) (sRet (eV 1))
noncomputable def b_Passes_first_order_1 : FS := sRet (eC .non)
noncomputable def b_Passes_first_order : FS := sSeq (b_Passes_first_order_0) (b_Passes_first_order_1)
noncomputable def F_Passes_first_order : List D → Sto → Out D := runF 1 2 b_Passes_first_order
theorem fn_Passes_first_order (T : Txt K mg) : FnM P w K mg base 19 "Passes" "first_order" F_Passes_first_order :=
  fnM_of (b := b_Passes_first_order) rfl T.t_Passes_first_order rfl rfl sc_Passes_first_order fun _ cdv A outer s H E hr =>
      ms_cons (ms_forF (fn_Passes_orders T) (passes_of rfl) (hr.mono (by decide)) (mv 0) (mg_nm 1 sc_Passes_first_order.nd) (ms_one (ms_ret (mv 1))))
      (ms_one (ms_ret (me_non)))
/-! ### ties: slots 0 web, 1 found, 2 taker, 3 kind, 4 inputs, 5 place, 6 giver -/
theorem sc_ties : FnScope ["web", "found", "taker", "kind", "inputs", "place", "giver"] ["web"] (defScope s_ties) := ⟨rfl, rfl, rfl, by decide +kernel, rfl, by decide +kernel, by decide +kernel⟩
noncomputable def b_ties_0 : FS := sSet (.nm 1) (eL (lLst (aN)))
noncomputable def b_ties_1 : FS := sFor (iEn (eV 0)) (.tp [.nm 2, .tp [.nm 3, .nm 4]]) (sExp (eExt (eV 1) (lComp [5, 6] (iEn (eV 4)) (.tp [.nm 5, .nm 6]) (tTrue) (eTup (aC (eV 6) (aC (eV 2) (aC (eV 5) (aN))))))))
noncomputable def b_ties_2 : FS := sRet (eB1 oTup (lQ (eB1 oSorted (eQ (eV 1)))))
noncomputable def b_ties : FS := sSeq (b_ties_0) (sSeq (b_ties_1) (b_ties_2))
noncomputable def F_ties : List D → Sto → Out D := runF 1 7 b_ties
theorem fn_ties (T : Txt K mg) : Fn P w K mg base 1 "ties" F_ties :=
  fn_of (b := b_ties) rfl T.t_ties rfl rfl sc_ties fun _ cdv A outer s H E hr =>
      ms_cons (ms_set (me_l (ml_lst (ma_nil) len_nil)) (mg_nm 1 sc_ties.nd))
      (ms_cons (ms_for (passes_of rfl) rfl (mi_enum rfl T.g_enumerate (mv 0)) (mg_tp rfl (mgs_cons (mg_nm 2 sc_ties.nd) (mgs_cons (mg_tp rfl (mgs_cons (mg_nm 3 sc_ties.nd) (mgs_cons (mg_nm 4 sc_ties.nd) (mgs_nil)))) (mgs_nil)))) (ms_one (ms_exp (me_ext (mv 1) (ml_lc (own := [("place", 5), ("giver", 6)]) rfl sc_ties.nd (mi_enum rfl T.g_enumerate (mv 4)) (blkOk_by (by kernel_rfl)) (fun _ _ _ _ _ => mg_tp rfl (mgs_cons (mg_nm 5 sc_ties.nd) (mgs_cons (mg_nm 6 sc_ties.nd) (mgs_nil)))) (fun _ _ _ _ _ => mts_nil) (fun _ _ _ _ _ => me_tup (ma_cons (mv 6) (ma_cons (mv 2) (ma_cons (mv 5) (ma_nil)))) (len_cons (len_cons (len_cons len_nil)))))))))
      (ms_one (ms_ret (me_tupOf rfl T.g_tuple bt_tuple (mq_l (ml_sorted rfl T.g_sorted bt_sorted (mq_e (mv 1))))))))
/-! ### Passes.__init__: slots 0 self, 1 web, 2 is_queue, 3 giver, 4 taker, 5 place, 6 step -/
theorem sc_Passes_init : FnScope ["self", "web", "is_queue", "giver", "taker", "place", "step"] ["self", "web", "is_queue"] (defScope s_Passes_init) := ⟨rfl, rfl, rfl, by decide +kernel, rfl, by decide +kernel, by decide +kernel⟩
noncomputable def b_Passes_init_0 : FS := sSetF ["Passes"] "many" (eB1 oLenQ (eQ (eV 1))) (eV 0)
noncomputable def b_Passes_init_1 : FS := sSetF ["Passes"] "is_queue" (eV 2) (eV 0)
noncomputable def b_Passes_init_2 : FS := sSetF ["Passes"] "uses" (eL (lComp [6] (iE (eV 1)) (.nm 6) (tTrue) (eDk0))) (eV 0)
noncomputable def b_Passes_init_3 : FS := sSetF ["Passes"] "wants" (eL (lComp [6] (iE (eV 1)) (.nm 6) (tTrue) (eDk0))) (eV 0)
noncomputable def b_Passes_init_4_0 : FS := sDPutF (e2 oAdd (eDGet2 (e2 oIx (e1 (oFld ["Passes"] "uses") (eV 0)) (eV 3)) (eV 4) (eC (.int 0))) (eC (.int 1))) (e2 oIx (e1 (oFld ["Passes"] "uses") (eV 0)) (eV 3)) (eV 4)
noncomputable def b_Passes_init_4_1 : FS := sDPutF (e2 oAdd (eDGet2 (e2 oIx (e1 (oFld ["Passes"] "wants") (eV 0)) (eV 4)) (eV 3) (eC (.int 0))) (eC (.int 1))) (e2 oIx (e1 (oFld ["Passes"] "wants") (eV 0)) (eV 4)) (eV 3)
noncomputable def b_Passes_init_4 : FS := sFor (iE (eCall F_ties (aC (eV 1) (aN)))) (.tp [.nm 3, .nm 4, .nm 5]) (sSeq (b_Passes_init_4_0) (b_Passes_init_4_1))
noncomputable def b_Passes_init_5 : FS := sSetF ["Passes"] "known" (eDn0) (eV 0)
noncomputable def b_Passes_init_6 : FS := sSetF ["Passes"] "peaks" (eDn0) (eV 0)
noncomputable def b_Passes_init : FS := sSeq (b_Passes_init_0) (sSeq (b_Passes_init_1) (sSeq (b_Passes_init_2) (sSeq (b_Passes_init_3) (sSeq (b_Passes_init_4) (sSeq (b_Passes_init_5) (b_Passes_init_6))))))
noncomputable def F_Passes_init : List D → Sto → Out D := runF 3 7 b_Passes_init
theorem fn_Passes_init (T : Txt K mg) : FnI P w K mg base 2 "Passes" F_Passes_init :=
  fnI_of (b := b_Passes_init) rfl T.t_Passes_init rfl rfl sc_Passes_init fun _ cdv A outer s H E hr =>
      ms_cons (ms_setF (fld1 T.f_Passes_many) (me_len rfl T.g_len (mq_e (mv 1))) (mv 0))
      (ms_cons (ms_setF (fld1 T.f_Passes_is_queue) (mv 2) (mv 0))
      (ms_cons (ms_setF (fld1 T.f_Passes_uses) (me_l (ml_lc (own := [("step", 6)]) rfl sc_Passes_init.nd (mi_e (mv 1)) (blkOk_by (by kernel_rfl)) (fun _ _ _ _ _ => mg_nm 6 sc_Passes_init.nd) (fun _ _ _ _ _ => mts_nil) (fun _ _ _ _ _ => me_dk0))) (mv 0))
      (ms_cons (ms_setF (fld1 T.f_Passes_wants) (me_l (ml_lc (own := [("step", 6)]) rfl sc_Passes_init.nd (mi_e (mv 1)) (blkOk_by (by kernel_rfl)) (fun _ _ _ _ _ => mg_nm 6 sc_Passes_init.nd) (fun _ _ _ _ _ => mts_nil) (fun _ _ _ _ _ => me_dk0))) (mv 0))
      (ms_cons (ms_for (passes_of rfl) rfl (mi_e (me_call (fn_ties T) (hr.mono (by decide)) (takes_of rfl rfl rfl rfl) rfl (ma_cons (mv 1) (ma_nil)))) (mg_tp rfl (mgs_cons (mg_nm 3 sc_Passes_init.nd) (mgs_cons (mg_nm 4 sc_Passes_init.nd) (mgs_cons (mg_nm 5 sc_Passes_init.nd) (mgs_nil))))) (ms_cons (ms_dput hr.units (me_add (me_dget2 hr.units (me_ix (me_fld (fld1 T.f_Passes_uses) (mv 0)) (mv 3)) (mv 4) (me_int) ⟨rfl, rfl, rfl, rfl⟩) (me_int)) (me_ix (me_fld (fld1 T.f_Passes_uses) (mv 0)) (mv 3)) (mv 4)) (ms_one (ms_dput hr.units (me_add (me_dget2 hr.units (me_ix (me_fld (fld1 T.f_Passes_wants) (mv 0)) (mv 4)) (mv 3) (me_int) ⟨rfl, rfl, rfl, rfl⟩) (me_int)) (me_ix (me_fld (fld1 T.f_Passes_wants) (mv 0)) (mv 4)) (mv 3)))))
      (ms_cons (ms_setF (fld1 T.f_Passes_known) (me_dn0) (mv 0))
      (ms_one (ms_setF (fld1 T.f_Passes_peaks) (me_dn0) (mv 0))))))))
/-! ### order_of: slots 0 web -/
theorem sc_order_of : FnScope ["web"] ["web"] (defScope s_order_of) := ⟨rfl, rfl, rfl, by decide +kernel, rfl, by decide +kernel, by decide +kernel⟩
noncomputable def b_order_of_0 : FS := sRet (eMeth "Passes" "first_order" F_Passes_first_order (eMk "Passes" F_Passes_init (aC (eV 0) (aC (eC (.bl false)) (aN)))) aN)
noncomputable def b_order_of : FS := b_order_of_0
noncomputable def F_order_of : List D → Sto → Out D := runF 1 1 b_order_of
theorem fn_order_of (T : Txt K mg) : Fn P w K mg base 20 "order_of" F_order_of :=
  fn_of (b := b_order_of) rfl T.t_order_of rfl rfl sc_order_of fun _ cdv A outer s H E hr =>
      ms_one (ms_ret (me_meth0 (fn_Passes_first_order T) (hr.mono (by decide)) (takes_of rfl rfl rfl rfl) (me_mk (fn_Passes_init T) (hr.mono (by decide)) (takes_of rfl rfl rfl rfl) rfl (ma_cons (mv 0) (ma_cons (me_bl) (ma_nil))))))
/-! ### heights: slots 0 web, 1 order, 2 found, 3 here, 4 place, 5 places, 6 step, 7 tie -/
theorem sc_heights : FnScope ["web", "order", "found", "here", "place", "places", "step", "tie"] ["web", "order"] (defScope s_heights) := ⟨rfl, rfl, rfl, by decide +kernel, rfl, by decide +kernel, by decide +kernel⟩
noncomputable def b_heights_0 : FS := sPar 2 3 (aC (eL (lLst (aN))) (aC (eC (.int 0)) (aN)))
noncomputable def b_heights_1 : FS := sSet (.nm 5) (eDc [4, 6] (iEn (eV 1)) (.tp [.nm 4, .nm 6]) (eV 6) (eV 4))
noncomputable def b_heights_2_0 : FS := sSet (.nm 3) (e2 oAdd (eV 3) (eB1 oLenQ (lQ (lComp [7] (iE (eCall F_ties (aC (eV 0) (aN)))) (.nm 7) (eT (e2 oEq (e2 oDGet (eV 5) (e2 oIx (eV 7) (eC (.int 0)))) (eV 4))) (eC (.int 1))))))
noncomputable def b_heights_2_1 : FS := sSet (.nm 3) (e2 oSub (eV 3) (eB1 oLenQ (lQ (lComp [7] (iE (eCall F_ties (aC (eV 0) (aN)))) (.nm 7) (eT (e2 oEq (e2 oDGet (eV 5) (e2 oIx (eV 7) (eC (.int 1)))) (eV 4))) (eC (.int 1))))))
noncomputable def b_heights_2_2 : FS := sExp (eM1 oApp (eV 2) (eV 3))
noncomputable def b_heights_2 : FS := sFor (iRg1 (eB1 oLenQ (eQ (eV 1)))) (.nm 4) (sSeq (b_heights_2_0) (sSeq (b_heights_2_1) (b_heights_2_2)))
noncomputable def b_heights_3 : FS := sRet (eB1 oTup (eQ (eV 2)))
noncomputable def b_heights : FS := sSeq (b_heights_0) (sSeq (b_heights_1) (sSeq (b_heights_2) (b_heights_3)))
noncomputable def F_heights : List D → Sto → Out D := runF 2 8 b_heights
theorem fn_heights (T : Txt K mg) : Fn P w K mg base 2 "heights" F_heights :=
  fn_of (b := b_heights) rfl T.t_heights rfl rfl sc_heights fun _ cdv A outer s H E hr =>
      ms_cons (ms_par (i := 2) (j := 3) rfl sc_heights.nd (ma_cons (me_l (ml_lst (ma_nil) len_nil)) (ma_cons (me_int) (ma_nil))))
      (ms_cons (ms_set (me_dc (own := [("place", 4), ("step", 6)]) rfl sc_heights.nd (mi_enum rfl T.g_enumerate (mv 1)) (blkOk_by (by kernel_rfl)) (fun _ _ _ _ _ => mg_tp rfl (mgs_cons (mg_nm 4 sc_heights.nd) (mgs_cons (mg_nm 6 sc_heights.nd) (mgs_nil)))) (fun _ _ _ _ _ => mv 6) (fun _ _ _ _ _ => mv 4)) (mg_nm 5 sc_heights.nd))
      (ms_cons (ms_for (passes_of rfl) rfl (mi_range1 rfl T.g_range (me_len rfl T.g_len (mq_e (mv 1)))) (mg_nm 4 sc_heights.nd) (ms_cons (ms_set (me_add (mv 3) (me_len rfl T.g_len (mq_l (ml_lc (own := [("tie", 7)]) rfl sc_heights.nd (mi_e (me_call (fn_ties T) (hr.mono (by decide)) (takes_of rfl rfl rfl rfl) rfl (ma_cons (mv 0) (ma_nil)))) (blkOk_by (by kernel_rfl)) (fun _ _ _ _ _ => mg_nm 7 sc_heights.nd) (fun _ _ _ _ _ => mts_one (mt_eq hr.units (me_dget hr.units (mv 5) (me_ix (mv 7) (me_int))) (mv 4))) (fun _ _ _ _ _ => me_int))))) (mg_nm 3 sc_heights.nd)) (ms_cons (ms_set (me_sub (mv 3) (me_len rfl T.g_len (mq_l (ml_lc (own := [("tie", 7)]) rfl sc_heights.nd (mi_e (me_call (fn_ties T) (hr.mono (by decide)) (takes_of rfl rfl rfl rfl) rfl (ma_cons (mv 0) (ma_nil)))) (blkOk_by (by kernel_rfl)) (fun _ _ _ _ _ => mg_nm 7 sc_heights.nd) (fun _ _ _ _ _ => mts_one (mt_eq hr.units (me_dget hr.units (mv 5) (me_ix (mv 7) (me_int))) (mv 4))) (fun _ _ _ _ _ => me_int))))) (mg_nm 3 sc_heights.nd)) (ms_one (ms_exp (me_lm1 PySem.F.slot_list_append PySem.F.type_list_append mt_append o2_app (mv 2) (mv 3)))))))
      (ms_one (ms_ret (me_tupOf rfl T.g_tuple bt_tuple (mq_e (mv 2)))))))
theorem fnk_heights_0 (T : Txt K mg) : FnK P w K mg base 2 "heights" ["order", "web"] [1, 0] F_heights :=
  fnK_of (b := b_heights) rfl T.tk_heights_0 rfl rfl sc_heights fun _ cdv A outer s H E hr =>
      ms_cons (ms_par (i := 2) (j := 3) rfl sc_heights.nd (ma_cons (me_l (ml_lst (ma_nil) len_nil)) (ma_cons (me_int) (ma_nil))))
      (ms_cons (ms_set (me_dc (own := [("place", 4), ("step", 6)]) rfl sc_heights.nd (mi_enum rfl T.g_enumerate (mv 1)) (blkOk_by (by kernel_rfl)) (fun _ _ _ _ _ => mg_tp rfl (mgs_cons (mg_nm 4 sc_heights.nd) (mgs_cons (mg_nm 6 sc_heights.nd) (mgs_nil)))) (fun _ _ _ _ _ => mv 6) (fun _ _ _ _ _ => mv 4)) (mg_nm 5 sc_heights.nd))
      (ms_cons (ms_for (passes_of rfl) rfl (mi_range1 rfl T.g_range (me_len rfl T.g_len (mq_e (mv 1)))) (mg_nm 4 sc_heights.nd) (ms_cons (ms_set (me_add (mv 3) (me_len rfl T.g_len (mq_l (ml_lc (own := [("tie", 7)]) rfl sc_heights.nd (mi_e (me_call (fn_ties T) (hr.mono (by decide)) (takes_of rfl rfl rfl rfl) rfl (ma_cons (mv 0) (ma_nil)))) (blkOk_by (by kernel_rfl)) (fun _ _ _ _ _ => mg_nm 7 sc_heights.nd) (fun _ _ _ _ _ => mts_one (mt_eq hr.units (me_dget hr.units (mv 5) (me_ix (mv 7) (me_int))) (mv 4))) (fun _ _ _ _ _ => me_int))))) (mg_nm 3 sc_heights.nd)) (ms_cons (ms_set (me_sub (mv 3) (me_len rfl T.g_len (mq_l (ml_lc (own := [("tie", 7)]) rfl sc_heights.nd (mi_e (me_call (fn_ties T) (hr.mono (by decide)) (takes_of rfl rfl rfl rfl) rfl (ma_cons (mv 0) (ma_nil)))) (blkOk_by (by kernel_rfl)) (fun _ _ _ _ _ => mg_nm 7 sc_heights.nd) (fun _ _ _ _ _ => mts_one (mt_eq hr.units (me_dget hr.units (mv 5) (me_ix (mv 7) (me_int))) (mv 4))) (fun _ _ _ _ _ => me_int))))) (mg_nm 3 sc_heights.nd)) (ms_one (ms_exp (me_lm1 PySem.F.slot_list_append PySem.F.type_list_append mt_append o2_app (mv 2) (mv 3)))))))
      (ms_one (ms_ret (me_tupOf rfl T.g_tuple bt_tuple (mq_e (mv 2)))))))
/-! ### _law_inputs: slots 0 web, 1 found, 2 step, 3 place -/
theorem sc__law_inputs : FnScope ["web", "found", "step", "place"] ["web"] (defScope s__law_inputs) := ⟨rfl, rfl, rfl, by decide +kernel, rfl, by decide +kernel, by decide +kernel⟩
noncomputable def b__law_inputs_0 : FS := sSet (.nm 1) (eL (lLst (aN)))
noncomputable def b__law_inputs_1 : FS := sFor (iRg1 (eB1 oLenQ (eQ (eV 0)))) (.nm 2) (sExp (eExt (eV 1) (lComp [3] (iRg1 (eB1 oLenQ (eQ (e2 oIx (e2 oIx (eV 0) (eV 2)) (eC (.int 1)))))) (.nm 3) (tTrue) (eTup (aC (eV 2) (aC (eV 3) (aN)))))))
noncomputable def b__law_inputs_2 : FS := sRet (eV 1)
noncomputable def b__law_inputs : FS := sSeq (b__law_inputs_0) (sSeq (b__law_inputs_1) (b__law_inputs_2))
noncomputable def F__law_inputs : List D → Sto → Out D := runF 1 4 b__law_inputs
theorem fn__law_inputs (T : Txt K mg) : Fn P w K mg base 1 "_law_inputs" F__law_inputs :=
  fn_of (b := b__law_inputs) rfl T.t__law_inputs rfl rfl sc__law_inputs fun _ cdv A outer s H E hr =>
      ms_cons (ms_set (me_l (ml_lst (ma_nil) len_nil)) (mg_nm 1 sc__law_inputs.nd))
      (ms_cons (ms_for (passes_of rfl) rfl (mi_range1 rfl T.g_range (me_len rfl T.g_len (mq_e (mv 0)))) (mg_nm 2 sc__law_inputs.nd) (ms_one (ms_exp (me_ext (mv 1) (ml_lc (own := [("place", 3)]) rfl sc__law_inputs.nd (mi_range1 rfl T.g_range (me_len rfl T.g_len (mq_e (me_ix (me_ix (mv 0) (mv 2)) (me_int))))) (blkOk_by (by kernel_rfl)) (fun _ _ _ _ _ => mg_nm 3 sc__law_inputs.nd) (fun _ _ _ _ _ => mts_nil) (fun _ _ _ _ _ => me_tup (ma_cons (mv 2) (ma_cons (mv 3) (ma_nil))) (len_cons (len_cons len_nil))))))))
      (ms_one (ms_ret (mv 1))))
/-! ### _law_ties: slots 0 web, 1 taker, 2 place -/
theorem sc__law_ties : FnScope ["web", "taker", "place"] ["web"] (defScope s__law_ties) := ⟨rfl, rfl, rfl, by decide +kernel, rfl, by decide +kernel, by decide +kernel⟩
noncomputable def b__law_ties_0 : FS := sRet (eL (eB1 oSorted (lQ (lComp [1, 2] (iE (eCall F__law_inputs (aC (eV 0) (aN)))) (.tp [.nm 1, .nm 2]) (tTrue) (eTup (aC (e2 oIx (e2 oIx (e2 oIx (eV 0) (eV 1)) (eC (.int 1))) (eV 2)) (aC (eV 1) (aC (eV 2) (aN)))))))))
noncomputable def b__law_ties : FS := b__law_ties_0
noncomputable def F__law_ties : List D → Sto → Out D := runF 1 3 b__law_ties
theorem fn__law_ties (T : Txt K mg) : Fn P w K mg base 2 "_law_ties" F__law_ties :=
  fn_of (b := b__law_ties) rfl T.t__law_ties rfl rfl sc__law_ties fun _ cdv A outer s H E hr =>
      ms_one (ms_ret (me_l (ml_sorted rfl T.g_sorted bt_sorted (mq_l (ml_lc (own := [("taker", 1), ("place", 2)]) rfl sc__law_ties.nd (mi_e (me_call (fn__law_inputs T) (hr.mono (by decide)) (takes_of rfl rfl rfl rfl) rfl (ma_cons (mv 0) (ma_nil)))) (blkOk_by (by kernel_rfl)) (fun _ _ _ _ _ => mg_tp rfl (mgs_cons (mg_nm 1 sc__law_ties.nd) (mgs_cons (mg_nm 2 sc__law_ties.nd) (mgs_nil)))) (fun _ _ _ _ _ => mts_nil) (fun _ _ _ _ _ => me_tup (ma_cons (me_ix (me_ix (me_ix (mv 0) (mv 1)) (me_int)) (mv 2)) (ma_cons (mv 1) (ma_cons (mv 2) (ma_nil)))) (len_cons (len_cons (len_cons len_nil)))))))))
/-! ### _law_heights: slots 0 web, 1 order, 2 found, 3 at, 4 done, 5 giver, 6 taker, 7 place -/
theorem sc__law_heights : FnScope ["web", "order", "found", "at", "done", "giver", "taker", "place"] ["web", "order"] (defScope s__law_heights) := ⟨rfl, rfl, rfl, by decide +kernel, rfl, by decide +kernel, by decide +kernel⟩
noncomputable def b__law_heights_0 : FS := sSet (.nm 2) (eL (lLst (aN)))
noncomputable def b__law_heights_1_0 : FS := sSet (.nm 4) (eSl (eV 1) (pN) (pS1 (e2 oAdd (eV 3) (eC (.int 1)))))
noncomputable def b__law_heights_1_1 : FS := sExp (eM1 oApp (eV 2) (eB1 oLenQ (lQ (lComp [5, 6, 7] (iE (eCall F__law_ties (aC (eV 0) (aN)))) (.tp [.nm 5, .nm 6, .nm 7]) (tAndF (eT (e2 oIn (eV 5) (eV 4))) (eT (e2 oNin (eV 6) (eV 4)))) (eC (.int 1))))))
noncomputable def b__law_heights_1 : FS := sFor (iRg1 (eB1 oLenQ (eQ (eV 1)))) (.nm 3) (sSeq (b__law_heights_1_0) (b__law_heights_1_1))
noncomputable def b__law_heights_2 : FS := sRet (eB1 oTup (eQ (eV 2)))
noncomputable def b__law_heights : FS := sSeq (b__law_heights_0) (sSeq (b__law_heights_1) (b__law_heights_2))
noncomputable def F__law_heights : List D → Sto → Out D := runF 2 8 b__law_heights
theorem fn__law_heights (T : Txt K mg) : Fn P w K mg base 3 "_law_heights" F__law_heights :=
  fn_of (b := b__law_heights) rfl T.t__law_heights rfl rfl sc__law_heights fun _ cdv A outer s H E hr =>
      ms_cons (ms_set (me_l (ml_lst (ma_nil) len_nil)) (mg_nm 2 sc__law_heights.nd))
      (ms_cons (ms_for (passes_of rfl) rfl (mi_range1 rfl T.g_range (me_len rfl T.g_len (mq_e (mv 1)))) (mg_nm 3 sc__law_heights.nd) (ms_cons (ms_set (me_sl (mv 1) (mo_none) (mo_some (me_add (mv 3) (me_int)))) (mg_nm 4 sc__law_heights.nd)) (ms_one (ms_exp (me_lm1 PySem.F.slot_list_append PySem.F.type_list_append mt_append o2_app (mv 2) (me_len rfl T.g_len (mq_l (ml_lc (own := [("giver", 5), ("taker", 6), ("place", 7)]) rfl sc__law_heights.nd (mi_e (me_call (fn__law_ties T) (hr.mono (by decide)) (takes_of rfl rfl rfl rfl) rfl (ma_cons (mv 0) (ma_nil)))) (blkOk_by (by kernel_rfl)) (fun _ _ _ _ _ => mg_tp rfl (mgs_cons (mg_nm 5 sc__law_heights.nd) (mgs_cons (mg_nm 6 sc__law_heights.nd) (mgs_cons (mg_nm 7 sc__law_heights.nd) (mgs_nil))))) (fun _ _ _ _ _ => mts_one (mt_w (mw_and (mt_in (mv 5) (mv 4)) (mw_and1 (mt_nin (mv 6) (mv 4)))))) (fun _ _ _ _ _ => me_int)))))))))
      (ms_one (ms_ret (me_tupOf rfl T.g_tuple bt_tuple (mq_e (mv 2))))))
/-! ### law: slots 0 script, 1 deck, 2 turn, 3 web, 4 order, 5 row -/
theorem sc_law : FnScope ["script", "deck", "turn", "web", "order", "row"] ["script"] (defScope s_law) := ⟨rfl, rfl, rfl, by decide +kernel, rfl, by decide +kernel, by decide +kernel⟩
noncomputable def b_law_0 : FS := sSet (.nm 1) (eCall F__law_deck (aC (eV 0) (aN)))
noncomputable def b_law_1_0 : FS := sSet (.tp [.nm 3, .nm 4]) (eCall F__law_woven (aC (eV 1) (aC (eCall F__law_one (aC (eV 1) (aC (eL (lLst (aC (eC (.int 8)) (aC (eC (.int 10)) (aN))))) (aN)))) (aC (eC (.bl false)) (aN)))))
noncomputable def b_law_1_1 : FS := sFor (iL (lLst (aC (eV 4) (aC (eCall F_order_of (aC (eV 3) (aN))) (aN))))) (.nm 5) (sIf (eT (e2 oNe (eB1 oRepr (eCall F_heights (aC (eV 3) (aC (eV 5) (aN))))) (eB1 oRepr (eCall F__law_heights (aC (eV 3) (aC (eV 5) (aN))))))) (sRet (eC (.bl false))) (sNx))
noncomputable def b_law_1_2 : FS := sIf (tOrF (eT (e2 oNe (e2 oIx (eCall F_heights (aC (eV 3) (aC (eV 4) (aN)))) (e1 oNeg (eC (.int 1)))) (eC (.int 0)))) (eT (e2 oNe (eCall F_heights (aC (eV 3) (aC (eV 4) (aN)))) (eCallK 2 [1, 0] F_heights (aC (eV 4) (aC (eV 3) (aN))))))) (sRet (eC (.bl false))) (sNx)
noncomputable def b_law_1 : FS := sFor (iRg1 (eC (.int 10))) (.nm 2) (sSeq (b_law_1_0) (sSeq (b_law_1_1) (b_law_1_2)))
noncomputable def b_law_2 : FS := sRet (e2 oEq (eB1 oRepr (eCall F_heights (aC (eTup (aC (eTup (aC (eC (.str "in")) (aC (eTup (aN)) (aN)))) (aC (eTup (aC (eC (.str "pick")) (aC (eTup (aC (eC (.int 0)) (aC (eC (.int 0)) (aC (eC (.int 0)) (aN))))) (aN)))) (aC (eTup (aC (eC (.str "neg")) (aC (eTup (aC (eC (.int 0)) (aN))) (aN)))) (aN))))) (aC (eTup (aC (eC (.int 0)) (aC (eC (.int 1)) (aC (eC (.int 2)) (aN))))) (aN))))) (eC (.str "(4, 1, 0)")))
noncomputable def b_law : FS := sSeq (b_law_0) (sSeq (b_law_1) (b_law_2))
noncomputable def F_law : List D → Sto → Out D := runF 1 6 b_law
theorem fnG_law (T : Txt K mg) {f : Addr} {fd : FuncData} (F : Fun K "law" "law" s_law f fd) : FnG P w K mg base 21 f fd ["script"] (spF K F_law) :=
  fnG_of (b := b_law) rfl F rfl rfl sc_law fun cdv A outer s H E hr hga =>
      ms_cons (ms_set (me_call (fn__law_deck T) (hr.mono (by decide)) (takes_of rfl rfl rfl rfl) rfl (ma_cons (mv 0) (ma_nil))) (mg_nm 1 sc_law.nd))
      (ms_cons (ms_for (passes_of rfl) rfl (mi_range1 rfl T.g_range (me_int)) (mg_nm 2 sc_law.nd) (ms_cons (ms_set (me_call (fn__law_woven T) (hr.mono (by decide)) (takes_of rfl rfl rfl rfl) rfl (ma_cons (mv 1) (ma_cons (me_call (fn__law_one T) (hr.mono (by decide)) (takes_of rfl rfl rfl rfl) rfl (ma_cons (mv 1) (ma_cons (me_l (ml_lst (ma_cons (me_int) (ma_cons (me_int) (ma_nil))) (len_cons (len_cons len_nil)))) (ma_nil)))) (ma_cons (me_bl) (ma_nil))))) (mg_tp rfl (mgs_cons (mg_nm 3 sc_law.nd) (mgs_cons (mg_nm 4 sc_law.nd) (mgs_nil))))) (ms_cons (ms_for (passes_of rfl) rfl (mi_l (ml_lst (ma_cons (mv 4) (ma_cons (me_call (fn_order_of T) (hr.mono (by decide)) (takes_of rfl rfl rfl rfl) rfl (ma_cons (mv 3) (ma_nil))) (ma_nil))) (len_cons (len_cons len_nil)))) (mg_nm 5 sc_law.nd) (ms_one (ms_if (mt_ne hr.units (me_repr hga hr.units rfl T.g_repr bt_repr (me_call (fn_heights T) (hr.mono (by decide)) (takes_of rfl rfl rfl rfl) rfl (ma_cons (mv 3) (ma_cons (mv 5) (ma_nil))))) (me_repr hga hr.units rfl T.g_repr bt_repr (me_call (fn__law_heights T) (hr.mono (by decide)) (takes_of rfl rfl rfl rfl) rfl (ma_cons (mv 3) (ma_cons (mv 5) (ma_nil)))))) (ms_one (ms_ret (me_bl))) (ms_nil)))) (ms_one (ms_if (mt_w (mw_or (mt_ne hr.units (me_ix (me_call (fn_heights T) (hr.mono (by decide)) (takes_of rfl rfl rfl rfl) rfl (ma_cons (mv 3) (ma_cons (mv 4) (ma_nil)))) (me_neg (me_int))) (me_int)) (mw_or1 (mt_ne hr.units (me_call (fn_heights T) (hr.mono (by decide)) (takes_of rfl rfl rfl rfl) rfl (ma_cons (mv 3) (ma_cons (mv 4) (ma_nil)))) (me_callK (fnk_heights_0 T) (hr.mono (by decide)) (takes_of rfl rfl rfl rfl) rfl (mk_cons (mv 4) (mk_cons (mv 3) (mk_nil))) rfl))))) (ms_one (ms_ret (me_bl))) (ms_nil))))))
      (ms_one (ms_ret (me_eq hr.units (me_repr hga hr.units rfl T.g_repr bt_repr (me_call (fn_heights T) (hr.mono (by decide)) (takes_of rfl rfl rfl rfl) rfl (ma_cons (me_tup (ma_cons (me_tup (ma_cons (me_str) (ma_cons (me_tup (ma_nil) len_nil) (ma_nil))) (len_cons (len_cons len_nil))) (ma_cons (me_tup (ma_cons (me_str) (ma_cons (me_tup (ma_cons (me_int) (ma_cons (me_int) (ma_cons (me_int) (ma_nil)))) (len_cons (len_cons (len_cons len_nil)))) (ma_nil))) (len_cons (len_cons len_nil))) (ma_cons (me_tup (ma_cons (me_str) (ma_cons (me_tup (ma_cons (me_int) (ma_nil)) (len_cons len_nil)) (ma_nil))) (len_cons (len_cons len_nil))) (ma_nil)))) (len_cons (len_cons (len_cons len_nil)))) (ma_cons (me_tup (ma_cons (me_int) (ma_cons (me_int) (ma_cons (me_int) (ma_nil)))) (len_cons (len_cons (len_cons len_nil)))) (ma_nil))))) (me_str)))))
end
end Pz

set_option Elab.async false
set_option linter.all false
set_option maxRecDepth 100000
set_option maxHeartbeats 4000000
/-! Pw1: how the functions are reckoned: W o P says that o ends well, and so that P holds. -/
namespace Pz
open PySem PySem.Spec PyProof.Rows L2
@[irreducible] def Out.W {α : Type} (o : Out α) (P : α → Sto → Prop) : Prop := match o with
  | .ok a S => P a S
  | _ => False
@[irreducible] def OutS.W (o : OutS) (N : Loc → Sto → Prop) (R : D → Sto → Prop) (B C : Loc → Sto → Prop) : Prop := match o with
  | .nx l S => N l S
  | .rt d S => R d S
  | .bk l S => B l S
  | .ct l S => C l S
  | _ => False
section
variable {α β : Type} {P : α → Sto → Prop} {Q : β → Sto → Prop} {N : Loc → Sto → Prop} {R : D → Sto → Prop} {B C : Loc → Sto → Prop} {l : Loc} {S : Sto} {f g : FS} {u v : FE}
@[simp] theorem W_ok {a : α} : (Out.ok a S).W P ↔ P a S := by with_unfolding_all exact Iff.rfl
@[simp] theorem W_bad : (Out.bad : Out α).W P ↔ False := by with_unfolding_all exact Iff.rfl
@[simp] theorem W_bind {o : Out α} {k : α → Sto → Out β} : (o.bind k).W Q ↔ o.W fun a S => (k a S).W Q := by cases o <;> with_unfolding_all exact Iff.rfl
theorem Out.W.mono {o : Out α} {P' : α → Sto → Prop} (h : o.W P) (i : ∀ a S, P a S → P' a S) : o.W P' := by
  cases o with
  | ok a S => with_unfolding_all exact i _ _ h
  | ex => with_unfolding_all exact h.elim
  | bad => with_unfolding_all exact h.elim
theorem OutS.W.mono {o : OutS} {N' : Loc → Sto → Prop} {R' : D → Sto → Prop} {B' C' : Loc → Sto → Prop} (h : o.W N R B C) (i : ∀ l S, N l S → N' l S) (j : ∀ d S, R d S → R' d S) (k : ∀ l S, B l S → B' l S) (m : ∀ l S, C l S → C' l S) : o.W N' R' B' C' := by
  cases o with
  | nx l S => with_unfolding_all exact i _ _ h
  | rt d S => with_unfolding_all exact j _ _ h
  | bk l S => with_unfolding_all exact k _ _ h
  | ct l S => with_unfolding_all exact m _ _ h
  | ex => with_unfolding_all exact h.elim
  | bad => with_unfolding_all exact h.elim
theorem W_eq {o : Out α} {a : α} (h : o = .ok a S) : o.W P ↔ P a S := by rw [h]; with_unfolding_all exact Iff.rfl
theorem Out.W.ok {o : Out α} (h : o.W P) : ∃ a S, o = .ok a S ∧ P a S := by
  cases o with
  | ok a S => with_unfolding_all exact ⟨a, S, rfl, h⟩
  | ex => with_unfolding_all exact h.elim
  | bad => with_unfolding_all exact h.elim
theorem W_iff_ok {o : Out α} {a : α} : (o.W fun b S' => b = a ∧ S' = S) ↔ o = .ok a S := by
  cases o with
  | ok b S' =>
    rw [W_ok]
    refine ⟨fun h => by rw [h.1, h.2], fun h => ?_⟩
    cases h
    exact ⟨rfl, rfl⟩
  | ex => exact ⟨fun h => by with_unfolding_all exact h.elim, fun h => by cases h⟩
  | bad => exact ⟨fun h => by with_unfolding_all exact h.elim, fun h => by cases h⟩
def asB (d : D) (X : Bool → Prop) : Prop := match d with
  | .bl k => X k
  | _ => False
def asI (d : D) (X : Int → Prop) : Prop := match d with
  | .int k => X k
  | _ => False
@[simp] theorem asB_bl {k : Bool} {X : Bool → Prop} : asB (.bl k) X ↔ X k := by with_unfolding_all exact Iff.rfl
@[simp] theorem asI_int {k : Int} {X : Int → Prop} : asI (.int k) X ↔ X k := by with_unfolding_all exact Iff.rfl
theorem W_if {c : Prop} [Decidable c] {o o' : Out α} : (if c then o else o').W P ↔ if c then o.W P else o'.W P := by split <;> with_unfolding_all exact Iff.rfl
/-! statements -/
@[simp] theorem W_nx : (OutS.nx l S).W N R B C ↔ N l S := by with_unfolding_all exact Iff.rfl
@[simp] theorem W_rt {d : D} : (OutS.rt d S).W N R B C ↔ R d S := by with_unfolding_all exact Iff.rfl
@[simp] theorem W_bk : (OutS.bk l S).W N R B C ↔ B l S := by with_unfolding_all exact Iff.rfl
@[simp] theorem W_ct : (OutS.ct l S).W N R B C ↔ C l S := by with_unfolding_all exact Iff.rfl
@[simp] theorem W_badS : (OutS.bad).W N R B C ↔ False := by with_unfolding_all exact Iff.rfl
@[simp] theorem W_toS {o : Out α} {k : α → Sto → OutS} : (toS l o k).W N R B C ↔ o.W fun a S => (k a S).W N R B C := by cases o <;> with_unfolding_all exact Iff.rfl
@[simp] theorem W_sNx : (sNx l S).W N R B C ↔ N l S := by with_unfolding_all exact Iff.rfl
@[simp] theorem W_sPass : (sPass l S).W N R B C ↔ N l S := by with_unfolding_all exact Iff.rfl
@[simp] theorem W_sBrk : (sBrk l S).W N R B C ↔ B l S := by with_unfolding_all exact Iff.rfl
@[simp] theorem W_sCnt : (sCnt l S).W N R B C ↔ C l S := by with_unfolding_all exact Iff.rfl
@[simp] theorem W_sSeq : (sSeq f g l S).W N R B C ↔ (f l S).W (fun l S => (g l S).W N R B C) R B C := by
  unfold sSeq
  cases f l S <;> with_unfolding_all exact Iff.rfl
@[simp] theorem W_sExp : (sExp u l S).W N R B C ↔ (u l S).W fun _ S1 => N l S1 := by unfold sExp; rw [W_toS]; with_unfolding_all exact Iff.rfl
@[simp] theorem W_sRet : (sRet u l S).W N R B C ↔ (u l S).W R := by unfold sRet; rw [W_toS]; with_unfolding_all exact Iff.rfl
@[simp] theorem W_sRetN : (sRetN l S).W N R B C ↔ R .non S := by with_unfolding_all exact Iff.rfl
@[simp] theorem W_sIf {t : FT} : (sIf t f g l S).W N R B C ↔ (t l S).W fun k S1 => if k = true then (f l S1).W N R B C else (g l S1).W N R B C := by
  unfold sIf
  rw [W_toS]
  refine iff_of_eq (congrArg _ (funext fun k => funext fun S1 => ?_))
  cases k <;> rfl
@[simp] theorem W_sSetN {i : Nat} : (sSet (.nm i) u l S).W N R B C ↔ (u l S).W fun d S1 => N (l.set i (some d)) S1 := by
  unfold sSet
  rw [W_toS]; with_unfolding_all exact Iff.rfl
@[simp] theorem W_sSetT {ts : List Tg} : (sSet (.tp ts) u l S).W N R B C ↔ (u l S).W fun d S1 => ∃ l1, Tg.put (.tp ts) d l = some l1 ∧ N l1 S1 := by
  unfold sSet
  rw [W_toS]
  refine iff_of_eq (congrArg _ (funext fun d => funext fun S1 => ?_))
  cases Tg.put (.tp ts) d l with
  | none => simp
  | some l1 => simp
@[simp] theorem W_sSetIx {w : FE} : (sSetIx u v w l S).W N R B C ↔ (u l S).W fun d S1 => (v l S1).W fun x S2 => (w l S2).W fun y S3 => ∃ S4, oSetIx d x y S3 = some S4 ∧ N l S4 := by
  unfold sSetIx
  rw [W_toS]
  refine iff_of_eq (congrArg _ (funext fun d => funext fun S1 => ?_))
  rw [W_toS]
  refine congrArg _ (funext fun x => funext fun S2 => ?_)
  rw [W_toS]
  refine congrArg _ (funext fun y => funext fun S3 => ?_)
  cases oSetIx d x y S3 with
  | none => simp
  | some l1 => simp
theorem W_sPar {i j : Nat} {fa : FA} : (sPar i j fa l S).W N R B C ↔ (fa l S).W fun ds S1 => ∃ x y, ds = [x, y] ∧ N ((l.set i (some x)).set j (some y)) S1 := by
  unfold sPar
  rw [W_toS]
  refine iff_of_eq (congrArg _ (funext fun ds => funext fun S1 => ?_))
  match ds with
  | [] => simp
  | [_] => simp
  | [x, y] =>
    refine propext ⟨?_, ?_⟩
    · with_unfolding_all exact fun h => ⟨x, y, rfl, h⟩
    · rintro ⟨_, _, h1, h2⟩
      cases h1
      with_unfolding_all exact h2
  | _ :: _ :: _ :: _ => simp
/-! expressions -/
@[simp] theorem W_eC {d : D} {P : D → Sto → Prop} : (eC d l S).W P ↔ P d S := by with_unfolding_all exact Iff.rfl
theorem W_eV {i : Nat} {P : D → Sto → Prop} : (eV i l S).W P ↔ ∃ d, l[i]? = some (some d) ∧ P d S := by
  unfold eV
  split
  · rename_i d h; rw [h]; simp
  · rename_i h
    constructor
    · with_unfolding_all exact fun q => q.elim
    · rintro ⟨d, h1, _⟩
      with_unfolding_all exact absurd h1 (h d)
@[simp] theorem W_eV0 {x : D} {r : Loc} {P : D → Sto → Prop} : (eV 0 (some x :: r) S).W P ↔ P x S := by with_unfolding_all exact Iff.rfl
@[simp] theorem W_eVs {i : Nat} {x : Option D} {r : Loc} {P : D → Sto → Prop} : (eV (i + 1) (x :: r) S).W P ↔ (eV i r S).W P := by with_unfolding_all exact Iff.rfl
@[simp] theorem W_e1 {o : D → Sto → Out D} {P : D → Sto → Prop} : (e1 o u l S).W P ↔ (u l S).W fun x S1 => (o x S1).W P := by unfold e1; rw [W_bind]
@[simp] theorem W_e2 {o : D → D → Sto → Out D} {P : D → Sto → Prop} : (e2 o u v l S).W P ↔ (u l S).W fun x S1 => (v l S1).W fun y S2 => (o x y S2).W P := by unfold e2; simp only [W_bind]
@[simp] theorem W_eB2 {o : D → D → Sto → Out D} {P : D → Sto → Prop} : (eB2 o u v l S).W P ↔ (u l S).W fun x S1 => (v l S1).W fun y S2 => (o x y S2).W P := W_e2
@[simp] theorem W_eB1 {o : α → Sto → Out β} {w : Loc → Sto → Out α} : (eB1 o w l S).W Q ↔ (w l S).W fun x S1 => (o x S1).W Q := by unfold eB1; rw [W_bind]
@[simp] theorem W_eT {P : Bool → Sto → Prop} : (eT u l S).W P ↔ (u l S).W fun d S1 => asB d fun k => P k S1 := by
  unfold eT
  rw [W_bind]
  refine iff_of_eq (congrArg _ (funext fun d => funext fun S1 => ?_))
  cases d <;> simp [tst, asB]
variable {s t : FT}
@[simp] theorem W_tNotF {P : Bool → Sto → Prop} : (tNotF s l S).W P ↔ (s l S).W fun k S1 => P (!k) S1 := by unfold tNotF; rw [W_bind]; with_unfolding_all exact Iff.rfl
@[simp] theorem W_tAndF {P : Bool → Sto → Prop} : (tAndF s t l S).W P ↔ (s l S).W fun k S1 => if k = true then (t l S1).W P else P false S1 := by
  unfold tAndF
  rw [W_bind]
  refine iff_of_eq (congrArg _ (funext fun k => funext fun S1 => ?_))
  cases k <;> simp
@[simp] theorem W_tOrF {P : Bool → Sto → Prop} : (tOrF s t l S).W P ↔ (s l S).W fun k S1 => if k = true then P true S1 else (t l S1).W P := by
  unfold tOrF
  rw [W_bind]
  refine iff_of_eq (congrArg _ (funext fun k => funext fun S1 => ?_))
  cases k <;> simp
@[simp] theorem W_tTrue {P : Bool → Sto → Prop} : (tTrue l S).W P ↔ P true S := by with_unfolding_all exact Iff.rfl
@[simp] theorem W_eIf {w z : Loc → Sto → Out α} : (eIf s w z l S).W P ↔ (s l S).W fun k S1 => if k = true then (w l S1).W P else (z l S1).W P := by
  unfold eIf
  rw [W_bind]
  refine iff_of_eq (congrArg _ (funext fun k => funext fun S1 => ?_))
  cases k <;> simp
@[simp] theorem W_eNot {P : D → Sto → Prop} : (eNot u l S).W P ↔ (u l S).W fun d S1 => asB d fun k => P (.bl (!k)) S1 := by
  unfold eNot
  rw [W_bind]
  refine iff_of_eq (congrArg _ (funext fun d => funext fun S1 => ?_))
  cases d <;> simp [asB]
@[simp] theorem W_eAnd {P : D → Sto → Prop} : (eAnd u v l S).W P ↔ (u l S).W fun d S1 => asB d fun k => if k = true then (v l S1).W P else P (.bl false) S1 := by
  unfold eAnd
  rw [W_bind]
  refine iff_of_eq (congrArg _ (funext fun d => funext fun S1 => ?_))
  cases d with
  | bl k => cases k <;> simp
  | _ => simp [asB]
@[simp] theorem W_eOr {P : D → Sto → Prop} : (eOr u v l S).W P ↔ (u l S).W fun d S1 => asB d fun k => if k = true then P (.bl true) S1 else (v l S1).W P := by
  unfold eOr
  rw [W_bind]
  refine iff_of_eq (congrArg _ (funext fun d => funext fun S1 => ?_))
  cases d with
  | bl k => cases k <;> simp
  | _ => simp [asB]
@[simp] theorem W_eCh {o o' : D → D → Sto → Out D} {w : FE} {P : D → Sto → Prop} : (eCh o o' u v w l S).W P ↔ (u l S).W fun x S1 => (v l S1).W fun y S2 => (o x y S2).W fun d S3 => asB d fun k => if k = true then (w l S3).W fun z S4 => (o' y z S4).W P else P (.bl false) S3 := by
  unfold eCh
  simp only [W_bind]
  refine iff_of_eq (congrArg _ (funext fun x => funext fun S1 => congrArg _ (funext fun y => funext fun S2 => congrArg _ (funext fun d => funext fun S3 => ?_))))
  cases d with
  | bl k => cases k <;> simp
  | _ => simp [asB]
@[simp] theorem W_eDk0 {P : D → Sto → Prop} : (eDk0 l S).W P ↔ P (.ref S.length) (S ++ [.dk []]) := by with_unfolding_all exact Iff.rfl
@[simp] theorem W_aN {P : List D → Sto → Prop} : (aN l S).W P ↔ P [] S := by with_unfolding_all exact Iff.rfl
@[simp] theorem W_aC {fa : FA} {P : List D → Sto → Prop} : (aC u fa l S).W P ↔ (u l S).W fun x S1 => (fa l S1).W fun xs S2 => P (x :: xs) S2 := by unfold aC; simp only [W_bind, W_ok]
@[simp] theorem W_eTup {fa : FA} {P : D → Sto → Prop} : (eTup fa l S).W P ↔ (fa l S).W fun ds S1 => P (.tup ds) S1 := by unfold eTup; simp only [W_bind, W_ok]
@[simp] theorem W_lLst {fa : FA} {P : LV → Sto → Prop} : (lLst fa l S).W P ↔ (fa l S).W fun ds S1 => P (.tmp ds) S1 := by unfold lLst; simp only [W_bind, W_ok]
@[simp] theorem W_eCall {F : List D → Sto → Out D} {fa : FA} {P : D → Sto → Prop} : (eCall F fa l S).W P ↔ (fa l S).W fun ds S1 => (F ds S1).W P := by unfold eCall; simp only [W_bind]
def oeL (x : LV) (S1 : Sto) : Out D := match x with
  | .tmp xs => .ok (.ref S1.length) (S1 ++ [.lst xs])
  | .at n => .ok (.ref n) S1
@[simp] theorem W_eL {w : FL} {P : D → Sto → Prop} : (eL w l S).W P ↔ (w l S).W fun x S1 => (oeL x S1).W P := by unfold eL; rw [W_bind]; with_unfolding_all exact Iff.rfl
@[simp] theorem oeL_tmp {xs : List D} : oeL (.tmp xs) S = .ok (.ref S.length) (S ++ [.lst xs]) := rfl
@[simp] theorem oeL_at {n : Nat} : oeL (.at n) S = .ok (.ref n) S := rfl
@[simp] theorem W_lE {P : LV → Sto → Prop} : (lE u l S).W P ↔ (u l S).W fun d S1 => (toAt d S1).W P := by unfold lE; rw [W_bind]
@[simp] theorem toAt_ref {n : Nat} : toAt (.ref n) S = .ok (.at n) S := rfl
@[simp] theorem W_eQ {P : List D → Sto → Prop} : (eQ u l S).W P ↔ (u l S).W fun d S1 => (qD d S1).W P := by unfold eQ; rw [W_bind]
@[simp] theorem W_eS {P : List D → Sto → Prop} : (eS u l S).W P ↔ (u l S).W fun d S1 => (sD d S1).W P := by unfold eS; rw [W_bind]
@[simp] theorem W_lQ {w : FL} {P : List D → Sto → Prop} : (lQ w l S).W P ↔ (w l S).W fun d S1 => (qL d S1).W P := by unfold lQ; rw [W_bind]
@[simp] theorem W_eNil {k : Bool → Bool} {w : FQ} {P : D → Sto → Prop} : (eNil k w l S).W P ↔ (w l S).W fun xs S1 => P (.bl (k xs.isEmpty)) S1 := by unfold eNil; rw [W_bind]; with_unfolding_all exact Iff.rfl
theorem W_qD {d : D} {P : List D → Sto → Prop} : (qD d S).W P ↔ ∃ xs, seqD S d = some xs ∧ P xs S := by
  unfold qD
  cases seqD S d with
  | none => simp
  | some xs => simp
@[simp] theorem qD_tup {xs : List D} : qD (.tup xs) S = .ok xs S := rfl
@[simp] theorem qD_rl {xs : List D} : qD (.rl xs) S = .ok xs S := rfl
@[simp] theorem sD_rl {xs : List D} : sD (.rl xs) S = .ok xs S := rfl
theorem qD_ref {n : Nat} {xs : List D} (h : S[n]? = some (.lst xs)) : qD (.ref n) S = .ok xs S := by simp only [qD, seqD, h]
theorem sD_ref {n : Nat} {xs : List D} (h : S[n]? = some (.lst xs)) : sD (.ref n) S = .ok xs S := by simp only [sD, seqD, h]
@[simp] theorem qL_tmp {xs : List D} : qL (.tmp xs) S = .ok xs S := rfl
theorem qL_at {n : Nat} {xs : List D} (h : S[n]? = some (.lst xs)) : qL (.at n) S = .ok xs S := by simp only [qL, LV.get, h]
@[simp] theorem W_eM1 {k : D → D → Sto → Out D} {P : D → Sto → Prop} : (eM1 k u v l S).W P ↔ (u l S).W fun x S1 => (isL x S1).W fun _ _ => (v l S1).W fun y S2 => (k x y S2).W P := by unfold eM1; simp only [W_bind]
@[simp] theorem W_eM0 {k : D → Sto → Out D} {P : D → Sto → Prop} : (eM0 k u l S).W P ↔ (u l S).W fun x S1 => (isL x S1).W fun _ _ => (k x S1).W P := by unfold eM0; simp only [W_bind]
theorem W_isL {n : Nat} {xs : List D} {P : D → Sto → Prop} (h : S[n]? = some (.lst xs)) : (isL (.ref n) S).W P ↔ P (.ref n) S := by simp only [isL, h, W_ok]
@[simp] theorem W_pN {P : Option Int → Sto → Prop} : (pN l S).W P ↔ P none S := by with_unfolding_all exact Iff.rfl
@[simp] theorem W_pS1 {P : Option Int → Sto → Prop} : (pS1 u l S).W P ↔ (u l S).W fun d S1 => asI d fun i => P (some i) S1 := by
  unfold pS1
  rw [W_bind]
  refine iff_of_eq (congrArg _ (funext fun d => funext fun S1 => ?_))
  cases d <;> simp [oPart, asI]
@[simp] theorem W_eSl {a b : FO} {P : D → Sto → Prop} : (eSl u a b l S).W P ↔ (u l S).W fun x S1 => (a l S1).W fun i S2 => (b l S2).W fun j S3 => (oSl x i j S3).W P := by unfold eSl; simp only [W_bind]
@[simp] theorem oSl_tup {xs : List D} {i j : Option Int} : oSl (.tup xs) i j S = .ok (.tup (cutL xs i j)) S := rfl
@[simp] theorem oSl_rl {xs : List D} {i j : Option Int} : oSl (.rl xs) i j S = .ok (.ref S.length) (S ++ [.lst (cutL xs i j)]) := rfl
theorem oSl_ref {n : Nat} {xs : List D} {i j : Option Int} (h : S[n]? = some (.lst xs)) : oSl (.ref n) i j S = .ok (.ref S.length) (S ++ [.lst (cutL xs i j)]) := by simp only [oSl, h]
def olSlR (x : D) (i j : Option Int) (S3 : Sto) : Out LV := match x with
  | .rl xs => .ok (.tmp (cutL xs i j)) S3
  | .ref n => match S3[n]? with
    | some (.lst xs) => .ok (.tmp (cutL xs i j)) S3
    | _ => .bad
  | _ => .bad
@[simp] theorem W_lSlR {a b : FO} {P : LV → Sto → Prop} : (lSlR u a b l S).W P ↔ (u l S).W fun x S1 => (a l S1).W fun i S2 => (b l S2).W fun j S3 => (olSlR x i j S3).W P := by unfold lSlR; simp only [W_bind]; with_unfolding_all exact Iff.rfl
@[simp] theorem olSlR_rl {xs : List D} {i j : Option Int} : olSlR (.rl xs) i j S = .ok (.tmp (cutL xs i j)) S := rfl
theorem olSlR_ref {n : Nat} {xs : List D} {i j : Option Int} (h : S[n]? = some (.lst xs)) : olSlR (.ref n) i j S = .ok (.tmp (cutL xs i j)) S := by simp only [olSlR, h]
def olCat (x y : LV) (S2 : Sto) : Out LV := match x.get S2, y.get S2 with
  | some xs, some ys => if xs.length + ys.length ≤ sizeLine then .ok (.tmp (xs ++ ys)) S2 else .bad
  | _, _ => .bad
@[simp] theorem W_lCat {w z : FL} {P : LV → Sto → Prop} : (lCat w z l S).W P ↔ (w l S).W fun x S1 => (z l S1).W fun y S2 => (olCat x y S2).W P := by unfold lCat; simp only [W_bind]; with_unfolding_all exact Iff.rfl
theorem W_olCat {x y : LV} {xs ys : List D} {P : LV → Sto → Prop} (hx : x.get S = some xs) (hy : y.get S = some ys) (hz : xs.length + ys.length ≤ sizeLine) : (olCat x y S).W P ↔ P (.tmp (xs ++ ys)) S := by simp only [olCat, hx, hy, if_pos hz, W_ok]
def olRep (x : LV) (y : D) (S2 : Sto) : Out LV := match x.get S2, y with
  | some xs, .int k => if k < 2 ^ 63 ∧ -(2 ^ 63) ≤ k ∧ xs.length * k.toNat ≤ sizeLine then .ok (.tmp (List.replicate k.toNat xs).flatten) S2 else .bad
  | _, _ => .bad
@[simp] theorem W_lRep {w : FL} {P : LV → Sto → Prop} : (lRep w u l S).W P ↔ (w l S).W fun x S1 => (u l S1).W fun y S2 => (olRep x y S2).W P := by unfold lRep; simp only [W_bind]; with_unfolding_all exact Iff.rfl
theorem W_olRep {x : LV} {k : Int} {xs : List D} {P : LV → Sto → Prop} (hx : x.get S = some xs) (hk : k < 2 ^ 63 ∧ -(2 ^ 63) ≤ k ∧ xs.length * k.toNat ≤ sizeLine) : (olRep x (.int k) S).W P ↔ P (.tmp (List.replicate k.toNat xs).flatten) S := by simp only [olRep, hx, if_pos hk, W_ok]
@[simp] theorem get_tmp {xs : List D} : (LV.tmp xs).get S = some xs := rfl
theorem get_at {n : Nat} {xs : List D} (h : S[n]? = some (.lst xs)) : (LV.at n).get S = some xs := by simp only [LV.get, h]
@[simp] theorem W_lRg1 {P : LV → Sto → Prop} : (lRg1 u l S).W P ↔ (u l S).W fun x S1 => asI x fun n => (lRg 0 n S1).W P := by
  unfold lRg1
  rw [W_bind]
  refine iff_of_eq (congrArg _ (funext fun d => funext fun S1 => ?_))
  cases d <;> simp [asI]
@[simp] theorem W_lRg2 {P : LV → Sto → Prop} : (lRg2 u v l S).W P ↔ (u l S).W fun x S1 => (v l S1).W fun y S2 => asI x fun i => asI y fun j => (lRg i j S2).W P := by
  unfold lRg2
  simp only [W_bind]
  refine iff_of_eq (congrArg _ (funext fun d => funext fun S1 => congrArg _ (funext fun d' => funext fun S2 => ?_)))
  cases d <;> cases d' <;> simp [asI]
theorem W_lRg {a b : Int} {P : LV → Sto → Prop} (h : rgOk a b = true) : (lRg a b S).W P ↔ P (.tmp (rgD a b)) S := by simp only [lRg, h, if_true, W_ok]
@[simp] theorem W_sPar2 {i j : Nat} : (sPar i j (aC u (aC v aN)) l S).W N R B C ↔ (u l S).W fun x S1 => (v l S1).W fun y S2 => N ((l.set i (some x)).set j (some y)) S2 := by
  rw [W_sPar]
  simp only [W_aC, W_aN]
  refine iff_of_eq (congrArg _ (funext fun x => funext fun S1 => congrArg _ (funext fun y => funext fun S2 => propext ⟨?_, fun h => ⟨x, y, rfl, h⟩⟩)))
  rintro ⟨_, _, h1, h2⟩
  cases h1
  with_unfolding_all exact h2
end
end Pz

set_option Elab.async false
set_option linter.all false
set_option maxRecDepth 100000
set_option maxHeartbeats 4000000
/-! Pw2: the operators' values; loops; comprehensions; a def. -/
namespace Pz
open PySem PySem.Spec PyProof.Rows L2
section
variable {S : Sto} {i j : Int} {b c : Bool} {xs ys : List D}
@[simp] theorem oAdd_int : oAdd (.int i) (.int j) S = .ok (.int (i + j)) S := rfl
@[simp] theorem oSub_int : oSub (.int i) (.int j) S = .ok (.int (i - j)) S := rfl
@[simp] theorem oLt_int : oLt (.int i) (.int j) S = .ok (.bl (decide (i < j))) S := rfl
@[simp] theorem oLe_int : oLe (.int i) (.int j) S = .ok (.bl (decide (i ≤ j))) S := rfl
@[simp] theorem oGt_int : oGt (.int i) (.int j) S = .ok (.bl (decide (j < i))) S := rfl
@[simp] theorem oGe_int : oGe (.int i) (.int j) S = .ok (.bl (decide (j ≤ i))) S := rfl
@[simp] theorem oNeg_int : oNeg (.int i) S = .ok (.int (-i)) S := rfl
@[simp] theorem oMax2_int : oMax2 (.int i) (.int j) S = .ok (.int (if j > i then j else i)) S := rfl
@[simp] theorem oMin2_int : oMin2 (.int i) (.int j) S = .ok (.int (if j < i then j else i)) S := rfl
@[simp] theorem oAbs_int : oAbs (.int i) S = .ok (.int (if i < 0 then -i else i)) S := rfl
@[simp] theorem oInt_int : oInt (.int i) S = .ok (.int i) S := rfl
theorem oMod_int (h : j ≠ 0) : oMod (.int i) (.int j) S = .ok (.int (i.fmod j)) S := by
  show (if cMod i j = true then _ else _) = _
  rw [if_pos (by simpa [cMod] using h)]
theorem oMod_pos (h : 0 < j) : oMod (.int i) (.int j) S = .ok (.int (i % j)) S := by
  rw [oMod_int (by omega), Int.fmod_eq_emod_of_nonneg i (by omega)]
theorem oDiv_int (h : j ≠ 0) (h2 : j.natAbs < 1073741824) : oDiv (.int i) (.int j) S = .ok (.int (i.fdiv j)) S := by
  show (if cDiv i j = true then _ else _) = _
  rw [if_pos (by simp [cDiv, h, h2])]
theorem oDiv_pos (h : 0 < j) (h2 : j < 1073741824) : oDiv (.int i) (.int j) S = .ok (.int (i / j)) S := by
  rw [oDiv_int (by omega) (by omega), Int.fdiv_eq_ediv_of_nonneg i (by omega)]
theorem oMul_int (h : cMul i j = true) : oMul (.int i) (.int j) S = .ok (.int (i * j)) S := by
  show (if cMul i j = true then _ else _) = _
  rw [if_pos h]
theorem oPow_int (h : cPow i j = true) : oPow (.int i) (.int j) S = .ok (.int (i ^ j.toNat)) S := by
  show (if cPow i j = true then _ else _) = _
  rw [if_pos h]
theorem oAdd_tup (h : xs.length + ys.length ≤ sizeLine) : oAdd (.tup xs) (.tup ys) S = .ok (.tup (xs ++ ys)) S := by simp only [oAdd, if_pos h]
theorem oEq_of {x y : D} (h : dEq S x y = some b) : oEq x y S = .ok (.bl b) S := by simp only [oEq, h]
theorem oNe_of {x y : D} (h : dEq S x y = some b) : oNe x y S = .ok (.bl (!b)) S := by simp only [oNe, h]
@[simp] theorem oEq_int : oEq (.int i) (.int j) S = .ok (.bl (decide (i = j))) S := rfl
@[simp] theorem oNe_int : oNe (.int i) (.int j) S = .ok (.bl (!decide (i = j))) S := rfl
@[simp] theorem oEq_str {x y : Str} : oEq (.str x) (.str y) S = .ok (.bl (decide (x = y))) S := rfl
@[simp] theorem oNe_str {x y : Str} : oNe (.str x) (.str y) S = .ok (.bl (!decide (x = y))) S := rfl
@[simp] theorem oIs_non {x : D} : oIs x .non S = .ok (.bl (dNon x)) S := rfl
@[simp] theorem oIsN_non {x : D} : oIsN x .non S = .ok (.bl (!dNon x)) S := rfl
@[simp] theorem dNon_non : dNon .non = true := rfl
@[simp] theorem dNon_int : dNon (.int i) = false := rfl
@[simp] theorem dNon_str {x : Str} : dNon (.str x) = false := rfl
@[simp] theorem dNon_tup : dNon (.tup xs) = false := rfl
@[simp] theorem dNon_ref {n : Nat} : dNon (.ref n) = false := rfl
theorem oIsi_of {T t : String} {x : D} (h : tyD S x = some t) : oIsi T x S = .ok (.bl (isB t T)) S := by simp only [oIsi, h]
@[simp] theorem oLenQ_eq : oLenQ xs S = .ok (.int xs.length) S := rfl
@[simp] theorem oTup_eq : oTup xs S = .ok (.tup xs) S := rfl
@[simp] theorem oLst_eq : oLst xs S = .ok (.tmp xs) S := rfl
@[simp] theorem oEmpT_tup {k : Bool → Bool} : oEmpT k (.tup xs) S = .ok (.bl (k xs.isEmpty)) S := rfl
theorem atI_nat {α : Type} {xs : List α} {k : Nat} : L2.atI xs (k : Int) = xs[k]? := by
  unfold L2.atI ixN
  rw [if_pos (by omega)]
  by_cases h : k < xs.length
  · rw [if_pos (by omega)]; simp
  · rw [if_neg (by omega)]
    simp only [Option.bind_none]
    rw [List.getElem?_eq_none (by omega)]
theorem atI_int {α : Type} {xs : List α} (h : 0 ≤ i) : L2.atI xs i = xs[i.toNat]? := by
  obtain ⟨k, rfl⟩ := Int.eq_ofNat_of_zero_le h
  rw [atI_nat, Int.toNat_natCast]
@[simp] theorem atI_0 {α : Type} {x : α} {xs : List α} : L2.atI (x :: xs) 0 = some x := by rw [atI_int (by omega)]; rfl
@[simp] theorem atI_1 {α : Type} {x y : α} {xs : List α} : L2.atI (x :: y :: xs) 1 = some y := by rw [atI_int (by omega)]; rfl
@[simp] theorem atI_2 {α : Type} {x y z : α} {xs : List α} : L2.atI (x :: y :: z :: xs) 2 = some z := by rw [atI_int (by omega)]; rfl
theorem oIx_tup {d : D} (h : L2.atI xs i = some d) : oIx (.tup xs) (.int i) S = .ok d S := by
  simp only [oIx, seqD, h]
theorem oIx_ref {n : Nat} {d : D} (hn : S[n]? = some (.lst xs)) (h : L2.atI xs i = some d) : oIx (.ref n) (.int i) S = .ok d S := by
  simp only [oIx, seqD, hn, h]
theorem oIx_seq {x d : D} (hn : seqD S x = some xs) (h : L2.atI xs i = some d) : oIx x (.int i) S = .ok d S := by
  cases x with
  | str z => cases hn
  | _ => simp only [oIx, hn, h]
theorem oApp_ref {n : Nat} {y : D} (hn : S[n]? = some (.lst xs)) (h : xs.length < sizeLine) : oApp (.ref n) y S = .ok .non (S.set n (.lst (xs ++ [y]))) := by simp only [oApp, hn, if_pos h]
theorem oPop_ref {n : Nat} {y : D} (hn : S[n]? = some (.lst (xs ++ [y]))) : oPop (.ref n) S = .ok y (S.set n (.lst xs)) := by
  simp only [oPop, hn]
  have e : (xs ++ [y])[(xs ++ [y]).length - 1]? = some y := by simp
  rw [e]
  simp
theorem ixN_int {n : Nat} (h0 : 0 ≤ i) (h1 : i < n) : ixN n i = some i.toNat := by
  unfold ixN
  rw [if_pos h0, if_pos h1]
theorem oPopAt_ref {n : Nat} {y : D} (hn : S[n]? = some (.lst xs)) (h0 : 0 ≤ i) (hy : xs[i.toNat]? = some y) (hi : i < 2 ^ 63) : oPopAt (.ref n) (.int i) S = .ok y (S.set n (.lst (xs.eraseIdx i.toNat))) := by
  have hl := (List.getElem?_eq_some_iff.mp hy).1
  simp only [oPopAt, hn]
  rw [ixN_int h0 (by omega)]
  simp only [hy]
  rw [if_pos ⟨by omega, hi⟩]
theorem oSetIx_ref {n : Nat} {v : D} (hn : S[n]? = some (.lst xs)) (h0 : 0 ≤ i) (h1 : i < xs.length) : oSetIx v (.ref n) (.int i) S = some (S.set n (.lst (xs.set i.toNat v))) := by
  simp only [oSetIx, hn]
  rw [ixN_int h0 h1]
end
section
variable {N : Loc → Sto → Prop} {R : D → Sto → Prop} {B C : Loc → Sto → Prop} {l : Loc} {S : Sto} {f g : FS}
theorem W_forL {gd : Sto → Prop} {t : Tg} {b : FS} (I : Nat → Loc → Sto → Prop) : ∀ (xs : List D) (k : Nat) {l : Loc} {S : Sto}, I k l S →
    (∀ i x l S, xs[i]? = some x → I (k + i) l S → gd S ∧ ∃ l1, t.put x l = some l1 ∧ (b l1 S).W (I (k + i + 1)) R N (I (k + i + 1))) → (∀ l S, I (k + xs.length) l S → gd S ∧ N l S) → (forL gd t b xs l S).W N R B C
  | [], k, l, S, h0, hs, he => by
    obtain ⟨h1, h2⟩ := he l S h0
    unfold forL
    rw [if_pos h1]
    with_unfolding_all exact h2
  | x :: xs, k, l, S, h0, hs, he => by
    obtain ⟨h1, l1, h2, h3⟩ := hs 0 x l S rfl h0
    unfold forL
    rw [if_pos h1]
    simp only [h2]
    have nx : ∀ l2 S2, I (k + 0 + 1) l2 S2 → (forL gd t b xs l2 S2).W N R B C := fun l2 S2 q => W_forL I xs (k + 1) (by simpa using q) (fun i y l S e q => by
      have := hs (i + 1) y l S (by simpa using e) (by rw [show k + (i + 1) = k + 1 + i by omega]; with_unfolding_all exact q)
      rw [show k + (i + 1) = k + 1 + i by omega] at this
      with_unfolding_all exact this) fun l S q => he l S (by rw [List.length_cons, show k + (xs.length + 1) = k + 1 + xs.length by omega]; with_unfolding_all exact q)
    cases e : b l1 S with
    | nx l2 S2 => rw [e] at h3; with_unfolding_all exact nx l2 S2 h3
    | ct l2 S2 => rw [e] at h3; with_unfolding_all exact nx l2 S2 h3
    | bk l2 S2 => rw [e] at h3; with_unfolding_all exact h3
    | rt d S2 => rw [e] at h3; with_unfolding_all exact h3
    | ex => rw [e] at h3; with_unfolding_all exact h3.elim
    | bad => rw [e] at h3; with_unfolding_all exact h3.elim
@[simp] theorem W_sFor {fi : FI} {t : Tg} {b : FS} : (sFor fi t b l S).W N R B C ↔ (fi l S).W fun x S1 => (forL x.gd t b x.its l S1).W N R B C := by unfold sFor; rw [W_toS]
theorem W_loopW {t : FT} {b : FS} (I : Nat → Loc → Sto → Prop) (hs : ∀ k l S, I k l S → (t l S).W fun c S1 => if c = true then (b l S1).W (fun l2 S2 => ∃ j, j < k ∧ I j l2 S2) R N (fun l2 S2 => ∃ j, j < k ∧ I j l2 S2) else N l S1) :
    ∀ (n k : Nat) (l : Loc) (S : Sto), k < n → I k l S → (loopW t b n l S).W N R B C
  | 0, k, l, S, h, _ => absurd h (Nat.not_lt_zero _)
  | n + 1, k, l, S, h, q => by
    unfold loopW
    rw [W_toS]
    refine (hs k l S q).mono fun c S1 w => ?_
    cases c with
    | false => simpa using w
    | true =>
      simp only [if_true] at w ⊢
      have nx : ∀ l2 S2, (∃ j, j < k ∧ I j l2 S2) → (loopW t b n l2 S2).W N R B C := fun l2 S2 ⟨j, h1, h2⟩ => W_loopW I hs n j l2 S2 (by omega) h2
      cases e : b l S1 with
      | nx l2 S2 => rw [e] at w; with_unfolding_all exact nx l2 S2 w
      | ct l2 S2 => rw [e] at w; with_unfolding_all exact nx l2 S2 w
      | bk l2 S2 => rw [e] at w; with_unfolding_all exact w
      | rt d S2 => rw [e] at w; with_unfolding_all exact w
      | ex => rw [e] at w; with_unfolding_all exact w.elim
      | bad => rw [e] at w; with_unfolding_all exact w.elim
theorem W_while {t : FT} {b : FS} (I : Nat → Loc → Sto → Prop) {k : Nat} (hk : k < 1000000000) (h0 : I k l S) (hs : ∀ k l S, I k l S → (t l S).W fun c S1 => if c = true then (b l S1).W (fun l2 S2 => ∃ j, j < k ∧ I j l2 S2) R N (fun l2 S2 => ∃ j, j < k ∧ I j l2 S2) else N l S1) :
    (sWhile t b l S).W N R B C := W_loopW I hs _ k l S hk h0
/-! sources -/
variable {u v : FE} {P : Src → Sto → Prop}
@[simp] theorem W_iL {w : FL} : (iL w l S).W P ↔ (w l S).W fun x S1 => (kLV x S1).W P := by unfold iL; rw [W_bind]
@[simp] theorem W_iE : (iE u l S).W P ↔ (u l S).W fun x S1 => (kD x S1).W P := by unfold iE; rw [W_bind]
@[simp] theorem W_iEn : (iEn u l S).W P ↔ (u l S).W fun x S1 => (kEn x S1).W P := by unfold iEn; rw [W_bind]
@[simp] theorem kLV_tmp {xs : List D} : kLV (.tmp xs) S = .ok ⟨xs, noGd⟩ S := rfl
theorem kLV_at {n : Nat} {xs : List D} (h : S[n]? = some (.lst xs)) : kLV (.at n) S = .ok ⟨xs, atGd n xs⟩ S := by simp only [kLV, h]
@[simp] theorem kD_tup {xs : List D} : kD (.tup xs) S = .ok ⟨xs, noGd⟩ S := rfl
@[simp] theorem kD_rl {xs : List D} : kD (.rl xs) S = .ok ⟨xs, noGd⟩ S := rfl
theorem kD_ref {n : Nat} {xs : List D} (h : S[n]? = some (.lst xs)) : kD (.ref n) S = .ok ⟨xs, atGd n xs⟩ S := by simp only [kD, kLV, h]
@[simp] theorem kEn_tup {xs : List D} : kEn (.tup xs) S = .ok ⟨enumD 0 xs, noGd⟩ S := rfl
theorem kEn_ref {n : Nat} {xs : List D} (h : S[n]? = some (.lst xs)) : kEn (.ref n) S = .ok ⟨enumD 0 xs, atGd n xs⟩ S := by simp only [kEn, h]
@[simp] theorem W_iRg1 : (iRg1 u l S).W P ↔ (u l S).W fun x S1 => asI x fun n => (kRg 0 n S1).W P := by
  unfold iRg1
  rw [W_bind]
  refine iff_of_eq (congrArg _ (funext fun d => funext fun S1 => ?_))
  cases d <;> simp [asI]
@[simp] theorem W_iRg2 : (iRg2 u v l S).W P ↔ (u l S).W fun x S1 => (v l S1).W fun y S2 => asI x fun i => asI y fun j => (kRg i j S2).W P := by
  unfold iRg2
  simp only [W_bind]
  refine iff_of_eq (congrArg _ (funext fun d => funext fun S1 => congrArg _ (funext fun d' => funext fun S2 => ?_)))
  cases d <;> cases d' <;> simp [asI]
theorem W_kRg {a b : Int} (h1 : rgB a = true) (h2 : rgB b = true) : (kRg a b S).W P ↔ P ⟨rgD a b, noGd⟩ S := by simp only [kRg, h1, h2, Bool.and_self, if_true, W_ok]
theorem rgD_nat (n : Nat) : rgD 0 n = (List.range n).map fun (i : Nat) => D.int i := by simp [rgD]
@[simp] theorem rgD_len {a b : Int} : (rgD a b).length = (b - a).toNat := by simp [rgD]
theorem rgD_get {a b : Int} {i : Nat} {d : D} (h : (rgD a b)[i]? = some d) : d = .int (a + i) ∧ a + i < b := by
  have hl := (List.getElem?_eq_some_iff.mp h).1
  rw [rgD_len] at hl
  refine ⟨?_, by omega⟩
  simp only [rgD, List.getElem?_map] at h
  cases e : (List.range (b - a).toNat)[i]? with
  | none => rw [e] at h; cases h
  | some j =>
    rw [e] at h
    rw [List.getElem?_range hl] at e
    cases e
    cases h
    rfl
/-! comprehensions -/
theorem W_lcL {gd : Sto → Prop} {t : Tg} {tt : FT} {te : FE} {l : Loc} {P : LV → Sto → Prop} (J : Nat → List D → Sto → Prop) : ∀ (xs : List D) (k : Nat) {acc : List D} {S : Sto}, J k acc S →
    (∀ i d acc S, xs[i]? = some d → J (k + i) acc S → gd S ∧ ∃ l1, t.put d l = some l1 ∧ (tt l1 S).W fun c S1 => if c = true then (te l1 S1).W fun y S2 => J (k + i + 1) (acc ++ [y]) S2 else J (k + i + 1) acc S1) →
    (∀ acc S, J (k + xs.length) acc S → gd S ∧ P (.tmp acc) S) → (lcL gd t tt te l xs acc S).W P
  | [], k, acc, S, h0, hs, he => by
    obtain ⟨h1, h2⟩ := he acc S h0
    unfold lcL
    rw [if_pos h1]
    with_unfolding_all exact h2
  | x :: xs, k, acc, S, h0, hs, he => by
    obtain ⟨h1, l1, h2, h3⟩ := hs 0 x acc S rfl h0
    unfold lcL
    rw [if_pos h1]
    simp only [h2]
    have nx : ∀ acc S2, J (k + 0 + 1) acc S2 → (lcL gd t tt te l xs acc S2).W P := fun acc S2 q => W_lcL J xs (k + 1) (by simpa using q) (fun i y acc S e q => by
      have := hs (i + 1) y acc S (by simpa using e) (by rw [show k + (i + 1) = k + 1 + i by omega]; with_unfolding_all exact q)
      rw [show k + (i + 1) = k + 1 + i by omega] at this
      with_unfolding_all exact this) fun acc S q => he acc S (by rw [List.length_cons, show k + (xs.length + 1) = k + 1 + xs.length by omega]; with_unfolding_all exact q)
    obtain ⟨c, S1, e, h3⟩ := h3.ok
    rw [e]
    show ((if c = true then _ else _ : Out LV)).W P
    cases c with
    | false =>
      simp only [Bool.false_eq_true, if_false] at h3 ⊢
      with_unfolding_all exact nx _ _ h3
    | true =>
      simp only [if_true] at h3 ⊢
      obtain ⟨y, S2, e2, h3⟩ := h3.ok
      rw [e2]
      with_unfolding_all exact nx _ _ h3
@[simp] theorem noGd_t : noGd S ↔ True := by with_unfolding_all exact Iff.rfl
@[simp] theorem atGd_iff {n : Nat} {xs : List D} : atGd n xs S ↔ S[n]? = some (.lst xs) := by with_unfolding_all exact Iff.rfl
@[simp] theorem W_lcL_nil {gd : Sto → Prop} {t : Tg} {tt : FT} {te : FE} {l : Loc} {acc : List D} {P : LV → Sto → Prop} : (lcL gd t tt te l [] acc S).W P ↔ gd S ∧ P (.tmp acc) S := by
  unfold lcL
  by_cases h : gd S
  · rw [if_pos h]; simp [h]
  · rw [if_neg h]; simp [h]
@[simp] theorem W_lComp {vs : List Nat} {fi : FI} {t : Tg} {tt : FT} {te : FE} {P : LV → Sto → Prop} : (lComp vs fi t tt te l S).W P ↔ (fi l S).W fun x S1 => x.its.length ≤ sizeLine ∧ (lcL x.gd t tt te (wipeL l vs) x.its [] S1).W P := by
  unfold lComp
  rw [W_bind]
  refine iff_of_eq (congrArg _ (funext fun d => funext fun S1 => ?_))
  by_cases h : d.its.length ≤ sizeLine
  · rw [if_pos h]; simp [h]
  · rw [if_neg h]; simp [h]
/-- one that changes nothing -/
theorem W_lcP {gd : Sto → Prop} {t : Tg} {tt : FT} {te : FE} {l : Loc} {P : LV → Sto → Prop} (p : D → Bool) (h : D → D) {S : Sto} (hg : gd S) {xs : List D}
    (hs : ∀ d ∈ xs, ∃ l1, t.put d l = some l1 ∧ (tt l1 S).W fun c S1 => c = p d ∧ S1 = S ∧ (c = true → (te l1 S).W fun y S2 => y = h d ∧ S2 = S)) (he : P (.tmp ((xs.filter p).map h)) S) : (lcL gd t tt te l xs [] S).W P := by
  refine W_lcL (fun k acc S' => S' = S ∧ acc = ((xs.take k).filter p).map h) xs 0 ⟨rfl, by simp⟩ (fun i d acc S' e ⟨e1, e2⟩ => ?_) (fun acc S' ⟨e1, e2⟩ => ?_)
  · subst e1 e2
    obtain ⟨l1, h1, h2⟩ := hs d (List.mem_of_getElem? e)
    refine ⟨hg, l1, h1, h2.mono fun c S1 ⟨e1, e2, h3⟩ => ?_⟩
    subst e2
    have ht : xs.take (0 + i + 1) = xs.take (0 + i) ++ [d] := by
      have hl := (List.getElem?_eq_some_iff.mp e).1
      rw [Nat.zero_add, List.take_succ, e]; rfl
    cases c with
    | false =>
      simp only [Bool.false_eq_true, if_false]
      rw [ht, List.filter_append]
      simp [← e1]
    | true =>
      simp only [if_true]
      refine (h3 rfl).mono fun y S2 ⟨e3, e4⟩ => ⟨e4, ?_⟩
      rw [ht, List.filter_append, e3]
      simp [← e1]
  · subst e1 e2
    refine ⟨hg, ?_⟩
    rw [Nat.zero_add, List.take_length]
    with_unfolding_all exact he
end
section
variable {n nl : Nat} {b : FS} {ds : List D} {S : Sto} {P : D → Sto → Prop}
theorem gc_same {d : D} {S' : Sto} (h : S'.length ≤ S.length) : gc S d S' = .ok d S' := by
  unfold gc
  by_cases q : Old S S' ∧ clD S.length d = true
  · rw [if_pos q, List.take_of_length_le h]
  · rw [if_neg q]
    split
    · rename_i m
      split
      · rename_i o ho
        have hl := (List.getElem?_eq_some_iff.mp ho).1
        rw [if_neg (fun z => by omega)]
      · rfl
    · rfl
@[simp] theorem gc_self {d : D} : gc S d S = .ok d S := gc_same (Nat.le_refl _)
theorem gc_cut {d : D} {S' : Sto} (h1 : Old S S') (h2 : clD S.length d = true) : gc S d S' = .ok d (S'.take S.length) := by unfold gc; rw [if_pos ⟨h1, h2⟩]
theorem gc_lst {m : Nat} {o : Ob} {S' : Sto} (h1 : Old S S') (h2 : S'[m]? = some o) (h3 : S.length ≤ m) (h4 : clO S.length o = true) : gc S (.ref m) S' = .ok (.ref S.length) (S'.take S.length ++ [o]) := by
  unfold gc
  rw [if_neg (fun z => by have := z.2; simp only [clD, decide_eq_true_eq] at this; omega)]
  simp only [h2]
  rw [if_pos ⟨h1, h3, h4⟩]
theorem old_append {T : Sto} : Old S (S ++ T) := fun i o h e => .inl (by rw [List.getElem?_append_left h] at e; with_unfolding_all exact e)
theorem old_refl : Old S S := fun i o h e => .inl e
theorem gc_tmp {d : D} {T : Sto} (h2 : clD S.length d = true) : gc S d (S ++ T) = .ok d S := by rw [gc_cut old_append h2]; simp
/-- a def's end -/
theorem W_runF (hl : ds.length = n) (h : (b (ds.map some ++ List.replicate (nl - n) none) S).W (fun _ S' => (gc S .non S').W P) (fun d S' => (gc S d S').W P) (fun _ _ => False) (fun _ _ => False)) : (runF n nl b ds S).W P := by
  unfold runF
  rw [if_pos hl]
  cases e : b (ds.map some ++ List.replicate (nl - n) none) S with
  | rt d S' => rw [e] at h; with_unfolding_all exact h
  | nx l S' => rw [e] at h; with_unfolding_all exact h
  | ex => rw [e] at h; with_unfolding_all exact h.elim
  | bk => rw [e] at h; with_unfolding_all exact h.elim
  | ct => rw [e] at h; with_unfolding_all exact h.elim
  | bad => rw [e] at h; with_unfolding_all exact h.elim
end
end Pz

set_option Elab.async false
set_option linter.all false
set_option maxRecDepth 100000
set_option maxHeartbeats 4000000
/-! Pw3: typed comprehensions, numbers, lookups. -/
namespace Pz
open PySem PySem.Spec PyProof.Rows L2
@[simp] theorem st_get {S L : Sto} {k : Nat} : (S ++ L)[S.length + k]? = L[k]? := by rw [List.getElem?_append_right (by omega)]; simp
@[simp] theorem st_get0 {S L : Sto} : (S ++ L)[S.length]? = L[0]? := by rw [List.getElem?_append_right (by omega)]; simp
@[simp] theorem st_set {S L : Sto} {k : Nat} {o : Ob} : (S ++ L).set (S.length + k) o = S ++ L.set k o := by
  rw [List.set_append, if_neg (by omega)]; simp
@[simp] theorem st_set0 {S L : Sto} {o : Ob} : (S ++ L).set S.length o = S ++ L.set 0 o := by
  rw [List.set_append, if_neg (by omega)]; simp
theorem st_old {S L : Sto} {n : Nat} {o : Ob} (h : S[n]? = some o) : (S ++ L)[n]? = some o := by
  rw [List.getElem?_append_left (List.getElem?_eq_some_iff.mp h).1]; exact h
theorem seqD_ref {S : Sto} {n : Nat} {xs : List D} (h : S[n]? = some (.lst xs)) : seqD S (.ref n) = some xs := by simp only [seqD, h]
theorem W_lcM {β : Type} (f g : β → D) (p : β → Bool) {bs : List β} {gd : Sto → Prop} {t : Tg} {tt : FT} {te : FE} {l : Loc} {P : LV → Sto → Prop} {S : Sto} (hg : gd S)
    (hs : ∀ b ∈ bs, ∃ l1, t.put (f b) l = some l1 ∧ (tt l1 S).W fun c S1 => c = p b ∧ S1 = S ∧ (c = true → (te l1 S).W fun y S2 => y = g b ∧ S2 = S)) (he : P (.tmp ((bs.filter p).map g)) S) : (lcL gd t tt te l (bs.map f) [] S).W P := by
  refine W_lcL (fun k acc S' => S' = S ∧ acc = ((bs.take k).filter p).map g) _ 0 ⟨rfl, by simp⟩ (fun i d acc S' e ⟨e1, e2⟩ => ?_) (fun acc S' ⟨e1, e2⟩ => ?_)
  · subst e1 e2
    obtain ⟨b, hb, rfl⟩ : ∃ b, bs[i]? = some b ∧ f b = d := by
      rw [List.getElem?_map, Option.map_eq_some_iff] at e; exact e
    obtain ⟨l1, h1, h2⟩ := hs b (List.mem_of_getElem? hb)
    refine ⟨hg, l1, h1, h2.mono fun c S1 ⟨e1, e2, h3⟩ => ?_⟩
    subst e2
    have ht : bs.take (0 + i + 1) = bs.take (0 + i) ++ [b] := by rw [Nat.zero_add, List.take_succ, hb]; rfl
    cases c with
    | false =>
      simp only [Bool.false_eq_true, if_false]
      rw [ht, List.filter_append]
      simp [← e1]
    | true =>
      simp only [if_true]
      refine (h3 rfl).mono fun y S2 ⟨e3, e4⟩ => ⟨e4, ?_⟩
      rw [ht, List.filter_append, e3]
      simp [← e1]
  · subst e1 e2
    refine ⟨hg, ?_⟩
    rw [Nat.zero_add, List.length_map, List.take_length]
    exact he
theorem W_lcT {β : Type} (f g : β → D) {bs : List β} {gd : Sto → Prop} {t : Tg} {te : FE} {l : Loc} {P : LV → Sto → Prop} {S : Sto} (hg : gd S)
    (hs : ∀ b ∈ bs, ∃ l1, t.put (f b) l = some l1 ∧ (te l1 S).W fun y S2 => y = g b ∧ S2 = S) (he : P (.tmp (bs.map g)) S) : (lcL gd t tTrue te l (bs.map f) [] S).W P := by
  refine W_lcM f g (fun _ => true) hg (fun b hb => ?_) (by rw [List.filter_eq_self.mpr (fun _ _ => rfl)]; exact he)
  obtain ⟨l1, h1, h2⟩ := hs b hb
  exact ⟨l1, h1, W_tTrue.2 ⟨rfl, rfl, fun _ => h2⟩⟩
theorem idx_get {α : Type} [BEq α] [LawfulBEq α] {a : α} : ∀ {l : List α}, a ∈ l → l[l.idxOf a]? = some a
  | x :: xs, h => by
    by_cases e : x = a
    · subst e; rw [List.idxOf_cons, beq_self_eq_true]; rfl
    · have h' : a ∈ xs := by
        rcases List.mem_cons.mp h with q | q
        · exact absurd q.symm e
        · exact q
      rw [List.idxOf_cons, beq_false_of_ne e]
      exact idx_get h'
theorem eq_W {α : Type} {o : Out α} {a : α} {S : Sto} (h : ∀ P : α → Sto → Prop, P a S → o.W P) : o = .ok a S := W_iff_ok.mp (h _ ⟨rfl, rfl⟩)
theorem eq_Wf {F : List D → Sto → Out D} {ds : List D} {a : D} {S : Sto} (h : ∀ P : D → Sto → Prop, P a S → (F ds S).W P) : F ds S = .ok a S := W_iff_ok.mp (h _ ⟨rfl, rfl⟩)
theorem W_lcD (g : D → D) {bs : List D} {gd : Sto → Prop} {t : Tg} {te : FE} {l : Loc} {P : LV → Sto → Prop} {S : Sto} (hg : gd S)
    (hs : ∀ b ∈ bs, ∃ l1, t.put b l = some l1 ∧ (te l1 S).W fun y S2 => y = g b ∧ S2 = S) (he : P (.tmp (bs.map g)) S) : (lcL gd t tTrue te l bs [] S).W P := by
  have := W_lcT (f := id) g (bs := bs) (gd := gd) (t := t) (te := te) (l := l) (P := P) hg hs he
  rwa [List.map_id] at this
theorem W_lcDF (g : D → D) (p : D → Bool) {bs : List D} {gd : Sto → Prop} {t : Tg} {tt : FT} {te : FE} {l : Loc} {P : LV → Sto → Prop} {S : Sto} (hg : gd S)
    (hs : ∀ b ∈ bs, ∃ l1, t.put b l = some l1 ∧ (tt l1 S).W fun c S1 => c = p b ∧ S1 = S ∧ (c = true → (te l1 S).W fun y S2 => y = g b ∧ S2 = S)) (he : P (.tmp ((bs.filter p).map g)) S) : (lcL gd t tt te l bs [] S).W P := by
  have := W_lcM (f := id) g p (bs := bs) (gd := gd) (t := t) (tt := tt) (te := te) (l := l) (P := P) hg hs he
  rwa [List.map_id] at this
theorem blsD_mapF {β : Type} (f : β → Bool) (bs : List β) : blsD (bs.map fun b => D.bl (f b)) = some (bs.map f) := by
  have := blsD_map (bs.map f)
  rwa [List.map_map] at this
theorem oAll_map {β : Type} {f : β → Bool} {bs : List β} {S : Sto} : oAll (bs.map fun b => D.bl (f b)) S = .ok (.bl (bs.all f)) S := by
  simp only [oAll, blsD_mapF]
  simp [Function.comp_def]
theorem oAny_map {β : Type} {f : β → Bool} {bs : List β} {S : Sto} : oAny (bs.map fun b => D.bl (f b)) S = .ok (.bl (bs.any f)) S := by
  simp only [oAny, blsD_mapF]
  simp [Function.comp_def]
theorem intsD_mapF {β : Type} (f : β → Int) (bs : List β) : intsD (bs.map fun b => D.int (f b)) = some (bs.map f) := by
  have := intsD_map (bs.map f)
  rwa [List.map_map] at this
/-! lists of numbers -/
def encI (xs : List Nat) : List D := xs.map fun i => D.int (i : Nat)
theorem encI_len (xs : List Nat) : (encI xs).length = xs.length := by simp [encI]
theorem encI_nil : encI [] = [] := rfl
theorem encI_app (xs zs : List Nat) : encI (xs ++ zs) = encI xs ++ encI zs := by simp [encI]
theorem rgD_encI (n : Nat) : rgD 0 (n : Int) = encI (List.range n) := by rw [rgD_nat]; rfl
theorem encI_flat (xs : List Nat) : (encI xs).all flatD = true := by simp [encI, flatD]
theorem eqF_nat (a b : Nat) : eqF (.int (a : Nat)) (.int (b : Nat)) = (a == b) := by
  show ((a : Int) == (b : Int)) = (a == b)
  rw [Bool.eq_iff_iff]; simp only [beq_iff_eq]; omega
theorem findF_encI (s : Nat) : ∀ (row : List Nat) (k : Nat), s ∈ row → findF (.int (s : Nat)) (encI row) k = some (k + row.idxOf s)
  | [], _, h => by simp at h
  | x :: row, k, h => by
    show (if eqF (.int (x : Nat)) (.int (s : Nat)) = true then some k else findF (.int (s : Nat)) (encI row) (k + 1)) = _
    rw [eqF_nat]
    by_cases e : x = s
    · subst e; simp
    · have h' : s ∈ row := by
        rcases List.mem_cons.mp h with q | q
        · exact absurd q.symm e
        · exact q
      rw [if_neg (by simpa using e), findF_encI s row (k + 1) h', List.idxOf_cons, beq_false_of_ne e]
      show some (k + 1 + row.idxOf s) = some (k + (row.idxOf s + 1))
      congr 1; omega
theorem oIndex_nat {S : Sto} {n s : Nat} {row : List Nat} (h : S[n]? = some (.lst (encI row))) (hs : s ∈ row) : oIndex (.ref n) (.int (s : Nat)) S = .ok (.int (row.idxOf s : Nat)) S := by
  simp only [oIndex, h]
  rw [if_pos (by rw [encI_flat]; rfl), findF_encI s row 0 hs]
  simp
theorem oIx_encI {S : Sto} {n i v : Nat} {row : List Nat} (h : S[n]? = some (.lst (encI row))) (hv : row[i]? = some v) : oIx (.ref n) (.int (i : Nat)) S = .ok (.int (v : Nat)) S :=
  oIx_ref h (by rw [atI_nat]; simp [encI, hv])
theorem any_eqF (s : Nat) (xs : List Nat) : ((encI xs).any fun z => eqF z (.int (s : Nat))) = decide (s ∈ xs) := by
  rw [Bool.eq_iff_iff]
  simp [encI, eqF_nat]
theorem oIn_nat {S : Sto} {y : D} {s : Nat} {xs : List Nat} (h : seqD S y = some (encI xs)) : oIn (.int (s : Nat)) y S = .ok (.bl (decide (s ∈ xs))) S := by
  simp only [oIn, dIn, h]
  rw [if_pos (by rw [encI_flat]; rfl), any_eqF]
theorem oNin_nat {S : Sto} {y : D} {s : Nat} {xs : List Nat} (h : seqD S y = some (encI xs)) : oNin (.int (s : Nat)) y S = .ok (.bl (!decide (s ∈ xs))) S := by
  simp only [oNin, dIn, h]
  rw [if_pos (by rw [encI_flat]; rfl), any_eqF]
theorem clDs_ints (n : Nat) : ∀ xs : List Int, clDs n (xs.map D.int) = true
  | [] => by simp [clDs]
  | x :: xs => by simp [clDs, clD, clDs_ints n xs]
theorem clDs_all (n : Nat) : ∀ xs : List D, clDs n xs = xs.all (clD n)
  | [] => by simp [clDs]
  | x :: xs => by simp [clDs, clDs_all n xs]
theorem clDs_perm {n : Nat} {xs zs : List D} (p : xs.Perm zs) (h : clDs n xs = true) : clDs n zs = true := by
  rw [clDs_all, List.all_eq_true] at *
  exact fun d hd => h d (p.symm.subset hd)
theorem perm_eraseIdx {α : Type} : ∀ {rs : List α} {r : Nat} (h : r < rs.length), (rs[r] :: rs.eraseIdx r).Perm rs
  | x :: xs, 0, h => by simp
  | x :: xs, r + 1, h => by
    simp only [List.getElem_cons_succ, List.eraseIdx_cons_succ]
    exact (List.Perm.swap _ _ _).trans ((perm_eraseIdx (by simpa using h)).cons x)
theorem encI_cl (n : Nat) (xs : List Nat) : clDs n (encI xs) = true := by
  have := clDs_ints n (xs.map fun (i : Nat) => (i : Int))
  simpa [encI, List.map_map, Function.comp_def] using this
theorem perm_encI {zs : List D} {xs : List Nat} (p : zs.Perm (encI xs)) : ∃ ws : List Nat, zs = encI ws ∧ ws.Perm xs := by
  have key : ∀ zs : List D, (∀ d ∈ zs, ∃ i : Nat, d = .int (i : Nat)) → ∃ ws, zs = encI ws := by
    intro zs
    induction zs with
    | nil => exact fun _ => ⟨[], rfl⟩
    | cons z zs ih =>
      intro h
      obtain ⟨ws, e⟩ := ih fun d hd => h d (List.mem_cons_of_mem _ hd)
      obtain ⟨i, e2⟩ := h z List.mem_cons_self
      exact ⟨i :: ws, by rw [e, e2]; rfl⟩
  obtain ⟨ws, rfl⟩ := key zs fun d hd => by
    have := p.subset hd
    simp only [encI, List.mem_map] at this
    obtain ⟨i, _, e⟩ := this
    exact ⟨i, e.symm⟩
  refine ⟨ws, rfl, ?_⟩
  have q := p.map fun d => match d with | .int i => i.toNat | _ => 0
  simpa [encI, List.map_map, Function.comp_def] using q
theorem rgOk_small {a b : Int} (h0 : 0 ≤ a) (h1 : a ≤ 100000) (h2 : 0 ≤ b) (h3 : b ≤ 100000) : rgOk a b = true := by
  simp only [rgOk, decide_eq_true_eq]; omega
theorem rgB_small {a : Int} (h0 : 0 ≤ a) (h1 : a ≤ 100000) : rgB a = true := by
  simp only [rgB, decide_eq_true_eq]; omega
/-! slices -/
theorem sIx_pos {n d : Nat} {i : Int} (h0 : 0 ≤ i) (h1 : i ≤ n) : HT.sIx n d (some i) = i.toNat := by
  show (if i < 0 then (i + (n : Int)).toNat else min i.toNat n) = _
  rw [if_neg (by omega)]; omega
theorem sIx_over {n d : Nat} {i : Int} (h1 : (n : Int) ≤ i) : HT.sIx n d (some i) = n := by
  show (if i < 0 then (i + (n : Int)).toNat else min i.toNat n) = _
  rw [if_neg (by omega)]; omega
theorem sIx_neg {n d : Nat} {i : Int} (h0 : i < 0) : HT.sIx n d (some i) = (i + n).toNat := by
  show (if i < 0 then (i + (n : Int)).toNat else min i.toNat n) = _
  rw [if_pos h0]
theorem cutL_from {α : Type} {xs : List α} {i : Int} (h0 : 0 ≤ i) (h1 : i ≤ xs.length) : cutL xs (some i) none = xs.drop i.toNat := by
  unfold cutL
  rw [sIx_pos h0 h1]
  show (xs.drop i.toNat).take (xs.length - i.toNat) = _
  rw [List.take_of_length_le (by simp)]
theorem cutL_to {α : Type} {xs : List α} {i : Int} (h0 : 0 ≤ i) (h1 : i ≤ xs.length) : cutL xs none (some i) = xs.take i.toNat := by
  unfold cutL
  rw [sIx_pos h0 h1]
  show (xs.drop 0).take (i.toNat - 0) = _
  rw [List.drop_zero, Nat.sub_zero]
theorem cutL_toO {α : Type} {xs : List α} {i : Int} (h1 : (xs.length : Int) ≤ i) : cutL xs none (some i) = xs := by
  unfold cutL
  rw [sIx_over h1]
  show (xs.drop 0).take (xs.length - 0) = _
  rw [List.drop_zero, Nat.sub_zero, List.take_length]
theorem cutL_fromO {α : Type} {xs : List α} {i : Int} (h1 : (xs.length : Int) ≤ i) : cutL xs (some i) none = [] := by
  unfold cutL
  rw [sIx_over h1, List.drop_length, List.take_nil]
theorem cutL_to1 {α : Type} {xs : List α} : cutL xs none (some (-1)) = xs.dropLast := by
  unfold cutL
  rw [sIx_neg (by omega)]
  show (xs.drop 0).take ((-1 + (xs.length : Int)).toNat - 0) = _
  rw [List.drop_zero, Nat.sub_zero, List.dropLast_eq_take]
  congr 1; omega
theorem nodup_le : ∀ (n : Nat) (l : List Nat), l.Nodup → (∀ x ∈ l, x < n) → l.length ≤ n
  | 0, l, _, h => by
    cases l with
    | nil => exact Nat.le_refl _
    | cons x xs => exact absurd (h x List.mem_cons_self) (Nat.not_lt_zero _)
  | n + 1, l, hn, h => by
    by_cases q : n ∈ l
    · have := nodup_le n (l.erase n) (hn.erase n) fun x hx => by
        have h1 := h x (List.mem_of_mem_erase hx)
        have h2 : x ≠ n := fun e => by subst e; exact (hn.not_mem_erase) hx
        omega
      rw [List.length_erase_of_mem q] at this
      omega
    · have := nodup_le n l hn fun x hx => by
        have h1 := h x hx
        have h2 : x ≠ n := fun e => q (by rw [← e]; exact hx)
        omega
      omega
theorem filter_empty {α : Type} (p : α → Bool) : ∀ xs : List α, (xs.filter p).isEmpty = !xs.any p
  | [] => rfl
  | x :: xs => by
    have := filter_empty p xs
    by_cases h : p x = true
    · simp [h]
    · simp only [Bool.not_eq_true] at h
      simp [h, this]
/-! webs -/
abbrev Stp := D × List Nat
def encS (s : Stp) : D := .tup [s.1, .tup (encI s.2)]
def encW (w : List Stp) : D := .tup (w.map encS)
def KOK (d : D) (many : Nat) : Prop := match many with
  | 0 => d = .str "in" ∨ ∃ i : Int, d = .int i ∧ -99 ≤ i ∧ i ≤ 99
  | 1 => d = .str "neg"
  | 2 => d = .str "+" ∨ d = .str "-" ∨ d = .str "*"
  | 3 => d = .str "pick"
  | _ => False
theorem KOK.cl {d : D} {k n : Nat} (h : KOK d k) : clD n d = true := by
  match k, h with
  | 0, .inl h => subst h; simp [clD]
  | 0, .inr ⟨i, h, _⟩ => subst h; simp [clD]
  | 1, h => cases h; simp [clD]
  | 2, .inl h => subst h; simp [clD]
  | 2, .inr (.inl h) => subst h; simp [clD]
  | 2, .inr (.inr h) => subst h; simp [clD]
  | 3, h => cases h; simp [clD]
theorem KOK.le {d : D} {k : Nat} (h : KOK d k) : k ≤ 3 := by
  match k, h with
  | 0, _ => omega
  | 1, _ => omega
  | 2, _ => omega
  | 3, _ => omega
/-- each step's kind fits, its inputs are below n -/
def StpOk (n : Nat) (s : Stp) : Prop := KOK s.1 s.2.length ∧ ∀ i ∈ s.2, i < n
theorem encS_cl {n k : Nat} {s : Stp} (h : StpOk k s) : clD n (encS s) = true := by
  simp [encS, clD, clDs, h.1.cl, encI_cl]
theorem encW_cl {n : Nat} {w : List Stp} (h : ∀ s ∈ w, ∃ k, StpOk k s) : clD n (encW w) = true := by
  simp only [encW, clD, clDs_all, List.all_eq_true, List.mem_map]
  rintro d ⟨s, hs, rfl⟩
  obtain ⟨k, q⟩ := h s hs
  exact encS_cl q
structure Web (w : List Stp) : Prop where
  ok : ∀ s ∈ w, StpOk w.length s
  acy : ∃ ρ : Nat → Nat, ∀ t s, w[t]? = some s → ∀ i ∈ s.2, ρ i < ρ t
theorem Web.of_grown {w : List Stp} (h : ∀ t s, w[t]? = some s → StpOk t s) : Web w := by
  refine ⟨fun s hs => ?_, id, fun t s e i hi => (h t s e).2 i hi⟩
  obtain ⟨t, e⟩ := List.mem_iff_getElem?.mp hs
  have := (List.getElem?_eq_some_iff.mp e).1
  exact ⟨(h t s e).1, fun i hi => Nat.lt_trans ((h t s e).2 i hi) this⟩
theorem Web.cl {w : List Stp} {n : Nat} (h : Web w) : clD n (encW w) = true := encW_cl fun s hs => ⟨_, h.ok s hs⟩
def stp (w : List Stp) (s : Nat) : Stp := w.getD s (.non, [])
theorem stp_get {w : List Stp} {s : Nat} (h : s < w.length) : w[s]? = some (stp w s) := by simp [stp, List.getD, h]
theorem stp_eq {w : List Stp} {t : Nat} {s : Stp} (h : w[t]? = some s) : stp w t = s := by simp [stp, List.getD, h]
def renum (w : List Stp) (row : List Nat) : List Stp := row.map fun s => ((stp w s).1, (stp w s).2.map fun one => row.idxOf one)
theorem perm_range_mem {row : List Nat} {n : Nat} (p : row.Perm (List.range n)) {i : Nat} : i ∈ row ↔ i < n := by rw [p.mem_iff, List.mem_range]
theorem Web.renum {w : List Stp} (h : Web w) {row : List Nat} (p : row.Perm (List.range w.length)) : Web (renum w row) := by
  have len : row.length = w.length := by rw [p.length_eq, List.length_range]
  have nd : row.Nodup := p.nodup_iff.mpr List.nodup_range
  have gt : ∀ s, s < w.length → w[s]? = some (stp w s) := fun s hs => stp_get hs
  refine ⟨fun s hs => ?_, ?_⟩
  · simp only [Pz.renum, List.mem_map] at hs
    obtain ⟨j, hj, rfl⟩ := hs
    have hj' := (perm_range_mem p).mp hj
    have ok := h.ok _ (List.mem_of_getElem? (gt j hj'))
    refine ⟨by show KOK _ (List.length (List.map _ _)); rw [List.length_map]; exact ok.1, fun i hi => ?_⟩
    simp only [List.mem_map] at hi
    obtain ⟨a, ha, rfl⟩ := hi
    simp only [Pz.renum, List.length_map]
    exact List.idxOf_lt_length_iff.mpr ((perm_range_mem p).mpr (ok.2 a ha))
  · obtain ⟨ρ, hρ⟩ := h.acy
    refine ⟨fun t => ρ (row.getD t 0), fun t s e i hi => ?_⟩
    simp only [Pz.renum, List.getElem?_map, Option.map_eq_some_iff] at e
    obtain ⟨j, hj, rfl⟩ := e
    have hj' := (perm_range_mem p).mp (List.mem_of_getElem? hj)
    have ok := h.ok _ (List.mem_of_getElem? (gt j hj'))
    simp only [List.mem_map] at hi
    obtain ⟨a, ha, rfl⟩ := hi
    have ha' := (perm_range_mem p).mpr (ok.2 a ha)
    have e1 : row.getD (row.idxOf a) 0 = a := by simp [List.getD, idx_get ha']
    have e2 : row.getD t 0 = j := by simp [List.getD, hj]
    show ρ (row.getD (row.idxOf a) 0) < ρ (row.getD t 0)
    rw [e1, e2]
    exact hρ j _ (gt j hj') a ha
/-! reach -/
def Tie (w : List Stp) (s t : Nat) : Prop := t < w.length ∧ s ∈ (stp w t).2
instance {w : List Stp} {s t : Nat} : Decidable (Tie w s t) := by unfold Tie; infer_instance
inductive Rch (w : List Stp) (s : Nat) : Nat → Prop
  | one {t : Nat} : Tie w s t → Rch w s t
  | more {x t : Nat} : Rch w s x → Tie w x t → Rch w s t
theorem Rch.lt {w : List Stp} {s t : Nat} (h : Rch w s t) : t < w.length := by
  cases h with
  | one h => exact h.1
  | more _ h => exact h.1
/-- found and waiting, on the way -/
structure Rinv (w : List Stp) (s : Nat) (fs ws : List Nat) : Prop where
  a : ∀ t ∈ fs, Rch w s t
  b : ∀ x ∈ ws, x = s ∨ x ∈ fs
  c : ∀ x, (x = s ∨ x ∈ fs) → x ∉ ws → ∀ t, Tie w x t → t ∈ fs
  nd : fs.Nodup
theorem Rinv.start (w : List Stp) (s : Nat) : Rinv w s [] [s] := ⟨by simp, by simp, fun x h h2 => by simp at h h2; exact absurd h h2, List.nodup_nil⟩
def newT (w : List Stp) (h : Nat) (fs : List Nat) (i : Nat) : List Nat := (List.range i).filter fun t => decide (Tie w h t) && decide (t ∉ fs)
theorem newT_mem {w : List Stp} {h i t : Nat} {fs : List Nat} : t ∈ newT w h fs i ↔ t < i ∧ Tie w h t ∧ t ∉ fs := by
  unfold newT
  rw [List.mem_filter, List.mem_range]
  simp
theorem newT_succ {w : List Stp} {h i : Nat} {fs : List Nat} : newT w h fs (i + 1) = newT w h fs i ++ (if Tie w h i ∧ i ∉ fs then [i] else []) := by
  unfold newT
  rw [List.range_succ, List.filter_append]
  congr 1
  by_cases q : Tie w h i ∧ i ∉ fs
  · simp [q]
  · rw [if_neg q]
    simp only [List.filter_cons, List.filter_nil]
    rw [if_neg (by simpa using q)]
theorem Rinv.step {w : List Stp} {s h : Nat} {fs rest : List Nat} (I : Rinv w s fs (rest ++ [h])) : Rinv w s (fs ++ newT w h fs w.length) (rest ++ newT w h fs w.length) := by
  have hh : h = s ∨ h ∈ fs := I.b h (by simp)
  refine ⟨fun t ht => ?_, fun x hx => ?_, fun x hx hn t e => ?_, ?_⟩
  · rcases List.mem_append.mp ht with q | q
    · exact I.a t q
    · obtain ⟨_, q2, _⟩ := newT_mem.mp q
      rcases hh with z | z
      · subst z; exact .one q2
      · exact .more (I.a h z) q2
  · rcases List.mem_append.mp hx with q | q
    · rcases I.b x (List.mem_append_left _ q) with z | z
      · exact .inl z
      · exact .inr (List.mem_append_left _ z)
    · exact .inr (List.mem_append_right _ q)
  · simp only [List.mem_append, not_or] at hn
    have hx' : x = s ∨ x ∈ fs := by
      rcases hx with z | z
      · exact .inl z
      · rcases List.mem_append.mp z with z | z
        · exact .inr z
        · exact absurd z hn.2
    by_cases q : x = h
    · subst q
      by_cases z : t ∈ fs
      · exact List.mem_append_left _ z
      · exact List.mem_append_right _ (newT_mem.mpr ⟨e.1, e, z⟩)
    · exact List.mem_append_left _ (I.c x hx' (by simp [hn.1, q]) t e)
  · rw [List.nodup_append]
    refine ⟨I.nd, List.Pairwise.filter _ List.nodup_range, fun a ha b hb => ?_⟩
    intro e
    subst e
    exact (newT_mem.mp hb).2.2 ha
theorem Rinv.done {w : List Stp} {s : Nat} {fs : List Nat} (I : Rinv w s fs []) (t : Nat) : t ∈ fs ↔ Rch w s t := by
  refine ⟨I.a t, fun h => ?_⟩
  induction h with
  | one h => exact I.c s (.inl rfl) (by simp) _ h
  | more _ h ih => exact I.c _ (.inr ih) (by simp) _ h
theorem Rch.pre {w : List Stp} {p h x : Nat} (t : Tie w p h) (r : Rch w h x) : Rch w p x := by
  induction r with
  | one q => exact .more (.one t) q
  | more _ q ih => exact .more ih q
/-- without a ring, a set of steps has one none of whose givers is in it -/
theorem no_ring_min {w : List Stp} (hr : ∀ s, ¬ Rch w s s) {A : List Nat} (hA : A ≠ []) (hlt : ∀ x ∈ A, x < w.length) : ∃ t ∈ A, ∀ x ∈ A, ¬ Tie w x t := by
  refine Classical.byContradiction fun hc => ?_
  have step : ∀ t ∈ A, ∃ x ∈ A, Tie w x t := fun t ht => Classical.byContradiction fun q => hc ⟨t, ht, fun x hx hh => q ⟨x, hx, hh⟩⟩
  have walk : ∀ k : Nat, ∃ (h : Nat) (r : List Nat), r.length = k ∧ h ∈ A ∧ (∀ x ∈ r, x ∈ A ∧ Rch w h x) ∧ (h :: r).Nodup := by
    intro k
    induction k with
    | zero =>
      obtain ⟨a, ha⟩ := List.exists_mem_of_ne_nil A hA
      exact ⟨a, [], rfl, ha, by simp, by simp⟩
    | succ k ih =>
      obtain ⟨h, r, e, ha, hx, nd⟩ := ih
      obtain ⟨p, hp, tp⟩ := step h ha
      have all : ∀ x ∈ h :: r, x ∈ A ∧ Rch w p x := by
        intro x hx'
        rcases List.mem_cons.mp hx' with q | q
        · subst q; exact ⟨ha, .one tp⟩
        · exact ⟨(hx x q).1, .pre tp (hx x q).2⟩
      refine ⟨p, h :: r, by simp [e], hp, all, List.nodup_cons.mpr ⟨fun q => hr p (all p q).2, nd⟩⟩
  obtain ⟨h, r, e, ha, hx, nd⟩ := walk w.length
  have := nodup_le w.length (h :: r) nd fun x hx' => by
    rcases List.mem_cons.mp hx' with q | q
    · subst q; exact hlt _ ha
    · exact hlt x (hx x q).1
  simp at this
  omega
def elim1 (w : List Stp) (L : List Nat) : List Nat := L.filter fun t => (stp w t).2.any fun o => decide (o ∈ L)
def elimN (w : List Stp) : Nat → List Nat
  | 0 => List.range w.length
  | k + 1 => elim1 w (elimN w k)
theorem elimN_lt {w : List Stp} : ∀ (k : Nat), ∀ x ∈ elimN w k, x < w.length
  | 0, x, h => by simpa [elimN] using h
  | k + 1, x, h => elimN_lt k x (List.mem_filter.mp h).1
theorem elimN_len {w : List Stp} : ∀ k : Nat, (elimN w k).length ≤ w.length
  | 0 => by simp [elimN]
  | k + 1 => Nat.le_trans (List.length_filter_le _ _) (elimN_len k)
theorem elim_ring {w : List Stp} : elimN w w.length ≠ [] ↔ ∃ s, Rch w s s := by
  constructor
  · intro h
    refine Classical.byContradiction fun hc => h ?_
    have hr : ∀ s, ¬ Rch w s s := fun s q => hc ⟨s, q⟩
    have len : ∀ k : Nat, (elimN w k).length ≤ w.length - k := by
      intro k
      induction k with
      | zero => simp [elimN]
      | succ k ih =>
        by_cases e : elimN w k = []
        · have : elimN w (k + 1) = [] := by unfold elimN elim1; rw [e]; rfl
          rw [this]; simp
        · obtain ⟨t, ht, hm⟩ := no_ring_min hr e (elimN_lt k)
          have : (elimN w (k + 1)).length < (elimN w k).length := by
            show ((elimN w k).filter _).length < _
            refine List.length_filter_lt_length_iff_exists.mpr ⟨t, ht, ?_⟩
            simp only [List.any_eq_true, decide_eq_true_eq, not_exists, not_and]
            exact fun o ho hk => hm o hk ⟨elimN_lt k t ht, ho⟩
          omega
    have := len w.length
    exact List.eq_nil_of_length_eq_zero (by omega)
  · rintro ⟨s, hs⟩ h
    have key : ∀ k : Nat, ∀ t, Rch w s t → Rch w t s → t ∈ elimN w k := by
      intro k
      induction k with
      | zero => exact fun t h1 _ => by simpa [elimN] using h1.lt
      | succ k ih =>
        intro t h1 h2
        show t ∈ List.filter _ _
        rw [List.mem_filter]
        refine ⟨ih t h1 h2, ?_⟩
        simp only [List.any_eq_true, decide_eq_true_eq]
        cases h1 with
        | one q => exact ⟨s, q.2, ih s hs hs⟩
        | more q1 q2 => exact ⟨_, q2.2, ih _ q1 (.pre q2 h2)⟩
    have := key w.length s hs hs
    rw [h] at this
    cases this
end Pz

set_option Elab.async false
set_option linter.all false
set_option maxRecDepth 100000
set_option maxHeartbeats 4000000
/-! Pw4: data that can be shown: kinds; dict displays. -/
namespace Pz
open PySem PySem.Spec PyProof.Rows L2
def PyS (S : Sto) (d : D) : Prop := ∃ n q, toPyR n S d = some q
theorem mapO_all {α β : Type} {f : α → Option β} : ∀ {xs : List α} {ys : List β}, mapO f xs = some ys → ∀ x ∈ xs, ∃ y, f x = some y ∧ y ∈ ys
  | [], _, _, x, hx => by simp at hx
  | a :: xs, ys, h, x, hx => by
    simp only [mapO] at h
    cases e1 : f a with
    | none => rw [e1] at h; cases h
    | some b =>
      cases e2 : mapO f xs with
      | none => rw [e1, e2] at h; cases h
      | some bs =>
        rw [e1, e2] at h
        cases h
        rcases List.mem_cons.mp hx with hx | hx
        · subst hx; exact ⟨b, e1, List.mem_cons_self⟩
        · obtain ⟨y, q1, q2⟩ := mapO_all e2 x hx
          exact ⟨y, q1, List.mem_cons_of_mem _ q2⟩
theorem PyS.tup {S : Sto} {xs : List D} (h : PyS S (.tup xs)) : ∀ x ∈ xs, PyS S x := by
  obtain ⟨n, q, h⟩ := h
  cases n with
  | zero => cases h
  | succ n =>
    simp only [toPyR, Option.map_eq_some_iff] at h
    obtain ⟨ps, h, _⟩ := h
    intro x hx
    obtain ⟨y, q1, _⟩ := mapO_all h x hx
    exact ⟨n, y, q1⟩
theorem PyS.int {S : Sto} {i : Int} : PyS S (.int i) := ⟨1, _, rfl⟩
theorem PyS.str {S : Sto} {i : Str} : PyS S (.str i) := ⟨1, _, rfl⟩
theorem PyS.ty {S : Sto} {d : D} (h : PyS S d) : (d = .non ∧ tyD S d = some "NoneType") ∨ (∃ b, d = .bl b ∧ tyD S d = some "bool") ∨ (∃ b, d = .int b ∧ tyD S d = some "int") ∨ (∃ b, d = .str b ∧ tyD S d = some "str") ∨ (∃ b, d = .tup b ∧ tyD S d = some "tuple") ∨
    ∃ n, d = .ref n ∧ (tyD S d = some "list" ∨ tyD S d = some "dict") := by
  obtain ⟨n, q, h⟩ := h
  cases n with
  | zero => cases h
  | succ n =>
    cases d with
    | non => exact .inl ⟨rfl, rfl⟩
    | bl b => exact .inr (.inl ⟨b, rfl, rfl⟩)
    | int b => exact .inr (.inr (.inl ⟨b, rfl, rfl⟩))
    | str b => exact .inr (.inr (.inr (.inl ⟨b, rfl, rfl⟩)))
    | tup b => exact .inr (.inr (.inr (.inr (.inl ⟨b, rfl, rfl⟩))))
    | ref k =>
      refine .inr (.inr (.inr (.inr (.inr ⟨k, rfl, ?_⟩))))
      simp only [toPyR] at h
      simp only [tyD]
      split at h
      · rename_i xs e; rw [e]; exact .inl rfl
      · rename_i e; rw [e]; exact .inr rfl
      · cases h
    | fn a => cases h
    | rl xs => cases h
def isTup : D → Bool
  | .tup _ => true
  | _ => false
def isStr : D → Bool
  | .str _ => true
  | _ => false
def isInt : D → Bool
  | .int _ => true
  | .bl _ => true
  | _ => false
def isBl : D → Bool
  | .bl _ => true
  | _ => false
theorem isi_tup {S : Sto} {d : D} (h : PyS S d) : oIsi "tuple" d S = .ok (.bl (isTup d)) S := by
  rcases h.ty with ⟨rfl, e⟩ | ⟨b, rfl, e⟩ | ⟨b, rfl, e⟩ | ⟨b, rfl, e⟩ | ⟨b, rfl, e⟩ | ⟨n, rfl, e | e⟩ <;> (rw [oIsi_of e]; rfl)
theorem isi_str {S : Sto} {d : D} (h : PyS S d) : oIsi "str" d S = .ok (.bl (isStr d)) S := by
  rcases h.ty with ⟨rfl, e⟩ | ⟨b, rfl, e⟩ | ⟨b, rfl, e⟩ | ⟨b, rfl, e⟩ | ⟨b, rfl, e⟩ | ⟨n, rfl, e | e⟩ <;> (rw [oIsi_of e]; rfl)
theorem isi_int {S : Sto} {d : D} (h : PyS S d) : oIsi "int" d S = .ok (.bl (isInt d)) S := by
  rcases h.ty with ⟨rfl, e⟩ | ⟨b, rfl, e⟩ | ⟨b, rfl, e⟩ | ⟨b, rfl, e⟩ | ⟨b, rfl, e⟩ | ⟨n, rfl, e | e⟩ <;> (rw [oIsi_of e]; rfl)
theorem isi_bool {S : Sto} {d : D} (h : PyS S d) : oIsi "bool" d S = .ok (.bl (isBl d)) S := by
  rcases h.ty with ⟨rfl, e⟩ | ⟨b, rfl, e⟩ | ⟨b, rfl, e⟩ | ⟨b, rfl, e⟩ | ⟨b, rfl, e⟩ | ⟨n, rfl, e | e⟩ <;> (rw [oIsi_of e]; rfl)
/-- an int (no bool) within -/
def isI (a b : Int) : D → Bool
  | .int i => decide (a ≤ i) && decide (i ≤ b)
  | _ => false
/-! {..}.get -/
@[simp] theorem W_pNil {l : Loc} {S : Sto} {P : List (Key × D) → Sto → Prop} : (pNil l S).W P ↔ P [] S := by rw [show pNil l S = .ok [] S from rfl, W_ok]
def okP (k v : D) (kvs : List (Key × D)) (S3 : Sto) : Out (List (Key × D)) := match keyD k with
  | some k => .ok ((k, v) :: kvs) S3
  | none => .bad
@[simp] theorem W_pCons {f g : FE} {r : FP} {l : Loc} {S : Sto} {P : List (Key × D) → Sto → Prop} : (pCons f g r l S).W P ↔ (f l S).W fun k S1 => (g l S1).W fun v S2 => (r l S2).W fun kvs S3 => (okP k v kvs S3).W P := by
  unfold pCons
  simp only [W_bind]
  exact Iff.rfl
@[simp] theorem okP_str {k : Str} {v : D} {kvs : List (Key × D)} {S : Sto} : okP (.str k) v kvs S = .ok ((.inr k, v) :: kvs) S := rfl
@[simp] theorem okP_int {k : Int} {v : D} {kvs : List (Key × D)} {S : Sto} : okP (.int k) v kvs S = .ok ((.inl k, v) :: kvs) S := rfl
@[simp] theorem W_eDispGet {f g : FE} {r : FP} {l : Loc} {S : Sto} {P : D → Sto → Prop} : (eDispGet r f g l S).W P ↔ (r l S).W fun kvs S1 => kvs.length ≤ 15 ∧ (f l S1).W fun k S2 => (g l S2).W fun d S3 => (oGet kvs k d S3).W P := by
  unfold eDispGet
  simp only [W_bind]
  refine iff_of_eq (congrArg _ (funext fun kvs => funext fun S1 => ?_))
  by_cases h : kvs.length ≤ 15
  · rw [if_pos h]; simp [h]
  · rw [if_neg h]; simp [h]
theorem oGet_str {kvs : List (Key × D)} {k : Str} {d : D} {S : Sto} : oGet kvs (.str k) d S = .ok ((Pz.getD (mergeD [] kvs) (.inr k)).getD d) S := rfl
theorem any_str (s : Str) (xs : List Str) : ((xs.map D.str).any fun z => eqF z (.str s)) = decide (s ∈ xs) := by
  rw [Bool.eq_iff_iff]
  simp [eqF]
theorem flat_str (xs : List Str) : (xs.map D.str).all flatD = true := by simp [flatD]
theorem oIn_str {s : Str} {xs : List Str} {y : D} {S : Sto} (h : seqD S y = some (xs.map D.str)) : oIn (.str s) y S = .ok (.bl (decide (s ∈ xs))) S := by
  simp only [oIn, dIn, h]
  rw [if_pos (by rw [flat_str]; rfl), any_str]
/-- a table whose keys are texts -/
def tabS (kvs : List (Str × D)) : List (Key × D) := kvs.map fun kv => (.inr kv.1, kv.2)
theorem getD_tab (s : Str) : ∀ kvs : List (Str × D), Pz.getD (tabS kvs) (.inr s) = (kvs.find? fun kv => decide (kv.1 = s)).map (·.2)
  | [] => rfl
  | kv :: kvs => by
    have ih := getD_tab s kvs
    simp only [Pz.getD, tabS, List.map_cons, List.find?_cons] at ih ⊢
    by_cases h : kv.1 = s
    · simp [h]
    · have h2 : ¬ ((Sum.inr kv.1 : Key) = Sum.inr s) := fun q => h (by cases q; rfl)
      simp only [h, h2, decide_false]
      exact ih
/-! the kinds differ -/
@[simp] theorem ks_in_neg : ¬ (Str.ofString "in" = Str.ofString "neg") := by decide +kernel
@[simp] theorem ks_in_pick : ¬ (Str.ofString "in" = Str.ofString "pick") := by decide +kernel
@[simp] theorem ks_in_P : ¬ (Str.ofString "in" = Str.ofString "+") := by decide +kernel
@[simp] theorem ks_in_M : ¬ (Str.ofString "in" = Str.ofString "-") := by decide +kernel
@[simp] theorem ks_in_T : ¬ (Str.ofString "in" = Str.ofString "*") := by decide +kernel
@[simp] theorem ks_neg_in : ¬ (Str.ofString "neg" = Str.ofString "in") := by decide +kernel
@[simp] theorem ks_neg_pick : ¬ (Str.ofString "neg" = Str.ofString "pick") := by decide +kernel
@[simp] theorem ks_neg_P : ¬ (Str.ofString "neg" = Str.ofString "+") := by decide +kernel
@[simp] theorem ks_neg_M : ¬ (Str.ofString "neg" = Str.ofString "-") := by decide +kernel
@[simp] theorem ks_neg_T : ¬ (Str.ofString "neg" = Str.ofString "*") := by decide +kernel
@[simp] theorem ks_pick_in : ¬ (Str.ofString "pick" = Str.ofString "in") := by decide +kernel
@[simp] theorem ks_pick_neg : ¬ (Str.ofString "pick" = Str.ofString "neg") := by decide +kernel
@[simp] theorem ks_pick_P : ¬ (Str.ofString "pick" = Str.ofString "+") := by decide +kernel
@[simp] theorem ks_pick_M : ¬ (Str.ofString "pick" = Str.ofString "-") := by decide +kernel
@[simp] theorem ks_pick_T : ¬ (Str.ofString "pick" = Str.ofString "*") := by decide +kernel
@[simp] theorem ks_P_in : ¬ (Str.ofString "+" = Str.ofString "in") := by decide +kernel
@[simp] theorem ks_P_neg : ¬ (Str.ofString "+" = Str.ofString "neg") := by decide +kernel
@[simp] theorem ks_P_pick : ¬ (Str.ofString "+" = Str.ofString "pick") := by decide +kernel
@[simp] theorem ks_P_M : ¬ (Str.ofString "+" = Str.ofString "-") := by decide +kernel
@[simp] theorem ks_P_T : ¬ (Str.ofString "+" = Str.ofString "*") := by decide +kernel
@[simp] theorem ks_M_in : ¬ (Str.ofString "-" = Str.ofString "in") := by decide +kernel
@[simp] theorem ks_M_neg : ¬ (Str.ofString "-" = Str.ofString "neg") := by decide +kernel
@[simp] theorem ks_M_pick : ¬ (Str.ofString "-" = Str.ofString "pick") := by decide +kernel
@[simp] theorem ks_M_P : ¬ (Str.ofString "-" = Str.ofString "+") := by decide +kernel
@[simp] theorem ks_M_T : ¬ (Str.ofString "-" = Str.ofString "*") := by decide +kernel
@[simp] theorem ks_T_in : ¬ (Str.ofString "*" = Str.ofString "in") := by decide +kernel
@[simp] theorem ks_T_neg : ¬ (Str.ofString "*" = Str.ofString "neg") := by decide +kernel
@[simp] theorem ks_T_pick : ¬ (Str.ofString "*" = Str.ofString "pick") := by decide +kernel
@[simp] theorem ks_T_P : ¬ (Str.ofString "*" = Str.ofString "+") := by decide +kernel
@[simp] theorem ks_T_M : ¬ (Str.ofString "*" = Str.ofString "-") := by decide +kernel
end Pz

set_option Elab.async false
set_option linter.all false
set_option maxRecDepth 100000
set_option maxHeartbeats 4000000
/-! Gc: the draws of the family C (a deck of cells and a count). -/
namespace Pz
open PySem PySem.Spec PyProof.Rows L2
/-- the deck: its cells, its count; below everything else -/
def dc (c xs : List Int) (k : Int) : Sto := [.lst (c.map .int), .lst (xs.map .int), .lst [.ref 1, .int k]]
/-- at most B draws so far -/
def DC (B : Nat) (T S : Sto) : Prop := ∃ c xs k, 0 ≤ k ∧ k ≤ (B : Int) ∧ S = dc c xs k ++ T
section
variable {B B' : Nat} {T S : Sto} {m : Int}
theorem DC.le (h : DC B T S) (hb : B ≤ B') : DC B' T S := by
  obtain ⟨c, xs, k, h1, h2, h3⟩ := h
  exact ⟨c, xs, k, h1, by omega, h3⟩
theorem draw_o (h : DC B T S) (hb : B < 1000000000000) (h1 : 0 < m) (h2 : m < 1073741824) : (F__law_draw [.ref 2, .int m] S).W fun d S' => (∃ r : Int, d = .int r ∧ 0 ≤ r ∧ r < m) ∧ DC (B + 1) T S' := by
  obtain ⟨c, xs, k, k0, kB, rfl⟩ := h
  refine W_runF rfl ?_
  have g1 : ∀ xs k, (dc c xs k ++ T)[2]? = some (.lst [.ref 1, .int k]) := fun _ _ => rfl
  have g0 : ∀ xs k, (dc c xs k ++ T)[1]? = some (.lst (xs.map .int)) := fun _ _ => rfl
  have i0 : ∀ xs k, oIx (.ref 2) (.int 0) (dc c xs k ++ T) = .ok (.ref 1) (dc c xs k ++ T) := fun xs k => oIx_ref (g1 xs k) (by simp)
  have i1 : ∀ xs k, oIx (.ref 2) (.int 1) (dc c xs k ++ T) = .ok (.int k) (dc c xs k ++ T) := fun xs k => oIx_ref (g1 xs k) (by simp)
  have q0 : ∀ xs k, qD (.ref 1) (dc c xs k ++ T) = .ok (xs.map .int) (dc c xs k ++ T) := fun xs k => qD_ref (g0 xs k)
  have z1 : ∀ y xs k, oSetIx (.int y) (.ref 2) (.int 1) (dc c xs k ++ T) = some (dc c xs y ++ T) := fun y xs k => by rw [oSetIx_ref (g1 _ k) (by omega) (by simp)]; rfl
  have tl : ∀ r xs' k', 0 ≤ r → r < m → 0 ≤ k' → k' ≤ (B : Int) + 1 → (gc (dc c xs k ++ T) (.int r) (dc c xs' k' ++ T)).W fun d S' => (∃ r : Int, d = .int r ∧ 0 ≤ r ∧ r < m) ∧ DC (B + 1) T S' := fun r xs' k' a b p d => by
    rw [gc_same (by simp [dc]), W_ok]
    exact ⟨⟨r, rfl, a, b⟩, c, xs', k', p, by omega, rfl⟩
  simp [b__law_draw, b__law_draw_0, i1, z1]
  simp [b__law_draw_1]
  refine ⟨_, rfl, ?_⟩
  obtain ⟨N, hN⟩ : ∃ N : Loc → Sto → Prop, ∀ l S, N l S ↔ ∃ y xs a, l = [some (.ref 2), some (.int m), some (.int y), some (.int a), none] ∧ S = dc c xs (k + 1) ++ T ∧ (xs = [] → y < 1000000000000000000) ∧ (xs ≠ [] → 0 ≤ a ∧ a < xs.length) := ⟨_, fun _ _ => Iff.rfl⟩
  refine OutS.W.mono (N := N) ?_ (fun l S q => ?_) (fun _ _ q => q) (fun _ _ q => q) (fun _ _ q => q)
  · simp [b__law_draw_2, i0, q0]
    by_cases hx : 0 < xs.length
    · rw [if_pos hx]
      have hl : (0 : Int) < xs.length := by omega
      have a := Int.emod_nonneg (k + 1) (show (xs.length : Int) ≠ 0 by omega)
      have b := Int.emod_lt_of_pos (k + 1) hl
      simp [b__law_draw_2_0, b__law_draw_2_1, i0, i1, q0, oMod_pos hl]
      have hn : ((k + 1) % (xs.length : Int)).toNat < xs.length := by omega
      rw [oIx_ref (g0 _ _) (d := .int xs[((k + 1) % (xs.length : Int)).toNat]) (by rw [atI_int a]; simp [hn]), W_ok]
      exact (hN _ _).2 ⟨_, xs, _, rfl, rfl, fun q => by subst q; simp at hx, fun _ => ⟨a, b⟩⟩
    · rw [if_neg hx]
      exact (hN _ _).2 ⟨_, xs, _, rfl, rfl, fun _ => by omega, fun q => absurd (List.length_pos_iff.mpr q) hx⟩
  · obtain ⟨y, xs, a, rfl, rfl, hx1, hx2⟩ := (hN _ _).1 q
    have pw : ∀ S, oPow (.int 10) (.int 18) S = .ok (.int 1000000000000000000) S := fun S => oPow_int (by decide)
    simp [b__law_draw_3, pw]
    by_cases hy : 1000000000000000000 ≤ y
    · rw [if_pos hy]
      have hne : xs ≠ [] := fun e => by have := hx1 e; omega
      obtain ⟨a0, a1⟩ := hx2 hne
      have z0 : ∀ v, oSetIx (.int v) (.ref 1) (.int a) (dc c xs (k + 1) ++ T) = some (dc c (xs.set a.toNat v) (k + 1) ++ T) := fun v => by
        rw [oSetIx_ref (g0 _ _) a0 (by simpa using a1)]
        simp [dc]
      simp [b__law_draw_3_0, b__law_draw_3_1, i0, oDiv_pos h1 h2, z0, oMod_pos h1]
      exact tl _ _ _ (Int.emod_nonneg _ (show m ≠ 0 by omega)) (Int.emod_lt_of_pos _ h1) (by omega) (by omega)
    · rw [if_neg hy]
      have mu : ∀ (y : Int) (S : Sto), oMul (.int 11213) (.int y) S = .ok (.int (11213 * y)) S := fun y S => oMul_int (by simp [cMul])
      have a := Int.emod_nonneg y (show (2147483477 : Int) ≠ 0 by omega)
      have b := Int.emod_lt_of_pos y (show (0 : Int) < 2147483477 by omega)
      have po : ∀ S, oPow (.int (y % 2147483477 + 11213 * (k + 1) + 7)) (.int 5) S = .ok (.int ((y % 2147483477 + 11213 * (k + 1) + 7) ^ 5)) S := fun S => oPow_int (by
        simp only [cPow, decide_eq_true_eq]
        refine ⟨by omega, by omega, ?_⟩
        omega)
      simp [b__law_draw_4, b__law_draw_5, i1, mu, oMod_pos, h1, po]
      exact tl _ _ _ (Int.emod_nonneg _ (show m ≠ 0 by omega)) (Int.emod_lt_of_pos _ h1) (by omega) (by omega)
theorem DC.len (h : DC B T S) : S.length = T.length + 3 := by
  obtain ⟨c, xs, k, _, _, rfl⟩ := h
  simp [dc] <;> omega
theorem DC.get (h : DC B T S) {n : Nat} (hn : 3 ≤ n) : S[n]? = T[n - 3]? := by
  obtain ⟨c, xs, k, _, _, rfl⟩ := h
  rw [List.getElem?_append_right (by simpa [dc] using hn)]
  rfl
theorem DC.app (h : DC B T S) (G : Sto) : DC B (T ++ G) (S ++ G) := by
  obtain ⟨c, xs, k, h1, h2, rfl⟩ := h
  exact ⟨c, xs, k, h1, h2, by rw [List.append_assoc]⟩
theorem DC.move {S' : Sto} (h : DC B T S) (h' : DC B' T S') {n : Nat} (hn : 3 ≤ n) : S'[n]? = S[n]? := by rw [h.get hn, h'.get hn]
theorem DC.keep (h : DC B T S) {G S' : Sto} (h' : DC B' (T ++ G) S') {n : Nat} {o : Ob} (hn : 3 ≤ n) (e : S[n]? = some o) : S'[n]? = some o := by
  rw [h'.get hn]
  rw [h.get hn] at e
  exact st_old e
theorem DC.keep0 (h : DC B T S) {S' : Sto} (h' : DC B' T S') {n : Nat} {o : Ob} (hn : 3 ≤ n) (e : S[n]? = some o) : S'[n]? = some o := by rw [h.move h' hn]; exact e
theorem DC.new (h : DC B T S) {S' : Sto} {o : Ob} (h' : DC B' (T ++ [o]) S') : S'[S.length]? = some o := by
  rw [h'.get (by rw [h.len]; omega), h.len]
  simp
theorem DC.set (h : DC B T S) {n : Nat} (o : Ob) (hn : 3 ≤ n) : DC B (T.set (n - 3) o) (S.set n o) := by
  obtain ⟨c, xs, k, h1, h2, rfl⟩ := h
  refine ⟨c, xs, k, h1, h2, ?_⟩
  rw [List.set_append]
  rw [if_neg (by simpa [dc] using hn)]
  rfl
theorem DC.setG {G : Sto} (h : DC B (T ++ G) S) {n : Nat} (o : Ob) (hn : T.length + 3 ≤ n) : ∃ G', DC B (T ++ G') (S.set n o) := by
  have := h.set o (n := n) (by omega)
  rw [List.set_append, if_neg (by omega)] at this
  exact ⟨_, this⟩
theorem DC.old (h : DC B T S) {G S' : Sto} (h' : DC B' (T ++ G) S') : Old S S' := by
  intro i o hi e
  have hl := h.len
  by_cases h2 : 3 ≤ i
  · rw [h'.get h2] at e
    rw [h.get h2]
    rw [List.getElem?_append_left (by omega)] at e
    exact .inl e
  · obtain ⟨c, xs, k, _, _, rfl⟩ := h
    obtain ⟨c', xs', k', _, _, rfl⟩ := h'
    match i, h2 with
    | 0, _ => cases e; exact .inr (by simp only [clO]; exact clDs_ints _ _)
    | 1, _ => cases e; exact .inr (by simp only [clO]; exact clDs_ints _ _)
    | 2, _ =>
      cases e
      refine .inr ?_
      simp only [clO, clDs, clD, Bool.and_true, decide_eq_true_eq, Bool.and_eq_true]
      omega
    | i + 3, h => omega
theorem DC.take (h : DC B T S) {G S' : Sto} (h' : DC B' (T ++ G) S') : DC B' T (S'.take S.length) := by
  have hl := h.len
  obtain ⟨c', xs', k', h1, h2, rfl⟩ := h'
  refine ⟨c', xs', k', h1, h2, ?_⟩
  rw [hl, ← List.append_assoc, List.take_left' (by simp [dc] <;> omega)]
/-- the end of a def that gives something closed back -/
theorem DC.gcW (h : DC B T S) {G S' : Sto} (h' : DC B' (T ++ G) S') {d : D} {P : D → Sto → Prop} (hd : clD S.length d = true) (hP : ∀ S'', DC B' T S'' → P d S'') : (gc S d S').W P := by
  rw [gc_cut (h.old h') hd, W_ok]
  exact hP _ (h.take h')
theorem DC.gcW0 (h : DC B T S) {S' : Sto} (h' : DC B' T S') {d : D} {P : D → Sto → Prop} (hP : P d S') : (gc S d S').W P := by
  rw [gc_same (by rw [h.len, h'.len]; exact Nat.le_refl _), W_ok]
  exact hP
/-- .. a list -/
theorem DC.gcL (h : DC B T S) {G S' : Sto} (h' : DC B' (T ++ G) S') {m : Nat} {o : Ob} {P : D → Sto → Prop} (hm : S'[m]? = some o) (hn : S.length ≤ m) (hd : clO S.length o = true) (hP : ∀ S'', DC B' (T ++ [o]) S'' → P (.ref S.length) S'') : (gc S (.ref m) S').W P := by
  rw [gc_lst (h.old h') hm hn hd, W_ok]
  exact hP _ ((h.take h').app [o])
variable {P : D → Sto → Prop}
theorem draw_ok (h : DC B T S) (hb : B < 1000000000000) (h1 : 0 < m) (h2 : m < 1073741824) (hP : ∀ (r : Int) S', 0 ≤ r → r < m → DC (B + 1) T S' → P (.int r) S') : (F__law_draw [.ref 2, .int m] S).W P :=
  (draw_o h hb h1 h2).mono fun d S' ⟨⟨r, e, h3, h4⟩, h5⟩ => by subst e; exact hP r S' h3 h4 h5
theorem one_at (h : DC B T S) (hb : B < 1000000000000) {n : Nat} {xs : List D} (hn : S[n]? = some (.lst xs)) (h5 : 3 ≤ n) (h0 : xs ≠ []) (h1 : xs.length < 1073741824) (hP : ∀ (i : Nat) d S', xs[i]? = some d → DC (B + 1) T S' → P d S') : (F__law_one [.ref 2, .ref n] S).W P := by
  refine W_runF rfl ?_
  have hp : 0 < xs.length := List.length_pos_iff.mpr h0
  simp [b__law_one, b__law_one_0, qD_ref hn]
  refine draw_ok h hb (m := xs.length) (by omega) (by omega) fun r S1 h2 h3 h4 => ?_
  have hr : r.toNat < xs.length := by omega
  rw [oIx_ref (d := xs[r.toNat]) (by rw [h.move h4 h5]; exact hn) (by rw [atI_int h2]; simp [hr])]
  rw [W_ok]
  exact h.gcW0 h4 (hP r.toNat _ _ (by simp [hr]) h4)
theorem one_ok (h : DC B T S) (hb : B < 1000000000000) {n : Nat} {xs : List D} (hn : S[n]? = some (.lst xs)) (h5 : 3 ≤ n) (h0 : xs ≠ []) (h1 : xs.length < 1073741824) (hP : ∀ d S', d ∈ xs → DC (B + 1) T S' → P d S') : (F__law_one [.ref 2, .ref n] S).W P :=
  one_at h hb hn h5 h0 h1 fun i d S' hi h' => hP d S' (List.mem_of_getElem? hi) h'
theorem kind_ok (h : DC B T S) (hb : B + 2 < 1000000000000) {k : Int} (hk0 : 0 ≤ k) (hk : k ≤ 3) (hP : ∀ d S', KOK d k.toNat → DC (B + 2) T S' → P d S') : (F__law_kind [.ref 2, .int k] S).W P := by
  obtain ⟨k, rfl⟩ := Int.eq_ofNat_of_zero_le hk0
  refine W_runF rfl ?_
  simp [b__law_kind, b__law_kind_0]
  refine draw_ok h (by omega) (by omega) (by omega) fun r S1 r0 r1 g1 => ?_
  have hS := h.len
  have hS1 := g1.len
  simp [b__law_kind_1, Nat.add_assoc]
  generalize hG : ([Ob.lst [D.str (Str.ofString "in"), D.str (Str.ofString "in"), D.str (Str.ofString "in"), D.int (r - 99), D.int 0, D.int 7], Ob.lst [D.str (Str.ofString "neg")], Ob.lst [D.str (Str.ofString "+"), D.str (Str.ofString "-"), D.str (Str.ofString "*")],
            Ob.lst [D.str (Str.ofString "pick")], Ob.lst [D.ref (List.length S1), D.ref (List.length S1 + 1), D.ref (List.length S1 + 2), D.ref (List.length S1 + 3)]] : Sto) = G
  have h' := g1.app G
  have fin : ∀ n : Nat, S1.length ≤ n → ∀ xs : List D, (S1 ++ G)[n]? = some (.lst xs) → xs ≠ [] → xs.length < 1073741824 → (∀ d ∈ xs, KOK d k) → (F__law_one [D.ref 2, .ref n] (S1 ++ G)).W fun d S' => (gc S d S').W P := fun n hn xs hx h0 h1 hk' => by
    refine one_ok h' (by omega) hx (by omega) h0 h1 fun d S2 hd h2 => ?_
    exact h.gcW h2 (hk' d hd).cl fun S3 h3 => hP d S3 (by simpa using hk' d hd) h3
  have g0 : (S1 ++ G)[S1.length + 4]? = some (Ob.lst [D.ref (List.length S1), D.ref (List.length S1 + 1), D.ref (List.length S1 + 2), D.ref (List.length S1 + 3)]) := by rw [← hG]; simp
  match k, (show k ≤ 3 by omega) with
  | 0, _ =>
    rw [oIx_ref g0 (d := .ref S1.length) (by simp), W_ok]
    refine fin _ (by omega) _ (by rw [← hG]; simp; rfl) (by simp) (by simp) fun d hd => ?_
    simp at hd
    rcases hd with rfl | rfl | rfl | rfl
    · exact .inl rfl
    · exact .inr ⟨_, rfl, by omega, by omega⟩
    · exact .inr ⟨_, rfl, by omega, by omega⟩
    · exact .inr ⟨_, rfl, by omega, by omega⟩
  | 1, _ =>
    rw [oIx_ref g0 (d := .ref (S1.length + 1)) (by simp), W_ok]
    exact fin _ (by omega) _ (by rw [← hG]; simp; rfl) (by simp) (by simp) (by simp [KOK])
  | 2, _ =>
    rw [oIx_ref g0 (d := .ref (S1.length + 2)) (by simp), W_ok]
    exact fin _ (by omega) _ (by rw [← hG]; simp; rfl) (by simp) (by simp) (by simp [KOK])
  | 3, _ =>
    rw [oIx_ref g0 (d := .ref (S1.length + 3)) (by rw [atI_int (by omega)]; rfl), W_ok]
    exact fin _ (by omega) _ (by rw [← hG]; simp; rfl) (by simp) (by simp) (by simp [KOK])
theorem mixed_ok (h : DC B T S) {n : Nat} {xs : List D} (hb : B + xs.length < 1000000000000) (hn : S[n]? = some (.lst xs)) (h5 : 3 ≤ n) (hcl : clDs S.length xs = true) (h1 : xs.length < 16777216)
    (hP : ∀ (zs : List D) S', zs.Perm xs → DC (B + xs.length) (T ++ [.lst zs]) S' → S'[S.length]? = some (.lst zs) → P (.ref S.length) S') : (F__law_mixed [.ref 2, .ref n] S).W P := by
  refine W_runF rfl ?_
  have hS := h.len
  have hnl := (List.getElem?_eq_some_iff.mp hn).1
  have n1 : (S ++ [Ob.lst xs, Ob.lst []])[n]? = some (.lst xs) := by rw [List.getElem?_append_left hnl]; exact hn
  simp [b__law_mixed, b__law_mixed_0, b__law_mixed_1, b__law_mixed_2, qD_ref hn, qD_ref n1, Nat.add_assoc]
  rw [W_kRg (by decide) (by simp [rgB]; omega)]
  obtain ⟨I, hI⟩ : ∃ I : Nat → Loc → Sto → Prop, ∀ i l S', I i l S' ↔ ∃ v rs fs, l = [some (.ref 2), some (.ref n), some (.ref S.length), some (.ref (S.length + 1)), v] ∧ rs.length + i = xs.length ∧ (fs ++ rs).Perm xs ∧ DC (B + i) (T ++ [.lst rs, .lst fs]) S' := ⟨_, fun _ _ _ => Iff.rfl⟩
  refine W_forL I _ 0 ((hI _ _ _).2 ⟨none, xs, [], rfl, rfl, .refl _, h.app _⟩) ?_ ?_
  · intro i x l S' hx q
    obtain ⟨v, rs, fs, rfl, e1, e2, h'⟩ := (hI _ _ _).1 q
    refine ⟨trivial, _, rfl, ?_⟩
    have hi := (List.getElem?_eq_some_iff.mp hx).1
    rw [rgD_len] at hi
    have f0 : ∀ S1 rs fs B, DC B (T ++ [.lst rs, .lst fs]) S1 → S1[S.length]? = some (.lst rs) := fun S1 rs fs B q => by rw [q.get (by omega), hS]; simp
    have f1 : ∀ S1 rs fs B, DC B (T ++ [.lst rs, .lst fs]) S1 → S1[S.length + 1]? = some (.lst fs) := fun S1 rs fs B q => by rw [q.get (by omega), hS, show T.length + 3 + 1 - 3 = T.length + 1 by omega]; simp
    simp [W_isL (f1 _ _ _ _ h'), W_isL (f0 _ _ _ _ h'), qD_ref (f0 _ _ _ _ h')]
    refine draw_ok h' (m := rs.length) (by omega) (by simp at hi; omega) (by omega) fun r S1 h2 h3 h4 => ?_
    have hr : r.toNat < rs.length := by omega
    rw [oPopAt_ref (y := rs[r.toNat]) (f0 _ _ _ _ h4) h2 (by simp [hr]) (by omega)]
    have h6 := h4.set (.lst (rs.eraseIdx r.toNat)) (n := S.length) (by omega)
    have e6 : (T ++ [Ob.lst rs, Ob.lst fs]).set (S.length - 3) (Ob.lst (rs.eraseIdx r.toNat)) = T ++ [Ob.lst (rs.eraseIdx r.toNat), Ob.lst fs] := by rw [hS]; simp
    rw [e6] at h6
    have el : fs.length + rs.length = xs.length := by simpa using e2.length_eq
    rw [W_ok, oApp_ref (f1 _ _ _ _ h6) (by simp only [sizeLine]; omega), W_ok]
    have h7 := h6.set (.lst (fs ++ [rs[r.toNat]])) (n := S.length + 1) (by omega)
    have e7 : (T ++ [Ob.lst (rs.eraseIdx r.toNat), Ob.lst fs]).set (S.length + 1 - 3) (Ob.lst (fs ++ [rs[r.toNat]])) = T ++ [Ob.lst (rs.eraseIdx r.toNat), Ob.lst (fs ++ [rs[r.toNat]])] := by
      rw [hS, show T.length + 3 + 1 - 3 = T.length + 1 by omega]; simp
    rw [e7] at h7
    refine (hI _ _ _).2 ⟨_, _, _, rfl, ?_, ?_, h7.le (by omega)⟩
    · rw [List.length_eraseIdx_of_lt hr]; omega
    · refine List.Perm.trans ?_ e2
      rw [List.append_assoc]
      exact List.Perm.append_left _ (perm_eraseIdx hr)
  · intro l S' q
    obtain ⟨v, rs, fs, rfl, e1, e2, h'⟩ := (hI _ _ _).1 q
    refine ⟨trivial, ?_⟩
    simp
    have hrs : rs = [] := List.eq_nil_of_length_eq_zero (by rw [rgD_len] at e1; omega)
    subst hrs
    rw [List.append_nil] at e2
    refine h.gcL h' (o := .lst fs) (by rw [h'.get (by omega), hS, show T.length + 3 + 1 - 3 = T.length + 1 by omega]; simp) (by omega) ?_ fun S2 h2 => ?_
    · simp only [clO]
      exact clDs_perm e2.symm hcl
    · have h2 := h2.le (B' := B + xs.length) (by rw [rgD_len]; omega)
      exact hP fs S2 e2 h2 (h.new h2)
theorem renumbered_eq {w : List Stp} (hw : ∀ s ∈ w, StpOk w.length s) {row : List Nat} (p : row.Perm (List.range w.length)) (hl : w.length ≤ 1000) {a n : Nat} (ha : S[a]? = some (.lst (w.map encS))) (hn : S[n]? = some (.lst (encI row))) : F__law_renumbered [.ref a, .ref n] S = .ok (encW (renum w row)) S := by
  refine eq_Wf (F := F__law_renumbered) fun P hP => ?_
  refine W_runF rfl ?_
  have rl : row.length = w.length := by rw [p.length_eq, List.length_range]
  simp [b__law_renumbered, b__law_renumbered_0]
  rw [kD_ref hn]
  simp
  refine ⟨by simp only [encI_len, sizeLine]; omega, ?_⟩
  refine W_lcT (fun i : Nat => D.int i) (fun s => encS ((stp w s).1, (stp w s).2.map fun one => row.idxOf one)) (bs := row) (by simpa using hn) (fun b hb => ?_) ?_
  · have hb' := (perm_range_mem p).mp hb
    have gt : w[b]? = some (stp w b) := stp_get hb'
    have ok := hw _ (List.mem_of_getElem? gt)
    generalize hs : stp w b = s at *
    have ix : oIx (.ref a) (.int (b : Nat)) S = .ok (encS s) S := oIx_ref ha (by rw [atI_nat, List.getElem?_map, gt]; rfl)
    refine ⟨_, rfl, ?_⟩
    have i0 : ∀ S, oIx (encS s) (.int 0) S = .ok s.1 S := fun S => oIx_tup (by simp)
    have i1 : ∀ S, oIx (encS s) (.int 1) S = .ok (.tup (encI s.2)) S := fun S => oIx_tup (by simp)
    simp [wipeL, ix, i0, i1]
    refine ⟨by have := ok.1.le; simp only [encI_len, sizeLine]; omega, ?_⟩
    refine W_lcT (fun i : Nat => D.int i) (fun i => D.int (row.idxOf i : Nat)) trivial (fun x hx => ?_) ?_
    · refine ⟨_, rfl, ?_⟩
      simp [W_isL hn]
      rw [oIndex_nat hn ((perm_range_mem p).mpr (ok.2 x hx))]
      exact W_ok.2 ⟨rfl, rfl⟩
    · simp [encS, encI, List.map_map, Function.comp_def]
  · simp
    have e : (D.tup (List.map (fun s => encS ((stp w s).1, (stp w s).2.map fun one => row.idxOf one)) row)) = encW (renum w row) := by simp [encW, renum, List.map_map, Function.comp_def]
    rw [e]
    exact hP
/-! weaving: what is taken off the pile (the queue), what stays -/
def wTake (q : Bool) (k : Nat) (pl : List Nat) : List Nat := if q then pl.take k else pl.drop (pl.length - k)
def wRest (q : Bool) (k : Nat) (pl : List Nat) : List Nat := if q then pl.drop k else pl.take (pl.length - k)
inductive Wov (q : Bool) : List Stp → List Nat → Prop
  | nil : Wov q [] []
  | step {ws : List Stp} {pl : List Nat} {d : D} {is : List Nat} {c : Nat} (h : Wov q ws pl) (hl : is.length ≤ pl.length) (hk : KOK d is.length) (hp : is.Perm (wTake q is.length pl)) (hc : c ≤ 3) : Wov q (ws ++ [(d, is)]) (wRest q is.length pl ++ List.replicate c ws.length)
theorem wTake_mem {q : Bool} {k x : Nat} {pl : List Nat} (h : x ∈ wTake q k pl) : x ∈ pl := by
  unfold wTake at h
  split at h
  · exact List.mem_of_mem_take h
  · exact List.mem_of_mem_drop h
theorem wRest_mem {q : Bool} {k x : Nat} {pl : List Nat} (h : x ∈ wRest q k pl) : x ∈ pl := by
  unfold wRest at h
  split at h
  · exact List.mem_of_mem_drop h
  · exact List.mem_of_mem_take h
theorem wTake_len {q : Bool} {k : Nat} {pl : List Nat} (h : k ≤ pl.length) : (wTake q k pl).length = k := by
  unfold wTake
  split <;> simp <;> omega
theorem wRest_len {q : Bool} {k : Nat} {pl : List Nat} (h : k ≤ pl.length) : (wRest q k pl).length = pl.length - k := by
  unfold wRest
  split <;> simp <;> omega
theorem Wov.lt {q : Bool} {ws : List Stp} {pl : List Nat} (h : Wov q ws pl) : ∀ x ∈ pl, x < ws.length := by
  induction h with
  | nil => exact fun _ h => nomatch h
  | step h hl hk hp hc ih =>
    intro x hx
    rw [List.length_append]
    rcases List.mem_append.mp hx with hx | hx
    · have := ih x (wRest_mem hx); simp; omega
    · rw [List.eq_of_mem_replicate hx]; simp
theorem Wov.stp {q : Bool} {ws : List Stp} {pl : List Nat} (h : Wov q ws pl) : ∀ t s, ws[t]? = some s → StpOk t s := by
  induction h with
  | nil => exact fun t s h => by simp at h
  | step h hl hk hp hc ih =>
    rename_i ws pl d is c
    intro t s e
    by_cases ht : t < ws.length
    · rw [List.getElem?_append_left ht] at e; exact ih t s e
    · have hz := (List.getElem?_eq_some_iff.mp e).1
      simp at hz
      have : t = ws.length := by omega
      subst this
      simp at e
      subst e
      exact ⟨hk, fun x hx => h.lt x (wTake_mem (hp.subset hx))⟩
theorem Wov.len {q : Bool} {ws : List Stp} {pl : List Nat} (h : Wov q ws pl) : pl.length ≤ 3 * ws.length := by
  induction h with
  | nil => exact Nat.le_refl _
  | step h hl hk hp hc ih =>
    rw [List.length_append, wRest_len hl]
    simp; omega
theorem grown_all {ws : List Stp} (h : ∀ t s, ws[t]? = some s → StpOk t s) : ∀ s ∈ ws, StpOk ws.length s := (Web.of_grown h).ok
theorem woven_ok (h : DC B T S) (hb : B + 1000 < 1000000000000) {most : Int} (h1 : 1 ≤ most) (h2 : most ≤ 50) {q : Bool}
    (hP : ∀ ws pl (is : List Nat) S', Wov q ws pl → 1 ≤ ws.length → ws.length ≤ most.toNat → is.Perm (List.range ws.length) → DC (B + 1000) T S' → P (.tup [encW (renum ws is), .tup (encI ((List.range ws.length).map fun k => is.idxOf k))]) S') : (F__law_woven [.ref 2, .int most, .bl q] S).W P := by
  refine W_runF rfl ?_
  have hS := h.len
  simp [b__law_woven, b__law_woven_0, b__law_woven_1, Nat.add_assoc]
  refine draw_ok (h.app [.lst [], .lst []]) (by omega) (by omega) (by omega) fun r S1 r1 r2 g1 => ?_
  simp
  rw [W_kRg (by decide) (rgB_small (by omega) (by omega))]
  obtain ⟨I, hI⟩ : ∃ I : Nat → Loc → Sto → Prop, ∀ i l S', I i l S' ↔ ∃ (pn : Nat) (v5 v6 v7 : Option D) (G : Sto) (ws : List Stp) (pl : List Nat), l = [some (.ref 2), some (.int most), some (.bl q), some (.ref pn), some (.ref (S.length + 1)), v5, v6, v7, none] ∧ DC (B + 1 + 7 * i) (T ++ G) S' ∧ S'[S.length + 1]? = some (.lst (ws.map encS)) ∧ S'[pn]? = some (.lst (encI pl)) ∧ S.length ≤ pn ∧ pn ≠ S.length + 1 ∧
    ws.length = i ∧ Wov q ws pl := ⟨_, fun _ _ _ => Iff.rfl⟩
  refine W_forL I _ 0 ((hI _ _ _).2 ⟨S.length, none, none, none, _, [], [], rfl, g1, by rw [g1.get (by omega), hS, show T.length + 3 + 1 - 3 = T.length + 1 by omega]; simp, by rw [g1.get (by omega), hS]; simp; rfl, by omega, by omega, rfl, .nil⟩) ?_ ?_
  · intro i x l S' hx z
    obtain ⟨pn, v5, v6, v7, G, ws, pl, rfl, g, hf, hp, hpn, hpn2, l1, wv⟩ := (hI _ _ _).1 z
    obtain ⟨rfl, hi⟩ := rgD_get hx
    have hS' := g.len
    have l4 := wv.len
    refine ⟨trivial, _, rfl, ?_⟩
    simp [b__law_woven_1_0]
    refine one_ok (n := S'.length) (xs := [.int 0, .int 0, .int 1, .int 2, .int 2, .int 3]) (g.app [.lst [.int 0, .int 0, .int 1, .int 2, .int 2, .int 3]]) (by omega) (by simp) (by simp at hS'; omega) (by simp) (by simp) fun d S2 hd g2 => ?_
    obtain ⟨e, rfl, e1, e2⟩ : ∃ k : Int, d = .int k ∧ 0 ≤ k ∧ k ≤ 3 := by
      simp at hd
      rcases hd with rfl | rfl | rfl | rfl <;> exact ⟨_, rfl, by omega, by omega⟩
    have p2 := g.keep g2 (by omega) hp
    have f2 := g.keep g2 (by omega) hf
    obtain ⟨k, hk⟩ : ∃ k : Nat, k = min e.toNat pl.length := ⟨_, rfl⟩
    simp [qD_ref p2, encI_len]
    have em : (if (pl.length : Int) < e then (pl.length : Int) else e) = (k : Int) := by split <;> omega
    rw [em]
    have kl : k ≤ pl.length := by omega
    have k3 : k ≤ 3 := by omega
    have hS2 := g2.len
    -- taken
    have tk : ∀ (N Y Z : Loc → Sto → Prop), N [some (.ref 2), some (.int most), some (.bl q), some (.ref pn), some (.ref (S.length + 1)), some (.int (i : Nat)), some (.int (k : Nat)), some (.ref S2.length), none] (S2 ++ [.lst (encI (wTake q k pl))]) →
        (b__law_woven_1_1 [some (.ref 2), some (.int most), some (.bl q), some (.ref pn), some (.ref (S.length + 1)), some (.int (i : Nat)), some (.int (k : Nat)), v7, none] S2).W N (fun d S' => (gc S d S').W P) Y Z := fun N Y Z hN => by
      cases q with
      | true =>
        simp [b__law_woven_1_1, oSl_ref p2]
        rw [cutL_to (by omega) (by rw [encI_len]; omega)]
        have e : List.take (k : Int).toNat (encI pl) = encI (wTake true k pl) := by simp [wTake, encI, List.map_take]
        rw [e]
        simpa using hN
      | false =>
        simp [b__law_woven_1_1, oSl_ref p2, qD_ref p2, encI_len]
        rw [cutL_from (by omega) (by rw [encI_len]; omega)]
        have e : List.drop ((pl.length : Int) - k).toNat (encI pl) = encI (wTake false k pl) := by
          rw [show ((pl.length : Int) - k).toNat = pl.length - k by omega]; simp [wTake, encI, List.map_drop]
        rw [e]
        simpa using hN
    refine tk _ _ _ ?_
    have p3 : (S2 ++ [Ob.lst (encI (wTake q k pl))])[pn]? = some (.lst (encI pl)) := st_old p2
    have f3 : (S2 ++ [Ob.lst (encI (wTake q k pl))])[S.length + 1]? = some (.lst (ws.map encS)) := st_old f2
    have t3 : (S2 ++ [Ob.lst (encI (wTake q k pl))])[S2.length]? = some (.lst (encI (wTake q k pl))) := by simp
    have g3 := g2.app [.lst (encI (wTake q k pl))]
    have hS3 : (S2 ++ [Ob.lst (encI (wTake q k pl))]).length = S2.length + 1 := by simp
    have hSS : S.length + 1 < S2.length := (List.getElem?_eq_some_iff.mp f2).1
    generalize hS3' : S2 ++ [Ob.lst (encI (wTake q k pl))] = S3 at *
    rw [List.append_assoc] at g3
    have rs : ∀ (N Y Z : Loc → Sto → Prop), N [some (.ref 2), some (.int most), some (.bl q), some (.ref S3.length), some (.ref (S.length + 1)), some (.int (i : Nat)), some (.int (k : Nat)), some (.ref S2.length), none] (S3 ++ [.lst (encI (wRest q k pl))]) →
        (b__law_woven_1_2 [some (.ref 2), some (.int most), some (.bl q), some (.ref pn), some (.ref (S.length + 1)), some (.int (i : Nat)), some (.int (k : Nat)), some (.ref S2.length), none] S3).W N (fun d S' => (gc S d S').W P) Y Z := fun N Y Z hN => by
      cases q with
      | true =>
        simp [b__law_woven_1_2, oSl_ref p3]
        rw [cutL_from (by omega) (by rw [encI_len]; omega)]
        have e : List.drop (k : Int).toNat (encI pl) = encI (wRest true k pl) := by simp [wRest, encI, List.map_drop]
        rw [e]
        simpa using hN
      | false =>
        simp [b__law_woven_1_2, oSl_ref p3, qD_ref p3, encI_len]
        rw [cutL_to (by omega) (by rw [encI_len]; omega)]
        have e : List.take ((pl.length : Int) - k).toNat (encI pl) = encI (wRest false k pl) := by
          rw [show ((pl.length : Int) - k).toNat = pl.length - k by omega]; simp [wRest, encI, List.map_take]
        rw [e]
        simpa using hN
    refine rs _ _ _ ?_
    have f4 : (S3 ++ [Ob.lst (encI (wRest q k pl))])[S.length + 1]? = some (.lst (ws.map encS)) := st_old f3
    have t4 : (S3 ++ [Ob.lst (encI (wRest q k pl))])[S2.length]? = some (.lst (encI (wTake q k pl))) := st_old t3
    have r4 : (S3 ++ [Ob.lst (encI (wRest q k pl))])[S3.length]? = some (.lst (encI (wRest q k pl))) := by simp
    have g4 := g3.app [.lst (encI (wRest q k pl))]
    rw [List.append_assoc, List.append_assoc] at g4
    generalize hS4' : S3 ++ [Ob.lst (encI (wRest q k pl))] = S4 at *
    have hS4 : S4.length = S3.length + 1 := by rw [← hS4']; simp
    simp [b__law_woven_1_3, W_isL f4]
    refine kind_ok g4 (by omega) (by omega) (by omega) fun d S5 hd g5 => ?_
    rw [Int.toNat_natCast] at hd
    have f5 := g4.keep0 g5 (by omega) f4
    have t5 := g4.keep0 g5 (by omega) t4
    have r5 := g4.keep0 g5 (by omega) r4
    have tl := wTake_len (q := q) kl
    have rl := wRest_len (q := q) kl
    refine mixed_ok g5 (by rw [encI_len]; omega) t5 (by omega) (encI_cl _ _) (by rw [encI_len]; omega) fun zs S6 pz g6 i6 => ?_
    obtain ⟨is, rfl, pi⟩ := perm_encI pz
    have f6 := g5.keep g6 (by omega) f5
    have r6 := g5.keep g6 (by omega) r5
    have il : is.length = k := by rw [pi.length_eq, tl]
    simp [qD_ref i6]
    rw [oApp_ref f6 (by simp [sizeLine]; omega), W_ok]
    rw [encI_len, tl] at g6
    obtain ⟨G7, g7⟩ : ∃ G', DC (B + 1 + 7 * (0 + i) + 1 + 2 + k) (T ++ G') (S6.set (S.length + 1) (.lst (ws.map encS ++ [.tup [d, .tup (encI is)]]))) := by
      rw [List.append_assoc] at g6
      exact g6.setG _ (by omega)
    have r7 : (S6.set (S.length + 1) (.lst (ws.map encS ++ [.tup [d, .tup (encI is)]])))[S3.length]? = some (.lst (encI (wRest q k pl))) := by rw [List.getElem?_set_ne (by omega)]; exact r6
    have f7 : (S6.set (S.length + 1) (.lst (ws.map encS ++ [.tup [d, .tup (encI is)]])))[S.length + 1]? = some (.lst ((ws ++ [(d, is)]).map encS)) := by
      rw [List.getElem?_set_self (List.getElem?_eq_some_iff.mp f6).1]; simp [encS]
    have hS7 : (S6.set (S.length + 1) (.lst (ws.map encS ++ [.tup [d, .tup (encI is)]]))).length = S6.length := by simp
    generalize S6.set (S.length + 1) (.lst (ws.map encS ++ [.tup [d, .tup (encI is)]])) = S7 at *
    have hS5 := g5.len
    have hS6 := g6.len
    have g7l := g7.len
    have h47 : S3.length < S7.length := (List.getElem?_eq_some_iff.mp r7).1
    simp [b__law_woven_1_4]
    refine draw_ok g7 (by omega) (by omega) (by omega) fun c S8 c0 c1 g8 => ?_
    have f8 := g7.keep0 g8 (by omega) f7
    have r8 := g7.keep0 g8 (by omega) r7
    have cl : ([D.int (i : Nat)].length * c.toNat) ≤ sizeLine := by simp [sizeLine]; omega
    rw [W_olRep get_tmp (by simp [sizeLine]; omega), W_olCat (get_at r8) get_tmp (by simp [encI_len, sizeLine]; omega)]
    have el2 : encI (wRest q k pl) ++ (List.replicate c.toNat [D.int (i : Nat)]).flatten = encI (wRest q k pl ++ List.replicate c.toNat i) := by
      rw [encI_app]; simp [encI]
    rw [el2]
    simp
    have g9 := g8.app [.lst (encI (wRest q k pl ++ List.replicate c.toNat i))]
    rw [List.append_assoc] at g9
    have hS8 := g8.len
    refine (hI _ _ _).2 ⟨S8.length, _, _, _, _, ws ++ [(d, is)], wRest q k pl ++ List.replicate c.toNat i, rfl, g9.le (by omega), st_old f8, by simp, by omega, by omega, by simp [l1], ?_⟩
    have := Wov.step (d := d) (is := is) (c := c.toNat) wv (by omega) (by rw [il]; exact hd) (by rw [il]; exact pi) (by omega)
    rw [il, l1, Nat.zero_add] at this
    exact this
  · intro l S' z
    obtain ⟨pn, v5, v6, v7, G, ws, pl, rfl, g, hf, hp, hpn, hpn2, l1, wv⟩ := (hI _ _ _).1 z
    refine ⟨trivial, ?_⟩
    have g := g.le (B' := B + 400) (by rw [rgD_len]; omega)
    rw [rgD_len] at l1
    have hS' := g.len
    simp [b__law_woven_2, qD_ref hf]
    rw [W_lRg (rgOk_small (by omega) (by omega) (by omega) (by omega)), rgD_encI]
    simp
    refine mixed_ok (n := S'.length) (xs := encI (List.range ws.length)) (g.app [.lst (encI (List.range ws.length))]) (by rw [encI_len, List.length_range]; omega) (by simp) (by omega) (encI_cl _ _) (by rw [encI_len]; simp; omega) fun zs S6 pz g6 i6 => ?_
    obtain ⟨is, rfl, pi⟩ := perm_encI pz
    have f6 : S6[S.length + 1]? = some (.lst (ws.map encS)) := (g.app [.lst (encI (List.range ws.length))]).keep g6 (by omega) (st_old hf)
    simp at i6
    have ok := grown_all wv.stp
    simp [b__law_woven_3]
    rw [renumbered_eq ok pi (by omega) f6 i6, W_ok]
    simp [qD_ref f6]
    rw [W_kRg (by decide) (rgB_small (by omega) (by omega)), rgD_encI]
    refine ⟨by simp only [encI_len, List.length_range, sizeLine]; omega, ?_⟩
    refine W_lcT (fun i : Nat => D.int i) (fun i => D.int (is.idxOf i : Nat)) trivial (fun x hx => ?_) ?_
    · refine ⟨_, rfl, ?_⟩
      simp [wipeL, W_isL i6]
      rw [oIndex_nat i6 ((perm_range_mem pi).mpr (List.mem_range.mp hx))]
      exact W_ok.2 ⟨rfl, rfl⟩
    · simp
      rw [List.append_assoc, List.append_assoc, encI_len, List.length_range] at g6
      have web := (Web.of_grown wv.stp).renum pi
      have e : List.map (fun i => D.int (is.idxOf i : Nat)) (List.range ws.length) = encI ((List.range ws.length).map fun k => is.idxOf k) := by simp [encI, List.map_map, Function.comp_def]
      rw [e]
      refine h.gcW (g6.le (B' := B + 1000) (by omega)) (by simp [clD, clDs, encI_cl]; exact web.cl) fun S'' h5 => hP ws pl is S'' wv (by omega) (by omega) pi h5
theorem deck_ok {ns : List Int} (hn : ns.length ≤ 63) {P : D → Sto → Prop} (hP : ∀ S', DC 0 [] S' → P (.ref 2) S') : (F__law_deck [.rl (ns.map D.int)] []).W P := by
  refine W_runF rfl ?_
  simp [b__law_deck, b__law_deck_0]
  rw [cutL_toO (by simp; omega)]
  have k0 : kD (.ref 0) [Ob.lst (ns.map D.int)] = .ok ⟨ns.map D.int, atGd 0 (ns.map D.int)⟩ [Ob.lst (ns.map D.int)] := kD_ref rfl
  simp [k0]
  refine ⟨by simp [sizeLine]; omega, ?_⟩
  refine W_lcT (fun i : Int => D.int i) (fun i => D.int (if i < 0 then -i else i)) (by simp) (fun b hb => ⟨_, rfl, ?_⟩) ?_
  · simp [wipeL]
  simp
  generalize hA : ns.map (fun i : Int => if i < 0 then -i else i) = A
  have eA : ns.map (fun i : Int => D.int (if i < 0 then -i else i)) = A.map D.int := by rw [← hA]; simp [Function.comp_def]
  simp only [eA]
  have gcE : gc [] (.ref 2) [Ob.lst (ns.map D.int), Ob.lst (A.map D.int), Ob.lst [.ref 1, .int 0]] = .ok (.ref 2) [Ob.lst (ns.map D.int), Ob.lst (A.map D.int), Ob.lst [.ref 1, .int 0]] := by
    unfold gc
    rw [if_neg (by simp [clD])]
    simp [clO, clDs, clD]
  rw [gcE, W_ok]
  exact hP _ ⟨ns, A, 0, by omega, by omega, by simp [dc]⟩
end
end Pz

set_option Elab.async false
set_option linter.all false
set_option maxRecDepth 100000
set_option maxHeartbeats 4000000
/-! Pw5: what can be shown, how long it is, where it lies. -/
namespace Pz
open PySem PySem.Spec PyProof.Rows L2
/-! good data: small leaves, depth, size -/
mutual
def small (N : Nat) : PyData → Bool
  | .none => true
  | .bool _ => true
  | .int i => decide (i.natAbs ≤ N)
  | .str x => x.cps.toList.all fun c => decide (c < 16 ^ 8)
  | .list xs => smalls N xs
  | .tuple xs => smalls N xs
  | .dict kvs => kvs.isEmpty
def smalls (N : Nat) : List PyData → Bool
  | [] => true
  | x :: xs => small N x && smalls N xs
end
mutual
theorem small_leaves {N : Nat} (hN : N < 10 ^ 39) : ∀ q : PyData, small N q = true → q.leavesShort 40 = true ∧ q.showable = true
  | .none, _ => ⟨rfl, rfl⟩
  | .bool _, _ => ⟨rfl, rfl⟩
  | .int i, h => by
    simp only [small, decide_eq_true_eq] at h
    have hi : i.natAbs < 10 ^ 39 := Nat.lt_of_le_of_lt h hN
    refine ⟨?_, ?_⟩
    · simp only [PyData.leavesShort, decide_eq_true_eq]
      have e := int_text_length_le10 (k := 39) (by decide) hi
      show (Str.ofString (toString i)).length ≤ 40
      rw [PySem.ofString_length]; exact e
    · simp only [PyData.showable, decide_eq_true_eq]
      by_cases z : i.natAbs = 0
      · rw [z]; decide
      · exact (Nat.log2_lt z).mpr (Nat.lt_trans hi (by decide +kernel))
  | .str x, h => ⟨by simpa only [PyData.leavesShort, small] using h, rfl⟩
  | .list xs, h => by
    have := smalls_leaves hN xs (by simpa only [small] using h)
    exact ⟨by simpa only [PyData.leavesShort] using this.1, by simpa only [PyData.showable] using this.2⟩
  | .tuple xs, h => by
    have := smalls_leaves hN xs (by simpa only [small] using h)
    exact ⟨by simpa only [PyData.leavesShort] using this.1, by simpa only [PyData.showable] using this.2⟩
  | .dict kvs, h => by
    simp only [small] at h
    cases kvs with
    | nil => exact ⟨rfl, rfl⟩
    | cons => cases h
theorem smalls_leaves {N : Nat} (hN : N < 10 ^ 39) : ∀ q : List PyData, smalls N q = true → PyData.leavesShortAll 40 q = true ∧ PyData.showableAll q = true
  | [], _ => ⟨rfl, rfl⟩
  | x :: xs, h => by
    simp only [smalls, Bool.and_eq_true] at h
    have h1 := small_leaves hN x h.1
    have h2 := smalls_leaves hN xs h.2
    simp only [PyData.leavesShortAll, PyData.showableAll, h1.1, h1.2, h2.1, h2.2, Bool.and_self, and_self]
end
mutual
theorem small_le {N N' : Nat} (hN : N ≤ N') : ∀ q : PyData, small N q = true → small N' q = true
  | .none, _ => rfl
  | .bool _, _ => rfl
  | .int i, h => by simp only [small, decide_eq_true_eq] at h ⊢; omega
  | .str x, h => h
  | .list xs, h => by simp only [small] at h ⊢; exact smalls_le hN xs h
  | .tuple xs, h => by simp only [small] at h ⊢; exact smalls_le hN xs h
  | .dict kvs, h => h
theorem smalls_le {N N' : Nat} (hN : N ≤ N') : ∀ q : List PyData, smalls N q = true → smalls N' q = true
  | [], _ => rfl
  | x :: xs, h => by
    simp only [smalls, Bool.and_eq_true] at h ⊢
    exact ⟨small_le hN x h.1, smalls_le hN xs h.2⟩
end
def gq (N k m : Nat) (q : PyData) : Prop := small N q = true ∧ q.depth ≤ k ∧ q.bulk ≤ m
def gqs (N k m : Nat) (q : List PyData) : Prop := smalls N q = true ∧ PyData.depthAll q ≤ k ∧ PyData.bulkAll q ≤ m
def Ok (N : Nat) (U : Sto) (k m : Nat) (d : D) : Prop := ∃ q, toPyR (k + 1) U d = some q ∧ gq N k m q
def OkL (N : Nat) (U : Sto) (k m : Nat) (xs : List D) : Prop := ∃ qs, mapO (toPyR (k + 1) U) xs = some qs ∧ gqs N k m qs
section
variable {U V : Sto} {N k m : Nat} {d : D} {xs ys : List D}
theorem mapO_mono {α β : Type} {f g : α → Option β} (h : ∀ x y, f x = some y → g x = some y) : ∀ {xs : List α} {ys : List β}, mapO f xs = some ys → mapO g xs = some ys
  | [], ys, e => e
  | x :: xs, ys, e => by
    simp only [mapO] at e
    cases e1 : f x with
    | none => rw [e1] at e; cases e
    | some b =>
      cases e2 : mapO f xs with
      | none => rw [e1, e2] at e; cases e
      | some bs =>
        rw [e1, e2] at e
        cases e
        simp only [mapO, h x b e1, mapO_mono h e2]
theorem mapO_app {α β : Type} {f : α → Option β} : ∀ {xs ys : List α} {us vs : List β}, mapO f xs = some us → mapO f ys = some vs → mapO f (xs ++ ys) = some (us ++ vs)
  | [], ys, us, vs, e, e' => by cases e; exact e'
  | x :: xs, ys, us, vs, e, e' => by
    simp only [mapO] at e
    cases e1 : f x with
    | none => rw [e1] at e; cases e
    | some b =>
      cases e2 : mapO f xs with
      | none => rw [e1, e2] at e; cases e
      | some bs =>
        rw [e1, e2] at e
        cases e
        simp only [List.cons_append, mapO, e1, mapO_app e2 e']
/-- more steps, more store -/
theorem toPyR_mono (hU : ∀ (i : Nat) o, U[i]? = some o → (∃ xs, o = .lst xs) ∨ o = .dk [] → V[i]? = some o) : ∀ (n n' : Nat) (d : D) (q : PyData), n ≤ n' → toPyR n U d = some q → toPyR n' V d = some q
  | 0, _, _, _, _, e => by cases e
  | n + 1, 0, _, _, h, _ => absurd h (Nat.not_succ_le_zero n)
  | n + 1, n' + 1, d, q, h, e => by
    have ih : ∀ x y, toPyR n U x = some y → toPyR n' V x = some y := fun x y => toPyR_mono hU n n' x y (by omega)
    cases d with
    | non => exact e
    | bl => exact e
    | int => exact e
    | str => exact e
    | tup xs =>
      simp only [toPyR, Option.map_eq_some_iff] at e ⊢
      obtain ⟨ps, e1, e2⟩ := e
      exact ⟨ps, mapO_mono ih e1, e2⟩
    | ref j =>
      simp only [toPyR] at e ⊢
      split at e
      · rename_i xs hj
        rw [hU j _ hj (.inl ⟨xs, rfl⟩)]
        simp only [Option.map_eq_some_iff] at e ⊢
        obtain ⟨ps, e1, e2⟩ := e
        exact ⟨ps, mapO_mono ih e1, e2⟩
      · rename_i hj
        rw [hU j _ hj (.inr rfl)]
        exact e
      · cases e
    | fn => cases e
    | rl => cases e
theorem gq.mono {k' m' : Nat} {q : PyData} (h : gq N k m q) (hk : k ≤ k') (hm : m ≤ m') : gq N k' m' q := ⟨h.1, Nat.le_trans h.2.1 hk, Nat.le_trans h.2.2 hm⟩
theorem gqs.mono {k' m' : Nat} {q : List PyData} (h : gqs N k m q) (hk : k ≤ k') (hm : m ≤ m') : gqs N k' m' q := ⟨h.1, Nat.le_trans h.2.1 hk, Nat.le_trans h.2.2 hm⟩
theorem Ok.mono {k' m' : Nat} (h : Ok N U k m d) (hk : k ≤ k') (hm : m ≤ m') : Ok N U k' m' d := by
  obtain ⟨q, e, g⟩ := h
  exact ⟨q, toPyR_mono (fun _ _ h _ => h) _ _ _ _ (by omega) e, g.mono hk hm⟩
theorem OkL.mono {k' m' : Nat} (h : OkL N U k m xs) (hk : k ≤ k') (hm : m ≤ m') : OkL N U k' m' xs := by
  obtain ⟨q, e, g⟩ := h
  exact ⟨q, mapO_mono (fun x y => toPyR_mono (fun _ _ h _ => h) _ _ _ _ (by omega)) e, g.mono hk hm⟩
theorem Ok.ext (h : Ok N U k m d) (hU : ∀ (i : Nat) o, U[i]? = some o → (∃ xs, o = .lst xs) ∨ o = .dk [] → V[i]? = some o) : Ok N V k m d := by
  obtain ⟨q, e, g⟩ := h
  exact ⟨q, toPyR_mono hU _ _ _ _ (Nat.le_refl _) e, g⟩
theorem OkL.ext (h : OkL N U k m xs) (hU : ∀ (i : Nat) o, U[i]? = some o → (∃ xs, o = .lst xs) ∨ o = .dk [] → V[i]? = some o) : OkL N V k m xs := by
  obtain ⟨q, e, g⟩ := h
  exact ⟨q, mapO_mono (fun x y => toPyR_mono hU _ _ _ _ (Nat.le_refl _)) e, g⟩
theorem Ok.app (h : Ok N U k m d) (G : Sto) : Ok N (U ++ G) k m d := h.ext fun i o e _ => st_old e
theorem OkL.app' (h : OkL N U k m xs) (G : Sto) : OkL N (U ++ G) k m xs := h.ext fun i o e _ => st_old e
theorem OkL.nil : OkL N U k m [] := ⟨[], rfl, rfl, Nat.zero_le _, Nat.zero_le _⟩
theorem OkL.cons {a b : Nat} (h : Ok N U k a d) (t : OkL N U k b xs) (hm : a + 1 + b ≤ m) : OkL N U k m (d :: xs) := by
  obtain ⟨q, e, g⟩ := h
  obtain ⟨qs, es, gs⟩ := t
  refine ⟨q :: qs, by simp only [mapO, e, es], ?_, ?_, ?_⟩
  · simp only [smalls, g.1, gs.1, Bool.and_self]
  · simp only [PyData.depthAll]; exact Nat.max_le.mpr ⟨g.2.1, gs.2.1⟩
  · have := g.2.2; have := gs.2.2; simp only [PyData.bulkAll]; omega
theorem OkL.uncons (h : OkL N U k m (d :: xs)) : ∃ a b, a + 1 + b ≤ m ∧ Ok N U k a d ∧ OkL N U k b xs := by
  obtain ⟨qs, e, g1, g3, g4⟩ := h
  simp only [mapO] at e
  cases e1 : toPyR (k + 1) U d with
  | none => rw [e1] at e; cases e
  | some b =>
    cases e2 : mapO (toPyR (k + 1) U) xs with
    | none => rw [e1, e2] at e; cases e
    | some bs =>
      rw [e1, e2] at e
      cases e
      simp only [smalls, Bool.and_eq_true, PyData.depthAll, PyData.bulkAll] at g1 g3 g4
      exact ⟨b.bulk, PyData.bulkAll bs, g4, ⟨b, e1, g1.1, by omega, Nat.le_refl _⟩, ⟨bs, e2, g1.2, by omega, Nat.le_refl _⟩⟩
theorem OkL.tup (h : OkL N U k m xs) : Ok N U (k + 1) m (.tup xs) := by
  obtain ⟨qs, e, g1, g3, g4⟩ := h
  exact ⟨.tuple qs, (by show (mapO (toPyR (k + 1) U) xs).map PyData.tuple = some _; rw [e]; rfl), by simpa only [small] using g1, by simp only [PyData.depth]; omega, by simpa only [PyData.bulk] using g4⟩
theorem OkL.lst {n : Nat} (h : OkL N U k m xs) (hn : U[n]? = some (.lst xs)) : Ok N U (k + 1) m (.ref n) := by
  obtain ⟨qs, e, g1, g3, g4⟩ := h
  exact ⟨.list qs, (by rw [toPyR]; simp only [hn]; rw [e]; rfl), by simpa only [small] using g1, by simp only [PyData.depth]; omega, by simpa only [PyData.bulk] using g4⟩
theorem Ok.dk0 {n : Nat} (hn : U[n]? = some (.dk [])) : Ok N U (k + 1) m (.ref n) :=
  ⟨.dict [], by simp only [toPyR, hn], rfl, by simp [PyData.depth, PyData.depthKv], by simp [PyData.bulk, PyData.bulkKv]⟩
theorem Ok.untup (h : Ok N U k m (.tup xs)) : ∃ j, k = j + 1 ∧ OkL N U j m xs := by
  obtain ⟨q, e, g1, g3, g4⟩ := h
  simp only [toPyR, Option.map_eq_some_iff] at e
  obtain ⟨qs, e, rfl⟩ := e
  simp only [PyData.depth] at g3
  obtain ⟨j, rfl⟩ : ∃ j, k = j + 1 := ⟨k - 1, by omega⟩
  exact ⟨j, rfl, qs, e, by simpa only [small] using g1, by omega, by simpa only [PyData.bulk] using g4⟩
theorem OkL.append {b : Nat} : ∀ {xs : List D} {a : Nat}, OkL N U k a xs → OkL N U k b ys → OkL N U k (a + b) (xs ++ ys)
  | [], a, _, t => t.mono (Nat.le_refl _) (Nat.le_add_left _ _)
  | x :: xs, a, h, t => by
    obtain ⟨a1, b1, e, h1, h2⟩ := h.uncons
    exact .cons h1 (OkL.append h2 t) (by omega)
theorem OkL.unapp : ∀ {xs : List D} {m : Nat}, OkL N U k m (xs ++ ys) → ∃ a b, a + b ≤ m ∧ OkL N U k a xs ∧ OkL N U k b ys
  | [], m, h => ⟨0, m, by omega, .nil, h⟩
  | x :: xs, m, h => by
    obtain ⟨a1, b1, e, h1, h2⟩ := OkL.uncons (d := x) (xs := xs ++ ys) h
    obtain ⟨a2, b2, e2, h3, h4⟩ := OkL.unapp (xs := xs) h2
    exact ⟨a1 + 1 + a2, b2, by omega, .cons h1 h3 (Nat.le_refl _), h4⟩
theorem OkL.sub {us vs : List D} (h : us.Sublist vs) : ∀ {m : Nat}, OkL N U k m vs → OkL N U k m us := by
  induction h with
  | slnil => exact fun h => h
  | cons a _ ih =>
    intro m h
    obtain ⟨a1, b1, e, h1, h2⟩ := h.uncons
    exact (ih h2).mono (Nat.le_refl _) (by omega)
  | cons_cons a _ ih =>
    intro m h
    obtain ⟨a1, b1, e, h1, h2⟩ := h.uncons
    exact .cons h1 (ih h2) e
theorem OkL.rev : ∀ {xs : List D} {m : Nat}, OkL N U k m xs → OkL N U k m xs.reverse
  | [], m, h => h
  | x :: xs, m, h => by
    obtain ⟨a1, b1, e, h1, h2⟩ := h.uncons
    rw [List.reverse_cons]
    have := (OkL.rev h2).append (OkL.cons (m := a1 + 1) h1 (OkL.nil (m := 0)) (by omega))
    exact this.mono (Nat.le_refl _) (by omega)
theorem OkL.mem (h : OkL N U k m xs) (hd : d ∈ xs) : Ok N U k m d := by
  obtain ⟨a, b, rfl⟩ := List.append_of_mem hd
  obtain ⟨_, _, e, _, h2⟩ := h.unapp
  obtain ⟨_, _, e2, h3, _⟩ := h2.uncons
  exact h3.mono (Nat.le_refl _) (by omega)
/-- it lies below -/
theorem Ok.cl (h : Ok N U k m d) : clD U.length d = true := by
  obtain ⟨q, e, _⟩ := h
  have key : ∀ (n : Nat) (d : D) (q : PyData), toPyR n U d = some q → clD U.length d = true := by
    intro n
    induction n with
    | zero => intro d q e; cases e
    | succ n ih =>
      intro d q e
      cases d with
      | tup xs =>
        simp only [toPyR, Option.map_eq_some_iff] at e
        obtain ⟨ps, e1, e2⟩ := e
        simp only [clD, clDs_all, List.all_eq_true]
        intro x hx
        obtain ⟨y, h1, _⟩ := mapO_all e1 x hx
        exact ih x y h1
      | ref j =>
        simp only [toPyR] at e
        simp only [clD, decide_eq_true_eq]
        split at e
        · rename_i hj; exact (List.getElem?_eq_some_iff.mp hj).1
        · rename_i hj; exact (List.getElem?_eq_some_iff.mp hj).1
        · cases e
      | fn => cases e
      | rl => cases e
      | _ => simp [clD]
  exact key _ _ _ e
theorem OkL.cl (h : OkL N U k m xs) : clDs U.length xs = true := by
  rw [clDs_all, List.all_eq_true]
  exact fun d hd => (h.mem hd).cl
/-- closed data over a closed store wants no more than it -/
theorem Ok.down {G : Sto} (hc : ∀ o ∈ U, clO U.length o = true) (h : Ok N (U ++ G) k m d) (hd : clD U.length d = true) : Ok N U k m d := by
  obtain ⟨q, e, g⟩ := h
  refine ⟨q, ?_, g⟩
  have key : ∀ (n : Nat) (d : D) (q : PyData), clD U.length d = true → toPyR n (U ++ G) d = some q → toPyR n U d = some q := by
    intro n
    induction n with
    | zero => intro d q _ e; cases e
    | succ n ih =>
      intro d q hd e
      have all : ∀ (xs : List D) (ps : List PyData), clDs U.length xs = true → mapO (toPyR n (U ++ G)) xs = some ps → mapO (toPyR n U) xs = some ps := by
        intro xs
        induction xs with
        | nil => exact fun _ _ e => e
        | cons x xs ihx =>
          intro ps hcx e
          simp only [clDs, Bool.and_eq_true] at hcx
          simp only [mapO] at e
          cases e1 : toPyR n (U ++ G) x with
          | none => rw [e1] at e; cases e
          | some b =>
            cases e2 : mapO (toPyR n (U ++ G)) xs with
            | none => rw [e1, e2] at e; cases e
            | some bs =>
              rw [e1, e2] at e
              cases e
              simp only [mapO, ih x b hcx.1 e1, ihx bs hcx.2 e2]
      cases d with
      | tup xs =>
        simp only [toPyR, Option.map_eq_some_iff] at e ⊢
        obtain ⟨ps, e1, e2⟩ := e
        exact ⟨ps, all xs ps (by simpa only [clD] using hd) e1, e2⟩
      | ref j =>
        simp only [clD, decide_eq_true_eq] at hd
        simp only [toPyR] at e ⊢
        rw [List.getElem?_append_left hd] at e
        split at e
        · rename_i xs hj
          rw [hj]
          simp only [Option.map_eq_some_iff] at e ⊢
          obtain ⟨ps, e1, e2⟩ := e
          have := hc _ (List.mem_of_getElem? hj)
          exact ⟨ps, all xs ps (by simpa only [clO] using this) e1, e2⟩
        · rename_i hj; rw [hj]; exact e
        · cases e
      | fn => cases e
      | rl => cases e
      | _ => exact e
  exact key _ _ _ hd e
theorem Ok.pys (h : Ok N U k m d) : PyS U d := ⟨_, _, h.choose_spec.1⟩
theorem Ok.repr (hN : N < 10 ^ 39) (h : Ok N U k m d) (hk : k ≤ 39) (hm : m ≤ 100000) : ∃ t, reprD U d = some t := by
  obtain ⟨q, e, g1, g3, g4⟩ := h
  refine ⟨q.shown, ?_⟩
  have e2 := toPyR_mono (U := U) (V := U) (fun _ _ h _ => h) (k + 1) 40 d q (by omega) e
  simp only [reprD, e2]
  have sm := small_leaves hN q g1
  have sl := PyData.shown_le_bulk 40 (by decide) q sm.1
  have sz : q.shown.length ≤ sizeLine := by
    have : (40 + 2) * q.bulk ≤ (40 + 2) * 100000 := Nat.mul_le_mul_left _ (by omega)
    simp only [sizeLine]; omega
  rw [if_pos]
  simp only [sm.2, Bool.true_and, Bool.and_eq_true, decide_eq_true_eq]
  exact ⟨by omega, sz⟩
/-- data without lists, checked by reckoning -/
def okB (N k m : Nat) (d : D) : Bool := match toPyR (k + 1) [] d with
  | some q => small N q && decide (q.depth ≤ k) && decide (q.bulk ≤ m)
  | none => false
theorem Ok.of_okB (h : okB N k m d = true) : Ok N U k m d := by
  unfold okB at h
  split at h
  · rename_i q e
    simp only [Bool.and_eq_true, decide_eq_true_eq] at h
    exact ⟨q, toPyR_mono (U := []) (V := U) (fun i o e _ => by simp at e) _ _ _ _ (Nat.le_refl _) e, h.1.1, h.1.2, h.2⟩
  · cases h
theorem OkL.down {G : Sto} (hc : ∀ o ∈ U, clO U.length o = true) : ∀ {xs : List D} {m : Nat}, OkL N (U ++ G) k m xs → clDs U.length xs = true → OkL N U k m xs
  | [], _, _, _ => .nil
  | x :: xs, m, h, hd => by
    simp only [clDs, Bool.and_eq_true] at hd
    obtain ⟨a, b, e, h1, h2⟩ := h.uncons
    exact .cons (h1.down hc hd.1) (OkL.down hc h2 hd.2) e
theorem Ok.unref {n : Nat} (h : Ok N U k m (.ref n)) : (∃ j xs, k = j + 1 ∧ U[n]? = some (.lst xs) ∧ OkL N U j m xs) ∨ U[n]? = some (.dk []) ∧ ∃ j, k = j + 1 := by
  obtain ⟨q, e, g1, g3, g4⟩ := h
  rw [toPyR] at e
  split at e
  · rename_i xs hj
    simp only [Option.map_eq_some_iff] at e
    obtain ⟨qs, e, rfl⟩ := e
    simp only [PyData.depth] at g3
    obtain ⟨j, rfl⟩ : ∃ j, k = j + 1 := ⟨k - 1, by omega⟩
    exact .inl ⟨j, xs, rfl, hj, qs, e, by simpa only [small] using g1, by omega, by simpa only [PyData.bulk] using g4⟩
  · rename_i hj
    cases e
    simp only [PyData.depth] at g3
    exact .inr ⟨hj, k - 1, by omega⟩
  · cases e
theorem Ok.more {N' : Nat} (h : Ok N U k m d) (hN : N ≤ N') : Ok N' U k m d := by
  obtain ⟨q, e, g⟩ := h
  exact ⟨q, e, small_le hN q g.1, g.2⟩
theorem OkL.more {N' : Nat} (h : OkL N U k m xs) (hN : N ≤ N') : OkL N' U k m xs := by
  obtain ⟨q, e, g⟩ := h
  exact ⟨q, e, smalls_le hN q g.1, g.2⟩
theorem Ok.int {i : Int} (h : i.natAbs ≤ N) : Ok N U k m (.int i) := ⟨.int i, rfl, by simp only [small, decide_eq_true_eq]; exact h, Nat.zero_le _, Nat.zero_le _⟩
theorem Ok.unint {i : Int} (h : Ok N U k m (.int i)) : i.natAbs ≤ N := by
  obtain ⟨q, e, g⟩ := h
  cases e
  simpa only [small, decide_eq_true_eq] using g.1
end
end Pz

set_option Elab.async false
set_option linter.all false
set_option maxRecDepth 100000
set_option maxHeartbeats 4000000
/-! Pw6: sorted, sets, == of lists of ints, programs as data. -/
namespace Pz
open PySem PySem.Spec PyProof.Rows L2
section
variable {N : Loc → Sto → Prop} {R : D → Sto → Prop} {B C : Loc → Sto → Prop} {l : Loc} {S : Sto} {u v w : FE}
@[simp] theorem W_sPar3 {i j k : Nat} : (sPar3 i j k (aC u (aC v (aC w aN))) l S).W N R B C ↔ (u l S).W fun x S1 => (v l S1).W fun y S2 => (w l S2).W fun z S3 => N (((l.set i (some x)).set j (some y)).set k (some z)) S3 := by
  unfold sPar3
  rw [W_toS]
  simp only [W_aC, W_aN, W_nx]
theorem oSetI_ints {ns : List Int} (h : ns.length ≤ 4000) : oSetI (ns.map .int) S = .ok ns S := by
  unfold oSetI
  rw [intsD_map]
  simp only [if_pos h]
@[simp] theorem oLenSt_eq {ns : List Int} : oLenSt ns S = .ok (.int ((uniqI ns).length : Nat)) S := rfl
theorem oSorted_ints {ns : List Int} : oSorted (ns.map .int) S = .ok (.tmp ((ns.mergeSort fun a b => decide (a ≤ b)).map .int)) S := by
  unfold oSorted sortQ
  rw [intsD_map]
theorem oSorted_tups {ls : List (List Int)} (h0 : ls ≠ []) (h : ∀ l ∈ ls, l ≠ []) : oSorted (ls.map encT) S = .ok (.tmp ((ls.mergeSort leL).map encT)) S := by
  have e : intsD (ls.map encT) = none := by
    cases ls with
    | nil => exact absurd rfl h0
    | cons a ls => rfl
  unfold oSorted sortQ
  rw [e, mapO_tupI h]; rfl
theorem oSorted_nil : oSorted [] S = .ok (.tmp []) S := by have := oSorted_ints (S := S) (ns := []); simpa using this
end
/-! ### == of data without truth values -/
def purD : Nat → D → Bool
  | _, .non => true
  | _, .int _ => true
  | _, .str s => PyData.strOk s
  | n + 1, .tup xs => xs.all (purD n)
  | _, _ => false
def pyD : Nat → D → PyData
  | _, .non => .none
  | _, .int i => .int i
  | _, .str s => .str s
  | n + 1, .tup xs => .tuple (xs.map (pyD n))
  | _, _ => .none
theorem mapO_of {α β : Type} {f : α → Option β} {g : α → β} : ∀ {xs : List α}, (∀ x ∈ xs, f x = some (g x)) → mapO f xs = some (xs.map g)
  | [], _ => rfl
  | x :: xs, h => by rw [mapO, h x List.mem_cons_self, mapO_of fun y hy => h y (List.mem_cons_of_mem _ hy)]; rfl
theorem toPy_pur {S : Sto} : ∀ (n k : Nat) (d : D), n < k → purD n d = true → toPy k S d = some (pyD n d)
  | n, 0, _, hk, _ => by omega
  | 0, k + 1, d, hk, h => by cases d <;> first | (simp [purD] at h; done) | rfl
  | n + 1, k + 1, d, hk, h => by
    cases d with
    | tup xs =>
      simp only [purD, List.all_eq_true] at h
      simp only [toPy]
      rw [mapO_of (g := pyD n) fun x hx => toPy_pur n k x (by omega) (h x hx)]
      rfl
    | non => rfl
    | int => rfl
    | str => rfl
    | _ => simp [purD] at h
theorem canLayAll_of {xs : List PyData} (h : ∀ x ∈ xs, x.canLay0 = true) : PyData.canLayAll0 xs = true := by
  induction xs with
  | nil => rfl
  | cons x xs ih => simp [PyData.canLayAll0, h x List.mem_cons_self, ih fun y hy => h y (List.mem_cons_of_mem _ hy)]
theorem depthAll_of {xs : List PyData} {n : Nat} (h : ∀ x ∈ xs, x.depth ≤ n) : PyData.depthAll xs ≤ n := by
  induction xs with
  | nil => simp [PyData.depthAll]
  | cons x xs ih =>
    have h1 := h x List.mem_cons_self
    have h2 := ih fun y hy => h y (List.mem_cons_of_mem _ hy)
    simp only [PyData.depthAll]; omega
theorem pyD_lay : ∀ (n : Nat) (d : D), purD n d = true → (pyD n d).canLay0 = true ∧ (pyD n d).depth ≤ n
  | 0, d, h => by cases d <;> first | (simp [purD] at h; done) | (simp [purD, pyD, PyData.canLay0, PyData.depth] at h ⊢ <;> exact h)
  | n + 1, d, h => by
    cases d with
    | tup xs =>
      simp only [purD, List.all_eq_true] at h
      refine ⟨?_, ?_⟩
      · simp only [pyD, PyData.canLay0]
        refine canLayAll_of fun x hx => ?_
        obtain ⟨y, hy, rfl⟩ := List.mem_map.mp hx
        exact (pyD_lay n y (h y hy)).1
      · simp only [pyD, PyData.depth]
        have := depthAll_of (xs := xs.map (pyD n)) (n := n) fun x hx => by
          obtain ⟨y, hy, rfl⟩ := List.mem_map.mp hx
          exact (pyD_lay n y (h y hy)).2
        omega
    | non => exact ⟨rfl, Nat.zero_le _⟩
    | int => exact ⟨rfl, Nat.zero_le _⟩
    | str s => exact ⟨h, Nat.zero_le _⟩
    | _ => simp [purD] at h
open Classical in
theorem eqvAll_of {f g : D → PyData} : ∀ {xs ys : List D}, (∀ x ∈ xs, ∀ y ∈ ys, PyData.eqv (f x) (g y) = decide (x = y)) → PyData.eqvAll (xs.map f) (ys.map g) = decide (xs = ys)
  | [], [], _ => by simp [PyData.eqvAll]
  | [], _ :: _, _ => by simp [PyData.eqvAll]
  | _ :: _, [], _ => by simp [PyData.eqvAll]
  | x :: xs, y :: ys, h => by
    simp only [List.map_cons, PyData.eqvAll]
    rw [h x List.mem_cons_self y List.mem_cons_self, eqvAll_of fun x hx y hy => h x (List.mem_cons_of_mem _ hx) y (List.mem_cons_of_mem _ hy)]
    by_cases e : x = y <;> by_cases e2 : xs = ys <;> simp [e, e2]
open Classical in
theorem eqv_pur : ∀ (n m : Nat) (d e : D), purD n d = true → purD m e = true → PyData.eqv (pyD n d) (pyD m e) = decide (d = e) := by
  have base : ∀ (n m : Nat) (d e : D), (∀ xs ys, d = .tup xs → e = .tup ys → PyData.eqv (pyD n d) (pyD m e) = decide (d = e)) → purD n d = true → purD m e = true → PyData.eqv (pyD n d) (pyD m e) = decide (d = e) := by
    intro n m d e ht h h'
    cases d <;> cases e <;> first
      | (simp [purD] at h; done)
      | (simp [purD] at h'; done)
      | exact ht _ _ rfl rfl
      | (cases n <;> cases m <;> first | (simp [purD] at h; done) | (simp [purD] at h'; done) | (simp [pyD, PyData.eqv]))
    all_goals (rename_i a b; rw [Bool.eq_iff_iff]; simp)
  intro n
  induction n with
  | zero =>
    intro m d e h h'
    refine base 0 m d e (fun xs ys h1 _ => ?_) h h'
    subst h1
    simp [purD] at h
  | succ n ih =>
    intro m d e h h'
    refine base (n + 1) m d e (fun xs ys h1 h2 => ?_) h h'
    subst h1 h2
    cases m with
    | zero => simp [purD] at h'
    | succ m =>
      simp only [purD, List.all_eq_true] at h h'
      simp only [pyD, PyData.eqv]
      rw [eqvAll_of fun x hx y hy => ih m x y (h x hx) (h' y hy)]
      simp
theorem shaped_pur {n : Nat} {d : D} (hn : n ≤ 64) (h : purD n d = true) : SeqAt.shaped (pyD n d) = true := by
  obtain ⟨h1, h2⟩ := pyD_lay n d h
  unfold SeqAt.shaped
  rw [h1, Bool.true_and, decide_eq_true_eq]; omega
open Classical in
theorem dEq_pur {S : Sto} {x y : D} {n m : Nat} (hn : n < 40) (hm : m < 40) (h : purD n x = true) (h' : purD m y = true) : dEq S x y = some (decide (x = y)) := by
  have fin : (match toPy 40 S x, toPy 40 S y with
    | some d, some e => if SeqAt.shaped d && SeqAt.shaped e then some (PyData.eqv d e) else none
    | _, _ => none) = some (decide (x = y)) := by
    rw [toPy_pur n 40 x hn h, toPy_pur m 40 y hm h']
    simp only [shaped_pur (show n ≤ 64 by omega) h, shaped_pur (show m ≤ 64 by omega) h', Bool.and_self, if_true]
    rw [eqv_pur n m x y h h']
  unfold dEq
  split
  · rename_i b hb
    have : b = decide (x = y) := by
      cases x <;> cases y <;> simp [scE] at hb <;> subst hb <;> simp
    rw [this]
  · exact fin
open Classical in
theorem dEq_lst {S : Sto} {a b : Nat} {xs ys : List D} {n : Nat} (hn : n < 38) (ha : S[a]? = some (.lst xs)) (hb : S[b]? = some (.lst ys)) (h : xs.all (purD n) = true) (h' : ys.all (purD n) = true) : dEq S (.ref a) (.ref b) = some (decide (xs = ys)) := by
  rw [List.all_eq_true] at h h'
  have e1 : ∀ (a : Nat) (xs : List D), S[a]? = some (.lst xs) → (∀ x ∈ xs, purD n x = true) → toPy 40 S (.ref a) = some (.list (xs.map (pyD n))) := fun a xs ha h => by
    show (match S[a]? with
      | some (.lst xs) => (mapO (toPy 39 S) xs).map PyData.list
      | _ => none) = _
    rw [ha]
    show (mapO (toPy 39 S) xs).map PyData.list = _
    rw [mapO_of (g := pyD n) fun x hx => toPy_pur n 39 x (by omega) (h x hx)]; rfl
  have sh : ∀ xs : List D, (∀ x ∈ xs, purD n x = true) → SeqAt.shaped (.list (xs.map (pyD n))) = true := fun xs h => by
    unfold SeqAt.shaped
    have h1 : PyData.canLayAll0 (xs.map (pyD n)) = true := canLayAll_of fun x hx => by
      obtain ⟨y, hy, rfl⟩ := List.mem_map.mp hx
      exact (pyD_lay n y (h y hy)).1
    have h2 := depthAll_of (xs := xs.map (pyD n)) (n := n) fun x hx => by
      obtain ⟨y, hy, rfl⟩ := List.mem_map.mp hx
      exact (pyD_lay n y (h y hy)).2
    simp only [PyData.canLay0, h1, PyData.depth, Bool.true_and, decide_eq_true_eq]
    exact decide_eq_true (Nat.le_trans (Nat.succ_le_succ h2) (show n + 1 ≤ 64 by omega))
  unfold dEq
  rw [show scE (.ref a) (.ref b) = none from rfl]
  simp only [e1 a xs ha h, e1 b ys hb h', sh xs h, sh ys h', Bool.and_self, if_true, PyData.eqv]
  rw [eqvAll_of fun x hx y hy => eqv_pur n n x y (h x hx) (h' y hy)]
open Classical in
theorem oEq_pur {S : Sto} {x y : D} {n m : Nat} (hn : n < 40) (hm : m < 40) (h : purD n x = true) (h' : purD m y = true) : oEq x y S = .ok (.bl (decide (x = y))) S := by simp only [oEq, dEq_pur hn hm h h']
open Classical in
theorem oNe_pur {S : Sto} {x y : D} {n m : Nat} (hn : n < 40) (hm : m < 40) (h : purD n x = true) (h' : purD m y = true) : oNe x y S = .ok (.bl (!decide (x = y))) S := by simp only [oNe, dEq_pur hn hm h h']
open Classical in
theorem oEq_lst {S : Sto} {a b : Nat} {xs ys : List D} {n : Nat} (hn : n < 38) (ha : S[a]? = some (.lst xs)) (hb : S[b]? = some (.lst ys)) (h : xs.all (purD n) = true) (h' : ys.all (purD n) = true) : oEq (.ref a) (.ref b) S = .ok (.bl (decide (xs = ys))) S := by simp only [oEq, dEq_lst hn ha hb h h']
open Classical in
theorem oNe_lst {S : Sto} {a b : Nat} {xs ys : List D} {n : Nat} (hn : n < 38) (ha : S[a]? = some (.lst xs)) (hb : S[b]? = some (.lst ys)) (h : xs.all (purD n) = true) (h' : ys.all (purD n) = true) : oNe (.ref a) (.ref b) S = .ok (.bl (!decide (xs = ys))) S := by simp only [oNe, dEq_lst hn ha hb h h']
theorem pur_ints {n : Nat} (ns : List Int) : (ns.map D.int).all (purD n) = true := by
  rw [List.all_eq_true]
  intro x hx
  obtain ⟨i, _, rfl⟩ := List.mem_map.mp hx
  cases n <;> rfl
theorem encI_ints (xs : List Nat) : encI xs = (xs.map fun (i : Nat) => (i : Int)).map D.int := by simp [encI, List.map_map, Function.comp_def]
theorem pur_encI {n : Nat} (ns : List Nat) : (encI ns).all (purD n) = true := by rw [encI_ints]; exact pur_ints _
theorem ints_inj {a b : List Int} : a.map D.int = b.map D.int ↔ a = b := by
  refine ⟨fun h => ?_, fun h => by rw [h]⟩
  have := congrArg (fun l : List D => l.map fun d => match d with | .int i => i | _ => 0) h
  simpa [List.map_map, Function.comp_def] using this
theorem encI_inj {a b : List Nat} : encI a = encI b ↔ a = b := by
  refine ⟨fun h => ?_, fun h => by rw [h]⟩
  have := congrArg (fun l : List D => l.map fun d => match d with | .int i => i.toNat | _ => 0) h
  simpa [encI, List.map_map, Function.comp_def] using this
/-! ### what is shown -/
theorem reprD_same {S : Sto} {a b : Nat} {o : Ob} (ha : S[a]? = some o) (hb : S[b]? = some o) : reprD S (.ref a) = reprD S (.ref b) := by
  have e : toPyR 40 S (.ref a) = toPyR 40 S (.ref b) := by simp only [toPyR, ha, hb]
  simp only [reprD, e]
theorem oRepr_of {S : Sto} {d : D} {t : Str} (h : reprD S d = some t) : oRepr d S = .ok (.str t) S := by simp only [oRepr, h]
theorem repr_lst {N k m : Nat} {L : List D} (hN : N < 10 ^ 39) (hk : k ≤ 38) (hm : m ≤ 100000) (hL : OkL N [] k m L) : ∃ t, ∀ (S : Sto) (n : Nat), S[n]? = some (.lst L) → reprD S (.ref n) = some t := by
  have h0 : Ok N [Ob.lst L] (k + 1) m (.ref 0) := OkL.lst (hL.app' [Ob.lst L]) rfl
  obtain ⟨t, ht⟩ := h0.repr hN (by omega) hm
  refine ⟨t, fun S n hn => ?_⟩
  obtain ⟨qs, e, _⟩ := hL
  have key : ∀ S : Sto, mapO (toPyR 39 S) L = some qs := fun S => mapO_mono (fun x y h => toPyR_mono (fun i o h => by simp at h) (k + 1) 39 x y (by omega) h) e
  have go : ∀ (S : Sto) (n : Nat), S[n]? = some (.lst L) → toPyR 40 S (.ref n) = some (.list qs) := fun S n hn => by
    show (match S[n]? with
      | some (.lst xs) => (mapO (toPyR 39 S) xs).map PyData.list
      | some (.dk []) => some (PyData.dict [])
      | _ => none) = _
    rw [hn]
    show (mapO (toPyR 39 S) L).map PyData.list = _
    rw [key]; rfl
  have e1 : toPyR 40 S (.ref n) = toPyR 40 [Ob.lst L] (.ref 0) := (go S n hn).trans (go [Ob.lst L] 0 rfl).symm
  rw [← ht]
  simp only [reprD, e1]
theorem repr_pure {N k m : Nat} {d : D} (hN : N < 10 ^ 39) (hk : k ≤ 39) (hm : m ≤ 100000) (hd : Ok N [] k m d) : ∃ t, ∀ S : Sto, reprD S d = some t := by
  obtain ⟨t, ht⟩ := hd.repr hN hk hm
  refine ⟨t, fun S => ?_⟩
  obtain ⟨q, e, _⟩ := hd
  have key : ∀ S : Sto, toPyR 40 S d = some q := fun S => toPyR_mono (fun i o h => by simp at h) (k + 1) 40 d q (by omega) e
  rw [← ht]
  simp only [reprD, key]
end Pz

set_option Elab.async false
set_option linter.all false
set_option maxRecDepth 100000
set_option maxHeartbeats 4000000
/-! Pw8: texts: what the rules of Pz20 reckon; words that tell numbers. -/
namespace Pz
open PySem PySem.Spec PyProof.Rows L2
section
variable {S : Sto} {l : Loc} {f g : FE} {q : FQ} {P : D → Sto → Prop}
@[simp] theorem W_asS {x : Str} {k : D → Sto → Prop} : (asS (.str x) S).W k ↔ k (.str x) S := by unfold asS; rw [W_ok]
@[simp] theorem W_eJoin : (eJoin f q l S).W P ↔ (f l S).W fun x S1 => (asS x S1).W fun x S1 => (q l S1).W fun xs S2 => (oJoin x xs S2).W P := by unfold eJoin; simp only [W_bind]
@[simp] theorem W_lSplit {P : LV → Sto → Prop} : (lSplit f g l S).W P ↔ (f l S).W fun x S1 => (asS x S1).W fun x S1 => (g l S1).W fun y S2 => (oSplit x y S2).W P := by unfold lSplit; simp only [W_bind]
@[simp] theorem W_iStrD {P : Src → Sto → Prop} : (iStrD f l S).W P ↔ (f l S).W fun x S1 => (kStr x S1).W P := by unfold iStrD; rw [W_bind]
@[simp] theorem kStr_str {z : Str} : kStr (.str z) S = .ok ⟨signs z, noGd⟩ S := rfl
@[simp] theorem oStrOf_str {z : Str} : oStrOf (.str z) S = .ok (.str z) S := rfl
theorem oStrOf_int {i : Int} (h : i.natAbs.log2 < 1920) : oStrOf (.int i) S = .ok (.str (toString i)) S := by simp only [oStrOf, if_pos h]
theorem oJoin_str {a : Str} {ys : List Str} (h : (ys.map (·.length)).sum + ys.length * a.length ≤ 16777216) : oJoin (.str a) (ys.map .str) S = .ok (.str (Txt.join a ys)) S := by
  simp only [oJoin, strsD_map, if_pos h]
theorem oSplit_str {a b : Str} (h0 : b.length ≠ 0) (h : a.length + 2 ≤ sizeLine) : oSplit (.str a) (.str b) S = .ok (.tmp ((Txt.split a b).map .str)) S := by
  simp only [oSplit]
  rw [if_pos (by simp [h0, h])]
theorem oIntS_of {a : Str} {n : Int} (h : PySem.intText? a = some n) (hl : a.length ≤ 640) : oIntS (.str a) S = .ok (.int n) S := by simp only [oIntS, h, if_pos hl]
theorem oInS_one {c : Nat} {z : Str} : oInS (.str ⟨#[c]⟩) (.str z) S = .ok (.bl (decide (c ∈ z.cps.toList))) S := rfl
theorem oNinS_one {c : Nat} {z : Str} : oNinS (.str ⟨#[c]⟩) (.str z) S = .ok (.bl (!decide (c ∈ z.cps.toList))) S := rfl
theorem oIx_str {z : Str} {i : Int} {c : Nat} (hz : z.length ≤ sizeLine) (h : L2.atI z.cps.toList i = some c) : oIx (.str z) (.int i) S = .ok (.str ⟨#[c]⟩) S := by simp only [oIx, if_pos hz, h]
theorem oSl_str {z : Str} {i j : Option Int} (hz : z.length ≤ sizeLine) : oSl (.str z) i j S = .ok (.str (cutS z i j)) S := by simp only [oSl, if_pos hz]
theorem oLenS_str {z : Str} (hz : z.length ≤ sizeLine) : oLenS (.str z) S = .ok (.int (z.length : Nat)) S := by simp only [oLenS, if_pos hz]
end
/-! ### words -/
def isDig (c : Nat) : Bool := decide (48 ≤ c) && decide (c ≤ 57)
theorem digits_mem (c : Nat) : decide (c ∈ (Str.ofString "0123456789").cps.toList) = isDig c := by
  have e : (Str.ofString "0123456789").cps.toList = [48, 49, 50, 51, 52, 53, 54, 55, 56, 57] := by decide +kernel
  rw [e, Bool.eq_iff_iff]
  simp only [isDig, decide_eq_true_eq, Bool.and_eq_true, List.mem_cons, List.not_mem_nil, or_false]
  omega
def numberOf (w : Str) : Option Int := match w.cps.toList with
  | [a] => if isDig a then some ((a : Int) - 48) else none
  | [a, b] => if isDig a && isDig b && a != 48 then some (10 * ((a : Int) - 48) + ((b : Int) - 48)) else none
  | _ => none
def oInt? : Option Int → D
  | none => .non
  | some i => .int i
@[simp] theorem oInt?_none : oInt? none = .non := rfl
@[simp] theorem oInt?_some {i : Int} : oInt? (some i) = .int i := rfl
theorem str_of_toList {w : Str} {xs : List Nat} (h : w.cps.toList = xs) : w = ⟨xs.toArray⟩ := by subst h; cases w; simp
theorem len_toList (w : Str) : w.length = w.cps.toList.length := by simp [Str.length]
theorem int1 {a : Nat} (h : isDig a = true) : PySem.intText? ⟨#[a]⟩ = some ((a : Int) - 48) := by
  have key : ((List.range 10).all fun k => PySem.intText? ⟨#[48 + k]⟩ == some (k : Int)) = true := by decide +kernel
  simp only [isDig, Bool.and_eq_true, decide_eq_true_eq] at h
  have := List.all_eq_true.mp key (a - 48) (List.mem_range.mpr (by omega))
  rw [show 48 + (a - 48) = a by omega] at this
  rw [eq_of_beq this]
  congr 1; omega
theorem int2 {a b : Nat} (h : isDig a = true) (h' : isDig b = true) : PySem.intText? ⟨#[a, b]⟩ = some (10 * ((a : Int) - 48) + ((b : Int) - 48)) := by
  have key : ((List.range 10).all fun k => (List.range 10).all fun j => PySem.intText? ⟨#[48 + k, 48 + j]⟩ == some (10 * (k : Int) + (j : Int))) = true := by decide +kernel
  simp only [isDig, Bool.and_eq_true, decide_eq_true_eq] at h h'
  have := List.all_eq_true.mp (List.all_eq_true.mp key (a - 48) (List.mem_range.mpr (by omega))) (b - 48) (List.mem_range.mpr (by omega))
  rw [show 48 + (a - 48) = a by omega, show 48 + (b - 48) = b by omega] at this
  rw [eq_of_beq this]
  congr 1; omega
theorem numberOf_bound {w : Str} {n : Int} (h : numberOf w = some n) : 0 ≤ n ∧ n ≤ 99 ∧ w.cps.toList ≠ [45] ∧ ∀ r, w.cps.toList ≠ 45 :: r := by
  unfold numberOf at h
  split at h
  · rename_i a e
    split at h
    · rename_i hd
      cases h
      simp only [isDig, Bool.and_eq_true, decide_eq_true_eq] at hd
      rw [e]
      refine ⟨by omega, by omega, fun q => ?_, fun r q => ?_⟩ <;> (cases q; omega)
    · cases h
  · rename_i a b e
    split at h
    · rename_i hd
      cases h
      simp only [isDig, Bool.and_eq_true, decide_eq_true_eq] at hd
      rw [e]
      refine ⟨by omega, by omega, fun q => (by simp at q), fun r q => ?_⟩
      simp at q; omega
    · cases h
  · cases h
def mk (xs : List Nat) : Str := ⟨xs.toArray⟩
theorem mk_toList (xs : List Nat) : (mk xs).cps.toList = xs := rfl
theorem mk_len (xs : List Nat) : (mk xs).length = xs.length := by simp [mk, Str.length]
theorem cutS_to1 {w : Str} : cutS w none (some 1) = mk (w.cps.toList.take 1) := by
  unfold cutS mk
  congr 2
  have e : HT.sIx w.length 0 none = 0 := rfl
  rw [e, List.drop_zero, Nat.sub_zero]
  cases h : w.cps.toList with
  | nil => simp
  | cons a r =>
    have hl : w.length = (a :: r).length := by rw [len_toList, h]
    rw [sIx_pos (by omega) (by rw [hl]; simp; omega)]; rfl
theorem cutS_from1 {w : Str} : cutS w (some 1) none = mk (w.cps.toList.drop 1) := by
  unfold cutS mk
  congr 1
  have e : HT.sIx w.length w.length none = w.length := rfl
  rw [e]
  cases h : w.cps.toList with
  | nil => simp
  | cons a r =>
    have hl : w.length = (a :: r).length := by rw [len_toList, h]
    rw [sIx_pos (by omega) (by rw [hl]; simp; omega), hl]
    simp
theorem mk_inj {a b : List Nat} : mk a = mk b ↔ a = b := ⟨fun h => by have := congrArg (fun s : Str => s.cps.toList) h; simpa [mk] using this, fun h => by rw [h]⟩
theorem eq_mk (w : Str) : w = mk w.cps.toList := str_of_toList rfl
/-! ### the parts of a split text -/
theorem spl_len (T : List Nat) : ∀ (k : Nat) (acc l : List Nat), ∀ p ∈ TL.spl T k acc l, p.length ≤ acc.length + l.length
  | k, acc, [] => fun p hp => by rw [TL.spl_nil, List.mem_singleton] at hp; subst hp; simp
  | 0, acc, c :: r => fun p hp => by
    unfold TL.spl at hp
    split at hp
    · rcases List.mem_cons.mp hp with q | q
      · subst q; simp
      · have := spl_len T _ [] r p q; simp at this ⊢; omega
    · have := spl_len T 0 (acc ++ [c]) r p hp; simp at this ⊢; omega
  | k + 1, acc, c :: r => fun p hp => by
    unfold TL.spl at hp
    have := spl_len T k acc r p hp; simp at this ⊢; omega
theorem split_len {x y : Str} (hy : y.cps.toList ≠ []) (hk : y.cps.all (· < 256) = true) {w : Str} (h : w ∈ Txt.split x y) : w.length ≤ x.length := by
  have e := TL.split_spl x y hy (TL.kind_ok hk)
  have hm : w.cps.toList ∈ TL.spl y.cps.toList 0 [] x.cps.toList := by rw [← e]; exact List.mem_map.mpr ⟨w, h, rfl⟩
  have := spl_len _ _ _ _ _ hm
  rw [len_toList, len_toList]
  simpa using this
theorem split_ne {x y : Str} : Txt.split x y ≠ [] := fun h => by
  have := (PyProof.Rows.fact_split x y).1
  rw [h] at this
  simp at this
def okBlank : (Str.ofString " ").cps.toList ≠ [] ∧ (Str.ofString " ").cps.all (· < 256) = true ∧ (Str.ofString " ").length = 1 := by decide +kernel
def okBreak : (Str.ofString "\n").cps.toList ≠ [] ∧ (Str.ofString "\n").cps.all (· < 256) = true ∧ (Str.ofString "\n").length = 1 := by decide +kernel
/-- None among flat things -/
theorem oIn_non {S : Sto} {n : Nat} {xs : List (Option Int)} (h : S[n]? = some (.lst (xs.map oInt?))) : oIn .non (.ref n) S = .ok (.bl (xs.any fun x => x.isNone)) S := by
  have f : (xs.map oInt?).all flatD = true := by
    rw [List.all_eq_true]
    intro d hd
    obtain ⟨x, _, rfl⟩ := List.mem_map.mp hd
    cases x <;> rfl
  have e : ((xs.map oInt?).any fun z => eqF z .non) = xs.any fun x => x.isNone := by
    rw [List.any_map]
    congr 1
    funext x
    cases x <;> rfl
  simp only [oIn, dIn, seqD_ref h]
  rw [if_pos (by rw [f]; rfl), e]
end Pz

set_option Elab.async false
set_option linter.all false
set_option maxRecDepth 100000
set_option maxHeartbeats 4000000
/-! Pw9: calls by keywords. -/
namespace Pz
open PySem PySem.Spec PyProof.Rows L2
theorem W_eCallK {n : Nat} {perm : List Nat} {F : List D → Sto → Out D} {fa : FA} {l : Loc} {S : Sto} {P : D → Sto → Prop} (h : Len n fa) : (eCallK n perm F fa l S).W P ↔ (fa l S).W fun ds S1 => (F (permL perm ds) S1).W P := by
  unfold eCallK
  rw [W_bind]
  cases e : fa l S with
  | ok ds S1 =>
    rw [W_ok, W_ok]
    unfold oPerm
    rw [if_pos (h _ _ _ _ e)]
  | ex C fs S1 => with_unfolding_all exact Iff.rfl
  | bad => with_unfolding_all exact Iff.rfl
end Pz

set_option Elab.async false
set_option linter.all false
set_option maxRecDepth 100000
set_option maxHeartbeats 4000000
/-! Pw10: objects, and ends by an exception. -/
namespace Pz
open PySem PySem.Spec PyProof.Rows L2
@[irreducible] def Out.X {α : Type} (o : Out α) (E : Str → Option (List (Str × D)) → Sto → Prop) (P : α → Sto → Prop) : Prop := match o with
  | .ok a S => P a S
  | .ex C fs S => E C fs S
  | _ => False
@[irreducible] def OutS.X (o : OutS) (E : Loc → Str → Option (List (Str × D)) → Sto → Prop) (N : Loc → Sto → Prop) (R : D → Sto → Prop) (B C : Loc → Sto → Prop) : Prop := match o with
  | .nx l S => N l S
  | .rt d S => R d S
  | .bk l S => B l S
  | .ct l S => C l S
  | .ex l c fs S => E l c fs S
  | .bad => False
section
variable {α β : Type} {P : α → Sto → Prop} {Q : β → Sto → Prop} {N : Loc → Sto → Prop} {R : D → Sto → Prop} {B C : Loc → Sto → Prop} {l : Loc} {S : Sto} {f g : FS} {u v : FE} {E : Str → Option (List (Str × D)) → Sto → Prop} {EE : Loc → Str → Option (List (Str × D)) → Sto → Prop} {Cn nm : Str} {fa : FA} {F : List D → Sto → Out D} {n : Nat} {fs : List (Str × D)} {d : D} {Cs : List Str}
theorem X_ok {a : α} : (Out.ok a S).X E P ↔ P a S := by with_unfolding_all exact Iff.rfl
theorem X_ex {fs : Option (List (Str × D))} : (Out.ex Cn fs S : Out α).X E P ↔ E Cn fs S := by with_unfolding_all exact Iff.rfl
theorem X_of_W {o : Out α} (h : o.W P) : o.X E P := by
  cases o with
  | ok a S => with_unfolding_all exact h
  | ex => with_unfolding_all exact h.elim
  | bad => with_unfolding_all exact h.elim
theorem XS_of_W {o : OutS} (h : o.W N R B C) : o.X EE N R B C := by
  cases o with
  | nx => with_unfolding_all exact h
  | rt => with_unfolding_all exact h
  | bk => with_unfolding_all exact h
  | ct => with_unfolding_all exact h
  | ex => with_unfolding_all exact h.elim
  | bad => with_unfolding_all exact h.elim
theorem Out.X.mono {o : Out α} {P' : α → Sto → Prop} {E' : Str → Option (List (Str × D)) → Sto → Prop} (h : o.X E P) (j : ∀ c fs S, E c fs S → E' c fs S) (i : ∀ a S, P a S → P' a S) : o.X E' P' := by
  cases o with
  | ok a S => with_unfolding_all exact i _ _ h
  | ex => with_unfolding_all exact j _ _ _ h
  | bad => with_unfolding_all exact h.elim
theorem Out.X.ends {o : Out α} (h : o.X E P) : (∃ a S, o = .ok a S ∧ P a S) ∨ ∃ c fs S, o = .ex c fs S ∧ E c fs S := by
  cases o with
  | ok a S => with_unfolding_all exact .inl ⟨a, S, rfl, h⟩
  | ex c fs S => with_unfolding_all exact .inr ⟨c, fs, S, rfl, h⟩
  | bad => with_unfolding_all exact h.elim
theorem X_bind {o : Out α} {k : α → Sto → Out β} : (o.bind k).X E Q ↔ o.X E fun a S => (k a S).X E Q := by cases o <;> with_unfolding_all exact Iff.rfl
theorem XS_nx : (OutS.nx l S).X EE N R B C ↔ N l S := by with_unfolding_all exact Iff.rfl
theorem XS_toS {o : Out α} {k : α → Sto → OutS} : (toS l o k).X EE N R B C ↔ o.X (fun c fs S => EE l c fs S) fun a S => (k a S).X EE N R B C := by cases o <;> with_unfolding_all exact Iff.rfl
theorem XS_sSeq : (sSeq f g l S).X EE N R B C ↔ (f l S).X EE (fun l S => (g l S).X EE N R B C) R B C := by
  unfold sSeq
  cases f l S <;> with_unfolding_all exact Iff.rfl
theorem XS_sRet : (sRet u l S).X EE N R B C ↔ (u l S).X (fun c fs S => EE l c fs S) R := by
  unfold sRet
  rw [XS_toS]
  with_unfolding_all exact Iff.rfl
theorem XS_sExp : (sExp u l S).X EE N R B C ↔ (u l S).X (fun c fs S => EE l c fs S) fun _ S1 => N l S1 := by
  unfold sExp
  rw [XS_toS]
  with_unfolding_all exact Iff.rfl
theorem XS_sIf {t : FT} : (sIf t f g l S).X EE N R B C ↔ (t l S).X (fun c fs S => EE l c fs S) fun k S1 => if k = true then (f l S1).X EE N R B C else (g l S1).X EE N R B C := by
  unfold sIf
  rw [XS_toS]
  refine iff_of_eq (congrArg _ (funext fun k => funext fun S1 => ?_))
  cases k <;> rfl
theorem XS_sSetN {i : Nat} : (sSet (.nm i) u l S).X EE N R B C ↔ (u l S).X (fun c fs S => EE l c fs S) fun d S1 => N (l.set i (some d)) S1 := by
  unfold sSet
  rw [XS_toS]; with_unfolding_all exact Iff.rfl
theorem XS_sSetT {ts : List Tg} : (sSet (.tp ts) u l S).X EE N R B C ↔ (u l S).X (fun c fs S => EE l c fs S) fun d S1 => ∃ l1, Tg.put (.tp ts) d l = some l1 ∧ N l1 S1 := by
  unfold sSet
  rw [XS_toS]
  refine iff_of_eq (congrArg _ (funext fun d => funext fun S1 => ?_))
  cases Tg.put (.tp ts) d l with
  | none => simp only [reduceCtorEq, false_and, exists_false, iff_false, eq_iff_iff]; with_unfolding_all exact id
  | some l1 => simp only [Option.some.injEq, exists_eq_left', eq_iff_iff]; with_unfolding_all exact Iff.rfl
theorem XS_sRaise {g : FE} {c x : Str} : (sRaise c x g l S).X EE N R B C ↔ (g l S).X (fun c fs S => EE l c fs S) fun d S1 => EE l c (some [(x, d)]) S1 := by
  unfold sRaise
  rw [XS_toS]
  with_unfolding_all exact Iff.rfl
theorem XS_forL {gd : Sto → Prop} {t : Tg} {b : FS} (I : Nat → Loc → Sto → Prop) : ∀ (xs : List D) (k : Nat) {l : Loc} {S : Sto}, I k l S →
    (∀ i x l S, xs[i]? = some x → I (k + i) l S → gd S ∧ ∃ l1, t.put x l = some l1 ∧ (b l1 S).X EE (I (k + i + 1)) R N (I (k + i + 1))) → (∀ l S, I (k + xs.length) l S → gd S ∧ N l S) → (forL gd t b xs l S).X EE N R B C
  | [], k, l, S, h0, hs, he => by
    obtain ⟨h1, h2⟩ := he l S h0
    unfold forL
    rw [if_pos h1]
    with_unfolding_all exact h2
  | x :: xs, k, l, S, h0, hs, he => by
    obtain ⟨h1, l1, h2, h3⟩ := hs 0 x l S rfl h0
    unfold forL
    rw [if_pos h1]
    simp only [h2]
    have nx : ∀ l2 S2, I (k + 0 + 1) l2 S2 → (forL gd t b xs l2 S2).X EE N R B C := fun l2 S2 q => XS_forL I xs (k + 1) (by simpa using q) (fun i y l S e q => by
      have := hs (i + 1) y l S (by simpa using e) (by rw [show k + (i + 1) = k + 1 + i by omega]; with_unfolding_all exact q)
      rw [show k + (i + 1) = k + 1 + i by omega] at this
      with_unfolding_all exact this) fun l S q => he l S (by rw [List.length_cons, show k + (xs.length + 1) = k + 1 + xs.length by omega]; with_unfolding_all exact q)
    cases e : b l1 S with
    | nx l2 S2 => rw [e] at h3; with_unfolding_all exact nx l2 S2 h3
    | ct l2 S2 => rw [e] at h3; with_unfolding_all exact nx l2 S2 h3
    | bk l2 S2 => rw [e] at h3; with_unfolding_all exact h3
    | rt d S2 => rw [e] at h3; with_unfolding_all exact h3
    | ex => rw [e] at h3; with_unfolding_all exact h3
    | bad => rw [e] at h3; with_unfolding_all exact h3.elim
theorem XS_sFor {fi : FI} {t : Tg} {b : FS} : (sFor fi t b l S).X EE N R B C ↔ (fi l S).X (fun c fs S => EE l c fs S) fun x S1 => (forL x.gd t b x.its l S1).X EE N R B C := by unfold sFor; rw [XS_toS]
theorem X_runF {b : FS} {ds : List D} {n nl : Nat} {P : D → Sto → Prop} (hl : ds.length = n) (h : (b (ds.map some ++ List.replicate (nl - n) none) S).X (fun _ c fs S' => (gcX S c fs S').X E P) (fun _ S' => (gc S .non S').W P) (fun d S' => (gc S d S').W P) (fun _ _ => False) (fun _ _ => False)) : (runF n nl b ds S).X E P := by
  unfold runF
  rw [if_pos hl]
  cases e : b (ds.map some ++ List.replicate (nl - n) none) S with
  | rt d S' => rw [e] at h; refine X_of_W ?_; with_unfolding_all exact h
  | nx l S' => rw [e] at h; refine X_of_W ?_; with_unfolding_all exact h
  | ex => rw [e] at h; with_unfolding_all exact h
  | bk => rw [e] at h; with_unfolding_all exact h.elim
  | ct => rw [e] at h; with_unfolding_all exact h.elim
  | bad => rw [e] at h; with_unfolding_all exact h.elim
theorem gcX_same {fs : Option (List (Str × D))} (h : Old S S) (hc : clX S.length fs = true) : gcX S Cn fs S = .ex Cn fs S := by
  unfold gcX
  rw [if_pos ⟨h, hc⟩, List.take_length]
theorem X_eCall {P : D → Sto → Prop} : (eCall F fa l S).X E P ↔ (fa l S).X E fun ds S1 => (F ds S1).X E P := by unfold eCall; rw [X_bind]
theorem X_aC {P : List D → Sto → Prop} : (aC u fa l S).X E P ↔ (u l S).X E fun x S1 => (fa l S1).X E fun xs S2 => P (x :: xs) S2 := by
  unfold aC
  rw [X_bind]
  refine iff_of_eq (congrArg _ (funext fun d => funext fun S1 => ?_))
  rw [X_bind]
  refine congrArg _ (funext fun d => funext fun S1 => ?_)
  rw [X_ok]
theorem W_eMeth {P : D → Sto → Prop} : (eMeth Cn nm F u fa l S).W P ↔ (u l S).W fun x S1 => (isIns Cn nm x S1).W fun _ _ => (fa l S1).W fun ds S2 => (F (x :: ds) S2).W P := by
  unfold eMeth
  rw [W_bind]
  refine iff_of_eq (congrArg _ (funext fun d => funext fun S1 => ?_))
  rw [W_bind]
  refine congrArg _ (funext fun d => funext fun S1 => ?_)
  rw [W_bind]
theorem X_eMeth {P : D → Sto → Prop} : (eMeth Cn nm F u fa l S).X E P ↔ (u l S).X E fun x S1 => (isIns Cn nm x S1).X E fun _ _ => (fa l S1).X E fun ds S2 => (F (x :: ds) S2).X E P := by
  unfold eMeth
  rw [X_bind]
  refine iff_of_eq (congrArg _ (funext fun d => funext fun S1 => ?_))
  rw [X_bind]
  refine congrArg _ (funext fun d => funext fun S1 => ?_)
  rw [X_bind]
theorem isIns_ref (hn : S[n]? = some (.ins Cn fs)) (hl : fs.lookup nm = none) : isIns Cn nm (.ref n) S = .ok (.ref n) S := by
  simp [isIns, hn, hl]
theorem oFld_ref (hn : S[n]? = some (.ins Cn fs)) (hl : fs.lookup nm = some d) : oFld [Cn] nm (.ref n) S = .ok d S := by
  simp [oFld, hn, hl]
theorem oSetF_ref (hn : S[n]? = some (.ins Cn fs)) (hl : fs.length < 1000) : oSetF [Cn] nm d (.ref n) S = some (S.set n (.ins Cn (putFD nm d fs))) := by
  simp [oSetF, hn, hl]
theorem W_sSetF : (sSetF Cs nm u v l S).W N R B C ↔ (u l S).W fun d S1 => (v l S1).W fun x S2 => ∃ S3, oSetF Cs nm d x S2 = some S3 ∧ N l S3 := by
  unfold sSetF
  rw [W_toS]
  refine iff_of_eq (congrArg _ (funext fun d => funext fun S1 => ?_))
  rw [W_toS]
  refine congrArg _ (funext fun x => funext fun S2 => ?_)
  cases oSetF Cs nm d x S2 with
  | none => simp
  | some l1 => simp
theorem W_oMk {P : D → Sto → Prop} {ds : List D} : (oMk Cn F ds S).W P ↔ (F (.ref S.length :: ds) (S ++ [.ins Cn []])).W fun d S1 => d = .non ∧ P (.ref S.length) S1 := by
  unfold oMk
  rw [W_bind]
  refine iff_of_eq (congrArg _ (funext fun d => funext fun S1 => ?_))
  cases d <;> simp
theorem W_eMk {P : D → Sto → Prop} : (eMk Cn F fa l S).W P ↔ (fa l S).W fun ds S1 => (oMk Cn F ds S1).W P := by unfold eMk; rw [W_bind]
theorem W_sTry1 : (sTry1 Cn f g l S).W N R B C ↔ (f l S).X (fun l1 c _ S1 => c = Cn ∧ (g l1 S1).W N R B C) N R B C := by
  unfold sTry1
  cases f l S with
  | ex l1 c fs S1 =>
    by_cases h : c = Cn
    · simp only [h, if_true]
      constructor
      · intro q; with_unfolding_all exact ⟨rfl, q⟩
      · intro q; with_unfolding_all exact q.2
    · simp only [h, if_false]
      constructor
      · intro q; with_unfolding_all exact q.elim
      · intro q; with_unfolding_all exact h q.1
  | nx => with_unfolding_all exact Iff.rfl
  | rt => with_unfolding_all exact Iff.rfl
  | bk => with_unfolding_all exact Iff.rfl
  | ct => with_unfolding_all exact Iff.rfl
  | bad => with_unfolding_all exact Iff.rfl
theorem W_sTryAs {i j : Nat} {hs : List ErrH} (h : (f l S).X (fun l1 c fs S1 => ∃ xs h ds, fs = some xs ∧ hs.find? (fun h => h.C == c) = some h ∧ errL h xs = some ds ∧ i < l1.length ∧ N ((l1.set j (some (.ref S1.length))).set i none) (S1 ++ [.lst ds])) N R B C) : (sTryAs i j f hs l S).W N R B C := by
  unfold sTryAs
  cases e : f l S with
  | ex l1 c fs S1 =>
    rw [e] at h
    have h : ∃ xs h ds, fs = some xs ∧ hs.find? (fun h => h.C == c) = some h ∧ errL h xs = some ds ∧ i < l1.length ∧ N ((l1.set j (some (.ref S1.length))).set i none) (S1 ++ [.lst ds]) := by with_unfolding_all exact h
    obtain ⟨xs, h, ds, rfl, h2, h3, h4, h5⟩ := h
    simp only [h2, h3, h4, if_true, W_nx]
    exact h5
  | nx => rw [e] at h; with_unfolding_all exact h
  | rt => rw [e] at h; with_unfolding_all exact h
  | bk => rw [e] at h; with_unfolding_all exact h
  | ct => rw [e] at h; with_unfolding_all exact h
  | bad => rw [e] at h; with_unfolding_all exact h
end
end Pz

set_option Elab.async false
set_option linter.all false
set_option maxRecDepth 100000
set_option maxHeartbeats 4000000
/-! Pw11: machines as data. -/
namespace Pz
open PySem PySem.Spec PyProof.Rows L2
abbrev Cell := Nat × Int
def encC (c : Cell) : D := .tup [.int (c.1 : Nat), .int c.2]
def mFs (q : Bool) (h : Nat) : List (Str × D) := [("is_queue", .bl q), ("held", .ref h)]
theorem ne_qh : ("is_queue" : Str) ≠ "held" := by decide +kernel
theorem mFs_q {q : Bool} {h : Nat} : (mFs q h).lookup ("is_queue" : Str) = some (D.bl q) := by
  simp [mFs, List.lookup]
theorem mFs_h {q : Bool} {h : Nat} : (mFs q h).lookup ("held" : Str) = some (D.ref h) := by
  have e : (("held" : Str) == "is_queue") = false := by decide +kernel
  simp [mFs, List.lookup, e]
theorem mFs_no {q : Bool} {h : Nat} {x : Str} (h1 : (x == "is_queue") = false) (h2 : (x == "held") = false) : (mFs q h).lookup x = none := by
  simp [mFs, List.lookup, h1, h2]
theorem mFs_put {q : Bool} {h h' : Nat} : putFD "held" (.ref h') (mFs q h) = mFs q h' := by
  have e : ¬ (("is_queue" : Str) = "held") := by decide +kernel
  simp [mFs, putFD, e]
theorem mFs_init1 {q : Bool} : putFD "is_queue" (.bl q) [] = [(("is_queue" : Str), D.bl q)] := rfl
theorem mFs_init2 {q : Bool} {h : Nat} : putFD "held" (.ref h) [(("is_queue" : Str), D.bl q)] = mFs q h := by
  have e : ¬ (("is_queue" : Str) = "held") := by decide +kernel
  simp [mFs, putFD, e]
/-- what is taken, and what stays -/
def tkF {α : Type} (q : Bool) (k : Nat) (cs : List α) : List α := if q = true then cs.take k else (cs.drop (cs.length - k)).reverse
def tkR {α : Type} (q : Bool) (k : Nat) (cs : List α) : List α := if q = true then cs.drop k else cs.take (cs.length - k)
theorem tkF_len {α : Type} {q : Bool} {k : Nat} {cs : List α} (h : k ≤ cs.length) : (tkF q k cs).length = k := by
  unfold tkF; split <;> simp <;> omega
theorem tkF_map {α β : Type} (f : α → β) {q : Bool} {k : Nat} {cs : List α} : tkF q k (cs.map f) = (tkF q k cs).map f := by
  unfold tkF; split <;> simp [List.map_take, List.map_drop]
theorem tkR_map {α β : Type} (f : α → β) {q : Bool} {k : Nat} {cs : List α} : tkR q k (cs.map f) = (tkR q k cs).map f := by
  unfold tkR; split <;> simp [List.map_take, List.map_drop]
theorem tkF_mem {α : Type} {q : Bool} {k : Nat} {cs : List α} {x : α} (h : x ∈ tkF q k cs) : x ∈ cs := by
  unfold tkF at h
  split at h
  · exact List.mem_of_mem_take h
  · exact List.mem_of_mem_drop (List.mem_reverse.mp h)
theorem tkR_mem {α : Type} {q : Bool} {k : Nat} {cs : List α} {x : α} (h : x ∈ tkR q k cs) : x ∈ cs := by
  unfold tkR at h
  split at h
  · exact List.mem_of_mem_drop h
  · exact List.mem_of_mem_take h
theorem tkR_len {α : Type} {q : Bool} {k : Nat} {cs : List α} : (tkR q k cs).length ≤ cs.length := by
  unfold tkR; split <;> simp
/-- the worth of a step -/
def worthOf (k : D) (own : Int) (ws : List Int) : Int := match ws with
  | [] => match k with
    | .int i => i
    | _ => own
  | [a] => 0 - a
  | [a, b] => match k with
    | .str s => if s = "+" then a + b else if s = "-" then a - b else a * b
    | _ => 0
  | [a, b, c] => if a > 0 then b else c
  | _ => 0
def Sm (b : Nat) (i : Int) : Prop := i.natAbs < 2 ^ b
theorem Sm.le {a b : Nat} {i : Int} (h : Sm a i) (hb : a ≤ b) : Sm b i := Nat.lt_of_lt_of_le h (Nat.pow_le_pow_right (by omega) hb)
theorem Sm.mul {a b : Nat} {i j : Int} (h : Sm a i) (h' : Sm b j) : Sm (a + b) (i * j) := wide_lt h h'
theorem Sm.add {a : Nat} {i j : Int} (h : Sm a i) (h' : Sm a j) : Sm (a + 1) (i + j) := by
  unfold Sm at *
  rw [Nat.pow_succ]; omega
theorem Sm.sub {a : Nat} {i j : Int} (h : Sm a i) (h' : Sm a j) : Sm (a + 1) (i - j) := by
  unfold Sm at *
  rw [Nat.pow_succ]; omega
theorem Sm.cmul {a : Nat} {i j : Int} (h : Sm a i) (h' : Sm a j) (h0 : 0 < a) (h1 : a + a ≤ 1000000) : cMul i j = true := by
  have := wide_mul h h' h0 h0 h1
  unfold cMul
  rw [decide_eq_true_eq]
  exact .inr this
theorem worthOf_sm {b : Nat} {k : D} {own : Int} {ws : List Int} (hk : KOK k ws.length) (hb : 7 ≤ b) (ho : Sm b own) (hw : ∀ x ∈ ws, Sm b x) : Sm (b + b) (worthOf k own ws) := by
  match ws, hk with
  | [], .inl h => subst h; exact ho.le (by omega)
  | [], .inr ⟨i, h, h1, h2⟩ =>
    subst h
    show i.natAbs < 2 ^ (b + b)
    exact Nat.lt_of_lt_of_le (show i.natAbs < 2 ^ 7 by omega) (Nat.pow_le_pow_right (by omega) (by omega))
  | [a], _ =>
    have := hw a (by simp)
    show Sm (b + b) (0 - a)
    unfold Sm at *
    exact Nat.lt_of_lt_of_le (show (0 - a).natAbs < 2 ^ b by omega) (Nat.pow_le_pow_right (by omega) (by omega))
  | [a, c], h =>
    have ha := hw a (by simp)
    have hc := hw c (by simp)
    have add := (ha.add hc).le (show b + 1 ≤ b + b by omega)
    have sub := (ha.sub hc).le (show b + 1 ≤ b + b by omega)
    have mul := ha.mul hc
    unfold worthOf
    rcases h with rfl | rfl | rfl <;> (simp only; split <;> first | assumption | (split <;> assumption))
  | [a, c, d], _ =>
    unfold worthOf
    simp only
    split
    · exact (hw c (by simp)).le (by omega)
    · exact (hw d (by simp)).le (by omega)
/-- an instruction -/
structure Ins where
  s : Nat
  ts : List Nat
  c : Nat
def encJ (x : Ins) : D := .tup [.int (x.s : Nat), .tup (encI x.ts), .int (x.c : Nat)]
structure InsOk (w : List Stp) (x : Ins) : Prop where
  lt : x.s < w.length
  len : x.ts.length = (stp w x.s).2.length
  ok : ∀ t ∈ x.ts, t < x.ts.length
  c30 : x.c ≤ 30
def cellG (cs : List Cell) (t : Nat) : Cell := cs.getD t (0, 0)
/-- an instruction done: its worth, the givers of its inputs, the cells behind -/
def doW (q : Bool) (w : List Stp) (x : Ins) (own : Int) (cs : List Cell) : Int := worthOf (stp w x.s).1 own (x.ts.map fun t => (cellG (tkF q x.ts.length cs) t).2)
def doG (q : Bool) (x : Ins) (cs : List Cell) : List Nat := x.ts.map fun t => (cellG (tkF q x.ts.length cs) t).1
def doR (q : Bool) (w : List Stp) (x : Ins) (own : Int) (cs : List Cell) : List Cell := tkR q x.ts.length cs ++ List.replicate x.c (x.s, doW q w x own cs)
theorem cellG_mem {cs : List Cell} {t : Nat} (h : t < cs.length) : cellG cs t ∈ cs := by
  unfold cellG
  rw [List.getD_eq_getElem?_getD, List.getElem?_eq_getElem h]
  exact List.getElem_mem h
theorem cellG_get {cs : List Cell} {t : Nat} (h : t < cs.length) : cs[t]? = some (cellG cs t) := by
  unfold cellG
  rw [List.getD_eq_getElem?_getD, List.getElem?_eq_getElem h]
  rfl
/-- the machine stands at n over the store S0, holding these cells -/
def MaS (q : Bool) (n : Nat) (S0 S : Sto) (cs : List Cell) : Prop := ∃ h G, S = S0.set n (.ins "Machine" (mFs q h)) ++ G ∧ n < S0.length ∧ S[h]? = some (.lst (cs.map encC)) ∧ h ≠ n
section
variable {q : Bool} {n : Nat} {S0 S : Sto} {cs cs' : List Cell}
theorem MaS.at (M : MaS q n S0 S cs) : ∃ h, S[n]? = some (.ins "Machine" (mFs q h)) ∧ S[h]? = some (.lst (cs.map encC)) ∧ h ≠ n := by
  obtain ⟨h, G, rfl, h1, h2, h3⟩ := M
  exact ⟨h, by rw [List.getElem?_append_left (by simpa using h1), List.getElem?_set_self h1], h2, h3⟩
theorem MaS.len (M : MaS q n S0 S cs) : S0.length ≤ S.length := by
  obtain ⟨h, G, rfl, h1, h2, h3⟩ := M
  simp
theorem MaS.lt (M : MaS q n S0 S cs) : n < S0.length := by
  obtain ⟨h, G, rfl, h1, h2, h3⟩ := M
  exact h1
theorem MaS.old (M : MaS q n S0 S cs) {i : Nat} {o : Ob} (h : S0[i]? = some o) (hn : i ≠ n) : S[i]? = some o := by
  obtain ⟨h', G, rfl, h1, h2, h3⟩ := M
  have := (List.getElem?_eq_some_iff.mp h).1
  rw [List.getElem?_append_left (by simpa using this), List.getElem?_set_ne (Ne.symm hn)]
  exact h
/-- the machine holds another list, which is new -/
theorem MaS.put (M : MaS q n S0 S cs) {G : Sto} {h : Nat} (hh : (S ++ G)[h]? = some (.lst (cs'.map encC))) (hn : h ≠ n) : MaS q n S0 ((S ++ G).set n (.ins "Machine" (mFs q h))) cs' := by
  have hl := M.len
  have ht := M.lt
  obtain ⟨h', G', rfl, h1, h2, h3⟩ := M
  refine ⟨h, G' ++ G, ?_, h1, ?_, hn⟩
  · rw [List.append_assoc, List.set_append_left _ _ (by simpa using h1), List.set_set]
  · rw [List.getElem?_set_ne (Ne.symm hn)]; exact hh
theorem MaS.app (M : MaS q n S0 S cs) (G : Sto) : MaS q n S0 (S ++ G) cs := by
  obtain ⟨h', G', rfl, h1, h2, h3⟩ := M
  exact ⟨h', G' ++ G, by rw [List.append_assoc], h1, by rw [List.getElem?_append_left (List.getElem?_eq_some_iff.mp h2).1]; exact h2, h3⟩
end
theorem gc_new {S S' : Sto} {d : D} (h : ¬ Old S S') : gc S d S' = .ok d S' := by
  unfold gc
  rw [if_neg (fun z => h z.1)]
  split
  · split
    · rw [if_neg (fun z => h z.1)]
    · rfl
  · rfl
theorem not_old {S S' : Sto} {n h h' : Nat} {q : Bool} (h1 : S[n]? = some (.ins "Machine" (mFs q h))) (h2 : S'[n]? = some (.ins "Machine" (mFs q h'))) (h3 : h < S.length) (h4 : S.length ≤ h') : ¬ Old S S' := fun o => by
  have hl := (List.getElem?_eq_some_iff.mp h1).1
  rcases o n _ hl h2 with e | e
  · rw [h1] at e
    have e := congrArg (fun o => match o with
      | some (Ob.ins _ fs) => fs.lookup ("held" : Str)
      | _ => none) e
    simp only [mFs_h, Option.some.injEq, D.ref.injEq] at e
    omega
  · simp [clO, clA, mFs, clD] at e
    omega
end Pz

set_option Elab.async false
set_option linter.all false
set_option maxRecDepth 100000
set_option maxHeartbeats 4000000
/-! Pw12: the ties of a web as data. -/
namespace Pz
open PySem PySem.Spec PyProof.Rows L2
theorem W_eExt {f : FE} {g : FL} {l : Loc} {S : Sto} {P : D → Sto → Prop} {n : Nat} (h : (f l S).W fun x S1 => x = .ref n ∧ ∃ zs, S1[n]? = some (.lst zs) ∧ (g l S1).W fun y S2 => ∃ xs ys, S2[n]? = some (.lst xs) ∧ y.get S2 = some ys ∧ xs.length + ys.length ≤ sizeLine ∧ P .non (S2.set n (.lst (xs ++ ys)))) : (eExt f g l S).W P := by
  unfold eExt
  rw [W_bind]
  refine h.mono fun x S1 ⟨e, zs, h0, h1⟩ => ?_
  subst e
  rw [W_bind]
  have i : isL (.ref n) S1 = .ok (.ref n) S1 := by simp only [isL, h0]
  rw [i, W_ok, W_bind]
  refine h1.mono fun y S2 ⟨xs, ys, h2, h3, h4, h5⟩ => ?_
  simp only [h2, h3, if_pos h4, W_ok]
  exact h5
theorem W_eIx {f g : FE} {l : Loc} {S : Sto} {P : D → Sto → Prop} : (eIx f g l S).W P ↔ (f l S).W fun x S1 => (eIxB g l x S1).W P := by unfold eIx; rw [W_bind]
theorem W_eIxB {g : FE} {l : Loc} {S : Sto} {P : D → Sto → Prop} {xs : List D} : (eIxB g l (.tup xs) S).W P ↔ (g l S).W fun y S1 => (oIndexT (.tup xs) y S1).W P := by unfold eIxB; rw [W_bind]
theorem oIndexT_nat {row : List Nat} {s : Nat} {S : Sto} (h : s ∈ row) : oIndexT (.tup (encI row)) (.int (s : Nat)) S = .ok (.int (row.idxOf s : Nat)) S := by
  have e : intsD (encI row) = some (row.map fun (i : Nat) => (i : Int)) := by rw [encI_ints, intsD_map]
  have hm : ((s : Nat) : Int) ∈ row.map fun (i : Nat) => (i : Int) := List.mem_map.mpr ⟨s, h, rfl⟩
  have ix : ∀ l : List Nat, (l.map fun (i : Nat) => (i : Int)).idxOf ((s : Nat) : Int) = l.idxOf s := by
    intro l
    induction l with
    | nil => rfl
    | cons a l ih =>
      simp only [List.map_cons, List.idxOf_cons, ih]
      by_cases q : a = s
      · subst q; simp
      · rw [beq_false_of_ne q, beq_false_of_ne (show ((a : Nat) : Int) ≠ s by omega)]
  simp only [oIndexT, e, if_pos hm, ix]
theorem enumD_encI (is : List Nat) : enumD 0 (encI is) = (List.range is.length).map fun p => D.tup [.int (p : Nat), .int (is.getD p 0 : Nat)] := by
  refine List.ext_getElem? fun p => ?_
  by_cases h : p < is.length
  · have hl : p < (enumD 0 (encI is)).length := by rw [enumD_len, encI_len]; exact h
    obtain ⟨x, h1, h2⟩ := enumD_get (List.getElem?_eq_getElem hl)
    rw [List.getElem?_eq_getElem hl, h2, List.getElem?_map, List.getElem?_range h]
    simp only [encI, List.getElem?_map, List.getElem?_eq_getElem h, Option.map_some, Option.some.injEq] at h1
    subst h1
    simp [List.getD, h]
  · rw [List.getElem?_eq_none (by rw [enumD_len, encI_len]; omega), List.getElem?_eq_none (by simp; omega)]
theorem encR_get {n i : Nat} {d : D} (h : (encI (List.range n))[i]? = some d) : i < n ∧ d = .int (i : Nat) := by
  have hl := (List.getElem?_eq_some_iff.mp h).1
  rw [encI_len, List.length_range] at hl
  simp only [encI, List.getElem?_map, List.getElem?_range hl, Option.map_some, Option.some.injEq] at h
  exact ⟨hl, h.symm⟩
theorem gc_keep {S S' : Sto} {n : Nat} {o : Ob} (hn : S'[n]? = some o) (h : clO S.length o = false) (hl : S.length ≤ n) : gc S (.ref n) S' = .ok (.ref n) S' := by
  unfold gc
  rw [if_neg (fun z => by have := z.2; simp only [clD, decide_eq_true_eq] at this; omega)]
  simp only [hn]
  rw [if_neg (fun z => by rw [h] at z; exact absurd z.2.2 (by decide))]
def rowT (t : Nat) (is : List Nat) : List (List Int) := (List.range is.length).map fun p => [((is.getD p 0 : Nat) : Int), ((t : Nat) : Int), ((p : Nat) : Int)]
/-- the ties as they are found -/
def tieU (w : List Stp) (n : Nat) : List (List Int) := ((List.range n).map fun t => rowT t (stp w t).2).flatten
/-- the ties, ascending -/
def tieS (w : List Stp) : List (List Int) := (tieU w w.length).mergeSort leL
/-- how many inputs take from a step -/
def nOut (w : List Stp) (s : Nat) : Nat := ((List.range w.length).map fun t => (stp w t).2).flatten.count s
theorem rowT_len {t : Nat} {is : List Nat} : (rowT t is).length = is.length := by simp [rowT]
theorem tieU_succ {w : List Stp} {n : Nat} : tieU w (n + 1) = tieU w n ++ rowT n (stp w n).2 := by simp [tieU, List.range_succ]
theorem tieU_mem {w : List Stp} {n : Nat} {l : List Int} : l ∈ tieU w n ↔ ∃ t p, t < n ∧ p < (stp w t).2.length ∧ l = [(((stp w t).2.getD p 0 : Nat) : Int), ((t : Nat) : Int), ((p : Nat) : Int)] := by
  simp only [tieU, List.mem_flatten, List.mem_map, List.mem_range, rowT]
  constructor
  · rintro ⟨_, ⟨t, ht, rfl⟩, h⟩
    obtain ⟨p, hp, rfl⟩ := List.mem_map.mp h
    exact ⟨t, p, ht, List.mem_range.mp hp, rfl⟩
  · rintro ⟨t, p, ht, hp, rfl⟩
    exact ⟨_, ⟨t, ht, rfl⟩, List.mem_map.mpr ⟨p, List.mem_range.mpr hp, rfl⟩⟩
theorem tieU_ne {w : List Stp} {n : Nat} {l : List Int} (h : l ∈ tieU w n) : l ≠ [] := by
  obtain ⟨_, _, _, _, rfl⟩ := tieU_mem.mp h; simp
theorem tieS_perm (w : List Stp) : (tieS w).Perm (tieU w w.length) := List.mergeSort_perm _ _
theorem tieS_mem {w : List Stp} {l : List Int} : l ∈ tieS w ↔ ∃ t p, t < w.length ∧ p < (stp w t).2.length ∧ l = [(((stp w t).2.getD p 0 : Nat) : Int), ((t : Nat) : Int), ((p : Nat) : Int)] := by
  rw [(tieS_perm w).mem_iff, tieU_mem]
/-- a tie's giver -/
def tieG (l : List Int) : Int := l.getD 0 0
theorem rowT_count (s t : Nat) : ∀ is : List Nat, ((rowT t is).filter fun l => decide (tieG l = (s : Int))).length = is.count s := by
  intro is
  have e : (rowT t is).map tieG = is.map fun (i : Nat) => (i : Int) := by
    refine List.ext_getElem? fun p => ?_
    simp only [rowT, List.map_map, List.getElem?_map]
    by_cases h : p < is.length
    · rw [List.getElem?_range h]; simp [tieG, List.getD, h]
    · rw [List.getElem?_eq_none (by simpa using h), List.getElem?_eq_none (by simpa using h)]; rfl
  rw [← List.countP_eq_length_filter]
  have : List.countP (fun l => decide (tieG l = (s : Int))) (rowT t is) = List.countP (fun i => decide (i = (s : Int))) ((rowT t is).map tieG) := by rw [List.countP_map]; rfl
  rw [this, e, List.countP_map, List.count, List.countP_congr]
  intro x _
  simp
  exact ⟨fun h => by omega, fun h => by omega⟩
theorem tieU_count {w : List Stp} (s : Nat) : ∀ n : Nat, ((tieU w n).filter fun l => decide (tieG l = (s : Int))).length = ((List.range n).map fun t => (stp w t).2).flatten.count s
  | 0 => by simp [tieU]
  | n + 1 => by
    rw [tieU_succ, List.filter_append, List.length_append, tieU_count s n, rowT_count, List.range_succ, List.map_append, List.flatten_append, List.count_append]
    simp
theorem tieS_count (w : List Stp) (s : Nat) : ((tieS w).filter fun l => decide (tieG l = (s : Int))).length = nOut w s := by
  rw [((tieS_perm w).filter _).length_eq, tieU_count]; rfl
theorem tieU_len {w : List Stp} (h : ∀ t, t < w.length → (stp w t).2.length ≤ 3) : ∀ n, n ≤ w.length → (tieU w n).length ≤ 3 * n
  | 0, _ => by simp [tieU]
  | n + 1, hn => by
    rw [tieU_succ, List.length_append, rowT_len]
    have := tieU_len h n (by omega)
    have := h n (by omega)
    omega
theorem tieS_len (w : List Stp) : (tieS w).length = (tieU w w.length).length := (tieS_perm w).length_eq
theorem Web.le3 {w : List Stp} (hw : Web w) {t : Nat} (ht : t < w.length) : (stp w t).2.length ≤ 3 := (hw.ok _ (List.mem_of_getElem? (stp_get ht))).1.le
theorem nOut_le {w : List Stp} (hw : Web w) (s : Nat) : nOut w s ≤ 3 * w.length := by
  rw [← tieS_count]
  refine Nat.le_trans (List.length_filter_le _ _) ?_
  rw [tieS_len]
  exact tieU_len (fun t ht => hw.le3 ht) _ (Nat.le_refl _)
end Pz

set_option Elab.async false
set_option linter.all false
set_option maxRecDepth 100000
set_option maxHeartbeats 4000000
/-! Ltie: ties. -/
namespace Pz
open PySem PySem.Spec PyProof.Rows L2
section
variable {S : Sto} {w : List Stp}
theorem ties_eq (hw : Web w) (hl : w.length ≤ 1000) : F_ties [encW w] S = .ok (.tup ((tieS w).map encT)) S := by
  refine eq_Wf (F := F_ties) fun P hP => ?_
  refine W_runF rfl ?_
  simp [b_ties, b_ties_0, b_ties_1, encW]
  obtain ⟨I, hI⟩ : ∃ I : Nat → Loc → Sto → Prop, ∀ i l S', I i l S' ↔ ∃ (v2 v3 v4 v5 v6 : Option D), l = [some (.tup (w.map encS)), some (.ref S.length), v2, v3, v4, v5, v6] ∧ S' = S ++ [.lst ((tieU w i).map encT)] := ⟨_, fun _ _ _ => Iff.rfl⟩
  refine W_forL I _ 0 ((hI _ _ _).2 ⟨none, none, none, none, none, rfl, by simp [tieU]⟩) ?_ ?_
  · intro i d l S' hx q
    obtain ⟨v2, v3, v4, v5, v6, rfl, rfl⟩ := (hI _ _ _).1 q
    obtain ⟨y, hy, rfl⟩ := enumD_get hx
    rw [List.getElem?_map, Option.map_eq_some_iff] at hy
    obtain ⟨st, hst, rfl⟩ := hy
    have hi := (List.getElem?_eq_some_iff.mp hst).1
    have est := stp_eq hst
    refine ⟨trivial, _, rfl, ?_⟩
    rw [Nat.zero_add] at *
    simp
    refine W_eExt (n := S.length) ?_
    have lw := tieU_len (fun t ht => hw.le3 ht) i (by omega)
    have l3 := hw.le3 hi
    simp
    refine ⟨by simp [enumD_len, encI_len, sizeLine]; rw [est] at l3; omega, ?_⟩
    rw [enumD_encI]
    refine W_lcT (fun p : Nat => D.tup [.int (p : Nat), .int (st.2.getD p 0 : Nat)]) (fun p => encT [((st.2.getD p 0 : Nat) : Int), ((i : Nat) : Int), ((p : Nat) : Int)]) (bs := List.range st.2.length) trivial (fun p hp => ⟨_, rfl, by simp [wipeL, encT]⟩) ?_
    refine ⟨(tieU w i).map encT, by simp, (rowT i st.2).map encT, ?_, ?_, ?_⟩
    · simp [rowT]
    · rw [List.length_map, List.length_map, rowT_len]; rw [est] at l3; simp [sizeLine]; omega
    · refine (hI _ _ _).2 ⟨_, _, _, _, _, rfl, ?_⟩
      rw [tieU_succ, est]; simp
  · intro l S' q
    obtain ⟨v2, v3, v4, v5, v6, rfl, rfl⟩ := (hI _ _ _).1 q
    refine ⟨trivial, ?_⟩
    rw [enumD_len, List.length_map, Nat.zero_add]
    have e0 : (S ++ [Ob.lst ((tieU w w.length).map encT)])[S.length]? = some (.lst ((tieU w w.length).map encT)) := by simp
    simp [b_ties_2, qD_ref e0]
    have fin : ∀ S', (gc S (.tup ((tieS w).map encT)) (S ++ S')).W P := fun S' => by
      rw [gc_tmp, W_ok]
      · exact hP
      · simp only [clD, clDs_all, List.all_eq_true, List.mem_map]
        rintro d ⟨l, _, rfl⟩
        simp only [encT, clD, clDs_all, List.all_eq_true, List.mem_map]
        rintro d ⟨z, _, rfl⟩
        rfl
    by_cases h0 : tieU w w.length = []
    · have e : tieS w = [] := by unfold tieS; rw [h0]; simp
      rw [h0, List.map_nil, oSorted_nil]
      rw [e] at fin
      simpa using fin _
    · rw [oSorted_tups h0 fun l hl => tieU_ne hl]
      simpa [tieS] using fin _
end
end Pz

set_option Elab.async false
set_option linter.all false
set_option maxRecDepth 100000
set_option maxHeartbeats 4000000
/-! Pw15: reckoning with dicts; what a machine that runs a program tells. -/
namespace Pz
open PySem PySem.Spec PyProof.Rows L2
section
variable {l : Loc} {S : Sto} {u v k : FE} {N R : Loc → Sto → Prop}
theorem W_sDPut {N : Loc → Sto → Prop} {R : D → Sto → Prop} {B C : Loc → Sto → Prop} : (sDPutF u v k l S).W N R B C ↔ (u l S).W fun d S1 => (v l S1).W fun x S2 => (k l S2).W fun y S3 => ∃ S4, oDPut d x y S3 = some S4 ∧ N l S4 := by
  unfold sDPutF
  rw [W_toS]
  refine iff_of_eq (congrArg _ (funext fun d => funext fun S1 => ?_))
  rw [W_toS]
  refine congrArg _ (funext fun x => funext fun S2 => ?_)
  rw [W_toS]
  refine congrArg _ (funext fun y => funext fun S3 => ?_)
  cases oDPut d x y S3 with
  | none => simp
  | some l1 => simp
theorem W_eDispIx {f : FE} {r : FP} {P : D → Sto → Prop} : (eDispIx r f l S).W P ↔ (r l S).W fun kvs S1 => kvs.length ≤ 15 ∧ (f l S1).W fun k S2 => (oIxD kvs k S2).W P := by
  unfold eDispIx
  rw [W_bind]
  refine iff_of_eq (congrArg _ (funext fun d => funext fun S1 => ?_))
  split
  · rename_i h; rw [W_bind]; simp [h]
  · rename_i h; simp [h]
end
/-- a dict from numbers to numbers -/
def encF (fd : List (Nat × Int)) : List (Key × D) := fd.map fun p => (.inl (p.1 : Nat), .int p.2)
def putN (fd : List (Nat × Int)) (k : Nat) (v : Int) : List (Nat × Int) := if (fd.any fun p => decide (p.1 = k)) = true then fd.map (fun p => if p.1 = k then (p.1, v) else p) else fd ++ [(k, v)]
def getN (fd : List (Nat × Int)) (k : Nat) : Option Int := (fd.find? fun p => decide (p.1 = k)).map (·.2)
theorem key_eq {a b : Nat} : ((Sum.inl ((a : Nat) : Int) : Key) = .inl ((b : Nat) : Int)) ↔ a = b := ⟨fun h => by have := Sum.inl.inj h; omega, fun h => by rw [h]⟩
theorem encF_put (fd : List (Nat × Int)) (k : Nat) (v : Int) : Pz.putD (encF fd) (.inl (k : Nat)) (.int v) = encF (putN fd k v) := by
  have e : ((encF fd).any fun kv => decide (kv.1 = (.inl (k : Nat) : Key))) = fd.any fun p => decide (p.1 = k) := by
    unfold encF
    rw [List.any_map]
    refine congrArg (fun f => List.any fd f) (funext fun p => ?_)
    simp only [Function.comp, key_eq]
  unfold Pz.putD putN
  rw [e]
  split
  · unfold encF
    rw [List.map_map, List.map_map]
    refine List.map_congr_left fun p _ => ?_
    simp only [Function.comp, key_eq]
    by_cases h : p.1 = k
    · simp [h]
    · simp [h]
  · simp [encF]
theorem encF_get (fd : List (Nat × Int)) (k : Nat) : Pz.getD (encF fd) (.inl (k : Nat)) = (getN fd k).map .int := by
  induction fd with
  | nil => rfl
  | cons p fd ih =>
    unfold Pz.getD getN encF at *
    rw [List.map_cons]
    by_cases h : p.1 = k
    · simp [List.find?_cons, h]
    · have h2 : ¬ ((Sum.inl ((p.1 : Nat) : Int) : Key) = .inl ((k : Nat) : Int)) := fun z => h (key_eq.1 z)
      simp only [List.find?_cons, h2, h, decide_false]
      exact ih
theorem intK_encF (fd : List (Nat × Int)) : intK (encF fd) = some (fd.map fun p => ((p.1 : Nat) : Int)) := by
  induction fd with
  | nil => rfl
  | cons p fd ih =>
    show (intK (encF fd)).map (((p.1 : Nat) : Int) :: ·) = _
    rw [ih]; rfl
theorem putN_len (fd : List (Nat × Int)) (k : Nat) (v : Int) : (putN fd k v).length ≤ fd.length + 1 := by
  unfold putN; split <;> simp
theorem putN_mem {fd : List (Nat × Int)} {k : Nat} {v : Int} {p : Nat × Int} (h : p ∈ putN fd k v) : p.2 = v ∨ p ∈ fd := by
  unfold putN at h
  split at h
  · obtain ⟨q, hq, rfl⟩ := List.mem_map.mp h
    split
    · exact .inl rfl
    · exact .inr hq
  · rcases List.mem_append.mp h with q | q
    · exact .inr q
    · simp at q; subst q; exact .inl rfl
theorem getN_mem {fd : List (Nat × Int)} {k : Nat} (h : k ∈ fd.map (·.1)) : ∃ v, getN fd k = some v ∧ (k, v) ∈ fd := by
  induction fd with
  | nil => simp at h
  | cons p fd ih =>
    unfold getN at *
    by_cases e : p.1 = k
    · exact ⟨p.2, by simp [List.find?_cons, e], by rw [← e]; simp⟩
    · simp only [List.map_cons, List.mem_cons] at h
      obtain ⟨v, h1, h2⟩ := ih (h.resolve_left (fun z => e z.symm))
      exact ⟨v, by simpa [List.find?_cons, e] using h1, by simp [h2]⟩
/-- the dict's keys, sorted, and what stands there -/
def keysS (fd : List (Nat × Int)) : List Nat := (fd.map (·.1)).mergeSort fun a b => decide (a ≤ b)
def tellN (fd : List (Nat × Int)) : List Int := (keysS fd).map fun k => (getN fd k).getD 0
theorem keysS_mem {fd : List (Nat × Int)} {k : Nat} (h : k ∈ keysS fd) : ∃ v, getN fd k = some v ∧ (k, v) ∈ fd := getN_mem ((List.mergeSort_perm _ _).mem_iff.mp h)
theorem keysS_int (fd : List (Nat × Int)) : (fd.map fun p => ((p.1 : Nat) : Int)).mergeSort (fun a b => decide (a ≤ b)) = (keysS fd).map fun k => ((k : Nat) : Int) := by
  refine (sort_uniqI ?_ ?_).symm
  · have e : (fd.map fun p => ((p.1 : Nat) : Int)) = (fd.map (·.1)).map fun k : Nat => (k : Int) := by rw [List.map_map]; rfl
    rw [e]
    exact (List.mergeSort_perm _ _).map _
  · refine List.pairwise_map.mpr ?_
    have := List.pairwise_mergeSort (le := fun a b : Nat => decide (a ≤ b)) (fun a b c h h' => by simp only [decide_eq_true_eq] at *; omega) (fun a b => by simp only [Bool.or_eq_true, decide_eq_true_eq]; omega) (fd.map (·.1))
    exact this.imp fun h => by simp only [decide_eq_true_eq] at h; omega
theorem oSortD_enc {n : Nat} {S : Sto} {fd : List (Nat × Int)} (h : S[n]? = some (.dk (encF fd))) (hl : fd.length < 64) : oSortD (.ref n) S = .ok (.tmp ((keysS fd).map fun k => .int ((k : Nat) : Int))) S := by
  have e : dkD (.ref n) S = some (encF fd) := by simp only [dkD, h]
  unfold oSortD
  simp only [e, intK_encF, List.length_map, hl, if_true, keysS_int, List.map_map]
  rfl
theorem oDGet_enc {n : Nat} {S : Sto} {fd : List (Nat × Int)} {k : Nat} {v : Int} (h : S[n]? = some (.dk (encF fd))) (hv : getN fd k = some v) : oDGet (.ref n) (.int (k : Nat)) S = .ok (.int v) S := by
  have e : dkD (.ref n) S = some (encF fd) := by simp only [dkD, h]
  unfold oDGet
  simp only [e, keyD, encF_get, hv, Option.map]
theorem oDPut_enc {n : Nat} {S : Sto} {fd : List (Nat × Int)} {k : Nat} {v : Int} (h : S[n]? = some (.dk (encF fd))) (hl : fd.length < 1000) : oDPut (.int v) (.ref n) (.int (k : Nat)) S = some (S.set n (.dk (encF (putN fd k v)))) := by
  have hz : (encF fd).length < sizeLine := by unfold encF; rw [List.length_map, sizeLine_eq]; omega
  unfold oDPut
  simp only [keyD, h, hz, if_true, encF_put]
/-- what a run tells -/
inductive Told where
  | short (i : Nat)
  | left (n : Nat)
  | told (xs : List Int)
def runR (q : Bool) (w : List Stp) (ws : Nat → Int) : List Ins → Nat → List Cell → List (Nat × Int) → Told
  | [], _, cs, fd => if cs.length = 0 then .told (tellN fd) else .left cs.length
  | x :: xs, i, cs, fd => if cs.length < x.ts.length then .short i else runR q w ws xs (i + 1) (doR q w x (ws x.s) cs) (if x.c = 0 then putN fd x.s (doW q w x (ws x.s) cs) else fd)
def toldL : Told → List D
  | .short i => [.str "short", .int (i : Nat)]
  | .left n => [.str "left", .int (n : Nat)]
  | .told xs => [.str "told", .tup (xs.map .int)]
end Pz

set_option Elab.async false
set_option linter.all false
set_option maxRecDepth 100000
set_option maxHeartbeats 4000000
/-! Pq1: the ties of a web by giver and by taker; counting dicts; bits. -/
namespace Pz
open PySem PySem.Spec PyProof.Rows L2
/-! counting dicts -/
def incN (fd : List (Nat × Int)) (k : Nat) : List (Nat × Int) := putN fd k ((getN fd k).getD 0 + 1)
def cntF (xs : List Nat) : List (Nat × Int) := xs.foldl incN []
theorem cntF_snoc (xs : List Nat) (k : Nat) : cntF (xs ++ [k]) = incN (cntF xs) k := by simp [cntF, List.foldl_append]
structure CR (fd : List (Nat × Int)) (xs : List Nat) : Prop where
  get : ∀ k, getN fd k = if k ∈ xs then some (xs.count k : Int) else none
  nd : (fd.map (·.1)).Nodup
  key : ∀ k, k ∈ fd.map (·.1) ↔ k ∈ xs
  sum : ∀ p : Nat → Bool, ((fd.filter fun e => p e.1).map (·.2)).sum = ((xs.filter p).length : Int)
theorem any_key {fd : List (Nat × Int)} {k : Nat} : (fd.any fun p => decide (p.1 = k)) = true ↔ k ∈ fd.map (·.1) := by
  simp [List.any_eq_true]
theorem putN_keys {fd : List (Nat × Int)} {k : Nat} {v : Int} : (putN fd k v).map (·.1) = if k ∈ fd.map (·.1) then fd.map (·.1) else fd.map (·.1) ++ [k] := by
  unfold putN
  by_cases h : k ∈ fd.map (·.1)
  · rw [if_pos (any_key.mpr h), if_pos h, List.map_map]
    refine List.map_congr_left fun p _ => ?_
    simp only [Function.comp]
    split <;> rfl
  · rw [if_neg (fun z => h (any_key.mp z)), if_neg h, List.map_append]; rfl
theorem getN_cons {p : Nat × Int} {fd : List (Nat × Int)} {j : Nat} : getN (p :: fd) j = if p.1 = j then some p.2 else getN fd j := by
  unfold getN
  rw [List.find?_cons]
  by_cases e : p.1 = j
  · rw [if_pos e, decide_eq_true e]; rfl
  · rw [if_neg e, decide_eq_false e]
theorem getN_map {k j : Nat} {v : Int} : ∀ fd : List (Nat × Int), getN (fd.map fun p => if p.1 = k then (p.1, v) else p) j = if j = k ∧ k ∈ fd.map (·.1) then some v else getN fd j
  | [] => by simp [getN]
  | p :: fd => by
    rw [List.map_cons, getN_cons, getN_cons, getN_map fd]
    by_cases e : p.1 = k
    · rw [if_pos e]
      by_cases ej : j = k
      · subst ej
        rw [if_pos e, if_pos ⟨rfl, by simp [e]⟩]
      · have h1 : ¬ p.1 = j := fun z => ej (by rw [← z, e])
        rw [if_neg h1, if_neg h1, if_neg (fun z => ej z.1), if_neg (fun z => ej z.1)]
    · rw [if_neg e]
      by_cases ej : p.1 = j
      · have h1 : ¬ j = k := fun z => e (by rw [ej, z])
        rw [if_pos ej, if_pos ej, if_neg (fun z => h1 z.1)]
      · rw [if_neg ej, if_neg ej]
        by_cases h : j = k ∧ k ∈ fd.map (·.1)
        · rw [if_pos h, if_pos ⟨h.1, by rw [List.map_cons]; exact List.mem_cons_of_mem _ h.2⟩]
        · rw [if_neg h, if_neg (fun z => h ⟨z.1, by
            have := z.2
            rw [List.map_cons] at this
            rcases List.mem_cons.mp this with q | q
            · exact absurd q.symm e
            · exact q⟩)]
theorem getN_putN {fd : List (Nat × Int)} {k j : Nat} {v : Int} : getN (putN fd k v) j = if j = k then some v else getN fd j := by
  unfold putN
  by_cases h : k ∈ fd.map (·.1)
  · rw [if_pos (any_key.mpr h), getN_map]
    by_cases e : j = k
    · rw [if_pos ⟨e, h⟩, if_pos e]
    · rw [if_neg (fun z => e z.1), if_neg e]
  · rw [if_neg (fun z => h (any_key.mp z))]
    have app : ∀ l : List (Nat × Int), (∀ p ∈ l, p.1 ≠ k) → getN (l ++ [(k, v)]) j = if j = k then some v else getN l j := by
      intro l
      induction l with
      | nil =>
        intro _
        rw [List.nil_append, getN_cons]
        by_cases e : j = k
        · rw [if_pos e.symm, if_pos e]
        · rw [if_neg (fun z => e z.symm), if_neg e]
      | cons p l ih =>
        intro hn
        rw [List.cons_append, getN_cons, getN_cons, ih fun q hq => hn q (List.mem_cons_of_mem _ hq)]
        have := hn p List.mem_cons_self
        by_cases ej : p.1 = j
        · have h1 : ¬ j = k := fun z => this (by rw [ej, z])
          rw [if_pos ej, if_neg h1, if_pos ej]
        · rw [if_neg ej, if_neg ej]
    exact app fd fun p hp e => h (List.mem_map.mpr ⟨p, hp, e⟩)
theorem sum_put : ∀ {fd : List (Nat × Int)} {k : Nat} {v : Int}, (fd.map (·.1)).Nodup → ∀ p : Nat → Bool,
    (((putN fd k v).filter fun e => p e.1).map (·.2)).sum = ((fd.filter fun e => p e.1).map (·.2)).sum + if p k = true then v - (getN fd k).getD 0 else 0 := by
  intro fd k v hnd p
  by_cases h : k ∈ fd.map (·.1)
  · have e : putN fd k v = fd.map (fun q => if q.1 = k then (q.1, v) else q) := by unfold putN; rw [if_pos (any_key.mpr h)]
    rw [e]
    clear e
    induction fd with
    | nil => simp at h
    | cons q fd ih =>
      rw [List.map_cons, List.nodup_cons] at hnd
      by_cases e : q.1 = k
      · have hk : k ∉ fd.map (·.1) := by rw [← e]; exact hnd.1
        have same : fd.map (fun q => if q.1 = k then (q.1, v) else q) = fd := by
          conv => rhs; rw [← List.map_id fd]
          refine List.map_congr_left fun r hr => ?_
          rw [if_neg (fun z => hk (List.mem_map.mpr ⟨r, hr, z⟩))]; rfl
        rw [List.map_cons, same, if_pos e]
        have g : getN (q :: fd) k = some q.2 := by unfold getN; simp [e]
        rw [g]
        by_cases hp : p k = true
        · rw [List.filter_cons_of_pos (by simpa [e] using hp), List.filter_cons_of_pos (by simpa [e] using hp), if_pos hp]
          simp; omega
        · rw [List.filter_cons_of_neg (by simpa [e] using hp), List.filter_cons_of_neg (by simpa [e] using hp), if_neg hp]
          simp
      · have hk : k ∈ fd.map (·.1) := by simpa [Ne.symm e] using h
        have := ih hnd.2 hk
        have g : getN (q :: fd) k = getN fd k := by unfold getN; simp [List.find?_cons, e]
        rw [List.map_cons, if_neg e, g]
        by_cases hp : p q.1 = true
        · rw [List.filter_cons_of_pos (by simpa using hp), List.filter_cons_of_pos (by simpa using hp), List.map_cons, List.map_cons, List.sum_cons, List.sum_cons, this]
          omega
        · rw [List.filter_cons_of_neg (by simpa using hp), List.filter_cons_of_neg (by simpa using hp), this]
  · have e : putN fd k v = fd ++ [(k, v)] := by unfold putN; rw [if_neg (fun z => h (any_key.mp z))]
    have g : getN fd k = none := by
      unfold getN
      rw [List.find?_eq_none.mpr fun p hp => by
        have : p.1 ≠ k := fun z => h (List.mem_map.mpr ⟨p, hp, z⟩)
        simpa using this]
      rfl
    rw [e, g, List.filter_append, List.map_append, List.sum_append]
    by_cases hp : p k = true
    · simp [hp]
    · simp [hp]
theorem CR.inc {fd : List (Nat × Int)} {xs : List Nat} (h : CR fd xs) (k : Nat) : CR (incN fd k) (xs ++ [k]) := by
  have hg := h.get k
  refine ⟨fun j => ?_, ?_, fun j => ?_, fun p => ?_⟩
  · rw [incN, getN_putN]
    by_cases e : j = k
    · subst e
      rw [if_pos rfl, if_pos (by simp), hg, List.count_append]
      by_cases hm : j ∈ xs
      · rw [if_pos hm]; simp
      · rw [if_neg hm, List.count_eq_zero_of_not_mem hm]; simp
    · rw [if_neg e, h.get j, List.count_append]
      have e' : ¬ k = j := fun z => e z.symm
      by_cases hm : j ∈ xs
      · simp [hm, e']
      · simp [hm, e]
  · rw [incN, putN_keys]
    split
    · exact h.nd
    · rename_i hn
      exact List.nodup_append.mpr ⟨h.nd, by simp, fun a ha b hb => by rw [List.mem_singleton.mp hb]; exact fun z => hn (z ▸ ha)⟩
  · rw [incN, putN_keys]
    split
    · rename_i hn
      rw [h.key]
      have := (h.key k).mp hn
      constructor
      · intro q; exact List.mem_append.mpr (.inl q)
      · intro q
        rcases List.mem_append.mp q with q | q
        · exact q
        · rw [List.mem_singleton.mp q]; exact this
    · rw [List.mem_append, List.mem_append, h.key]
  · rw [incN, sum_put h.nd, h.sum p, List.filter_append, List.length_append, hg]
    by_cases hp : p k = true
    · simp [hp]
      split <;> simp <;> omega
    · simp [hp]
theorem cntF_cr (xs : List Nat) : CR (cntF xs) xs := by
  have : ∀ (ys fd zs), CR fd zs → CR (List.foldl incN fd ys) (zs ++ ys) := by
    intro ys
    induction ys with
    | nil => intro fd zs h; simpa using h
    | cons y ys ih =>
      intro fd zs h
      have := ih _ _ (h.inc y)
      simpa using this
  have h0 : CR [] [] := ⟨fun k => by simp [getN], List.nodup_nil, by simp, by simp⟩
  simpa [cntF] using this xs [] [] h0
theorem cntF_len (xs : List Nat) : (cntF xs).length ≤ xs.length := by
  have h := cntF_cr xs
  have := subset_lenN (l := (cntF xs).map (·.1)) (m := xs) h.nd fun k hk => (h.key k).mp hk
  simpa using this
where subset_lenN : ∀ {l m : List Nat}, l.Nodup → (∀ x ∈ l, x ∈ m) → l.length ≤ m.length
  | [], _, _, _ => Nat.zero_le _
  | a :: l, m, hn, hs => by
    have ha := hs a List.mem_cons_self
    have := subset_lenN (l := l) (m := m.erase a) (List.nodup_cons.mp hn).2 fun x hx => by
      have ne : x ≠ a := fun e => (List.nodup_cons.mp hn).1 (e ▸ hx)
      exact (List.mem_erase_of_ne ne).mpr (hs x (List.mem_cons_of_mem _ hx))
    rw [List.length_erase_of_mem ha] at this
    have := List.length_pos_of_mem ha
    simp; omega
/-! the ties -/
def tieP (w : List Stp) : List (Nat × Nat) := (tieS w).map fun l => ((l.getD 0 0).toNat, (l.getD 1 0).toNat)
/-- the takers of a giver, the givers of a taker, ascending -/
def tkT (w : List Stp) (g : Nat) : List Nat := ((tieP w).filter fun p => decide (p.1 = g)).map (·.2)
def gvT (w : List Stp) (t : Nat) : List Nat := ((tieP w).filter fun p => decide (p.2 = t)).map (·.1)
theorem tieP_mem {w : List Stp} {g t : Nat} : (g, t) ∈ tieP w ↔ t < w.length ∧ g ∈ (stp w t).2 := by
  unfold tieP
  rw [List.mem_map]
  constructor
  · rintro ⟨l, hl, e⟩
    obtain ⟨t', p, h1, h2, rfl⟩ := tieS_mem.mp hl
    simp at e
    obtain ⟨rfl, rfl⟩ := e
    refine ⟨h1, ?_⟩
    rw [List.getElem?_eq_getElem h2]
    exact List.getElem_mem h2
  · rintro ⟨h1, h2⟩
    obtain ⟨p, hp, e⟩ := List.getElem_of_mem h2
    refine ⟨_, tieS_mem.mpr ⟨t, p, h1, hp, rfl⟩, ?_⟩
    simp [List.getElem?_eq_getElem hp, e]
theorem tkT_mem {w : List Stp} {g t : Nat} : t ∈ tkT w g ↔ t < w.length ∧ g ∈ (stp w t).2 := by
  rw [← tieP_mem]
  simp [tkT]
theorem gvT_mem {w : List Stp} {g t : Nat} : g ∈ gvT w t ↔ t < w.length ∧ g ∈ (stp w t).2 := by
  rw [← tieP_mem]
  simp [gvT]
theorem count_gv (w : List Stp) (g t : Nat) : (gvT w t).count g = (tkT w g).count t := by
  unfold gvT tkT
  have h1 : ∀ l : List (Nat × Nat), ((l.filter fun p => decide (p.2 = t)).map (·.1)).count g = ((l.filter fun p => decide (p.1 = g)).map (·.2)).count t := by
    intro l
    induction l with
    | nil => rfl
    | cons p l ih =>
      obtain ⟨a, b⟩ := p
      by_cases ha : a = g <;> by_cases hb : b = t
      · simp [ha, hb, List.filter_cons]; simpa using ih
      · simp [ha, hb, List.filter_cons]; simpa using ih
      · simp [ha, hb, List.filter_cons]; simpa using ih
      · simp [ha, hb, List.filter_cons]; simpa using ih
  exact h1 _
theorem tieP_len {w : List Stp} (hw : Web w) : (tieP w).length ≤ 3 * w.length := by
  rw [tieP, List.length_map, tieS_len]
  exact tieU_len (fun t ht => hw.le3 ht) _ (Nat.le_refl _)
theorem tkT_len {w : List Stp} (hw : Web w) (g : Nat) : (tkT w g).length ≤ 3 * w.length := by
  rw [tkT, List.length_map]
  exact Nat.le_trans (List.length_filter_le _ _) (tieP_len hw)
theorem gvT_len {w : List Stp} (hw : Web w) (g : Nat) : (gvT w g).length ≤ 3 * w.length := by
  rw [gvT, List.length_map]
  exact Nat.le_trans (List.length_filter_le _ _) (tieP_len hw)
/-! bits -/
theorem bit_and (a b : Nat) : Builtin.bitAnd (a : Int) (b : Int) = ((a &&& b : Nat) : Int) := by
  unfold Builtin.bitAnd
  have h1 : decide ((0 : Int) ≤ a) = true := by simp
  have h2 : decide ((0 : Int) ≤ b) = true := by simp
  rw [h1, h2]
  simp
theorem oBit {S : Sto} {d t : Nat} : ((e2 oAnd (e2 oShr (eV 0) (eV 1)) (eC (.int 1))) [some (.int (d : Nat)), some (.int (t : Nat))] S) = .ok (.int (if d.testBit t then 1 else 0)) S := by
  have e1 : oShr (.int (d : Nat)) (.int (t : Nat)) S = .ok (.int ((d / 2 ^ t : Nat) : Int)) S := by
    unfold oShr fI
    simp only
    rw [if_pos (by simp [cShr])]
    simp
  show ((oShr (.int (d : Nat)) (.int (t : Nat)) S).bind fun x S1 => oAnd x (.int 1) S1) = _
  rw [e1]
  show oAnd (.int ((d / 2 ^ t : Nat) : Int)) (.int ((1 : Nat) : Int)) S = _
  unfold oAnd fI
  simp only [if_true]
  rw [bit_and, Nat.and_one_is_mod, Nat.testBit_eq_decide_div_mod_eq]
  have := Nat.mod_two_eq_zero_or_one (d / 2 ^ t)
  by_cases h : d / 2 ^ t % 2 = 1
  · simp [h]
  · have h0 : d / 2 ^ t % 2 = 0 := by omega
    simp [h0]
theorem oShr_nat {S : Sto} {d t : Nat} : oShr (.int (d : Nat)) (.int (t : Nat)) S = .ok (.int ((d / 2 ^ t : Nat) : Int)) S := by
  unfold oShr fI
  simp only
  rw [if_pos (by simp [cShr])]
  simp
theorem oAnd1_nat {S : Sto} {d t : Nat} : oAnd (.int ((d / 2 ^ t : Nat) : Int)) (.int 1) S = .ok (.int (if d.testBit t = true then 1 else 0)) S := by
  show oAnd (.int ((d / 2 ^ t : Nat) : Int)) (.int ((1 : Nat) : Int)) S = _
  unfold oAnd fI
  simp only [if_true]
  rw [bit_and, Nat.and_one_is_mod, Nat.testBit_eq_decide_div_mod_eq]
  have := Nat.mod_two_eq_zero_or_one (d / 2 ^ t)
  by_cases h : d / 2 ^ t % 2 = 1
  · simp [h]
  · have h0 : d / 2 ^ t % 2 = 0 := by omega
    simp [h0]
theorem bit_or (a b : Nat) : Builtin.bitOr (a : Int) (b : Int) = ((a ||| b : Nat) : Int) := by
  unfold Builtin.bitOr
  have hn : ∀ c : Nat, Builtin.bitNot (c : Int) = -(c : Int) - 1 := fun c => by unfold Builtin.bitNot; omega
  rw [hn, hn]
  unfold Builtin.bitAnd
  have h1 : decide ((0 : Int) ≤ -(a : Int) - 1) = false := by simp; omega
  have h2 : decide ((0 : Int) ≤ -(b : Int) - 1) = false := by simp; omega
  rw [h1, h2]
  have hnn : ∀ x : Int, Builtin.bitNot (Builtin.bitNot x) = x := fun x => by unfold Builtin.bitNot; omega
  simp only [hnn]
  have hb : ∀ c : Nat, (Builtin.bitNot (-(c : Int) - 1)).toNat = c := fun c => by unfold Builtin.bitNot; omega
  rw [hb, hb]
/-- a step done -/
def setB (d s : Nat) : Nat := d ||| 2 ^ s
theorem oOr_set {S : Sto} {d s : Nat} : oOr (.int (d : Nat)) (.int ((2 ^ s : Nat) : Int)) S = .ok (.int (setB d s : Nat)) S := by
  unfold oOr fI
  simp only [if_true]
  rw [bit_or]; rfl
theorem oShl1 {S : Sto} {s : Nat} (h : s ≤ 1000000) : oShl (.int 1) (.int (s : Nat)) S = .ok (.int ((2 ^ s : Nat) : Int)) S := by
  unfold oShl fI
  simp only
  rw [if_pos (by simp [cPow]; omega)]
  simp
theorem setB_bit {d s t : Nat} : (setB d s).testBit t = (d.testBit t || decide (t = s)) := by
  unfold setB
  rw [Nat.testBit_or, Nat.testBit_two_pow]
  congr 1
  exact decide_eq_decide.mpr ⟨fun h => h.symm, fun h => h.symm⟩
end Pz

set_option Elab.async false
set_option linter.all false
set_option maxRecDepth 100000
set_option maxHeartbeats 4000000
/-! Pq2: reckoning with the dicts of Passes. -/
namespace Pz
open PySem PySem.Spec PyProof.Rows L2
theorem eq_of_okP {F : List D → Sto → Out D} {ds : List D} {a : D} {S S1 : Sto} (h : ∀ P : D → Sto → Prop, P a S1 → (F ds S).W P) : F ds S = .ok a S1 := by
  obtain ⟨d, S', e, rfl, rfl⟩ := (h (fun d S' => d = a ∧ S' = S1) ⟨rfl, rfl⟩).ok
  exact e
section
variable {S : Sto} {l : Loc} {f g h : FE} {P : D → Sto → Prop} {n : Nat} {fd : List (Nat × Int)} {k : Nat}
theorem W_eDGet2 (hh : (f l S).W fun x S1 => ∃ kvs, dkD x S1 = some kvs ∧ (g l S1).W fun y S2 => (h l S2).W fun z S3 => (oDGet2 x y z S3).W P) : (eDGet2 f g h l S).W P := by
  unfold eDGet2
  rw [W_bind]
  refine hh.mono fun x S1 ⟨kvs, e, q⟩ => ?_
  rw [e]
  simp only [W_bind]
  exact q
theorem W_eDPop2 (hh : (f l S).W fun x S1 => ∃ kvs, dkD x S1 = some kvs ∧ (g l S1).W fun y S2 => (h l S2).W fun z S3 => (oDPop2 x y z S3).W P) : (eDPop2 f g h l S).W P := by
  unfold eDPop2
  rw [W_bind]
  refine hh.mono fun x S1 ⟨kvs, e, q⟩ => ?_
  rw [e]
  simp only [Option.isSome_some, if_true, W_bind]
  exact q
theorem dkD_ref (hn : S[n]? = some (.dk (encF fd))) : dkD (.ref n) S = some (encF fd) := by simp only [dkD, hn]
theorem oDGet2_enc (hn : S[n]? = some (.dk (encF fd))) : oDGet2 (.ref n) (.int (k : Nat)) (.int 0) S = .ok (.int ((getN fd k).getD 0)) S := by
  simp only [oDGet2, dkD_ref hn, keyD, encF_get]
  cases getN fd k <;> rfl
def dropN (fd : List (Nat × Int)) (k : Nat) : List (Nat × Int) := fd.filter fun e => decide (e.1 ≠ k)
theorem dropD_enc : dropD (encF fd) (.inl (k : Nat)) = encF (dropN fd k) := by
  unfold dropD encF dropN
  rw [List.filter_map]
  congr 1
  refine List.filter_congr fun e _ => ?_
  simp only [Function.comp]
  refine decide_eq_decide.mpr ⟨fun z q => z (by rw [q]), fun z q => z (key_eq.mp q)⟩
theorem oDPop2_enc (hn : S[n]? = some (.dk (encF fd))) : oDPop2 (.ref n) (.int (k : Nat)) (.int 0) S = .ok (.int ((getN fd k).getD 0)) (S.set n (.dk (encF (dropN fd k)))) := by
  unfold oDPop2
  simp only [keyD, hn, encF_get]
  cases e : getN fd k with
  | some v => simp [dropD_enc]
  | none =>
    have : dropN fd k = fd := List.filter_eq_self.mpr fun p hp => by
      have hk : k ∉ fd.map (·.1) := fun z => by
        obtain ⟨v, h1, _⟩ := getN_mem z
        rw [e] at h1; cases h1
      simp only [decide_eq_true_eq]
      exact fun q => hk (List.mem_map.mpr ⟨p, hp, q⟩)
    simp only [Option.map_none, Option.getD_none, this]
    congr 1
    refine List.ext_getElem? fun i => ?_
    by_cases q : n = i
    · subst q; rw [List.getElem?_set_self (List.getElem?_eq_some_iff.mp hn).1]; exact hn
    · rw [List.getElem?_set_ne q]
theorem oDCopy_enc (hn : S[n]? = some (.dk (encF fd))) : oDCopy (.ref n) S = .ok (.ref S.length) (S ++ [.dk (encF fd)]) := by simp only [oDCopy, dkD_ref hn]
theorem oD0_enc {kk : Bool → Bool} (hn : S[n]? = some (.dk (encF fd))) : oD0 kk (.ref n) S = .ok (.bl (kk fd.isEmpty)) S := by
  simp only [oD0, dkD_ref hn]
  have : (encF fd).isEmpty = fd.isEmpty := by unfold encF; rw [List.isEmpty_map]
  rw [this]
theorem goI_cells {d : Nat} {g : D} : ∀ (fd : List (Nat × Int)) (acc : List Int),
    goI [.nm 3, .nm 4] (eT (e2 oEq (e2 oAnd (e2 oShr (eV 1) (eV 3)) (eC (.int 1))) (eC (.int 0)))) (eV 4) [none, some (.int (d : Nat)), some g, none, none] (encF fd) acc = some (acc ++ (fd.filter fun e => !d.testBit e.1).map (·.2))
  | [], acc => by simp [goI, encF]
  | (k, v) :: fd, acc => by
    have ih := goI_cells (d := d) (g := g) fd
    have hp : Tg.puts [.nm 3, .nm 4] [keyBack (.inl ((k : Nat) : Int)), .int v] [none, some (.int (d : Nat)), some g, none, none] = some [none, some (.int (d : Nat)), some g, some (.int (k : Nat)), some (.int v)] := rfl
    have ht : eT (e2 oEq (e2 oAnd (e2 oShr (eV 1) (eV 3)) (eC (.int 1))) (eC (.int 0))) [none, some (.int (d : Nat)), some g, some (.int (k : Nat)), some (.int v)] [] = .ok (!d.testBit k) [] := by
      show ((((oShr (.int (d : Nat)) (.int (k : Nat)) []).bind fun x S1 => oAnd x (.int 1) S1).bind fun x S1 => oEq x (.int 0) S1).bind tst) = _
      rw [oShr_nat]
      show (((oAnd (.int ((d / 2 ^ k : Nat) : Int)) (.int 1) []).bind fun x S1 => oEq x (.int 0) S1).bind tst) = _
      rw [oAnd1_nat]
      by_cases hb : d.testBit k = true
      · simp only [hb, if_true]; rfl
      · simp only [hb, if_false]; rfl
    have ee : encF ((k, v) :: fd) = (.inl ((k : Nat) : Int), .int v) :: encF fd := rfl
    rw [ee, goI, hp]
    simp only [ht]
    by_cases hb : d.testBit k = true
    · simp only [hb, Bool.not_true]
      show goI _ _ _ _ (encF fd) acc = _
      rw [ih, List.filter_cons_of_neg (by simp [hb])]
    · have hb2 : d.testBit k = false := by simpa using hb
      simp only [hb2, Bool.not_false]
      show goI _ _ _ _ (encF fd) (acc ++ [v]) = _
      rw [ih, List.filter_cons_of_pos (by simp [hb2])]
      simp
end
end Pz

set_option Elab.async false
set_option linter.all false
set_option maxRecDepth 100000
set_option maxHeartbeats 4000000
/-! Lps: an object of Passes, and what its methods tell. -/
namespace Pz
open PySem PySem.Spec PyProof.Rows L2
def pFs (n : Nat) (q : Bool) (a b c d : Nat) : List (Str × D) := [("many", .int (n : Nat)), ("is_queue", .bl q), ("uses", .ref a), ("wants", .ref b), ("known", .ref c), ("peaks", .ref d)]
theorem pFs_get {n : Nat} {q : Bool} {a b c d : Nat} : (pFs n q a b c d).lookup ("many" : Str) = some (.int (n : Nat)) ∧ (pFs n q a b c d).lookup ("is_queue" : Str) = some (.bl q) ∧ (pFs n q a b c d).lookup ("uses" : Str) = some (.ref a) ∧ (pFs n q a b c d).lookup ("wants" : Str) = some (.ref b) ∧ (pFs n q a b c d).lookup ("known" : Str) = some (.ref c) ∧ (pFs n q a b c d).lookup ("peaks" : Str) = some (.ref d) := by
  have k1 : (("is_queue" : Str) == "many") = false := by decide +kernel
  have k2 : (("uses" : Str) == "many") = false := by decide +kernel
  have k3 : (("uses" : Str) == "is_queue") = false := by decide +kernel
  have k4 : (("wants" : Str) == "many") = false := by decide +kernel
  have k5 : (("wants" : Str) == "is_queue") = false := by decide +kernel
  have k6 : (("wants" : Str) == "uses") = false := by decide +kernel
  have k7 : (("known" : Str) == "many") = false := by decide +kernel
  have k8 : (("known" : Str) == "is_queue") = false := by decide +kernel
  have k9 : (("known" : Str) == "uses") = false := by decide +kernel
  have k10 : (("known" : Str) == "wants") = false := by decide +kernel
  have k11 : (("peaks" : Str) == "many") = false := by decide +kernel
  have k12 : (("peaks" : Str) == "is_queue") = false := by decide +kernel
  have k13 : (("peaks" : Str) == "uses") = false := by decide +kernel
  have k14 : (("peaks" : Str) == "wants") = false := by decide +kernel
  have k15 : (("peaks" : Str) == "known") = false := by decide +kernel
  simp [pFs, List.lookup, k1, k2, k3, k4, k5, k6, k7, k8, k9, k10, k11, k12, k13, k14, k15]
theorem pFs_no {n : Nat} {q : Bool} {a b c d : Nat} {m : Str} (h : (["many", "is_queue", "uses", "wants", "known", "peaks"] : List Str).all (fun x => !(m == x)) = true) : (pFs n q a b c d).lookup m = none := by
  simp only [List.all_cons, List.all_nil, Bool.and_true, Bool.and_eq_true, Bool.not_eq_true'] at h
  obtain ⟨h1, h2, h3, h4, h5, h6⟩ := h
  simp [pFs, List.lookup, h1, h2, h3, h4, h5, h6]
/-- a Passes object at p, its uses in a list at a, its wants in a list at b, two memos at c and d -/
structure Pas (w : List Stp) (q : Bool) (p a b c d : Nat) (S : Sto) : Prop where
  ob : S[p]? = some (.ins "Passes" (pFs w.length q a b c d))
  us : ∃ ur : List Nat, ur.length = w.length ∧ S[a]? = some (.lst (ur.map .ref)) ∧ ∀ g r, ur[g]? = some r → S[r]? = some (Ob.dk (encF (cntF (tkT w g))))
  ws : ∃ ur : List Nat, ur.length = w.length ∧ S[b]? = some (.lst (ur.map .ref)) ∧ ∀ g r, ur[g]? = some r → S[r]? = some (Ob.dk (encF (cntF (gvT w g))))
theorem Pas.app {w : List Stp} {q : Bool} {p a b c d : Nat} {S : Sto} (h : Pas w q p a b c d S) (G : Sto) : Pas w q p a b c d (S ++ G) := by
  obtain ⟨h1, ⟨ur, h2, h3, h4⟩, vr, h5, h6, h7⟩ := h
  exact ⟨st_old h1, ⟨ur, h2, st_old h3, fun g r e => st_old (h4 g r e)⟩, vr, h5, st_old h6, fun g r e => st_old (h7 g r e)⟩
theorem Pas.setN {w : List Stp} {q : Bool} {p a b c d : Nat} {S : Sto} (h : Pas w q p a b c d S) {m : Nat} {kv kv' : List (Int × D)} (hm : S[m]? = some (.dn kv)) : Pas w q p a b c d (S.set m (.dn kv')) := by
  have st : ∀ {i : Nat} {o : Ob}, S[i]? = some o → (∀ k, o ≠ .dn k) → (S.set m (.dn kv'))[i]? = some o := fun {i o} hi hk => by
    rw [List.getElem?_set_ne (fun z => hk kv (by rw [z, hi] at hm; exact Option.some.inj hm))]
    exact hi
  obtain ⟨h1, ⟨ur, h2, h3, h4⟩, vr, h5, h6, h7⟩ := h
  exact ⟨st h1 (fun _ z => by cases z), ⟨ur, h2, st h3 (fun _ z => by cases z), fun g r e => st (h4 g r e) (fun _ z => by cases z)⟩, vr, h5, st h6 (fun _ z => by cases z), fun g r e => st (h7 g r e) (fun _ z => by cases z)⟩
/-! what the methods tell, by standings: d the steps done, L the line -/
def celS (w : List Stp) (d g : Nat) : Nat := ((tkT w g).filter fun t => !d.testBit t).length
def fndS (w : List Stp) (d : Nat) : List Nat → List (Nat × Int) → Bool
  | [], fd => fd.isEmpty
  | g :: r, fd => if fd.isEmpty = true then true else if (getN fd g).getD 0 = 0 ∨ ((getN fd g).getD 0 < (celS w d g : Int) ∧ (dropN fd g).isEmpty = false) then false else fndS w d r (dropN fd g)
def canS (w : List Stp) (q : Bool) (d : Nat) (L : List Nat) (s : Nat) : Bool := fndS w d (if q then L else L.reverse) (cntF (gvT w s))
def linS (w : List Stp) (d : Nat) (L : List Nat) (s : Nat) : List Nat := (L ++ [s]).filter fun g => decide (0 < celS w (setB d s) g)
def nxtS (w : List Stp) (q : Bool) (d : Nat) (L : List Nat) : List Nat := (List.range w.length).filter fun s => !d.testBit s && canS w q d L s
def hgtS (w : List Stp) (d : Nat) (L : List Nat) : Nat := (L.map fun g => celS w d g).sum
def encSt (d : Nat) (L : List Nat) : D := .tup [.int (d : Nat), .tup (encI L)]
section
variable {S : Sto} {w : List Stp} {q : Bool} {p a b c d : Nat}
theorem cells_eq (h : Pas w q p a b c d S) (hw : Web w) (hl : w.length ≤ 100) {dn g : Nat} (hg : g < w.length) : F_Passes_cells [.ref p, .int (dn : Nat), .int (g : Nat)] S = .ok (.int (celS w dn g : Nat)) S := by
  refine eq_Wf (F := F_Passes_cells) fun P hP => ?_
  refine W_runF rfl ?_
  obtain ⟨ur, h2, h3, h4⟩ := h.us
  obtain ⟨r, hr⟩ : ∃ r, ur[g]? = some r := ⟨_, List.getElem?_eq_getElem (by omega)⟩
  have h5 := h4 g r hr
  have cr := cntF_cr (tkT w g)
  have e : lItems [3, 4] 0 2 "uses" "Passes" [.nm 3, .nm 4] (eT (e2 oEq (e2 oAnd (e2 oShr (eV 1) (eV 3)) (eC (.int 1))) (eC (.int 0)))) (eV 4) [some (.ref p), some (.int (dn : Nat)), some (.int (g : Nat)), none, none] S = .ok (.tmp ((((cntF (tkT w g)).filter fun e => !dn.testBit e.1).map (·.2)).map .int)) S := by
    have ix : L2.atI (ur.map D.ref) ((g : Nat) : Int) = some (.ref r) := by rw [atI_nat, List.getElem?_map, hr]; rfl
    have lk : (pFs w.length q a b c d).lookup ("uses" : Str) = some (.ref a) := pFs_get.2.2.1
    have ln : (encF (cntF (tkT w g))).length ≤ 1000 := by
      unfold encF
      rw [List.length_map]
      have := cntF_len (tkT w g)
      have := tkT_len hw g
      omega
    have il : intL (wipeL [some (.ref p), some (.int (dn : Nat)), some (.int (g : Nat)), none, none] [3, 4]) = [none, some (.int (dn : Nat)), some (.int (g : Nat)), none, none] := rfl
    unfold lItems
    simp only [List.getElem?_cons_zero, List.getElem?_cons_succ, h.ob, if_true, lk, h3, ix, h5, il]
    rw [if_pos ln, goI_cells]
    rfl
  simp [b_Passes_cells, b_Passes_cells_0]
  rw [e, W_ok, qL_tmp, W_ok]
  have es : ∀ ns : List Int, oSum (ns.map .int) S = .ok (.int ns.sum) S := fun ns => by simp only [oSum, intsD_map]
  rw [es, W_ok, cr.sum fun t => !dn.testBit t]
  simpa [celS] using hP
theorem behind_eq (h : Pas w q p a b c d S) (hw : Web w) (hl : w.length ≤ 100) {dn s : Nat} {L : List Nat} (hL : ∀ g ∈ L, g < w.length) (hs : s < w.length) (hll : L.length ≤ 1000) : F_Passes_behind [.ref p, .int (dn : Nat), .tup (encI L), .int (s : Nat)] S = .ok (encSt (setB dn s) (linS w dn L s)) S := by
  refine eq_Wf (F := F_Passes_behind) fun P hP => ?_
  refine W_runF rfl ?_
  have no : (pFs w.length q a b c d).lookup ("cells" : Str) = none := pFs_no (by decide +kernel)
  simp [b_Passes_behind, b_Passes_behind_0]
  rw [oShl1 (by omega), W_ok, oOr_set, W_ok]
  simp [b_Passes_behind_1]
  rw [oAdd_tup (by simp [encI_len, sizeLine]; omega), W_ok]
  have el : encI L ++ [D.int (s : Nat)] = encI (L ++ [s]) := by simp [encI]
  rw [el]
  simp
  refine ⟨by rw [encI_len]; simp [sizeLine]; omega, ?_⟩
  refine W_lcM (fun i : Nat => D.int i) (fun i : Nat => D.int i) (fun g => decide (0 < celS w (setB dn s) g)) trivial (fun g hg => ⟨_, rfl, ?_⟩) ?_
  · have hgl : g < w.length := by
      rcases List.mem_append.mp hg with z | z
      · exact hL g z
      · rw [List.mem_singleton.mp z]; exact hs
    simp [wipeL, W_eMeth, isIns_ref h.ob no, cells_eq h hw hl hgl]
  · simp
    simpa [encSt, linS, encI, List.filter_append] using hP
theorem finds_eq (h : Pas w q p a b c d S) (hw : Web w) (hl : w.length ≤ 100) {dn s : Nat} {L : List Nat} (hL : ∀ g ∈ L, g < w.length) (hs : s < w.length) (hll : L.length ≤ 1000) : F_Passes_finds [.ref p, .int (dn : Nat), .tup (encI L), .int (s : Nat)] S = .ok (.bl (canS w q dn L s)) S := by
  refine eq_Wf (F := F_Passes_finds) fun P hP => ?_
  refine W_runF rfl ?_
  have no : (pFs w.length q a b c d).lookup ("cells" : Str) = none := pFs_no (by decide +kernel)
  obtain ⟨ur, h2, h3, h4⟩ := h.ws
  obtain ⟨r, hr⟩ : ∃ r, ur[s]? = some r := ⟨_, List.getElem?_eq_getElem (by omega)⟩
  have h5 := h4 s r hr
  have fin : ∀ (bb : Bool) G, bb = canS w q dn L s → (gc S (.bl bb) (S ++ G)).W P := fun bb G e => by rw [gc_tmp (by simp [clD]), W_ok, e]; exact hP
  simp [b_Passes_finds, b_Passes_finds_0]
  rw [oFld_ref h.ob pFs_get.2.2.2.1, W_ok, oIx_ref h3 (by rw [atI_nat, List.getElem?_map, hr]; rfl), W_ok, oDCopy_enc h5, W_ok]
  simp [b_Passes_finds_1]
  rw [oFld_ref (st_old h.ob) pFs_get.2.1, W_ok]
  obtain ⟨M, hM⟩ : ∃ M, M = if q then L else L.reverse := ⟨_, rfl⟩
  have hMl : ∀ g ∈ M, g < w.length := fun g hg => hL g (by rw [hM] at hg; split at hg; exact hg; exact List.mem_reverse.mp hg)
  have go : ((eIf (eT (eC (.bl q))) (eC (.tup (encI L))) (eC (.tup (encI L.reverse)))) [] S) = .ok (.tup (encI M)) S := by rw [hM]; cases q <;> rfl
  have can : canS w q dn L s = fndS w dn M (cntF (gvT w s)) := by rw [hM]; rfl
  rw [can] at fin
  have rest : (forL noGd (.nm 5) (sSeq b_Passes_finds_1_0 (sSeq b_Passes_finds_1_1 b_Passes_finds_1_2)) (encI M) [some (.ref p), some (.int (dn : Nat)), some (.tup (encI L)), some (.int (s : Nat)), some (.ref S.length), none, none] (S ++ [.dk (encF (cntF (gvT w s)))])).W
      (fun l S1 => (b_Passes_finds_2 l S1).W (fun _ S' => (gc S .non S').W P) (fun d S' => (gc S d S').W P) (fun _ _ => False) (fun _ _ => False)) (fun d S' => (gc S d S').W P) (fun _ _ => False) (fun _ _ => False) := by
    obtain ⟨I, hI⟩ : ∃ I : Nat → Loc → Sto → Prop, ∀ k l S', I k l S' ↔ ∃ (v5 v6 : Option D) (fd : List (Nat × Int)), l = [some (.ref p), some (.int (dn : Nat)), some (.tup (encI L)), some (.int (s : Nat)), some (.ref S.length), v5, v6] ∧ S' = S ++ [.dk (encF fd)] ∧ fndS w dn (M.drop k) fd = fndS w dn M (cntF (gvT w s)) := ⟨_, fun _ _ _ => Iff.rfl⟩
    refine W_forL I _ 0 ((hI _ _ _).2 ⟨none, none, _, rfl, rfl, rfl⟩) ?_ ?_
    · intro k x l S' hx q1
      obtain ⟨v5, v6, fd, rfl, rfl, hf⟩ := (hI _ _ _).1 q1
      rw [Nat.zero_add] at *
      simp only [encI, List.getElem?_map, Option.map_eq_some_iff] at hx
      obtain ⟨g, hg, rfl⟩ := hx
      have hk := (List.getElem?_eq_some_iff.mp hg).1
      have dr : M.drop k = g :: M.drop (k + 1) := by
        rw [List.drop_eq_getElem_cons hk, (List.getElem?_eq_some_iff.mp hg).2]
      rw [dr, fndS] at hf
      have n0 : ∀ fd : List (Nat × Int), (S ++ [Ob.dk (encF fd)])[S.length]? = some (.dk (encF fd)) := fun fd => st_get0
      refine ⟨trivial, _, rfl, ?_⟩
      simp [b_Passes_finds_1_0, oD0_enc (n0 fd)]
      by_cases he : fd.isEmpty = true
      · rw [if_pos he] at hf
        rw [if_pos (by simpa using he)]
        exact fin _ _ hf
      · rw [if_neg he] at hf
        rw [if_neg (by simpa using he)]
        simp [b_Passes_finds_1_1]
        refine W_eDPop2 ?_
        simp only [W_eVs, W_eV0, W_eC]
        refine ⟨_, dkD_ref (n0 fd), ?_⟩
        rw [oDPop2_enc (n0 fd), W_ok]
        have es : (S ++ [Ob.dk (encF fd)]).set S.length (.dk (encF (dropN fd g))) = S ++ [.dk (encF (dropN fd g))] := by simp
        rw [es]
        have h' := h.app [Ob.dk (encF (dropN fd g))]
        simp [b_Passes_finds_1_2]
        by_cases h0 : (getN fd g).getD 0 = 0
        · rw [if_pos (.inl h0)] at hf
          rw [if_pos h0]
          exact fin _ _ hf
        · rw [if_neg h0]
          simp [W_eMeth, isIns_ref h'.ob no, cells_eq h' hw hl (hMl g (List.mem_of_getElem? hg)), oD0_enc (n0 _)]
          by_cases h1 : (getN fd g).getD 0 < (celS w dn g : Int)
          · rw [if_pos h1]
            by_cases h2 : (dropN fd g).isEmpty = false
            · rw [if_pos (.inr ⟨h1, h2⟩)] at hf
              rw [if_neg (by simpa using h2)]
              exact fin _ _ hf
            · rw [if_neg (fun z => z.elim h0 fun z => h2 z.2)] at hf
              have h2' : dropN fd g = [] := by simpa using h2
              rw [if_pos h2']
              exact (hI _ _ _).2 ⟨_, _, _, rfl, rfl, hf⟩
          · rw [if_neg (fun z => z.elim h0 fun z => h1 z.1)] at hf
            rw [if_neg h1]
            exact (hI _ _ _).2 ⟨_, _, _, rfl, rfl, hf⟩
    · intro l S' q1
      obtain ⟨v5, v6, fd, rfl, rfl, hf⟩ := (hI _ _ _).1 q1
      rw [encI_len, Nat.zero_add, List.drop_length, fndS] at hf
      refine ⟨trivial, ?_⟩
      have n0 : ∀ fd : List (Nat × Int), (S ++ [Ob.dk (encF fd)])[S.length]? = some (.dk (encF fd)) := fun fd => st_get0
      simp [b_Passes_finds_2, oD0_enc (n0 fd)]
      exact fin _ _ hf
  cases q with
  | true =>
    simp only [if_true] at hM
    rw [hM] at rest
    simpa [oRev] using rest
  | false =>
    simp only [Bool.false_eq_true, if_false] at hM
    rw [hM] at rest
    have er : (encI L).reverse = encI L.reverse := by simp [encI]
    simpa [oRev, er] using rest
theorem is_done_eq (h : Pas w q p a b c d S) (hl : w.length ≤ 100) {dn : Nat} : F_Passes_is_done [.ref p, .int (dn : Nat)] S = .ok (.bl (decide (dn = 2 ^ w.length - 1))) S := by
  refine eq_Wf (F := F_Passes_is_done) fun P hP => ?_
  refine W_runF rfl ?_
  simp [b_Passes_is_done, b_Passes_is_done_0]
  rw [oFld_ref h.ob pFs_get.1, W_ok, oShl1 (by omega), W_ok]
  simp
  have hp : 1 ≤ 2 ^ w.length := Nat.one_le_two_pow
  have e : decide (((dn : Nat) : Int) = ((2 ^ w.length : Nat) : Int) - 1) = decide (dn = 2 ^ w.length - 1) := decide_eq_decide.mpr ⟨fun z => by omega, fun z => by omega⟩
  have e' : decide (((dn : Nat) : Int) = 2 ^ w.length - 1) = decide (dn = 2 ^ w.length - 1) := by
    rw [← e]; congr 1
  rw [e']
  exact hP
theorem nexts_eq (h : Pas w q p a b c d S) (hw : Web w) (hl : w.length ≤ 100) {dn : Nat} {L : List Nat} (hL : ∀ g ∈ L, g < w.length) (hll : L.length ≤ 999) : F_Passes_nexts [.ref p, .int (dn : Nat), .tup (encI L)] S = .ok (.ref S.length) (S ++ [.lst ((nxtS w q dn L).map fun s => .tup [.int (s : Nat), encSt (setB dn s) (linS w dn L s)])]) := by
  refine eq_of_okP (F := F_Passes_nexts) fun P hP => ?_
  refine W_runF rfl ?_
  have no1 : (pFs w.length q a b c d).lookup ("finds" : Str) = none := pFs_no (by decide +kernel)
  have no2 : (pFs w.length q a b c d).lookup ("behind" : Str) = none := pFs_no (by decide +kernel)
  simp [b_Passes_nexts, b_Passes_nexts_0]
  rw [oFld_ref h.ob pFs_get.1, W_ok]
  simp
  rw [W_kRg (by decide) (rgB_small (by omega) (by omega)), rgD_encI]
  refine ⟨by rw [encI_len]; simp [sizeLine]; omega, ?_⟩
  refine W_lcM (fun i : Nat => D.int i) (fun i : Nat => D.int i) (fun s => !dn.testBit s && canS w q dn L s) (bs := List.range w.length) trivial (fun s hs => ⟨_, rfl, ?_⟩) ?_
  · have hsl := List.mem_range.mp hs
    simp [wipeL, oShr_nat]
    have e1 : ((dn : Int) / 2 ^ s) = ((dn / 2 ^ s : Nat) : Int) := by simp
    rw [e1, oAnd1_nat, W_ok]
    by_cases hb : dn.testBit s = true
    · simp [hb]
    · have hb2 : dn.testBit s = false := by simpa using hb
      simp [hb2, W_eMeth, isIns_ref h.ob no1, finds_eq h hw hl hL hsl (by omega)]
  · simp
    have en : (List.range w.length).filter (fun s => !dn.testBit s && canS w q dn L s) = nxtS w q dn L := rfl
    rw [en]
    have em : (nxtS w q dn L).map (fun i : Nat => D.int i) = encI (nxtS w q dn L) := rfl
    have hnl : ∀ s ∈ nxtS w q dn L, s < w.length := fun s hs => List.mem_range.mp (List.mem_filter.mp hs).1
    have hnn : (nxtS w q dn L).length ≤ w.length := by
      have := List.length_filter_le (fun s => !dn.testBit s && canS w q dn L s) (List.range w.length)
      rwa [List.length_range] at this
    rw [em]
    have n0 : (S ++ [Ob.lst (encI (nxtS w q dn L))])[S.length]? = some (.lst (encI (nxtS w q dn L))) := st_get0
    have h' := h.app [Ob.lst (encI (nxtS w q dn L))]
    simp [b_Passes_nexts_1, kD_ref n0]
    refine ⟨by rw [encI_len]; simp [sizeLine]; omega, ?_⟩
    refine W_lcT (fun i : Nat => D.int i) (fun s : Nat => .tup [.int (s : Nat), encSt (setB dn s) (linS w dn L s)]) (bs := nxtS w q dn L) (by rw [atGd_iff]; exact n0) (fun s hs => ⟨_, rfl, ?_⟩) ?_
    · simp [wipeL, W_eMeth, isIns_ref h'.ob no2, behind_eq h' hw hl hL (hnl s hs) (by omega)]
    · simp
      rw [gc_lst (m := S.length + 1) (o := .lst _) old_append (by rw [st_get]; rfl) (by omega) (by
        simp only [clO, clDs_all, List.all_map, List.all_eq_true]
        intro s _
        simp [Function.comp, clD, clDs, encSt, encI_cl]), W_ok, List.take_left]
      exact hP
end
end Pz

set_option Elab.async false
set_option linter.all false
set_option maxRecDepth 100000
set_option maxHeartbeats 4000000
/-! Lpa: memos of standings, what is left to be done. -/
namespace Pz
open PySem PySem.Spec PyProof.Rows L2
/-! memos -/
theorem W_sNPut {f g h : FE} {l : Loc} {S : Sto} {N : Loc → Sto → Prop} {R : D → Sto → Prop} {B C : Loc → Sto → Prop} : (sNPutF f g h l S).W N R B C ↔ (f l S).W fun d S1 => (g l S1).W fun x S2 => (h l S2).W fun y S3 => ∃ S4, oNPut d x y S3 = some S4 ∧ N l S4 := by
  unfold sNPutF
  rw [W_toS]
  refine iff_of_eq (congrArg _ (funext fun d => funext fun S1 => ?_))
  rw [W_toS]
  refine congrArg _ (funext fun x => funext fun S2 => ?_)
  rw [W_toS]
  refine congrArg _ (funext fun y => funext fun S3 => ?_)
  cases oNPut d x y S3 with
  | none => simp
  | some l1 => simp
theorem nkDs_encI (L : List Nat) : nkDs (encI L) = some (L.map fun i => NestedKey.num ((i : Nat) : Int)) := by
  induction L with
  | nil => rfl
  | cons x xs ih =>
    show nkDs (.int ((x : Nat) : Int) :: encI xs) = _
    simp only [nkDs, nkD, ih, List.map_cons]
theorem depth_nums (L : List Nat) : NestedKey.depthAll (L.map fun i => NestedKey.num ((i : Nat) : Int)) = 0 := by
  induction L with
  | nil => simp [NestedKey.depthAll]
  | cons x xs ih => simp [NestedKey.depthAll, NestedKey.depth, ih]
theorem nums_inj {L M : List Nat} (h : L.map (fun i => NestedKey.num ((i : Nat) : Int)) = M.map fun i => NestedKey.num ((i : Nat) : Int)) : L = M := by
  induction L generalizing M with
  | nil => cases M with
    | nil => rfl
    | cons => cases h
  | cons x xs ih =>
    cases M with
    | nil => cases h
    | cons y ys =>
      simp only [List.map_cons, List.cons.injEq, NestedKey.num.injEq] at h
      rw [show x = y by omega, ih h.2]
def keyP (d : Nat) (L : List Nat) (isl : Bool) : D := .tup [.int (d : Nat), .tup (encI L), .bl isl]
def keyPN (d : Nat) (L : List Nat) (isl : Bool) : NestedKey := .tup [.num (d : Nat), .tup (L.map fun i => NestedKey.num ((i : Nat) : Int)), .num (if isl = true then 1 else 0)]
theorem keyP_n (d : Nat) (L : List Nat) (isl : Bool) : nkD (keyP d L isl) = some (keyPN d L isl) := by
  simp only [keyP, keyPN, nkD, nkDs, nkDs_encI]
theorem keyP_k (d : Nat) (L : List Nat) (isl : Bool) : keyN (keyP d L isl) = some (keyPN d L isl) := by
  have e := keyP_n d L isl
  unfold keyP at e ⊢
  unfold keyN
  simp only [e]
  rw [if_pos (by simp [keyPN, NestedKey.depth, NestedKey.depthAll, depth_nums])]
theorem keyPN_inj {d d' : Nat} {L L' : List Nat} {i i' : Bool} (h : keyPN d L i = keyPN d' L' i') : d = d' ∧ L = L' ∧ i = i' := by
  simp only [keyPN, NestedKey.tup.injEq, List.cons.injEq, NestedKey.num.injEq, and_true] at h
  obtain ⟨h1, h2, h3⟩ := h
  refine ⟨by omega, nums_inj h2, ?_⟩
  cases i <;> cases i' <;> simp at h3 ⊢
theorem keyP_cl {n d : Nat} {L : List Nat} {isl : Bool} : clD n (keyP d L isl) = true := by simp [keyP, clD, clDs, encI_cl]
/-! the values -/
def nodeN : Nat → Nat
  | 0 => 1
  | u + 1 => 1 + (u + 1) * nodeN u
theorem nodeN_pos (u : Nat) : 1 ≤ nodeN u := by cases u <;> simp [nodeN]
theorem nodeN_mono : ∀ {u v : Nat}, u ≤ v → nodeN u ≤ nodeN v := by
  intro u v h
  induction h with
  | refl => exact Nat.le_refl _
  | step _ ih =>
    refine Nat.le_trans ih ?_
    rename_i m _
    show nodeN m ≤ 1 + (m + 1) * nodeN m
    exact Nat.le_trans (Nat.le_mul_of_pos_left (nodeN m) (show 0 < m + 1 by omega)) (Nat.le_add_left _ _)
def unsN (w : List Stp) (d : Nat) : Nat := ((List.range w.length).filter fun t => !d.testBit t).length
theorem unsN_set {w : List Stp} {d s : Nat} (hs : s < w.length) (hb : d.testBit s = false) : unsN w (setB d s) + 1 ≤ unsN w d := by
  unfold unsN
  have hm : s ∈ List.range w.length := List.mem_range.mpr hs
  generalize List.range w.length = xs at hm
  have key : ∀ xs : List Nat, (xs.filter fun t => !(setB d s).testBit t).length ≤ (xs.filter fun t => !d.testBit t).length := by
    intro xs
    induction xs with
    | nil => exact Nat.le_refl _
    | cons x xs ih =>
      rw [List.filter_cons, List.filter_cons, setB_bit]
      by_cases e : d.testBit x = true
      · simp [e]; exact ih
      · have e2 : d.testBit x = false := by simpa using e
        by_cases e3 : x = s
        · have h1 : (!(d.testBit x || decide (x = s))) = false := by simp [e3]
          have h2 : (!d.testBit x) = true := by simp [e2]
          rw [h1, h2]
          exact Nat.le_succ_of_le ih
        · simp [e2, e3]; exact ih
  induction xs with
  | nil => cases hm
  | cons x xs ih =>
    rw [List.filter_cons, List.filter_cons, setB_bit]
    by_cases e3 : x = s
    · subst e3
      simp [hb]
      exact key xs
    · have hm := (List.mem_cons.mp hm).resolve_left (fun z => e3 z.symm)
      have := ih hm
      by_cases e : d.testBit x = true
      · simp [e]; exact this
      · have e2 : d.testBit x = false := by simpa using e
        simp [e2, e3]; omega
theorem nxtS_mem {w : List Stp} {q : Bool} {d s : Nat} {L : List Nat} (h : s ∈ nxtS w q d L) : s < w.length ∧ d.testBit s = false := by
  obtain ⟨h1, h2⟩ := List.mem_filter.mp h
  simp only [Bool.and_eq_true, Bool.not_eq_true'] at h2
  exact ⟨List.mem_range.mp h1, h2.1⟩
theorem nxtS_len {w : List Stp} {q : Bool} {d : Nat} {L : List Nat} : (nxtS w q d L).length ≤ unsN w d := by
  unfold nxtS unsN
  have : (List.range w.length).filter (fun s => !d.testBit s && canS w q d L s) = ((List.range w.length).filter fun s => !d.testBit s).filter fun s => canS w q d L s := by
    rw [List.filter_filter]
    refine List.filter_congr fun s _ => ?_
    exact Bool.and_comm _ _
  rw [this]
  exact List.length_filter_le _ _
def optI (isl : Bool) : List Int → Int
  | [] => -1
  | x :: xs => if isl = true then xs.foldl min x else xs.foldl max x
def pkV (w : List Stp) (q isl : Bool) : Nat → Nat → List Nat → Int
  | 0, _, _ => 0
  | k + 1, d, L => if d = 2 ^ w.length - 1 then 0 else optI isl ((nxtS w q d L).filterMap fun s => if 0 ≤ pkV w q isl k (setB d s) (linS w d L s) then some (max (pkV w q isl k (setB d s) (linS w d L s)) (hgtS w (setB d s) (linS w d L s) : Nat)) else none)
theorem filterMap_congrN {α β : Type} {f g : α → Option β} {xs : List α} (h : ∀ x ∈ xs, f x = g x) : xs.filterMap f = xs.filterMap g := by
  induction xs with
  | nil => rfl
  | cons x xs ih => rw [List.filterMap_cons, List.filterMap_cons, h x List.mem_cons_self, ih fun y hy => h y (List.mem_cons_of_mem _ hy)]
theorem pkV_fuel {w : List Stp} {q isl : Bool} : ∀ (k k' d : Nat) (L : List Nat), unsN w d < k → unsN w d < k' → pkV w q isl k d L = pkV w q isl k' d L
  | 0, _, _, _, h, _ => by omega
  | _ + 1, 0, _, _, _, h => by omega
  | k + 1, k' + 1, d, L, h, h' => by
    unfold pkV
    split
    · rfl
    · refine congrArg (optI isl) ?_
      refine filterMap_congrN fun s hs => ?_
      obtain ⟨h1, h2⟩ := nxtS_mem hs
      have := unsN_set h1 h2
      rw [pkV_fuel k k' (setB d s) (linS w d L s) (by omega) (by omega)]
/-- the value of a standing -/
def pk (w : List Stp) (q isl : Bool) (d : Nat) (L : List Nat) : Int := pkV w q isl (unsN w d + 1) d L
structure Memo (w : List Stp) (q : Bool) (kvs : List (Int × D)) : Prop where
  all : ∀ e ∈ kvs, ∃ d L isl, e.2 = keyP d L isl ∧ e.1 = pk w q isl d L
theorem Memo.nil {w : List Stp} {q : Bool} : Memo w q [] := ⟨by simp⟩
theorem Memo.find {w : List Stp} {q : Bool} {kvs : List (Int × D)} (h : Memo w q kvs) {d : Nat} {L : List Nat} {isl : Bool} {z : Int} (hz : findN kvs (keyPN d L isl) = some z) : z = pk w q isl d L := by
  unfold findN at hz
  rw [Option.map_eq_some_iff] at hz
  obtain ⟨e, h1, rfl⟩ := hz
  obtain ⟨d', L', i', e1, e2⟩ := h.all e (List.mem_of_find?_eq_some h1)
  have := List.find?_some h1
  simp only [decide_eq_true_eq, e1, keyP_n, Option.some.injEq] at this
  obtain ⟨rfl, rfl, rfl⟩ := keyPN_inj this
  exact e2
theorem Memo.put {w : List Stp} {q : Bool} {kvs : List (Int × D)} (h : Memo w q kvs) (d : Nat) (L : List Nat) (isl : Bool) : Memo w q (putK8 kvs (keyPN d L isl) (keyP d L isl) (pk w q isl d L)) := by
  refine ⟨fun e he => ?_⟩
  unfold putK8 at he
  split at he
  · obtain ⟨e0, h0, rfl⟩ := List.mem_map.mp he
    obtain ⟨d', L', i', e1, e2⟩ := h.all e0 h0
    split
    · rename_i hk
      rw [e1, keyP_n, Option.some.injEq] at hk
      obtain ⟨rfl, rfl, rfl⟩ := keyPN_inj hk
      exact ⟨_, _, _, e1, rfl⟩
    · exact ⟨_, _, _, e1, e2⟩
  · rcases List.mem_append.mp he with z | z
    · exact h.all e z
    · rw [List.mem_singleton.mp z]
      exact ⟨_, _, _, rfl, rfl⟩
theorem putK8_len {kvs : List (Int × D)} {k : NestedKey} {d : D} {z : Int} : (putK8 kvs k d z).length ≤ kvs.length + 1 := by
  unfold putK8; split <;> simp
theorem putK8_find {kvs : List (Int × D)} {k : NestedKey} {d : D} {z : Int} (hk : nkD d = some k) : findN (putK8 kvs k d z) k = some z := by
  unfold putK8
  split
  · rename_i hs
    unfold findN at hs ⊢
    induction kvs with
    | nil => simp at hs
    | cons e kvs ih =>
      rw [List.map_cons, List.find?_cons]
      by_cases h : nkD e.2 = some k
      · simp [h]
      · rw [if_neg h, decide_eq_false h]
        refine ih ?_
        rw [List.find?_cons, decide_eq_false h] at hs
        exact hs
  · rename_i hs
    unfold findN at hs ⊢
    rw [List.find?_append]
    cases e : kvs.find? fun p => decide (nkD p.2 = some k) with
    | some x => rw [e] at hs; simp at hs
    | none => simp [hk]
theorem Memo.cl {w : List Stp} {q : Bool} {kvs : List (Int × D)} (h : Memo w q kvs) (n : Nat) : clA n kvs = true := by
  obtain ⟨h⟩ := h
  induction kvs with
  | nil => simp [clA]
  | cons e kvs ih =>
    obtain ⟨d, L, isl, e1, _⟩ := h e List.mem_cons_self
    obtain ⟨z, k⟩ := e
    simp only at e1
    subst e1
    simp only [clA, keyP_cl, Bool.true_and]
    exact ih fun x hx => h x (List.mem_cons_of_mem _ hx)
section
variable {w : List Stp} {q : Bool} {p a b c m : Nat}
theorem oMin_ints {S : Sto} {x : Int} {xs : List Int} : oMin ((x :: xs).map .int) S = .ok (.int (xs.foldl min x)) S := by simp only [oMin, intsD_map]
theorem oMax_ints {S : Sto} {x : Int} {xs : List Int} : oMax ((x :: xs).map .int) S = .ok (.int (xs.foldl max x)) S := by simp only [oMax, intsD_map]
end
end Pz

set_option Elab.async false
set_option linter.all false
set_option maxRecDepth 100000
set_option maxHeartbeats 4000000
/-! Lpl: standings of rows; what may come next. -/
namespace Pz
open PySem PySem.Spec PyProof.Rows L2
/-- o stands ahead of g -/
def Bef (M : List Nat) (o g : Nat) : Prop := ∃ pre post, M = pre ++ g :: post ∧ o ∈ pre
theorem bef_nil {o g : Nat} : ¬ Bef [] o g := by
  rintro ⟨pre, post, e, h⟩
  cases pre <;> simp at e
theorem bef_cons {x o g : Nat} {r : List Nat} : Bef (x :: r) o g ↔ (o = x ∧ g ∈ r) ∨ Bef r o g := by
  constructor
  · rintro ⟨pre, post, e, h⟩
    cases pre with
    | nil => cases h
    | cons y pre =>
      simp only [List.cons_append, List.cons.injEq] at e
      obtain ⟨rfl, rfl⟩ := e
      rcases List.mem_cons.mp h with h | h
      · exact .inl ⟨h, by simp⟩
      · exact .inr ⟨pre, post, rfl, h⟩
  · rintro (⟨rfl, h⟩ | ⟨pre, post, rfl, h⟩)
    · obtain ⟨pre, post, rfl⟩ := List.append_of_mem h
      exact ⟨o :: pre, post, rfl, List.mem_cons_self⟩
    · exact ⟨x :: pre, post, rfl, List.mem_cons_of_mem _ h⟩
theorem bef_filter {p : Nat → Bool} {o g : Nat} (ho : p o = true) (hg : p g = true) : ∀ {M : List Nat}, Bef (M.filter p) o g ↔ Bef M o g
  | [] => Iff.rfl
  | x :: r => by
    rw [List.filter_cons]
    by_cases hx : p x = true
    · rw [if_pos hx, bef_cons, bef_cons, bef_filter ho hg]
      constructor
      · rintro (⟨h1, h2⟩ | h)
        · exact .inl ⟨h1, (List.mem_filter.mp h2).1⟩
        · exact .inr h
      · rintro (⟨h1, h2⟩ | h)
        · exact .inl ⟨h1, List.mem_filter.mpr ⟨h2, hg⟩⟩
        · exact .inr h
    · rw [if_neg hx, bef_cons, bef_filter ho hg]
      constructor
      · exact .inr
      · rintro (⟨h1, _⟩ | h)
        · exact absurd (h1 ▸ ho) hx
        · exact h
theorem bef_memL {M : List Nat} {o g : Nat} (h : Bef M o g) : o ∈ M ∧ g ∈ M := by
  obtain ⟨pre, post, rfl, h⟩ := h
  exact ⟨List.mem_append_left _ h, by simp⟩
theorem bef_rev {M : List Nat} {o g : Nat} (h : Bef M.reverse o g) : ∃ pre post, M = pre ++ g :: post ∧ o ∈ post := by
  obtain ⟨pre, post, e, h⟩ := h
  refine ⟨post.reverse, pre.reverse, ?_, List.mem_reverse.mpr h⟩
  have := congrArg List.reverse e
  simpa using this
theorem split_idx {M pre post : List Nat} {g : Nat} (hn : M.Nodup) (e : M = pre ++ g :: post) : M.idxOf g = pre.length ∧ M.take (M.idxOf g) = pre ∧ M.drop (M.idxOf g + 1) = post := by
  subst e
  have hg : g ∉ pre := fun z => by
    have := List.nodup_append.mp hn
    exact this.2.2 g z g List.mem_cons_self rfl
  have ix : (pre ++ g :: post).idxOf g = pre.length := by
    rw [List.idxOf_append, if_neg hg]; simp
  rw [ix]
  exact ⟨rfl, List.take_left, by simp⟩
theorem take_bef {M : List Nat} {o g : Nat} (hn : M.Nodup) (hg : g ∈ M) : o ∈ M.take (M.idxOf g) ↔ Bef M o g := by
  constructor
  · intro h
    obtain ⟨pre, post, e⟩ := List.append_of_mem hg
    exact ⟨pre, post, e, by rw [← (split_idx hn e).2.1]; exact h⟩
  · rintro ⟨pre, post, e, h⟩
    rw [(split_idx hn e).2.1]; exact h
theorem drop_bef {M : List Nat} {o g : Nat} (hn : M.Nodup) (hg : g ∈ M) : o ∈ M.drop (M.idxOf g + 1) ↔ Bef M.reverse o g := by
  constructor
  · intro h
    obtain ⟨pre, post, e⟩ := List.append_of_mem hg
    rw [(split_idx hn e).2.2] at h
    exact ⟨post.reverse, pre.reverse, by rw [e]; simp, List.mem_reverse.mpr h⟩
  · intro h
    obtain ⟨pre, post, e, h⟩ := bef_rev h
    rw [(split_idx hn e).2.2]; exact h
/-! the steps done, as bits -/
def bmR (row : List Nat) : Nat := row.foldl setB 0
theorem bmR_snoc {row : List Nat} {s : Nat} : bmR (row ++ [s]) = setB (bmR row) s := by simp [bmR, List.foldl_append]
theorem bmR_bit {row : List Nat} {t : Nat} : (bmR row).testBit t = decide (t ∈ row) := by
  have key : ∀ (row : List Nat) (d : Nat), (row.foldl setB d).testBit t = (d.testBit t || decide (t ∈ row)) := by
    intro row
    induction row with
    | nil => intro d; simp
    | cons x xs ih =>
      intro d
      rw [List.foldl_cons, ih, setB_bit, Bool.or_assoc]
      congr 1
      by_cases e : t = x <;> simp [e]
  rw [bmR, key]
  simp
/-- the ties of a giver that are under way behind a row -/
def celR (w : List Stp) (row : List Nat) (g : Nat) : Nat := ((tkT w g).filter fun t => decide (t ∉ row)).length
theorem celS_row {w : List Stp} {row : List Nat} {g : Nat} : celS w (bmR row) g = celR w row g := by
  unfold celS celR
  refine congrArg List.length (List.filter_congr fun t _ => ?_)
  rw [bmR_bit]; simp
def lnR (w : List Stp) (row : List Nat) : List Nat := row.filter fun g => decide (0 < celR w row g)
theorem celR_mono {w : List Stp} {row : List Nat} {s g : Nat} (h : 0 < celR w (row ++ [s]) g) : 0 < celR w row g := by
  unfold celR at *
  obtain ⟨t, ht⟩ := List.exists_mem_of_length_pos h
  obtain ⟨h1, h2⟩ := List.mem_filter.mp ht
  refine List.length_pos_of_mem (List.mem_filter.mpr ⟨h1, ?_⟩)
  simp only [decide_eq_true_eq] at h2 ⊢
  exact fun z => h2 (List.mem_append_left _ z)
theorem linS_row {w : List Stp} {row : List Nat} {s : Nat} : linS w (bmR row) (lnR w row) s = lnR w (row ++ [s]) := by
  unfold linS lnR
  rw [List.filter_append, List.filter_append, List.filter_filter]
  have e1 : ∀ g, celS w (setB (bmR row) s) g = celR w (row ++ [s]) g := fun g => by rw [← bmR_snoc, celS_row]
  congr 1
  · refine List.filter_congr fun g _ => ?_
    rw [e1]
    by_cases h : 0 < celR w (row ++ [s]) g
    · simp [h, celR_mono h]
    · simp [h]
  · refine List.filter_congr fun g _ => ?_
    rw [e1]
/-! what may come -/
/-- what still leaves o goes to s alone -/
def onlyS (w : List Stp) (row : List Nat) (s o : Nat) : Prop := ∀ t ∈ tkT w o, t = s ∨ t ∈ row
def mayP (w : List Stp) (q : Bool) (row : List Nat) (s : Nat) : Prop := (∀ g ∈ gvT w s, g ∈ row) ∧ ∀ g ∈ gvT w s, ∀ o, Bef (if q then row else row.reverse) o g → onlyS w row s o
theorem cel_only {w : List Stp} {row : List Nat} {s o : Nat} (hs : s ∉ row) : (gvT w s).count o ≤ celR w row o ∧ (celR w row o ≤ (gvT w s).count o ↔ onlyS w row s o) := by
  rw [count_gv]
  unfold celR onlyS
  generalize tkT w o = ts
  induction ts with
  | nil => simp
  | cons t ts ih =>
    obtain ⟨i1, i2⟩ := ih
    rw [List.filter_cons, List.count_cons]
    by_cases h1 : t = s
    · subst h1
      have : (decide (t ∉ row)) = true := by simpa using hs
      rw [if_pos this, List.length_cons]
      simp only [BEq.rfl, if_true]
      refine ⟨by omega, ?_⟩
      constructor
      · intro h x hx
        rcases List.mem_cons.mp hx with e | e
        · exact .inl e
        · exact i2.mp (by omega) x e
      · intro h
        have := i2.mpr fun x hx => h x (List.mem_cons_of_mem _ hx)
        omega
    · have hb : (t == s) = false := by simpa using h1
      rw [hb]
      simp only [Bool.false_eq_true, if_false, Nat.add_zero]
      by_cases h2 : t ∈ row
      · have : (decide (t ∉ row)) = false := by simpa using h2
        rw [if_neg (by simp [h2])]
        refine ⟨i1, ?_⟩
        rw [i2]
        constructor
        · intro h x hx
          rcases List.mem_cons.mp hx with e | e
          · exact .inr (e ▸ h2)
          · exact h x e
        · exact fun h x hx => h x (List.mem_cons_of_mem _ hx)
      · rw [if_pos (by simpa using h2), List.length_cons]
        refine ⟨by omega, ?_⟩
        constructor
        · intro h; omega
        · intro h
          rcases h t List.mem_cons_self with e | e
          · exact absurd e h1
          · exact absurd e h2
def remF (xs P : List Nat) : List (Nat × Int) := (cntF xs).filter fun e => decide (e.1 ∉ P)
theorem remF_drop {xs P : List Nat} {g : Nat} : dropN (remF xs P) g = remF xs (g :: P) := by
  unfold dropN remF
  rw [List.filter_filter]
  refine List.filter_congr fun e _ => ?_
  by_cases h1 : e.1 = g <;> by_cases h2 : e.1 ∈ P <;> simp [h1, h2]
theorem remF_get {xs P : List Nat} {g : Nat} (hg : g ∉ P) : (getN (remF xs P) g).getD 0 = (xs.count g : Int) := by
  have e : getN (remF xs P) g = getN (cntF xs) g := by
    unfold remF getN
    rw [List.find?_filter]
    refine congrArg (Option.map _) (congrArg (fun f => List.find? f (cntF xs)) (funext fun e => ?_))
    by_cases h : e.1 = g
    · simp [h, hg]
    · simp [h]
  rw [e, (cntF_cr xs).get]
  split
  · rfl
  · rename_i h
    rw [List.count_eq_zero_of_not_mem h]; rfl
theorem remF_empty {xs P : List Nat} : (remF xs P).isEmpty = true ↔ ∀ g ∈ xs, g ∈ P := by
  unfold remF
  rw [filter_empty]
  have key := (cntF_cr xs).key
  constructor
  · intro h g hg
    have := (key g).mpr hg
    obtain ⟨e, he, rfl⟩ := List.mem_map.mp this
    exact Classical.byContradiction fun z => by
      have : (cntF xs).any (fun e => decide (e.1 ∉ P)) = true := List.any_eq_true.mpr ⟨e, he, by simpa using z⟩
      rw [this] at h; cases h
  · intro h
    rw [Bool.not_eq_true', Bool.eq_false_iff]
    intro z
    obtain ⟨e, he, h2⟩ := List.any_eq_true.mp z
    have := h e.1 ((key e.1).mp (List.mem_map.mpr ⟨e, he, rfl⟩))
    simp [this] at h2
theorem fnd_iff {w : List Stp} {row : List Nat} {s : Nat} (hs : s ∉ row) (hsl : s < w.length) : ∀ (M P : List Nat), M.Nodup → (∀ o ∈ M, o ∉ P) → (∀ o ∈ M, 0 < celR w row o) →
    (fndS w (bmR row) M (remF (gvT w s) P) = true ↔ ∀ g ∈ gvT w s, g ∉ P → g ∈ M ∧ ∀ o, Bef M o g → onlyS w row s o)
  | [], P, _, _, _ => by
    rw [fndS, remF_empty]
    constructor
    · intro h g hg hp; exact absurd (h g hg) hp
    · intro h g hg
      exact Classical.byContradiction fun z => by have := (h g hg z).1; cases this
  | x :: r, P, hn, hd, hc => by
    rw [fndS]
    obtain ⟨hn1, hn2⟩ := List.nodup_cons.mp hn
    have hxP := hd x List.mem_cons_self
    have hxc := hc x List.mem_cons_self
    by_cases he : (remF (gvT w s) P).isEmpty = true
    · rw [if_pos he]
      refine ⟨fun _ g hg hp => absurd (remF_empty.mp he g hg) hp, fun _ => rfl⟩
    · rw [if_neg he, remF_get hxP, remF_drop, celS_row]
      obtain ⟨g0, hg0, hg0P⟩ : ∃ g, g ∈ gvT w s ∧ g ∉ P := Classical.byContradiction fun z => he (remF_empty.mpr fun g hg => Classical.byContradiction fun y => z ⟨g, hg, y⟩)
      obtain ⟨c1, c2⟩ := cel_only (w := w) (o := x) hs
      by_cases hx : x ∈ gvT w s
      · have cp : 0 < (gvT w s).count x := List.count_pos_iff.mpr hx
        by_cases hbad : (((gvT w s).count x : Int) < (celR w row x : Int) ∧ (remF (gvT w s) (x :: P)).isEmpty = false)
        · rw [if_pos (.inr hbad)]
          refine ⟨fun z => (by cases z), fun h => ?_⟩
          exfalso
          have hne : ¬ (remF (gvT w s) (x :: P)).isEmpty = true := by rw [hbad.2]; decide
          obtain ⟨g1, hg1, hg1P⟩ : ∃ g, g ∈ gvT w s ∧ g ∉ x :: P := Classical.byContradiction fun z => hne (remF_empty.mpr fun g hg => Classical.byContradiction fun y => z ⟨g, hg, y⟩)
          have hg1x : g1 ≠ x := fun z => hg1P (by rw [z]; exact List.mem_cons_self)
          obtain ⟨h1, h2⟩ := h g1 hg1 (fun z => hg1P (List.mem_cons_of_mem _ z))
          have hr : g1 ∈ r := (List.mem_cons.mp h1).resolve_left hg1x
          have := c2.mpr (h2 x (bef_cons.mpr (.inl ⟨rfl, hr⟩)))
          omega
        · rw [if_neg (fun z => z.elim (fun y => by omega) hbad)]
          rw [fnd_iff hs hsl r (x :: P) hn2 (fun o ho z => by
            rcases List.mem_cons.mp z with e | e
            · exact hn1 (e ▸ ho)
            · exact hd o (List.mem_cons_of_mem _ ho) e) (fun o ho => hc o (List.mem_cons_of_mem _ ho))]
          constructor
          · intro h g hg hgP
            by_cases e : g = x
            · subst e
              refine ⟨List.mem_cons_self, fun o ho => ?_⟩
              rcases bef_cons.mp ho with ⟨_, z⟩ | z
              · exact absurd z hn1
              · exact absurd (bef_memL z).2 hn1
            · obtain ⟨h1, h2⟩ := h g hg (fun z => (List.mem_cons.mp z).elim e hgP)
              refine ⟨List.mem_cons_of_mem _ h1, fun o ho => ?_⟩
              rcases bef_cons.mp ho with ⟨rfl, _⟩ | z
              · refine c2.mp ?_
                have hne : (remF (gvT w s) (o :: P)).isEmpty = false := by
                  rw [Bool.eq_false_iff]
                  intro y
                  have := remF_empty.mp y g hg
                  rcases List.mem_cons.mp this with q | q
                  · exact e q
                  · exact hgP q
                have : ¬ ((gvT w s).count o : Int) < (celR w row o : Int) := fun y => hbad ⟨y, hne⟩
                omega
              · exact h2 o z
          · intro h g hg hgP
            have e : g ≠ x := fun z => hgP (by rw [z]; exact List.mem_cons_self)
            obtain ⟨h1, h2⟩ := h g hg (fun z => hgP (List.mem_cons_of_mem _ z))
            exact ⟨(List.mem_cons.mp h1).resolve_left e, fun o ho => h2 o (bef_cons.mpr (.inr ho))⟩
      · rw [if_pos (.inl (by rw [List.count_eq_zero_of_not_mem hx]; rfl))]
        refine ⟨fun z => (by cases z), fun h => ?_⟩
        exfalso
        obtain ⟨h1, h2⟩ := h g0 hg0 hg0P
        have e : g0 ≠ x := fun z => hx (z ▸ hg0)
        have hr : g0 ∈ r := (List.mem_cons.mp h1).resolve_left e
        have := c2.mpr (h2 x (bef_cons.mpr (.inl ⟨rfl, hr⟩)))
        rw [List.count_eq_zero_of_not_mem hx] at this
        omega
theorem can_iff {w : List Stp} {q : Bool} {row : List Nat} {s : Nat} (hn : row.Nodup) (hs : s ∉ row) (hsl : s < w.length) : canS w q (bmR row) (lnR w row) s = true ↔ mayP w q row s := by
  obtain ⟨Lr, hLr⟩ : ∃ Lr, Lr = if q then row else row.reverse := ⟨_, rfl⟩
  have hm : ∀ o, o ∈ Lr ↔ o ∈ row := fun o => by rw [hLr]; cases q <;> simp
  have hnd : Lr.Nodup := by
    rw [hLr]
    cases q with
    | true => exact hn
    | false => exact (List.reverse_perm row).nodup_iff.mpr hn
  have hM : (if q then lnR w row else (lnR w row).reverse) = Lr.filter fun g => decide (0 < celR w row g) := by
    rw [hLr]
    unfold lnR
    cases q with
    | true => rfl
    | false => simp [List.filter_reverse]
  have hc0 : cntF (gvT w s) = remF (gvT w s) [] := by unfold remF; rw [List.filter_eq_self.mpr (fun _ _ => by simp)]
  unfold canS mayP
  rw [hM, hc0, ← hLr, fnd_iff hs hsl _ [] (hnd.filter _) (by simp) (fun o ho => by simpa using (List.mem_filter.mp ho).2)]
  have pos : ∀ g ∈ gvT w s, 0 < celR w row g := fun g hg => by
    have := List.count_pos_iff.mpr hg
    have := (cel_only (w := w) (o := g) hs).1
    omega
  constructor
  · intro h
    refine ⟨fun g hg => (hm g).mp (List.mem_filter.mp (h g hg (by simp)).1).1, fun g hg o ho => ?_⟩
    by_cases hp : 0 < celR w row o
    · exact (h g hg (by simp)).2 o ((bef_filter (by simpa using hp) (by simpa using pos g hg)).mpr ho)
    · intro t ht
      refine .inr (Classical.byContradiction fun z => hp ?_)
      exact List.length_pos_of_mem (List.mem_filter.mpr ⟨ht, by simpa using z⟩)
  · rintro ⟨h1, h2⟩ g hg _
    refine ⟨List.mem_filter.mpr ⟨(hm g).mpr (h1 g hg), by simpa using pos g hg⟩, fun o ho => ?_⟩
    have ho' := (List.mem_filter.mp (bef_memL ho).1).2
    exact h2 g hg o ((bef_filter ho' (by simpa using pos g hg)).mp ho)
end Pz

set_option Elab.async false
set_option linter.all false
set_option maxRecDepth 100000
set_option maxHeartbeats 4000000
/-! Lpt: all right orders, and the peak as the least or greatest of their heights. -/
namespace Pz
open PySem PySem.Spec PyProof.Rows L2
structure Row (w : List Stp) (row : List Nat) : Prop where
  nd : row.Nodup
  lt : ∀ s ∈ row, s < w.length
theorem Row.len {w : List Stp} {row : List Nat} (h : Row w row) : row.length ≤ w.length := nodup_le _ _ h.nd h.lt
theorem Row.nil {w : List Stp} : Row w [] := ⟨List.nodup_nil, by simp⟩
def extR (w : List Stp) (q : Bool) (row : List Nat) : List Nat := nxtS w q (bmR row) (lnR w row)
theorem extR_mem {w : List Stp} {q : Bool} {row : List Nat} {s : Nat} (h : Row w row) : s ∈ extR w q row ↔ s < w.length ∧ s ∉ row ∧ mayP w q row s := by
  unfold extR nxtS
  rw [List.mem_filter, List.mem_range, bmR_bit]
  constructor
  · rintro ⟨h1, h2⟩
    simp only [Bool.and_eq_true, Bool.not_eq_true', decide_eq_false_iff_not] at h2
    exact ⟨h1, h2.1, (can_iff h.nd h2.1 h1).mp h2.2⟩
  · rintro ⟨h1, h2, h3⟩
    refine ⟨h1, ?_⟩
    simp only [Bool.and_eq_true, Bool.not_eq_true', decide_eq_false_iff_not]
    exact ⟨h2, (can_iff h.nd h2 h1).mpr h3⟩
theorem Row.ext {w : List Stp} {q : Bool} {row : List Nat} {s : Nat} (h : Row w row) (hs : s ∈ extR w q row) : Row w (row ++ [s]) := by
  obtain ⟨h1, h2, _⟩ := (extR_mem h).mp hs
  refine ⟨List.nodup_append.mpr ⟨h.nd, by simp, fun a ha b hb => by rw [List.mem_singleton.mp hb]; exact fun z => h2 (z ▸ ha)⟩, fun x hx => ?_⟩
  rcases List.mem_append.mp hx with z | z
  · exact h.lt x z
  · rw [List.mem_singleton.mp z]; exact h1
theorem Row.done {w : List Stp} {row : List Nat} (h : Row w row) : bmR row = 2 ^ w.length - 1 ↔ row.length = w.length := by
  have pig : ∀ i, i < w.length → i ∉ row → row.length < w.length := fun i hi hn => by
    have := nodup_le w.length (i :: row) (List.nodup_cons.mpr ⟨hn, h.nd⟩) fun x hx => by
      rcases List.mem_cons.mp hx with e | e
      · rw [e]; exact hi
      · exact h.lt x e
    have : row.length + 1 ≤ w.length := by simpa using this
    omega
  constructor
  · intro e
    have hl := h.len
    have all : ∀ t ∈ List.range w.length, t ∈ row := fun t ht => by
      have := congrArg (fun d => Nat.testBit d t) e
      simp only [bmR_bit, Nat.testBit_two_pow_sub_one] at this
      rw [decide_eq_true (List.mem_range.mp ht)] at this
      simpa using this
    have := cntF_len.subset_lenN (l := List.range w.length) (m := row) List.nodup_range all
    rw [List.length_range] at this
    omega
  · intro e
    refine Nat.eq_of_testBit_eq fun i => ?_
    rw [bmR_bit, Nat.testBit_two_pow_sub_one]
    refine decide_eq_decide.mpr ⟨fun z => h.lt i z, fun z => Classical.byContradiction fun y => ?_⟩
    have := pig i z y
    omega
theorem unsN_row {w : List Stp} {row : List Nat} (h : Row w row) : unsN w (bmR row) ≤ w.length - row.length := by
  have e : unsN w (bmR row) = ((List.range w.length).filter fun t => decide (t ∉ row)).length := by
    unfold unsN
    refine congrArg List.length (List.filter_congr fun t _ => ?_)
    rw [bmR_bit]; simp
  rw [e]
  have := nodup_le w.length (row ++ (List.range w.length).filter fun t => decide (t ∉ row)) (List.nodup_append.mpr ⟨h.nd, List.nodup_range.filter _, fun a ha b hb z => by
    have := (List.mem_filter.mp hb).2
    simp only [decide_eq_true_eq] at this
    exact this (z ▸ ha)⟩) fun x hx => by
      rcases List.mem_append.mp hx with z | z
      · exact h.lt x z
      · exact List.mem_range.mp (List.mem_filter.mp z).1
  rw [List.length_append] at this
  omega
/-! heights -/
def hgtR (w : List Stp) (row : List Nat) : Nat := ((tieP w).filter fun p => decide (p.1 ∈ row) && decide (p.2 ∉ row)).length
theorem hgtS_row {w : List Stp} {row : List Nat} (hn : row.Nodup) : hgtS w (bmR row) (lnR w row) = hgtR w row := by
  have e1 : hgtS w (bmR row) (lnR w row) = (row.map fun g => celR w row g).sum := by
    unfold hgtS lnR
    have : ∀ rs : List Nat, ((rs.filter fun g => decide (0 < celR w row g)).map fun g => celS w (bmR row) g).sum = (rs.map fun g => celR w row g).sum := by
      intro rs
      induction rs with
      | nil => rfl
      | cons r rs ih =>
        rw [List.filter_cons]
        by_cases h : 0 < celR w row r
        · rw [if_pos (by simpa using h), List.map_cons, List.map_cons, List.sum_cons, List.sum_cons, ih, celS_row]
        · rw [if_neg (by simpa using h), List.map_cons, List.sum_cons, ih]; omega
    exact this row
  rw [e1]
  unfold hgtR
  have e2 : ∀ g, celR w row g = ((tieP w).filter fun p => decide (p.1 = g) && decide (p.2 ∉ row)).length := fun g => by
    unfold celR tkT
    rw [List.filter_map, List.length_map, List.filter_filter]
    refine congrArg List.length (List.filter_congr fun p _ => ?_)
    simp only [Function.comp]
    exact Bool.and_comm _ _
  simp only [e2]
  obtain ⟨b, hb⟩ : ∃ b : Nat × Nat → Bool, b = fun p => decide (p.2 ∉ row) := ⟨_, rfl⟩
  have key : ∀ (ts : List (Nat × Nat)) (rs : List Nat), rs.Nodup → (rs.map fun g => (ts.filter fun p => decide (p.1 = g) && b p).length).sum = (ts.filter fun p => decide (p.1 ∈ rs) && b p).length := by
    intro ts rs hr
    induction rs with
    | nil =>
      have : ts.filter (fun p => decide (p.1 ∈ ([] : List Nat)) && b p) = [] := List.filter_eq_nil_iff.mpr (fun p _ => by simp)
      rw [this]; rfl
    | cons r rs ih =>
      obtain ⟨n1, n2⟩ := List.nodup_cons.mp hr
      rw [List.map_cons, List.sum_cons, ih n2]
      clear ih
      induction ts with
      | nil => rfl
      | cons t ts ih2 =>
        rw [List.filter_cons, List.filter_cons, List.filter_cons]
        cases hb2 : b t with
        | false => simp only [Bool.and_false, Bool.false_eq_true, if_false]; exact ih2
        | true =>
          simp only [Bool.and_true]
          by_cases c1 : t.1 = r
          · have c2 : t.1 ∉ rs := fun z => n1 (c1 ▸ z)
            have c3 : t.1 ∈ r :: rs := by rw [c1]; exact List.mem_cons_self
            rw [decide_eq_true c1, decide_eq_false c2, decide_eq_true c3]
            simp only [if_true, Bool.false_eq_true, if_false, List.length_cons]
            omega
          · by_cases c2 : t.1 ∈ rs
            · have c3 : t.1 ∈ r :: rs := List.mem_cons_of_mem _ c2
              rw [decide_eq_false c1, decide_eq_true c2, decide_eq_true c3]
              simp only [if_true, Bool.false_eq_true, if_false, List.length_cons]
              omega
            · have c3 : t.1 ∉ r :: rs := fun z => (List.mem_cons.mp z).elim c1 c2
              rw [decide_eq_false c1, decide_eq_false c2, decide_eq_false c3]
              simp only [Bool.false_eq_true, if_false]
              exact ih2
  have := key (tieP w) row hn
  rw [hb] at this
  exact this
/-! the tree of rows -/
def compl (w : List Stp) (q : Bool) : Nat → List Nat → List (List Nat)
  | 0, row => [row]
  | k + 1, row => (extR w q row).flatMap fun s => compl w q k (row ++ [s])
theorem compl_mem {w : List Stp} {q : Bool} : ∀ {k : Nat} {row o : List Nat}, Row w row → o ∈ compl w q k row → Row w o ∧ o.length = row.length + k ∧ o.take row.length = row
  | 0, row, o, hr, h => by
    have h : o = row := by simpa [compl] using h
    subst h
    exact ⟨hr, rfl, List.take_length⟩
  | k + 1, row, o, hr, h => by
    obtain ⟨s, hs, ho⟩ := List.mem_flatMap.mp h
    obtain ⟨h1, h2, h3⟩ := compl_mem (hr.ext hs) ho
    rw [List.length_append, List.length_singleton] at h2 h3
    refine ⟨h1, by omega, ?_⟩
    have : o.take row.length = (o.take (row.length + 1)).take row.length := by rw [List.take_take]; congr 1; omega
    rw [this, h3, List.take_left]
def stepF (w : List Stp) (q : Bool) (rows : List (List Nat)) : List (List Nat) := rows.flatMap fun row => (extR w q row).map fun s => row ++ [s]
def rowsN (w : List Stp) (q : Bool) : Nat → List (List Nat)
  | 0 => [[]]
  | k + 1 => stepF w q (rowsN w q k)
theorem rowsN_compl {w : List Stp} {q : Bool} (k : Nat) : rowsN w q k = compl w q k [] := by
  have it : ∀ (k : Nat) (rows : List (List Nat)), Nat.rec rows (fun _ r => stepF w q r) k = rows.flatMap (compl w q k) := by
    intro k
    have comm : ∀ (k : Nat) (rows : List (List Nat)), (Nat.rec rows (fun _ r => stepF w q r) (k + 1) : List (List Nat)) = Nat.rec (stepF w q rows) (fun _ r => stepF w q r) k := by
      intro k
      induction k with
      | zero => intro rows; rfl
      | succ k ih =>
        intro rows
        show stepF w q (Nat.rec rows (fun _ r => stepF w q r) (k + 1)) = stepF w q (Nat.rec (stepF w q rows) (fun _ r => stepF w q r) k)
        rw [ih rows]
    induction k with
    | zero =>
      intro rows
      have : rows.flatMap (compl w q 0) = rows := by simp [compl]
      exact this.symm
    | succ k ih =>
      intro rows
      rw [comm, ih, stepF, List.flatMap_assoc]
      refine congrArg (fun f => rows.flatMap f) (funext fun row => ?_)
      rw [List.flatMap_map]
      rfl
  have : rowsN w q k = Nat.rec [[]] (fun _ r => stepF w q r) k := by
    induction k with
    | zero => rfl
    | succ k ih => rw [rowsN, ih]
  rw [this, it]
  simp
theorem rowsN_len {w : List Stp} {q : Bool} : ∀ k, (rowsN w q k).length ≤ w.length ^ k
  | 0 => by simp [rowsN]
  | k + 1 => by
    rw [rowsN, stepF, List.length_flatMap]
    have : ∀ rows : List (List Nat), (rows.map fun row => ((extR w q row).map fun s => row ++ [s]).length).sum ≤ rows.length * w.length := by
      intro rows
      induction rows with
      | nil => simp
      | cons r rows ih =>
        rw [List.map_cons, List.sum_cons, List.length_cons, Nat.succ_mul, List.length_map]
        have : (extR w q r).length ≤ w.length := by
          have := List.length_filter_le (fun s => !(bmR r).testBit s && canS w q (bmR r) (lnR w r) s) (List.range w.length)
          rwa [List.length_range] at this
        omega
    refine Nat.le_trans (this _) ?_
    rw [Nat.pow_succ]
    exact Nat.mul_le_mul_right _ (rowsN_len k)
/-! least and greatest -/
def IsOpt (isl : Bool) (v : Int) (xs : List Int) : Prop := v ∈ xs ∧ ∀ x ∈ xs, if isl = true then v ≤ x else x ≤ v
theorem IsOpt.uniq {isl : Bool} {v u : Int} {xs : List Int} (h : IsOpt isl v xs) (h' : IsOpt isl u xs) : v = u := by
  have h1 := h.2 u h'.1
  have h2 := h'.2 v h.1
  cases isl <;> simp at h1 h2 <;> omega
theorem optI_spec {isl : Bool} {xs : List Int} (hx : xs ≠ []) : IsOpt isl (optI isl xs) xs := by
  have mn : ∀ (xs : List Int) (x : Int), xs.foldl min x ∈ x :: xs ∧ ∀ y ∈ x :: xs, xs.foldl min x ≤ y := by
    intro xs
    induction xs with
    | nil => intro x; simp
    | cons y ys ih =>
      intro x
      obtain ⟨h1, h2⟩ := ih (min x y)
      rw [List.foldl_cons]
      refine ⟨?_, fun z hz => ?_⟩
      · rcases List.mem_cons.mp h1 with e | e
        · rw [e]
          rcases Int.le_total x y with l | l
          · rw [Int.min_eq_left l]; exact List.mem_cons_self
          · rw [Int.min_eq_right l]; exact List.mem_cons_of_mem _ List.mem_cons_self
        · exact List.mem_cons_of_mem _ (List.mem_cons_of_mem _ e)
      · have hm := h2 (min x y) List.mem_cons_self
        rcases List.mem_cons.mp hz with e | e
        · rw [e]; exact Int.le_trans hm (Int.min_le_left _ _)
        · rcases List.mem_cons.mp e with e | e
          · rw [e]; exact Int.le_trans hm (Int.min_le_right _ _)
          · exact h2 z (List.mem_cons_of_mem _ e)
  have mx : ∀ (xs : List Int) (x : Int), xs.foldl max x ∈ x :: xs ∧ ∀ y ∈ x :: xs, y ≤ xs.foldl max x := by
    intro xs
    induction xs with
    | nil => intro x; simp
    | cons y ys ih =>
      intro x
      obtain ⟨h1, h2⟩ := ih (max x y)
      rw [List.foldl_cons]
      refine ⟨?_, fun z hz => ?_⟩
      · rcases List.mem_cons.mp h1 with e | e
        · rw [e]
          rcases Int.le_total x y with l | l
          · rw [Int.max_eq_right l]; exact List.mem_cons_of_mem _ List.mem_cons_self
          · rw [Int.max_eq_left l]; exact List.mem_cons_self
        · exact List.mem_cons_of_mem _ (List.mem_cons_of_mem _ e)
      · have hm := h2 (max x y) List.mem_cons_self
        rcases List.mem_cons.mp hz with e | e
        · rw [e]; exact Int.le_trans (Int.le_max_left _ _) hm
        · rcases List.mem_cons.mp e with e | e
          · rw [e]; exact Int.le_trans (Int.le_max_right _ _) hm
          · exact h2 z (List.mem_cons_of_mem _ e)
  cases xs with
  | nil => exact absurd rfl hx
  | cons x xs =>
    cases isl with
    | true => exact ⟨(mn xs x).1, fun y hy => by simpa [optI] using (mn xs x).2 y hy⟩
    | false => exact ⟨(mx xs x).1, fun y hy => by simpa [optI] using (mx xs x).2 y hy⟩
theorem opt_tree {isl : Bool} {ss : List Nat} {A : Nat → List Int} {h : Nat → Int} (h0 : ∀ s ∈ ss, ∀ a ∈ A s, 0 ≤ a) :
    optI isl (ss.filterMap fun s => if 0 ≤ optI isl (A s) then some (max (optI isl (A s)) (h s)) else none) = optI isl (ss.flatMap fun s => (A s).map fun a => max (h s) a) := by
  have ne : ∀ s, 0 ≤ optI isl (A s) → A s ≠ [] := fun s hs e => by rw [e] at hs; simp [optI] at hs
  have pos : ∀ s ∈ ss, A s ≠ [] → 0 ≤ optI isl (A s) := fun s hs hA => h0 s hs _ (optI_spec hA).1
  by_cases hall : ∀ s ∈ ss, A s = []
  · have e1 : ss.filterMap (fun s => if 0 ≤ optI isl (A s) then some (max (optI isl (A s)) (h s)) else none) = [] := by
      rw [List.filterMap_eq_nil_iff]
      intro s hs
      rw [if_neg (fun z => ne s z (hall s hs))]
    have e2 : (ss.flatMap fun s => (A s).map fun a => max (h s) a) = [] := by
      rw [List.flatMap_eq_nil_iff]
      intro s hs
      rw [hall s hs]; rfl
    rw [e1, e2]
  · obtain ⟨s0, hs0, hA0⟩ : ∃ s, s ∈ ss ∧ A s ≠ [] := Classical.byContradiction fun z => hall fun s hs => Classical.byContradiction fun y => z ⟨s, hs, y⟩
    have mem1 : ∀ s ∈ ss, A s ≠ [] → max (optI isl (A s)) (h s) ∈ ss.filterMap fun s => if 0 ≤ optI isl (A s) then some (max (optI isl (A s)) (h s)) else none := fun s hs hA => List.mem_filterMap.mpr ⟨s, hs, by rw [if_pos (pos s hs hA)]⟩
    have f1 := optI_spec (isl := isl) (List.ne_nil_of_mem (mem1 s0 hs0 hA0))
    obtain ⟨a0, ha0⟩ := List.exists_mem_of_ne_nil _ hA0
    have f2 := optI_spec (isl := isl) (xs := ss.flatMap fun s => (A s).map fun a => max (h s) a) (List.ne_nil_of_mem (List.mem_flatMap.mpr ⟨s0, hs0, List.mem_map.mpr ⟨a0, ha0, rfl⟩⟩))
    refine IsOpt.uniq (isl := isl) (xs := ss.flatMap fun s => (A s).map fun a => max (h s) a) ⟨?_, fun y hy => ?_⟩ f2
    · obtain ⟨s, hs, e⟩ := List.mem_filterMap.mp f1.1
      split at e
      · rename_i hp
        have e := Option.some.inj e
        rw [← e]
        refine List.mem_flatMap.mpr ⟨s, hs, List.mem_map.mpr ⟨_, (optI_spec (ne s hp)).1, Int.max_comm _ _⟩⟩
      · cases e
    · obtain ⟨s, hs, hy⟩ := List.mem_flatMap.mp hy
      obtain ⟨a, ha, rfl⟩ := List.mem_map.mp hy
      have hA := List.ne_nil_of_mem ha
      have g1 := f1.2 _ (mem1 s hs hA)
      have g2 := (optI_spec (isl := isl) hA).2 a ha
      cases isl <;> simp at g1 g2 ⊢ <;> omega
/-! the peak of a row -/
def hmaxK (w : List Stp) (o : List Nat) : Nat → Nat
  | 0 => 0
  | k + 1 => max (hgtR w (o.take (w.length - k))) (hmaxK w o k)
theorem pk_tree {w : List Stp} {q isl : Bool} : ∀ (k : Nat) {row : List Nat} (f : Nat), Row w row → row.length + k = w.length → unsN w (bmR row) < f → pkV w q isl f (bmR row) (lnR w row) = optI isl ((compl w q k row).map fun o => ((hmaxK w o k : Nat) : Int))
  | 0, row, f, hr, hl, hf => by
    cases f with
    | zero => omega
    | succ f =>
      rw [pkV, if_pos (hr.done.mpr (by omega))]
      simp [compl, hmaxK, optI]
  | k + 1, row, f, hr, hl, hf => by
    cases f with
    | zero => omega
    | succ f =>
      rw [pkV, if_neg (fun z => by have := hr.done.mp z; omega)]
      have en : nxtS w q (bmR row) (lnR w row) = extR w q row := rfl
      rw [en]
      obtain ⟨A, hA⟩ : ∃ A : Nat → List Int, A = fun s => (compl w q k (row ++ [s])).map fun o => ((hmaxK w o k : Nat) : Int) := ⟨_, rfl⟩
      have ev : ∀ s ∈ extR w q row, pkV w q isl f (setB (bmR row) s) (linS w (bmR row) (lnR w row) s) = optI isl (A s) := fun s hs => by
        have h1 := hr.ext hs
        have hb : (bmR row).testBit s = false := by rw [bmR_bit]; simpa using ((extR_mem hr).mp hs).2.1
        have u := unsN_set (w := w) ((extR_mem hr).mp hs).1 hb
        rw [linS_row, ← bmR_snoc, pk_tree k f h1 (by simp; omega) (by rw [bmR_snoc]; omega), hA]
      have eh : ∀ s ∈ extR w q row, hgtS w (setB (bmR row) s) (linS w (bmR row) (lnR w row) s) = hgtR w (row ++ [s]) := fun s hs => by
        rw [linS_row, ← bmR_snoc, hgtS_row (hr.ext hs).nd]
      have e1 : (extR w q row).filterMap (fun s => if 0 ≤ pkV w q isl f (setB (bmR row) s) (linS w (bmR row) (lnR w row) s) then some (max (pkV w q isl f (setB (bmR row) s) (linS w (bmR row) (lnR w row) s)) (hgtS w (setB (bmR row) s) (linS w (bmR row) (lnR w row) s) : Nat)) else none) = (extR w q row).filterMap (fun s => if 0 ≤ optI isl (A s) then some (max (optI isl (A s)) ((hgtR w (row ++ [s]) : Nat) : Int)) else none) :=
        filterMap_congrN fun s hs => by rw [ev s hs, eh s hs]
      rw [e1, opt_tree (h := fun s => ((hgtR w (row ++ [s]) : Nat) : Int)) (fun s _ a ha => by
        rw [hA] at ha
        obtain ⟨o, _, rfl⟩ := List.mem_map.mp ha
        omega)]
      refine congrArg (optI isl) ?_
      rw [compl, List.map_flatMap]
      have : ∀ ss : List Nat, (∀ s ∈ ss, s ∈ extR w q row) → (ss.flatMap fun s => (A s).map fun a => max ((hgtR w (row ++ [s]) : Nat) : Int) a) = ss.flatMap fun s => (compl w q k (row ++ [s])).map fun o => ((hmaxK w o (k + 1) : Nat) : Int) := by
        intro ss
        induction ss with
        | nil => intro _; rfl
        | cons s ss ih =>
          intro hss
          rw [List.flatMap_cons, List.flatMap_cons, ih fun x hx => hss x (List.mem_cons_of_mem _ hx)]
          congr 1
          rw [hA]
          simp only [List.map_map]
          refine List.map_congr_left fun o ho => ?_
          have hs := hss s List.mem_cons_self
          obtain ⟨_, h2, h3⟩ := compl_mem (hr.ext hs) ho
          rw [List.length_append, List.length_singleton] at h2 h3
          have el : w.length - k = row.length + 1 := by omega
          simp only [Function.comp, hmaxK, el, h3]
          omega
      exact this _ fun s hs => hs
def hgtL (w : List Stp) (o : List Nat) : List Int := (List.range w.length).map fun i => ((hgtR w (o.take (i + 1)) : Nat) : Int)
theorem hmax_top {w : List Stp} {o : List Nat} (h0 : 0 < w.length) : ((hmaxK w o w.length : Nat) : Int) = optI false (hgtL w o) := by
  have key : ∀ k, 0 < k → k ≤ w.length → (∃ j, j < k ∧ hmaxK w o k = hgtR w (o.take (w.length - j))) ∧ ∀ j, j < k → hgtR w (o.take (w.length - j)) ≤ hmaxK w o k := by
    intro k
    induction k with
    | zero => intro h; omega
    | succ k ih =>
      intro _ hk
      rw [hmaxK]
      by_cases hk0 : k = 0
      · subst hk0
        refine ⟨⟨0, by omega, by simp [hmaxK]⟩, fun j hj => ?_⟩
        have : j = 0 := by omega
        subst this
        exact Nat.le_max_left _ _
      · obtain ⟨⟨j0, h1, h2⟩, h3⟩ := ih (by omega) (by omega)
        refine ⟨?_, fun j hj => ?_⟩
        · rcases Nat.le_total (hgtR w (o.take (w.length - k))) (hmaxK w o k) with l | l
          · exact ⟨j0, by omega, by rw [Nat.max_eq_right l, h2]⟩
          · exact ⟨k, by omega, Nat.max_eq_left l⟩
        · by_cases e : j = k
          · rw [e]; exact Nat.le_max_left _ _
          · exact Nat.le_trans (h3 j (by omega)) (Nat.le_max_right _ _)
  obtain ⟨⟨j0, h1, h2⟩, h3⟩ := key w.length h0 (Nat.le_refl _)
  have hne : hgtL w o ≠ [] := fun e => by
    have := congrArg List.length e
    rw [hgtL, List.length_map, List.length_range, List.length_nil] at this
    omega
  refine IsOpt.uniq (isl := false) (xs := hgtL w o) ⟨?_, fun x hx => ?_⟩ (optI_spec hne)
  · refine List.mem_map.mpr ⟨w.length - j0 - 1, List.mem_range.mpr (by omega), ?_⟩
    rw [h2, show w.length - j0 - 1 + 1 = w.length - j0 by omega]
  · obtain ⟨i, hi, rfl⟩ := List.mem_map.mp hx
    have hi := List.mem_range.mp hi
    have := h3 (w.length - (i + 1)) (by omega)
    rw [show w.length - (w.length - (i + 1)) = i + 1 by omega] at this
    simp
    exact this
/-- the peak of a web is the least or greatest of the heights of all its right orders -/
theorem pk_rows {w : List Stp} {q isl : Bool} (h0 : 0 < w.length) : pk w q isl 0 [] = optI isl ((rowsN w q w.length).map fun o => optI false (hgtL w o)) := by
  have h := pk_tree (w := w) (q := q) (isl := isl) w.length (row := []) (unsN w 0 + 1) Row.nil (by simp) (by show unsN w 0 < _; omega)
  unfold pk
  rw [rowsN_compl]
  refine Eq.trans h ?_
  refine congrArg (optI isl) (List.map_congr_left fun o _ => hmax_top h0)
theorem pk_none {w : List Stp} {q isl : Bool} (h0 : 0 < w.length) : (0 ≤ pk w q isl 0 []) ↔ rowsN w q w.length ≠ [] := by
  rw [pk_rows h0]
  constructor
  · intro h e
    rw [e] at h
    simp [optI] at h
  · intro h
    have hne : (rowsN w q w.length).map (fun o => optI false (hgtL w o)) ≠ [] := by simpa using h
    obtain ⟨o, _, e⟩ := List.mem_map.mp (optI_spec (isl := isl) hne).1
    rw [← e, ← hmax_top h0]
    omega
end Pz

set_option Elab.async false
set_option linter.all false
set_option maxRecDepth 100000
set_option maxHeartbeats 4000000
/-! Lwv: the order in which a web was woven is one of its right orders. -/
namespace Pz
open PySem PySem.Spec PyProof.Rows L2
def befQ (q : Bool) (o g : Nat) : Prop := if q = true then o < g else g < o
/-- ascending -/
def Asc (xs : List Nat) : Prop := xs.Pairwise fun a b => a ≤ b
theorem wRest_asc {q : Bool} {k : Nat} {pl : List Nat} (h : Asc pl) : Asc (wRest q k pl) := by
  unfold wRest
  split
  · exact List.Pairwise.drop h
  · exact List.Pairwise.take h
/-- what stays lies on the far side of what is taken -/
theorem asc_split {A B : List Nat} (h : Asc (A ++ B)) {x y : Nat} (hx : x ∈ A) (hy : y ∈ B) : x ≤ y := (List.pairwise_append.mp h).2.2 x hx y hy
theorem wRest_far {q : Bool} {k : Nat} {pl : List Nat} (h : Asc pl) {o g : Nat} (hg : g ∈ wTake q k pl) (ho : o ∈ wRest q k pl) (hb : befQ q o g) : False := by
  unfold wTake at hg
  unfold wRest at ho
  unfold befQ at hb
  cases q with
  | true =>
    simp only [if_true] at hg ho hb
    have := asc_split (A := pl.take k) (B := pl.drop k) (by rw [List.take_append_drop]; exact h) hg ho
    omega
  | false =>
    simp only [Bool.false_eq_true, if_false] at hg ho hb
    have := asc_split (A := pl.take (pl.length - k)) (B := pl.drop (pl.length - k)) (by rw [List.take_append_drop]; exact h) ho hg
    omega
structure WovI (q : Bool) (ws : List Stp) (pl : List Nat) : Prop where
  asc : Asc pl
  gone : ∀ (t : Nat) (s : Stp), ws[t]? = some s → ∀ g ∈ s.2, ∀ o : Nat, o < t → befQ q o g → o ∉ pl
  low : ∀ (t : Nat) (s : Stp), ws[t]? = some s → ∀ g ∈ s.2, g < t
  only : ∀ (t : Nat) (s : Stp), ws[t]? = some s → ∀ g ∈ s.2, ∀ o : Nat, o < t → befQ q o g → ∀ (t' : Nat) (s' : Stp), ws[t']? = some s' → o ∈ s'.2 → t' ≤ t
theorem get_snoc {α : Type} {xs : List α} {x y : α} {t : Nat} (e : (xs ++ [x])[t]? = some y) : (t < xs.length ∧ xs[t]? = some y) ∨ (t = xs.length ∧ y = x) := by
  by_cases ht : t < xs.length
  · rw [List.getElem?_append_left ht] at e
    exact .inl ⟨ht, e⟩
  · have hz := (List.getElem?_eq_some_iff.mp e).1
    simp at hz
    have : t = xs.length := by omega
    subst this
    simp at e
    exact .inr ⟨rfl, e.symm⟩
theorem Wov.inv {q : Bool} {ws : List Stp} {pl : List Nat} (h : Wov q ws pl) : WovI q ws pl := by
  induction h with
  | nil => exact ⟨List.Pairwise.nil, fun t s e => by simp at e, fun t s e => by simp at e, fun t s e => by simp at e⟩
  | step h hl hk hp hc ih =>
    rename_i ws pl d is c
    obtain ⟨i1, i2, i3, i4⟩ := ih
    have tk : ∀ g ∈ is, g ∈ wTake q is.length pl := fun g hg => hp.subset hg
    have ltp : ∀ x ∈ pl, x < ws.length := h.lt
    have gone' : ∀ o, o ∉ pl → o ≠ ws.length → o ∉ wRest q is.length pl ++ List.replicate c ws.length := fun o h1 h2 hm => by
      rcases List.mem_append.mp hm with z | z
      · exact h1 (wRest_mem z)
      · exact h2 (List.eq_of_mem_replicate z)
    refine ⟨?_, ?_, ?_, ?_⟩
    · refine List.pairwise_append.mpr ⟨wRest_asc i1, ?_, fun a ha b hb => ?_⟩
      · exact List.pairwise_replicate.mpr (.inr (Nat.le_refl _))
      · have := ltp a (wRest_mem ha)
        rw [List.eq_of_mem_replicate hb]
        omega
    · intro t s e g hg o ho hb
      rcases get_snoc e with ⟨ht, e⟩ | ⟨rfl, rfl⟩
      · exact gone' o (i2 t s e g hg o ho hb) (by omega)
      · intro hm
        rcases List.mem_append.mp hm with z | z
        · exact wRest_far i1 (tk g hg) z hb
        · rw [List.eq_of_mem_replicate z] at ho
          omega
    · intro t s e g hg
      rcases get_snoc e with ⟨ht, e⟩ | ⟨rfl, rfl⟩
      · exact i3 t s e g hg
      · exact ltp g (wTake_mem (tk g hg))
    · intro t s e g hg o ho hb t' s' e' ho'
      rcases get_snoc e with ⟨ht, e⟩ | ⟨rfl, rfl⟩
      · rcases get_snoc e' with ⟨ht', e'⟩ | ⟨rfl, rfl⟩
        · exact i4 t s e g hg o ho hb t' s' e' ho'
        · exact absurd (wTake_mem (tk o ho')) (i2 t s e g hg o ho hb)
      · have := (List.getElem?_eq_some_iff.mp e').1
        simp at this
        omega
/-! all rows: what they are -/
theorem rowsN_iff {w : List Stp} {q : Bool} : ∀ {k : Nat} {r : List Nat}, r ∈ rowsN w q k ↔ r.length = k ∧ Row w r ∧ ∀ i s, r[i]? = some s → mayP w q (r.take i) s
  | 0, r => by
    simp only [rowsN, List.mem_singleton]
    constructor
    · rintro rfl
      exact ⟨rfl, Row.nil, fun i s e => by simp at e⟩
    · rintro ⟨h, _⟩
      exact List.length_eq_zero_iff.mp h
  | k + 1, r => by
    rw [rowsN, stepF, List.mem_flatMap]
    constructor
    · rintro ⟨row, hrow, hr⟩
      obtain ⟨s, hs, rfl⟩ := List.mem_map.mp hr
      obtain ⟨h1, h2, h3⟩ := rowsN_iff.mp hrow
      obtain ⟨_, _, hm⟩ := (extR_mem h2).mp hs
      refine ⟨by simp [h1], h2.ext hs, fun i x e => ?_⟩
      rcases get_snoc e with ⟨ht, e⟩ | ⟨rfl, rfl⟩
      · rw [List.take_append_of_le_length (by omega)]
        exact h3 i x e
      · rw [List.take_left]
        exact hm
    · rintro ⟨h1, h2, h3⟩
      have hne : r ≠ [] := fun z => by rw [z] at h1; simp at h1
      obtain ⟨row, s, rfl⟩ : ∃ row s, r = row ++ [s] := ⟨r.dropLast, r.getLast hne, (List.dropLast_concat_getLast hne).symm⟩
      rw [List.length_append, List.length_singleton] at h1
      have hn := List.nodup_append.mp h2.nd
      have hr : Row w row := ⟨hn.1, fun x hx => h2.lt x (List.mem_append_left _ hx)⟩
      have hs : s ∉ row := fun z => hn.2.2 s z s (by simp) rfl
      refine ⟨row, rowsN_iff.mpr ⟨by omega, hr, fun i x e => ?_⟩, List.mem_map.mpr ⟨s, (extR_mem hr).mpr ⟨h2.lt s (by simp), hs, ?_⟩, rfl⟩⟩
      · have hi := (List.getElem?_eq_some_iff.mp e).1
        have := h3 i x (by rw [List.getElem?_append_left hi]; exact e)
        rwa [List.take_append_of_le_length (by omega)] at this
      · have := h3 row.length s (by simp)
        rwa [List.take_left] at this
/-! the web renumbered -/
theorem bef_rng {k : Nat} {σ : Nat → Nat} (hσ : ∀ i j, i < k → j < k → σ i = σ j → i = j) {o g : Nat} : Bef ((List.range k).map σ) o g → ∃ i j, i < j ∧ j < k ∧ o = σ i ∧ g = σ j := by
  rintro ⟨pre, post, e, ho⟩
  obtain ⟨i, hi, e1⟩ := List.mem_iff_getElem.mp ho
  have hlen := congrArg List.length e
  simp at hlen
  have g1 : ((List.range k).map σ)[pre.length]? = some g := by rw [e]; simp
  have g2 : ((List.range k).map σ)[i]? = some o := by rw [e, List.getElem?_append_left hi, List.getElem?_eq_getElem hi, e1]
  rw [List.getElem?_map, Option.map_eq_some_iff] at g1 g2
  obtain ⟨j, h1, h2⟩ := g1
  obtain ⟨i', h3, h4⟩ := g2
  obtain ⟨_, h1⟩ := List.getElem?_eq_some_iff.mp h1
  obtain ⟨_, h3⟩ := List.getElem?_eq_some_iff.mp h3
  simp at h1 h3
  subst h1 h3
  exact ⟨i, pre.length, hi, by omega, h4.symm, h2.symm⟩
theorem bef_rev2 {M : List Nat} {o g : Nat} (h : Bef M.reverse o g) : Bef M g o := by
  obtain ⟨pre, post, e, ho⟩ := bef_rev h
  obtain ⟨u, v, rfl⟩ := List.append_of_mem ho
  exact ⟨pre ++ g :: u, v, by rw [e]; simp, by simp⟩
theorem woven_row {q : Bool} {ws : List Stp} {pl is : List Nat} (h : Wov q ws pl) (p : is.Perm (List.range ws.length)) : ((List.range ws.length).map fun k => is.idxOf k) ∈ rowsN (renum ws is) q ws.length := by
  have len : is.length = ws.length := by rw [p.length_eq, List.length_range]
  have nd : is.Nodup := p.nodup_iff.mpr List.nodup_range
  have W := Wov.inv h
  have wl : (renum ws is).length = ws.length := by unfold renum; rw [List.length_map, len]
  have mem : ∀ {k}, k ∈ is ↔ k < ws.length := fun {k} => perm_range_mem p
  have σlt : ∀ k, k < ws.length → is.idxOf k < ws.length := fun k hk => by rw [← len]; exact List.idxOf_lt_length_iff.mpr (mem.mpr hk)
  have σget : ∀ k, k < ws.length → is[is.idxOf k]? = some k := fun k hk => by
    have hl := List.idxOf_lt_length_iff.mpr (mem.mpr hk)
    rw [List.getElem?_eq_getElem hl, List.getElem_idxOf]
  have σinj : ∀ i j, i < ws.length → j < ws.length → is.idxOf i = is.idxOf j → i = j := fun i j hi hj e => by
    have h1 := σget i hi
    rw [e, σget j hj] at h1
    exact (Option.some.inj h1).symm
  have stpR : ∀ k, k < ws.length → ∃ s, ws[k]? = some s ∧ (stp (renum ws is) (is.idxOf k)).2 = s.2.map fun one => is.idxOf one := fun k hk => by
    have gt := stp_get hk
    refine ⟨_, gt, ?_⟩
    unfold stp
    unfold renum
    rw [List.getD_eq_getElem?_getD, List.getElem?_map, σget k hk]
    rfl
  -- every number is one's place
  have surj : ∀ t, t < ws.length → ∃ k, k < ws.length ∧ is.idxOf k = t := fun t ht => by
    have ht2 : t < is.length := by omega
    refine ⟨is[t], mem.mp (List.getElem_mem ht2), ?_⟩
    exact nd.idxOf_getElem t ht2
  refine rowsN_iff.mpr ⟨by simp, ⟨?_, fun s hs => ?_⟩, fun i s e => ?_⟩
  · refine List.pairwise_map.mpr (List.Pairwise.imp_of_mem (fun {x y} hx hy hne e => hne ?_) List.nodup_range)
    exact σinj x y (List.mem_range.mp hx) (List.mem_range.mp hy) e
  · obtain ⟨k, hk, rfl⟩ := List.mem_map.mp hs
    rw [wl]
    exact σlt k (List.mem_range.mp hk)
  · rw [List.getElem?_map, Option.map_eq_some_iff] at e
    obtain ⟨k, hk, rfl⟩ := e
    obtain ⟨hi, hk⟩ := List.getElem?_eq_some_iff.mp hk
    simp at hi hk
    subst hk
    have tk : ((List.range ws.length).map fun k => is.idxOf k).take i = (List.range i).map fun k => is.idxOf k := by
      rw [← List.map_take, List.take_range, Nat.min_eq_left (by omega)]
    rw [tk]
    obtain ⟨s, gs, es⟩ := stpR i hi
    have inj' : ∀ a b, a < i → b < i → is.idxOf a = is.idxOf b → a = b := fun a b ha hb => σinj a b (by omega) (by omega)
    refine ⟨fun g hg => ?_, fun g hg o ho t ht => ?_⟩
    · obtain ⟨_, hg⟩ := gvT_mem.mp hg
      rw [es] at hg
      obtain ⟨g', hg', rfl⟩ := List.mem_map.mp hg
      exact List.mem_map.mpr ⟨g', List.mem_range.mpr (W.low i s gs g' hg'), rfl⟩
    · obtain ⟨_, hg⟩ := gvT_mem.mp hg
      rw [es] at hg
      obtain ⟨g', hg', rfl⟩ := List.mem_map.mp hg
      have hgl := W.low i s gs g' hg'
      obtain ⟨o', ho1, ho2, rfl⟩ : ∃ o', o' < i ∧ befQ q o' g' ∧ o = is.idxOf o' := by
        cases q with
        | true =>
          simp only [if_true] at ho
          obtain ⟨a, b, h1, h2, h3, h4⟩ := bef_rng inj' ho
          have := inj' g' b hgl h2 h4
          subst this
          exact ⟨a, by omega, by unfold befQ; simpa using h1, h3⟩
        | false =>
          simp only [Bool.false_eq_true, if_false] at ho
          obtain ⟨a, b, h1, h2, h3, h4⟩ := bef_rng inj' (bef_rev2 ho)
          have := inj' g' a hgl (by omega) h3
          subst this
          exact ⟨b, h2, by unfold befQ; simpa using h1, h4⟩
      obtain ⟨ht1, ht2⟩ := tkT_mem.mp ht
      rw [wl] at ht1
      obtain ⟨t', ht', rfl⟩ := surj t ht1
      obtain ⟨s', gs', es'⟩ := stpR t' ht'
      rw [es'] at ht2
      obtain ⟨o2, ho2', e2⟩ := List.mem_map.mp ht2
      have o2l := W.low t' s' gs' o2 ho2'
      have := σinj o2 o' (by omega) (by omega) e2
      subst this
      have := W.only i s gs g' hg' o2 ho1 ho2 t' s' gs' ho2'
      by_cases z : t' = i
      · left; rw [z]
      · right
        exact List.mem_map.mpr ⟨t', List.mem_range.mpr (by omega), rfl⟩
end Pz

set_option Elab.async false
set_option linter.all false
set_option maxRecDepth 100000
set_option maxHeartbeats 4000000
/-! Lwy: in how many ways a standing can be led to the end. -/
namespace Pz
open PySem PySem.Spec PyProof.Rows L2
def keyWN (d : Nat) (L : List Nat) : NestedKey := .tup [.num (d : Nat), .tup (L.map fun i => NestedKey.num ((i : Nat) : Int))]
theorem keyW_n (d : Nat) (L : List Nat) : nkD (encSt d L) = some (keyWN d L) := by
  simp only [encSt, keyWN, nkD, nkDs, nkDs_encI]
theorem keyW_k (d : Nat) (L : List Nat) : keyN (encSt d L) = some (keyWN d L) := by
  have e := keyW_n d L
  unfold encSt at e ⊢
  unfold keyN
  simp only [e]
  rw [if_pos (by simp [keyWN, NestedKey.depth, NestedKey.depthAll, depth_nums])]
theorem keyWN_inj {d d' : Nat} {L L' : List Nat} (h : keyWN d L = keyWN d' L') : d = d' ∧ L = L' := by
  simp only [keyWN, NestedKey.tup.injEq, List.cons.injEq, NestedKey.num.injEq, and_true] at h
  obtain ⟨h1, h2⟩ := h
  exact ⟨by omega, nums_inj h2⟩
theorem encSt_cl {n d : Nat} {L : List Nat} : clD n (encSt d L) = true := by simp [encSt, clD, clDs, encI_cl]
def wyV (w : List Stp) (q : Bool) : Nat → Nat → List Nat → Nat
  | 0, _, _ => 0
  | k + 1, d, L => if d = 2 ^ w.length - 1 then 1 else ((nxtS w q d L).map fun s => wyV w q k (setB d s) (linS w d L s)).sum
theorem map_congrN {α β : Type} {f g : α → β} {xs : List α} (h : ∀ x ∈ xs, f x = g x) : xs.map f = xs.map g := List.map_congr_left h
theorem wyV_fuel {w : List Stp} {q : Bool} : ∀ (k k' d : Nat) (L : List Nat), unsN w d < k → unsN w d < k' → wyV w q k d L = wyV w q k' d L
  | 0, _, _, _, h, _ => by omega
  | _ + 1, 0, _, _, _, h => by omega
  | k + 1, k' + 1, d, L, h, h' => by
    unfold wyV
    split
    · rfl
    · refine congrArg List.sum (List.map_congr_left fun s hs => ?_)
      obtain ⟨h1, h2⟩ := nxtS_mem hs
      have := unsN_set h1 h2
      rw [wyV_fuel k k' (setB d s) (linS w d L s) (by omega) (by omega)]
def wy (w : List Stp) (q : Bool) (d : Nat) (L : List Nat) : Nat := wyV w q (unsN w d + 1) d L
structure MemoW (w : List Stp) (q : Bool) (kvs : List (Int × D)) : Prop where
  all : ∀ e ∈ kvs, ∃ d L, e.2 = encSt d L ∧ e.1 = (wy w q d L : Nat)
theorem MemoW.nil {w : List Stp} {q : Bool} : MemoW w q [] := ⟨by simp⟩
theorem MemoW.find {w : List Stp} {q : Bool} {kvs : List (Int × D)} (h : MemoW w q kvs) {d : Nat} {L : List Nat} {z : Int} (hz : findN kvs (keyWN d L) = some z) : z = (wy w q d L : Nat) := by
  unfold findN at hz
  rw [Option.map_eq_some_iff] at hz
  obtain ⟨e, h1, rfl⟩ := hz
  obtain ⟨d', L', e1, e2⟩ := h.all e (List.mem_of_find?_eq_some h1)
  have := List.find?_some h1
  simp only [decide_eq_true_eq, e1, keyW_n, Option.some.injEq] at this
  obtain ⟨rfl, rfl⟩ := keyWN_inj this
  exact e2
theorem MemoW.put {w : List Stp} {q : Bool} {kvs : List (Int × D)} (h : MemoW w q kvs) (d : Nat) (L : List Nat) : MemoW w q (putK8 kvs (keyWN d L) (encSt d L) (wy w q d L : Nat)) := by
  refine ⟨fun e he => ?_⟩
  unfold putK8 at he
  split at he
  · obtain ⟨e0, h0, rfl⟩ := List.mem_map.mp he
    obtain ⟨d', L', e1, e2⟩ := h.all e0 h0
    split
    · rename_i hk
      rw [e1, keyW_n, Option.some.injEq] at hk
      obtain ⟨rfl, rfl⟩ := keyWN_inj hk
      exact ⟨_, _, e1, rfl⟩
    · exact ⟨_, _, e1, e2⟩
  · rcases List.mem_append.mp he with z | z
    · exact h.all e z
    · rw [List.mem_singleton.mp z]
      exact ⟨_, _, rfl, rfl⟩
theorem MemoW.cl {w : List Stp} {q : Bool} {kvs : List (Int × D)} (h : MemoW w q kvs) (n : Nat) : clA n kvs = true := by
  obtain ⟨h⟩ := h
  induction kvs with
  | nil => simp [clA]
  | cons e kvs ih =>
    obtain ⟨d, L, e1, _⟩ := h e List.mem_cons_self
    obtain ⟨z, k⟩ := e
    simp only at e1
    subst e1
    simp only [clA, encSt_cl, Bool.true_and]
    exact ih fun x hx => h x (List.mem_cons_of_mem _ hx)
theorem sum_cast (V : Nat → Nat) (N : List Nat) : (N.map fun s => ((V s : Nat) : Int)).sum = (((N.map V).sum : Nat) : Int) := by
  induction N with
  | nil => rfl
  | cons x xs ih => simp [ih]
theorem linS_lt {w : List Stp} {d s : Nat} {L : List Nat} (hL : ∀ g ∈ L, g < w.length) (hs : s < w.length) : ∀ g ∈ linS w d L s, g < w.length := fun g hg => by
  have := (List.mem_filter.mp hg).1
  rcases List.mem_append.mp this with z | z
  · exact hL g z
  · rw [List.mem_singleton.mp z]; exact hs
theorem linS_len {w : List Stp} {d s : Nat} {L : List Nat} : (linS w d L s).length ≤ L.length + 1 := by
  refine Nat.le_trans (List.length_filter_le _ _) ?_
  simp
section
variable {w : List Stp} {q : Bool} {p a b c m : Nat}
theorem ways_ok (hw : Web w) (hl : w.length ≤ 100) : ∀ (k : Nat) {S : Sto} {d : Nat} {L : List Nat} {kvs : List (Int × D)} {P : D → Sto → Prop}, Pas w q p a b c m S → S[c]? = some (.dn kvs) → MemoW w q kvs → (∀ g ∈ L, g < w.length) → L.length + unsN w d ≤ 500 → unsN w d < k → kvs.length + nodeN (unsN w d) ≤ 12000000 →
    (∀ kvs', MemoW w q kvs' → kvs'.length ≤ kvs.length + nodeN (unsN w d) → P (.int (wy w q d L : Nat)) (S.set c (.dn kvs'))) → (F_Passes_ways k [.ref p, .int (d : Nat), .tup (encI L)] S).W P
  | 0, S, d, L, kvs, P, h, hm, hM, hL, hll, hk, hb, hP => by omega
  | k + 1, S, d, L, kvs, P, h, hm, hM, hL, hll, hk, hb, hP => by
    have hml := (List.getElem?_eq_some_iff.mp hm).1
    have same : ∀ kv, S[c]? = some (.dn kv) → S.set c (.dn kv) = S := fun kv e => by
      refine List.ext_getElem? fun i => ?_
      by_cases z : c = i
      · subst z; rw [List.getElem?_set_self hml]; exact e.symm
      · rw [List.getElem?_set_ne z]
    have un1 := nodeN_pos (unsN w d)
    refine W_runF rfl ?_
    have no1 : (pFs w.length q a b c m).lookup ("is_done" : Str) = none := pFs_no (by decide +kernel)
    have no2 : (pFs w.length q a b c m).lookup ("nexts" : Str) = none := pFs_no (by decide +kernel)
    have no3 : (pFs w.length q a b c m).lookup ("ways" : Str) = none := pFs_no (by decide +kernel)
    simp [b_Passes_ways, b_Passes_ways_0, W_eMeth, isIns_ref h.ob no1, is_done_eq h hl]
    by_cases hd : d = 2 ^ w.length - 1
    · rw [if_pos hd]
      have := hP kvs hM (by omega)
      rw [same _ hm] at this
      have e : wy w q d L = 1 := by unfold wy wyV; rw [if_pos hd]
      rw [e] at this
      exact this
    · rw [if_neg hd]
      have ek : D.tup [.int (d : Nat), .tup (encI L)] = encSt d L := rfl
      simp [b_Passes_ways_1]
      rw [oFld_ref h.ob pFs_get.2.2.2.2.1, W_ok]
      rw [ek]
      have dn0 : ∀ {S' : Sto} {kv}, S'[c]? = some (.dn kv) → dnD (.ref c) S' = some kv := fun {S' kv} e => by simp only [dnD, e]
      have nin : oNNin (encSt d L) (.ref c) S = .ok (.bl (!(findN kvs (keyWN d L)).isSome)) S := by simp only [oNNin, dn0 hm, keyW_k]
      rw [nin, W_ok]
      cases hf : findN kvs (keyWN d L) with
      | some z =>
        simp [b_Passes_ways_2]
        rw [oFld_ref h.ob pFs_get.2.2.2.2.1, W_ok, ek]
        have get : oNGet (.ref c) (encSt d L) S = .ok (.int z) S := by simp only [oNGet, dn0 hm, keyW_k, hf]
        rw [get, W_ok, hM.find hf]
        have := hP kvs hM (by omega)
        rw [same _ hm] at this
        simpa using this
      | none =>
        simp [b_Passes_ways_1_0]
        rw [W_eMeth]
        simp only [W_eVs, W_eV0, W_aC, W_aN, isIns_ref h.ob no2, W_ok]
        rw [nexts_eq h hw hl hL (by omega), W_ok]
        obtain ⟨N, hN⟩ : ∃ N, N = nxtS w q d L := ⟨_, rfl⟩
        have hNm : ∀ s ∈ N, s < w.length ∧ d.testBit s = false := fun s hs => nxtS_mem (by rw [← hN]; exact hs)
        have hNl : N.length ≤ unsN w d := by rw [hN]; exact nxtS_len
        rw [← hN]
        obtain ⟨NL, hNL⟩ : ∃ NL : List D, NL = N.map fun s => .tup [.int (s : Nat), encSt (setB d s) (linS w d L s)] := ⟨_, rfl⟩
        rw [← hNL]
        have n1 : (S ++ [Ob.lst NL])[S.length]? = some (.lst NL) := st_get0
        rw [kD_ref n1, W_ok]
        have lnN : NL.length = N.length := by rw [hNL, List.length_map]
        obtain ⟨V, hV⟩ : ∃ V : Nat → Nat, V = fun s => wy w q (setB d s) (linS w d L s) := ⟨_, rfl⟩
        have ul : ∀ s ∈ N, unsN w (setB d s) + 1 ≤ unsN w d := fun s hs => unsN_set (hNm s hs).1 (hNm s hs).2
        have lset : ∀ kv : List (Int × D), (S.set c (.dn kv)).length = S.length := fun kv => by simp
        have g1 : ∀ kv, (S.set c (.dn kv) ++ [Ob.lst NL])[S.length]? = some (.lst NL) := fun kv => by rw [← lset kv]; exact st_get0
        have gm : ∀ kv, (S.set c (.dn kv) ++ [Ob.lst NL])[c]? = some (.dn kv) := fun kv => st_old (by rw [List.getElem?_set_self hml])
        have Pm : ∀ kv, Pas w q p a b c m (S.set c (.dn kv) ++ [Ob.lst NL]) := fun kv => (h.setN hm).app _
        refine ⟨by rw [lnN, sizeLine_eq]; omega, ?_⟩
        obtain ⟨J, hJ⟩ : ∃ J : Nat → List D → Sto → Prop, ∀ i acc S', J i acc S' ↔ ∃ kv, acc = ((N.take i).map fun s => D.int (V s : Nat)) ∧ S' = S.set c (.dn kv) ++ [Ob.lst NL] ∧ MemoW w q kv ∧ kv.length ≤ kvs.length + i * nodeN (unsN w d - 1) := ⟨_, fun _ _ _ => Iff.rfl⟩
        refine W_lcL J _ 0 ((hJ _ _ _).2 ⟨kvs, rfl, by rw [same _ hm], hM, by omega⟩) ?_ ?_
        · intro i x acc S' hx hj
          obtain ⟨kv, rfl, rfl, hMk, hkl⟩ := (hJ _ _ _).1 hj
          rw [Nat.zero_add] at *
          rw [hNL, List.getElem?_map, Option.map_eq_some_iff] at hx
          obtain ⟨s, hs, rfl⟩ := hx
          have hsm := List.mem_of_getElem? hs
          have hil := (List.getElem?_eq_some_iff.mp hs).1
          have us := ul s hsm
          have nm := nodeN_mono (show unsN w (setB d s) ≤ unsN w d - 1 by omega)
          have hu1 : unsN w d = (unsN w d - 1) + 1 := by omega
          have nd : nodeN (unsN w d) = 1 + unsN w d * nodeN (unsN w d - 1) := by
            conv => lhs; rw [hu1]
            rw [nodeN, ← hu1]
          have mul : (i + 1) * nodeN (unsN w d - 1) ≤ unsN w d * nodeN (unsN w d - 1) := Nat.mul_le_mul_right _ (by omega)
          have mul1 : (i + 1) * nodeN (unsN w d - 1) = i * nodeN (unsN w d - 1) + nodeN (unsN w d - 1) := Nat.succ_mul _ _
          refine ⟨by show atGd _ _ _; rw [atGd_iff]; exact g1 _, _, rfl, ?_⟩
          obtain ⟨A, hA⟩ : ∃ A, A = (N.take i).map fun s => D.int (V s : Nat) := ⟨_, rfl⟩
          rw [← hA]
          obtain ⟨S2, hS2⟩ : ∃ S2, S2 = S.set c (.dn kv) ++ [Ob.lst NL] := ⟨_, rfl⟩
          have P2 : Pas w q p a b c m S2 := by rw [hS2]; exact Pm _
          have gm2 : S2[c]? = some (.dn kv) := by rw [hS2]; exact gm _
          rw [← hS2]
          simp [tTrue]
          rw [W_eMeth]
          simp [wipeL, isIns_ref P2.ob no3]
          have := linS_len (w := w) (d := d) (s := s) (L := L)
          refine ways_ok hw hl k (d := setB d s) (L := linS w d L s) P2 gm2 hMk (linS_lt hL (hNm s hsm).1) (by omega) (by omega) (by omega) fun kv' hM' hl' => ?_
          refine (hJ _ _ _).2 ⟨kv', ?_, ?_, hM', by omega⟩
          · rw [List.take_succ, hs, hA, hV]; simp
          · rw [hS2, List.set_append_left _ _ (by simp; omega), List.set_set]
        · intro acc S' hj
          obtain ⟨kv, rfl, rfl, hMk, hkl⟩ := (hJ _ _ _).1 hj
          rw [Nat.zero_add] at *
          change kv.length ≤ kvs.length + NL.length * nodeN (unsN w d - 1) at hkl
          refine ⟨by show atGd _ _ _; rw [atGd_iff]; exact g1 _, ?_⟩
          have tk : N.take NL.length = N := by rw [lnN, List.take_length]
          simp only [tk]
          have vv : wy w q d L = (N.map V).sum := by
            unfold wy
            rw [wyV, if_neg hd, hN]
            refine congrArg List.sum (List.map_congr_left fun s hs => ?_)
            obtain ⟨h1, h2⟩ := nxtS_mem hs
            have := unsN_set h1 h2
            rw [hV]
            simp only [wy]
            rw [wyV_fuel (unsN w d) (unsN w (setB d s) + 1) (setB d s) (linS w d L s) (by omega) (by omega)]
          have kl2 : kv.length + 1 ≤ kvs.length + nodeN (unsN w d) := by
            by_cases hu : unsN w d = 0
            · have : N.length = 0 := by omega
              rw [lnN, this] at hkl
              omega
            · have hu1 : unsN w d = (unsN w d - 1) + 1 := by omega
              have nd : nodeN (unsN w d) = 1 + unsN w d * nodeN (unsN w d - 1) := by
                conv => lhs; rw [hu1]
                rw [nodeN, ← hu1]
              have mul : NL.length * nodeN (unsN w d - 1) ≤ unsN w d * nodeN (unsN w d - 1) := Nat.mul_le_mul_right _ (by omega)
              omega
          obtain ⟨S3, hS3⟩ : ∃ S3, S3 = S.set c (.dn kv) ++ [Ob.lst NL] := ⟨_, rfl⟩
          have qm : S3[c]? = some (.dn kv) := by rw [hS3]; exact gm _
          have P3 : Pas w q p a b c m S3 := by rw [hS3]; exact Pm _
          have s4 : ∀ kv2, S3.set c (.dn kv2) = S.set c (.dn kv2) ++ [Ob.lst NL] := fun kv2 => by
            rw [hS3, List.set_append_left _ _ (by simp; omega), List.set_set]
          rw [← hS3]
          have em : (N.map fun s => D.int (V s : Nat)) = (N.map fun s => ((V s : Nat) : Int)).map .int := by rw [List.map_map]; rfl
          have es : ∀ (ns : List Int) (S : Sto), oSum (ns.map .int) S = .ok (.int ns.sum) S := fun ns S => by simp only [oSum, intsD_map]
          have e2 : (N.map fun s => ((V s : Nat) : Int)).sum = ((wy w q d L : Nat) : Int) := by
            rw [vv]
            exact sum_cast V N
          have e3 : oSum (N.map fun s => D.int (V s : Nat)) S3 = .ok (.int ((wy w q d L : Nat) : Int)) S3 := by rw [em, es, e2]
          simp [e3]
          rw [b_Passes_ways_1_1, W_sNPut]
          simp
          rw [oFld_ref P3.ob pFs_get.2.2.2.2.1, W_ok, ek]
          obtain ⟨kv2, hkv2⟩ : ∃ kv2, kv2 = putK8 kv (keyWN d L) (encSt d L) (wy w q d L : Nat) := ⟨_, rfl⟩
          have put : oNPut (.int (wy w q d L : Nat)) (.ref c) (encSt d L) S3 = some (S3.set c (.dn kv2)) := by
            rw [hkv2]
            simp only [oNPut, keyW_k, qm]
            rw [if_pos (by omega)]
          have M2 : MemoW w q kv2 := by rw [hkv2]; exact hMk.put d L
          have l2 : kv2.length ≤ kvs.length + nodeN (unsN w d) := by
            have := putK8_len (kvs := kv) (k := keyWN d L) (d := encSt d L) (z := (wy w q d L : Nat))
            rw [← hkv2] at this
            omega
          refine ⟨_, put, ?_⟩
          have P4 : Pas w q p a b c m (S3.set c (.dn kv2)) := P3.setN qm
          have q4 : (S3.set c (.dn kv2))[c]? = some (.dn kv2) := List.getElem?_set_self (List.getElem?_eq_some_iff.mp qm).1
          have get : oNGet (.ref c) (encSt d L) (S3.set c (.dn kv2)) = .ok (.int (wy w q d L : Nat)) (S3.set c (.dn kv2)) := by
            have : findN kv2 (keyWN d L) = some ((wy w q d L : Nat) : Int) := by rw [hkv2]; exact putK8_find (keyW_n d L)
            simp only [oNGet, dn0 q4, keyW_k, this]
          simp [b_Passes_ways_2]
          rw [oFld_ref P4.ob pFs_get.2.2.2.2.1, W_ok, ek, get, W_ok]
          have old : Old S (S3.set c (.dn kv2)) := by
            intro i o hi ho
            by_cases z : c = i
            · subst z
              rw [q4] at ho
              cases ho
              exact .inr (by simp only [clO]; exact M2.cl _)
            · rw [s4, List.getElem?_append_left (by simpa using hi), List.getElem?_set_ne z] at ho
              exact .inl ho
          rw [gc_cut old (by simp [clD]), W_ok]
          have tk2 : (S3.set c (.dn kv2)).take S.length = S.set c (.dn kv2) := by
            rw [s4]
            have : S.length = (S.set c (.dn kv2)).length := by simp
            rw [this, List.take_left]
          rw [tk2]
          exact hP kv2 M2 l2
end
end Pz

set_option Elab.async false
set_option linter.all false
set_option maxRecDepth 100000
set_option maxHeartbeats 4000000
/-! Lpn: a new object of Passes; the peak of a web. -/
namespace Pz
open PySem PySem.Spec PyProof.Rows L2
def tkTl (ts : List (Nat × Nat)) (g : Nat) : List Nat := (ts.filter fun p => decide (p.1 = g)).map (·.2)
def gvTl (ts : List (Nat × Nat)) (t : Nat) : List Nat := (ts.filter fun p => decide (p.2 = t)).map (·.1)
theorem tkTl_snoc {ts : List (Nat × Nat)} {g0 t0 g : Nat} : tkTl (ts ++ [(g0, t0)]) g = if g0 = g then tkTl ts g ++ [t0] else tkTl ts g := by
  unfold tkTl
  rw [List.filter_append, List.map_append]
  by_cases e : g0 = g <;> simp [e]
theorem gvTl_snoc {ts : List (Nat × Nat)} {g0 t0 t : Nat} : gvTl (ts ++ [(g0, t0)]) t = if t0 = t then gvTl ts t ++ [g0] else gvTl ts t := by
  unfold gvTl
  rw [List.filter_append, List.map_append]
  by_cases e : t0 = t <;> simp [e]
theorem pf1 {n : Nat} : putFD "many" (.int (n : Nat)) [] = [(("many" : Str), D.int (n : Nat))] := rfl
theorem pf2 {n : Nat} {q : Bool} : putFD "is_queue" (.bl q) [(("many" : Str), D.int (n : Nat))] = [(("many" : Str), D.int (n : Nat)), (("is_queue" : Str), D.bl q)] := by
  have e : ¬ (("many" : Str) = "is_queue") := by decide +kernel
  simp [putFD, e]
theorem pf3 {n : Nat} {q : Bool} {a : Nat} : putFD "uses" (.ref a) [(("many" : Str), D.int (n : Nat)), (("is_queue" : Str), D.bl q)] = [(("many" : Str), D.int (n : Nat)), (("is_queue" : Str), D.bl q), (("uses" : Str), D.ref a)] := by
  have e1 : ¬ (("many" : Str) = "uses") := by decide +kernel
  have e2 : ¬ (("is_queue" : Str) = "uses") := by decide +kernel
  simp [putFD, e1, e2]
theorem pf4 {n : Nat} {q : Bool} {a b : Nat} : putFD "wants" (.ref b) [(("many" : Str), D.int (n : Nat)), (("is_queue" : Str), D.bl q), (("uses" : Str), D.ref a)] = [(("many" : Str), D.int (n : Nat)), (("is_queue" : Str), D.bl q), (("uses" : Str), D.ref a), (("wants" : Str), D.ref b)] := by
  have e1 : ¬ (("many" : Str) = "wants") := by decide +kernel
  have e2 : ¬ (("is_queue" : Str) = "wants") := by decide +kernel
  have e3 : ¬ (("uses" : Str) = "wants") := by decide +kernel
  simp [putFD, e1, e2, e3]
theorem pf5 {n : Nat} {q : Bool} {a b c : Nat} : putFD "known" (.ref c) [(("many" : Str), D.int (n : Nat)), (("is_queue" : Str), D.bl q), (("uses" : Str), D.ref a), (("wants" : Str), D.ref b)] = [(("many" : Str), D.int (n : Nat)), (("is_queue" : Str), D.bl q), (("uses" : Str), D.ref a), (("wants" : Str), D.ref b), (("known" : Str), D.ref c)] := by
  have e1 : ¬ (("many" : Str) = "known") := by decide +kernel
  have e2 : ¬ (("is_queue" : Str) = "known") := by decide +kernel
  have e3 : ¬ (("uses" : Str) = "known") := by decide +kernel
  have e4 : ¬ (("wants" : Str) = "known") := by decide +kernel
  simp [putFD, e1, e2, e3, e4]
theorem pf6 {n : Nat} {q : Bool} {a b c d : Nat} : putFD "peaks" (.ref d) [(("many" : Str), D.int (n : Nat)), (("is_queue" : Str), D.bl q), (("uses" : Str), D.ref a), (("wants" : Str), D.ref b), (("known" : Str), D.ref c)] = pFs n q a b c d := by
  have e1 : ¬ (("many" : Str) = "peaks") := by decide +kernel
  have e2 : ¬ (("is_queue" : Str) = "peaks") := by decide +kernel
  have e3 : ¬ (("uses" : Str) = "peaks") := by decide +kernel
  have e4 : ¬ (("wants" : Str) = "peaks") := by decide +kernel
  have e5 : ¬ (("known" : Str) = "peaks") := by decide +kernel
  simp [putFD, pFs, e1, e2, e3, e4, e5]
theorem lk3 {n : Nat} {q : Bool} {a b : Nat} : ([(("many" : Str), D.int (n : Nat)), (("is_queue" : Str), D.bl q), (("uses" : Str), D.ref a), (("wants" : Str), D.ref b)] : List (Str × D)).lookup ("uses" : Str) = some (.ref a) ∧ ([(("many" : Str), D.int (n : Nat)), (("is_queue" : Str), D.bl q), (("uses" : Str), D.ref a), (("wants" : Str), D.ref b)] : List (Str × D)).lookup ("wants" : Str) = some (.ref b) := by
  have k2 : (("uses" : Str) == "many") = false := by decide +kernel
  have k3 : (("uses" : Str) == "is_queue") = false := by decide +kernel
  have k4 : (("wants" : Str) == "many") = false := by decide +kernel
  have k5 : (("wants" : Str) == "is_queue") = false := by decide +kernel
  have k6 : (("wants" : Str) == "uses") = false := by decide +kernel
  simp [List.lookup, k2, k3, k4, k5, k6]
section
variable {S : Sto} {w : List Stp} {q : Bool}
theorem new_dicts {l : Loc} {P : LV → Sto → Prop} {wd : D} (h1 : l[1]? = some (some (encW w))) (hl : w.length ≤ 1000) (hP : P (.tmp ((List.range w.length).map fun i => .ref (S.length + i))) (S ++ List.replicate w.length (.dk []))) : (lComp [6] (iE (eV 1)) (.nm 6) tTrue eDk0 l S).W P := by
  rw [W_lComp, W_iE, W_eV]
  refine ⟨_, h1, ?_⟩
  have kw : kD (encW w) S = .ok ⟨w.map encS, noGd⟩ S := rfl
  rw [kw, W_ok]
  refine ⟨by simp [sizeLine]; omega, ?_⟩
  obtain ⟨J, hJ⟩ : ∃ J : Nat → List D → Sto → Prop, ∀ k acc S', J k acc S' ↔ acc = (List.range k).map (fun i => .ref (S.length + i)) ∧ S' = S ++ List.replicate k (.dk []) := ⟨_, fun _ _ _ => Iff.rfl⟩
  refine W_lcL J _ 0 ((hJ _ _ _).2 ⟨rfl, by simp⟩) (fun i d acc S' hd q => ?_) fun acc S' q => ?_
  · obtain ⟨rfl, rfl⟩ := (hJ _ _ _).1 q
    rw [Nat.zero_add] at *
    refine ⟨trivial, _, rfl, ?_⟩
    simp
    rw [hJ]
    refine ⟨by simp [List.range_succ], by rw [← List.replicate_succ']⟩
  · obtain ⟨rfl, rfl⟩ := (hJ _ _ _).1 q
    refine ⟨trivial, ?_⟩
    rw [List.length_map, Nat.zero_add]
    exact hP
theorem passes_init (hw : Web w) (hl : w.length ≤ 100) {P : D → Sto → Prop} (hP : ∀ a b c m G, Pas w q S.length a b c m (S ++ G) → (S ++ G)[c]? = some (.dn []) → (S ++ G)[m]? = some (.dn []) → S.length < c → S.length < m → P .non (S ++ G)) : (F_Passes_init [.ref S.length, encW w, .bl q] (S ++ [Ob.ins "Passes" []])).W P := by
  refine W_runF rfl ?_
  have lenw : ∀ S, qD (encW w) S = .ok (w.map encS) S := fun S => qD_tup
  obtain ⟨n, hn⟩ : ∃ n, n = w.length := ⟨_, rfl⟩
  have n0 : (S ++ [Ob.ins "Passes" []])[S.length]? = some (.ins "Passes" []) := by simp
  simp [b_Passes_init, b_Passes_init_0, W_sSetF, lenw]
  refine ⟨_, oSetF_ref n0 (by simp), ?_⟩
  rw [pf1]
  simp [b_Passes_init_1, W_sSetF]
  refine ⟨_, oSetF_ref (fs := [(("many" : Str), D.int (w.length : Nat))]) (by simp) (by simp), ?_⟩
  rw [pf2]
  simp [b_Passes_init_2, W_sSetF, -W_lComp]
  obtain ⟨S1, hS1⟩ : ∃ S1, S1 = S ++ [Ob.ins "Passes" [(("many" : Str), D.int (w.length : Nat)), (("is_queue" : Str), D.bl q)]] := ⟨_, rfl⟩
  have l1 : S1.length = S.length + 1 := by rw [hS1]; simp
  rw [← hS1]
  refine new_dicts (wd := .non) rfl (by omega) ?_
  simp
  have p2 : (S1 ++ (List.replicate w.length (Ob.dk []) ++ [Ob.lst ((List.range w.length).map fun i => .ref (S1.length + i))]))[S.length]? = some (.ins "Passes" [(("many" : Str), D.int (w.length : Nat)), (("is_queue" : Str), D.bl q)]) := st_old (by rw [hS1]; simp)
  refine ⟨_, oSetF_ref p2 (by simp), ?_⟩
  rw [pf3]
  simp [b_Passes_init_3, W_sSetF, -W_lComp]
  obtain ⟨S2, hS2⟩ : ∃ S2, S2 = (S1 ++ (List.replicate w.length (Ob.dk []) ++ [Ob.lst ((List.range w.length).map fun i => .ref (S1.length + i))])).set S.length (.ins "Passes" [(("many" : Str), D.int (w.length : Nat)), (("is_queue" : Str), D.bl q), (("uses" : Str), D.ref (S1.length + w.length))]) := ⟨_, rfl⟩
  have l2 : S2.length = S.length + 1 + w.length + 1 := by rw [hS2]; simp; omega
  have a2 : S2[S1.length + w.length]? = some (.lst ((List.range w.length).map fun i => .ref (S1.length + i))) := by
    rw [hS2, List.getElem?_set_ne (by omega), st_get, List.getElem?_append_right (by simp)]; simp
  have u2 : ∀ g, g < w.length → S2[S1.length + g]? = some (.dk []) := fun g hg => by
    rw [hS2, List.getElem?_set_ne (by omega), st_get, List.getElem?_append_left (by simpa using hg)]
    simp [hg]
  have o2 : S2[S.length]? = some (.ins "Passes" [(("many" : Str), D.int (w.length : Nat)), (("is_queue" : Str), D.bl q), (("uses" : Str), D.ref (S1.length + w.length))]) := by
    rw [hS2, List.getElem?_set_self (by simp; omega)]
  have pr2 : ∃ G, S2 = S ++ G := ⟨[Ob.ins "Passes" [(("many" : Str), D.int (w.length : Nat)), (("is_queue" : Str), D.bl q), (("uses" : Str), D.ref (S1.length + w.length))]] ++ (List.replicate w.length (Ob.dk []) ++ [Ob.lst ((List.range w.length).map fun i => .ref (S1.length + i))]), by
    rw [hS2, hS1, List.append_assoc, st_set0]; rfl⟩
  rw [← hS2]
  refine new_dicts (wd := .non) rfl (by omega) ?_
  simp
  refine ⟨_, oSetF_ref (st_old o2) (by simp), ?_⟩
  rw [pf4]
  obtain ⟨S3, hS3⟩ : ∃ S3, S3 = (S2 ++ (List.replicate w.length (Ob.dk []) ++ [Ob.lst ((List.range w.length).map fun i => .ref (S2.length + i))])).set S.length (.ins "Passes" [(("many" : Str), D.int (w.length : Nat)), (("is_queue" : Str), D.bl q), (("uses" : Str), D.ref (S1.length + w.length)), (("wants" : Str), D.ref (S2.length + w.length))]) := ⟨_, rfl⟩
  have l3 : S3.length = S2.length + w.length + 1 := by rw [hS3]; simp; omega
  have b3 : S3[S2.length + w.length]? = some (.lst ((List.range w.length).map fun i => .ref (S2.length + i))) := by
    rw [hS3, List.getElem?_set_ne (by omega), st_get, List.getElem?_append_right (by simp)]; simp
  have v3 : ∀ g, g < w.length → S3[S2.length + g]? = some (.dk []) := fun g hg => by
    rw [hS3, List.getElem?_set_ne (by omega), st_get, List.getElem?_append_left (by simpa using hg)]
    simp [hg]
  have a3 : S3[S1.length + w.length]? = some (.lst ((List.range w.length).map fun i => .ref (S1.length + i))) := by
    rw [hS3, List.getElem?_set_ne (by omega)]; exact st_old a2
  have u3 : ∀ g, g < w.length → S3[S1.length + g]? = some (.dk []) := fun g hg => by
    rw [hS3, List.getElem?_set_ne (by omega)]; exact st_old (u2 g hg)
  have o3 : S3[S.length]? = some (.ins "Passes" [(("many" : Str), D.int (w.length : Nat)), (("is_queue" : Str), D.bl q), (("uses" : Str), D.ref (S1.length + w.length)), (("wants" : Str), D.ref (S2.length + w.length))]) := by
    rw [hS3, List.getElem?_set_self (by simp; omega)]
  have pr3 : ∃ G, S3 = S ++ G := by
    obtain ⟨G, hG⟩ := pr2
    refine ⟨(G ++ (List.replicate w.length (Ob.dk []) ++ [Ob.lst ((List.range w.length).map fun i => .ref (S2.length + i))])).set 0 (.ins "Passes" [(("many" : Str), D.int (w.length : Nat)), (("is_queue" : Str), D.bl q), (("uses" : Str), D.ref (S1.length + w.length)), (("wants" : Str), D.ref (S2.length + w.length))]), ?_⟩
    rw [hS3]
    conv => lhs; rw [hG]
    rw [List.append_assoc, st_set0]
    rw [← hG]
  rw [← hS3]
  clear hS3 hS2 n0 p2
  obtain ⟨F4, hF4⟩ : ∃ F4, F4 = [(("many" : Str), D.int (w.length : Nat)), (("is_queue" : Str), D.bl q), (("uses" : Str), D.ref (S1.length + w.length)), (("wants" : Str), D.ref (S2.length + w.length))] := ⟨_, rfl⟩
  have k1 : F4.lookup ("uses" : Str) = some (.ref (S1.length + w.length)) := by rw [hF4]; exact lk3.1
  have k2 : F4.lookup ("wants" : Str) = some (.ref (S2.length + w.length)) := by rw [hF4]; exact lk3.2
  rw [← hF4] at o3
  have tl : ((tieS w).map encT).length = (tieP w).length := by simp [tieP]
  have ixg : ∀ {B g : Nat}, g < w.length → L2.atI ((List.range w.length).map fun i => D.ref (B + i)) ((g : Nat) : Int) = some (.ref (B + g)) := fun {B g} hg => by
    rw [atI_nat, List.getElem?_map, List.getElem?_range hg]; rfl
  simp [b_Passes_init_4, ties_eq hw (by omega)]
  obtain ⟨I, hI⟩ : ∃ I : Nat → Loc → Sto → Prop, ∀ i l S', I i l S' ↔ ∃ (v3 v4 v5 : Option D), l = [some (.ref S.length), some (encW w), some (.bl q), v3, v4, v5, none] ∧ (∃ G, S' = S ++ G) ∧ S'.length = S3.length ∧ S'[S.length]? = some (.ins "Passes" F4) ∧
      S'[S1.length + w.length]? = some (.lst ((List.range w.length).map fun i => .ref (S1.length + i))) ∧ S'[S2.length + w.length]? = some (.lst ((List.range w.length).map fun i => .ref (S2.length + i))) ∧
      (∀ g, g < w.length → S'[S1.length + g]? = some (.dk (encF (cntF (tkTl ((tieP w).take i) g))))) ∧ (∀ t, t < w.length → S'[S2.length + t]? = some (.dk (encF (cntF (gvTl ((tieP w).take i) t))))) := ⟨_, fun _ _ _ => Iff.rfl⟩
  refine W_forL I _ 0 ((hI _ _ _).2 ⟨none, none, none, rfl, pr3, rfl, o3, a3, b3, fun g hg => by rw [u3 g hg]; rfl, fun g hg => by rw [v3 g hg]; rfl⟩) (fun i x l S' hx q1 => ?_) fun l S' q1 => ?_
  · obtain ⟨v3, v4, v5, rfl, ⟨G, hG⟩, hlen, ho, ha, hb, hu, hv⟩ := (hI _ _ _).1 q1
    rw [Nat.zero_add] at *
    rw [List.getElem?_map, Option.map_eq_some_iff] at hx
    obtain ⟨t0, ht0, rfl⟩ := hx
    obtain ⟨t, pl, h1, h2, el⟩ := tieS_mem.mp (List.mem_of_getElem? ht0)
    have hgm : (stp w t).2.getD pl 0 ∈ (stp w t).2 := by
      rw [List.getD_eq_getElem?_getD, List.getElem?_eq_getElem h2]
      exact List.getElem_mem h2
    have hgl : (stp w t).2.getD pl 0 < w.length := (hw.ok _ (List.mem_of_getElem? (stp_get h1))).2 _ hgm
    generalize (stp w t).2.getD pl 0 = g at *
    have hp : (tieP w)[i]? = some (g, t) := by
      unfold tieP
      rw [List.getElem?_map, ht0, el]
      simp [List.getD]
    have tk : (tieP w).take (i + 1) = (tieP w).take i ++ [(g, t)] := by rw [List.take_add_one, hp]; rfl
    subst el
    refine ⟨trivial, _, rfl, ?_⟩
    have lenc : ∀ xs : List Nat, xs.length ≤ 300 → (cntF xs).length < 1000 := fun xs hx => by have := cntF_len xs; omega
    have ln1 : (tkTl ((tieP w).take i) g).length ≤ 300 := by
      unfold tkTl
      rw [List.length_map]
      have := List.length_filter_le (fun p : Nat × Nat => decide (p.1 = g)) ((tieP w).take i)
      rw [List.length_take] at this
      have := tieP_len hw
      omega
    have ln2 : (gvTl ((tieP w).take i) t).length ≤ 300 := by
      unfold gvTl
      rw [List.length_map]
      have := List.length_filter_le (fun p : Nat × Nat => decide (p.2 = t)) ((tieP w).take i)
      rw [List.length_take] at this
      have := tieP_len hw
      omega
    have hug := hu g hgl
    have hvt := hv t h1
    simp [b_Passes_init_4_0, W_sDPut]
    refine W_eDGet2 ?_
    simp only [W_e2, W_e1, W_eVs, W_eV0, W_eC]
    rw [oFld_ref ho k1, W_ok, oIx_ref ha (ixg hgl), W_ok]
    refine ⟨_, dkD_ref hug, ?_⟩
    rw [oDGet2_enc hug, W_ok, oAdd_int, W_ok]
    rw [oFld_ref ho k1, W_ok, oIx_ref ha (ixg hgl), W_ok]
    refine ⟨_, oDPut_enc hug (lenc _ ln1), ?_⟩
    obtain ⟨S5, hS5⟩ : ∃ S5, S5 = S'.set (S1.length + g) (.dk (encF (putN (cntF (tkTl ((tieP w).take i) g)) t ((getN (cntF (tkTl ((tieP w).take i) g)) t).getD 0 + 1)))) := ⟨_, rfl⟩
    have ne5 : ∀ j, j ≠ S1.length + g → S5[j]? = S'[j]? := fun j hj => by rw [hS5, List.getElem?_set_ne (Ne.symm hj)]
    have self5 : S5[S1.length + g]? = some (.dk (encF (cntF (tkTl ((tieP w).take (i + 1)) g)))) := by
      rw [hS5, List.getElem?_set_self (List.getElem?_eq_some_iff.mp hug).1, tk, tkTl_snoc, if_pos rfl, cntF_snoc]
      rfl
    have len5 : S5.length = S'.length := by rw [hS5]; simp
    have pr5 : ∃ G, S5 = S ++ G := ⟨G.set (S1.length + g - S.length) _, by rw [hS5]; conv => lhs; rw [hG]
                                                                           rw [List.set_append_right _ _ (by omega)]⟩
    rw [← hS5]
    have ho5 : S5[S.length]? = some (.ins "Passes" F4) := by rw [ne5 _ (by omega)]; exact ho
    have hb5 : S5[S2.length + w.length]? = some (.lst ((List.range w.length).map fun i => .ref (S2.length + i))) := by rw [ne5 _ (by omega)]; exact hb
    have ha5 : S5[S1.length + w.length]? = some (.lst ((List.range w.length).map fun i => .ref (S1.length + i))) := by rw [ne5 _ (by omega)]; exact ha
    have hvt5 : S5[S2.length + t]? = some (.dk (encF (cntF (gvTl ((tieP w).take i) t)))) := by rw [ne5 _ (by omega)]; exact hvt
    simp [b_Passes_init_4_1, W_sDPut]
    refine W_eDGet2 ?_
    simp only [W_e2, W_e1, W_eVs, W_eV0, W_eC]
    rw [oFld_ref ho5 k2, W_ok, oIx_ref hb5 (ixg h1), W_ok]
    refine ⟨_, dkD_ref hvt5, ?_⟩
    rw [oDGet2_enc hvt5, W_ok, oAdd_int, W_ok]
    rw [oFld_ref ho5 k2, W_ok, oIx_ref hb5 (ixg h1), W_ok]
    refine ⟨_, oDPut_enc hvt5 (lenc _ ln2), ?_⟩
    obtain ⟨S6, hS6⟩ : ∃ S6, S6 = S5.set (S2.length + t) (.dk (encF (putN (cntF (gvTl ((tieP w).take i) t)) g ((getN (cntF (gvTl ((tieP w).take i) t)) g).getD 0 + 1)))) := ⟨_, rfl⟩
    have ne6 : ∀ j, j ≠ S2.length + t → S6[j]? = S5[j]? := fun j hj => by rw [hS6, List.getElem?_set_ne (Ne.symm hj)]
    have self6 : S6[S2.length + t]? = some (.dk (encF (cntF (gvTl ((tieP w).take (i + 1)) t)))) := by
      rw [hS6, List.getElem?_set_self (List.getElem?_eq_some_iff.mp hvt5).1, tk, gvTl_snoc, if_pos rfl, cntF_snoc]
      rfl
    have pr6 : ∃ G, S6 = S ++ G := by
      obtain ⟨G5, hG5⟩ := pr5
      exact ⟨G5.set (S2.length + t - S.length) _, by rw [hS6]; conv => lhs; rw [hG5]
                                                     rw [List.set_append_right _ _ (by omega)]⟩
    rw [← hS6]
    refine (hI _ _ _).2 ⟨_, _, _, rfl, pr6, by rw [hS6, List.length_set, len5, hlen], by rw [ne6 _ (by omega)]; exact ho5, by rw [ne6 _ (by omega)]; exact ha5, by rw [ne6 _ (by omega)]; exact hb5, fun g' hg' => ?_, fun t' ht' => ?_⟩
    · rw [ne6 _ (by omega)]
      by_cases e : g' = g
      · rw [e]; exact self5
      · rw [ne5 _ (by omega), hu g' hg', tk, tkTl_snoc, if_neg (fun z => e z.symm)]
    · by_cases e : t' = t
      · rw [e]; exact self6
      · rw [ne6 _ (by omega), ne5 _ (by omega), hv t' ht', tk, gvTl_snoc, if_neg (fun z => e z.symm)]
  · obtain ⟨v3, v4, v5, rfl, ⟨G, hG⟩, hlen, ho, ha, hb, hu, hv⟩ := (hI _ _ _).1 q1
    rw [Nat.zero_add, tl, List.take_length] at hu hv
    refine ⟨trivial, ?_⟩
    rw [hF4] at ho
    simp [b_Passes_init_5, W_sSetF, eDn0]
    have ho1 : (S' ++ [Ob.dn []])[S.length]? = _ := st_old ho
    refine ⟨_, oSetF_ref ho1 (by simp), ?_⟩
    rw [pf5]
    simp [b_Passes_init_6, W_sSetF, eDn0]
    have hp' := (List.getElem?_eq_some_iff.mp ho).1
    obtain ⟨S7, hS7⟩ : ∃ S7, S7 = (S' ++ [Ob.dn []]).set S.length (.ins "Passes" [(("many" : Str), D.int (w.length : Nat)), (("is_queue" : Str), D.bl q), (("uses" : Str), D.ref (S1.length + w.length)), (("wants" : Str), D.ref (S2.length + w.length)), (("known" : Str), D.ref S'.length)]) := ⟨_, rfl⟩
    have l7 : S7.length = S'.length + 1 := by rw [hS7]; simp
    have o7 : S7[S.length]? = some (.ins "Passes" [(("many" : Str), D.int (w.length : Nat)), (("is_queue" : Str), D.bl q), (("uses" : Str), D.ref (S1.length + w.length)), (("wants" : Str), D.ref (S2.length + w.length)), (("known" : Str), D.ref S'.length)]) := by rw [hS7, List.getElem?_set_self (by simp; omega)]
    have ne7 : ∀ j o, j ≠ S.length → S'[j]? = some o → S7[j]? = some o := fun j o hj h => by rw [hS7, List.getElem?_set_ne (Ne.symm hj)]; exact st_old h
    have c7 : S7[S'.length]? = some (.dn []) := by rw [hS7, List.getElem?_set_ne (by omega)]; exact st_get0
    have pr7 : ∃ G, S7 = S ++ G := ⟨(G ++ [Ob.dn []]).set 0 _, by
      rw [hS7]
      conv => lhs; rw [hG]
      rw [List.append_assoc, st_set0, ← hG]⟩
    rw [← hS7]
    refine ⟨_, oSetF_ref (st_old o7) (by simp), ?_⟩
    rw [pf6]
    obtain ⟨S8, hS8⟩ : ∃ S8, S8 = (S7 ++ [Ob.dn []]).set S.length (.ins "Passes" (pFs w.length q (S1.length + w.length) (S2.length + w.length) S'.length (S'.length + 1))) := ⟨_, rfl⟩
    have o8 : S8[S.length]? = some (.ins "Passes" (pFs w.length q (S1.length + w.length) (S2.length + w.length) S'.length (S'.length + 1))) := by rw [hS8, List.getElem?_set_self (by simp; omega)]
    have ne8 : ∀ j o, j ≠ S.length → S7[j]? = some o → S8[j]? = some o := fun j o hj h => by rw [hS8, List.getElem?_set_ne (Ne.symm hj)]; exact st_old h
    have m8 : S8[S'.length + 1]? = some (.dn []) := by rw [hS8, List.getElem?_set_ne (by omega), ← l7]; exact st_get0
    have pr8 : ∃ G, S8 = S ++ G := by
      obtain ⟨G7, hG7⟩ := pr7
      refine ⟨(G7 ++ [Ob.dn []]).set 0 (.ins "Passes" (pFs w.length q (S1.length + w.length) (S2.length + w.length) S'.length (S'.length + 1))), ?_⟩
      rw [hS8]
      conv => lhs; rw [hG7]
      rw [List.append_assoc, st_set0]
    rw [← hS8]
    rw [gc_new, W_ok]
    · have key := fun j o (hj : j ≠ S.length) (h : S'[j]? = some o) => ne8 j o hj (ne7 j o hj h)
      obtain ⟨G8, hG8⟩ := pr8
      rw [hG8] at o8 key m8 ⊢
      have c8 : (S ++ G8)[S'.length]? = some (.dn []) := by rw [← hG8]; exact ne8 _ _ (by omega) c7
      refine hP (S1.length + w.length) (S2.length + w.length) S'.length (S'.length + 1) G8 ⟨o8, ⟨(List.range w.length).map fun i => S1.length + i, by simp, ?_, fun g r hr => ?_⟩, (List.range w.length).map fun i => S2.length + i, by simp, ?_, fun g r hr => ?_⟩ c8 m8 (by omega) (by omega)
      · rw [List.map_map]; exact key _ _ (by omega) ha
      · rw [List.getElem?_map, Option.map_eq_some_iff] at hr
        obtain ⟨i, hi, rfl⟩ := hr
        have hgl := (List.getElem?_eq_some_iff.mp hi).1
        rw [List.length_range] at hgl
        rw [List.getElem?_range hgl] at hi
        cases hi
        exact key _ _ (by omega) (hu g hgl)
      · rw [List.map_map]; exact key _ _ (by omega) hb
      · rw [List.getElem?_map, Option.map_eq_some_iff] at hr
        obtain ⟨i, hi, rfl⟩ := hr
        have hgl := (List.getElem?_eq_some_iff.mp hi).1
        rw [List.length_range] at hgl
        rw [List.getElem?_range hgl] at hi
        cases hi
        exact key _ _ (by omega) (hv g hgl)
    · intro o
      rcases o S.length _ (by simp) o8 with e | e
      · simp [pFs] at e
      · simp [clO, clA, pFs, clD] at e
        omega
theorem unsN_zero (w : List Stp) : unsN w 0 = w.length := by
  unfold unsN
  rw [List.filter_eq_self.mpr (fun t _ => by simp), List.length_range]
end
end Pz

set_option Elab.async false
set_option linter.all false
set_option maxRecDepth 100000
set_option maxHeartbeats 4000000
/-! Pw20: how long the parts of a text are, and of which signs. -/
namespace Pz
open PySem PySem.Spec PyProof.Rows L2
theorem spl_sum (T : List Nat) : ∀ (k : Nat) (acc l : List Nat), ((TL.spl T k acc l).map List.length).sum ≤ acc.length + l.length
  | k, acc, [] => by rw [TL.spl_nil]; simp
  | 0, acc, c :: r => by
    unfold TL.spl
    split
    · have := spl_sum T (T.length - 1) [] r
      simp at this ⊢; omega
    · have := spl_sum T 0 (acc ++ [c]) r; simp at this ⊢; omega
  | k + 1, acc, c :: r => by
    unfold TL.spl
    have := spl_sum T k acc r; simp at this ⊢; omega
theorem spl_mem (T : List Nat) : ∀ (k : Nat) (acc l : List Nat), ∀ p ∈ TL.spl T k acc l, ∀ c ∈ p, c ∈ acc ∨ c ∈ l
  | k, acc, [] => fun p hp c hc => by rw [TL.spl_nil, List.mem_singleton] at hp; subst hp; exact .inl hc
  | 0, acc, a :: r => fun p hp c hc => by
    unfold TL.spl at hp
    split at hp
    · rcases List.mem_cons.mp hp with q | q
      · subst q; exact .inl hc
      · rcases spl_mem T _ [] r p q c hc with z | z
        · cases z
        · exact .inr (List.mem_cons_of_mem _ z)
    · rcases spl_mem T 0 (acc ++ [a]) r p hp c hc with z | z
      · rcases List.mem_append.mp z with z | z
        · exact .inl z
        · exact .inr (by rw [List.mem_singleton.mp z]; exact List.mem_cons_self)
      · exact .inr (List.mem_cons_of_mem _ z)
  | k + 1, acc, a :: r => fun p hp c hc => by
    unfold TL.spl at hp
    rcases spl_mem T k acc r p hp c hc with z | z
    · exact .inl z
    · exact .inr (List.mem_cons_of_mem _ z)
theorem split_sum {x y : Str} (hy : y.cps.toList ≠ []) (hk : y.cps.all (· < 256) = true) : ((Txt.split x y).map (·.length)).sum ≤ x.length := by
  have e := TL.split_spl x y hy (TL.kind_ok hk)
  have := spl_sum y.cps.toList 0 [] x.cps.toList
  rw [← e, List.map_map] at this
  have e2 : (Txt.split x y).map (·.length) = (Txt.split x y).map (List.length ∘ fun s : Str => s.cps.toList) := List.map_congr_left fun s _ => len_toList s
  rw [e2, len_toList]
  simpa using this
theorem split_mem {x y : Str} (hy : y.cps.toList ≠ []) (hk : y.cps.all (· < 256) = true) {s : Str} (hs : s ∈ Txt.split x y) {c : Nat} (hc : c ∈ s.cps.toList) : c ∈ x.cps.toList := by
  have e := TL.split_spl x y hy (TL.kind_ok hk)
  have hm : s.cps.toList ∈ TL.spl y.cps.toList 0 [] x.cps.toList := by rw [← e]; exact List.mem_map.mpr ⟨s, hs, rfl⟩
  rcases spl_mem _ _ _ _ _ hm c hc with q | q
  · cases q
  · exact q
theorem cutS_len {z : Str} {i j : Option Int} : (cutS z i j).length ≤ z.length ∧ ∀ c ∈ (cutS z i j).cps.toList, c ∈ z.cps.toList := by
  unfold cutS
  constructor
  · rw [len_toList, len_toList z]
    simp
    omega
  · intro c hc
    exact List.mem_of_mem_drop (List.mem_of_mem_take (by simpa using hc))
theorem app_len {x y : Str} : (x ++ y).length = x.length + y.length ∧ (x ++ y).cps.toList = x.cps.toList ++ y.cps.toList := by
  have e0 : (x ++ y).cps = x.cps ++ y.cps := rfl
  have e : (x ++ y).cps.toList = x.cps.toList ++ y.cps.toList := by rw [e0, Array.toList_append]
  exact ⟨by rw [len_toList, len_toList x, len_toList y, e, List.length_append], e⟩
end Pz

set_option Elab.async false
set_option linter.all false
set_option maxRecDepth 100000
set_option maxHeartbeats 4000000
/-! Pw21: generators up to their first item, reckoned. -/
namespace Pz
open PySem PySem.Spec PyProof.Rows L2
section
variable {N : Loc → Sto → Prop} {R : D → Sto → Prop} {B C : Loc → Sto → Prop} {l : Loc} {S : Sto} {f g u : FS} {n nl : Nat} {b : FS} {ds : List D}
@[simp] theorem W_sPl : (sPl f l S).W N R B C ↔ (f l S).W N (fun _ _ => False) B C := by
  unfold sPl
  cases f l S <;> with_unfolding_all exact Iff.rfl
theorem W_noNx {o : OutS} : (noNx o).W N R B C ↔ o.W (fun _ _ => False) R N (fun _ _ => False) := by
  unfold noNx
  cases o <;> with_unfolding_all exact Iff.rfl
theorem W_runG (hl : ds.length = n) (h : (b (ds.map some ++ List.replicate (nl - n) none) S).W (fun _ S' => (gc S .non S').W fun _ S1 => N [] S1) (fun d S' => (gc S d S').W R) (fun _ _ => False) (fun _ _ => False)) : (runG n nl b ds S).W N R B C := by
  unfold runG
  rw [if_pos hl]
  cases e : b (ds.map some ++ List.replicate (nl - n) none) S with
  | rt d S' =>
    rw [e] at h
    have h : (gc S d S').W R := by with_unfolding_all exact h
    show (toS [] (gc S d S') fun d1 S1 => .rt d1 S1).W N R B C
    rw [W_toS]
    refine h.mono fun d1 S1 q => ?_
    with_unfolding_all exact q
  | nx l' S' =>
    rw [e] at h
    have h : (gc S .non S').W fun _ S1 => N [] S1 := by with_unfolding_all exact h
    show (toS [] (gc S .non S') fun _ S1 => .nx [] S1).W N R B C
    rw [W_toS]
    refine h.mono fun d1 S1 q => ?_
    with_unfolding_all exact q
  | bk l' S' => rw [e] at h; with_unfolding_all exact h
  | ct l' S' => rw [e] at h; with_unfolding_all exact h
  | ex => rw [e] at h; with_unfolding_all exact h
  | bad => rw [e] at h; with_unfolding_all exact h
theorem W_sForF {Cn nm : Str} {F : List D → Sto → OutS} {f : FE} {t : Tg} : (sForF Cn nm F f t u l S).W N R B C ↔ (f l S).W fun x S1 => (isIns Cn nm x S1).W fun _ _ => (F [x] S1).W (fun _ S2 => N l S2) (fun d S2 => ∃ l1, t.put d l = some l1 ∧ (u l1 S2).W (fun _ _ => False) R N (fun _ _ => False)) (fun _ _ => False) (fun _ _ => False) := by
  unfold sForF
  rw [W_toS]
  refine iff_of_eq (congrArg _ (funext fun x => funext fun S1 => ?_))
  rw [W_toS]
  refine congrArg _ (funext fun _ => funext fun _ => ?_)
  cases F [x] S1 with
  | rt d S2 =>
    cases e : t.put d l with
    | none => with_unfolding_all simp [OutS.W, e]
    | some l1 =>
      have : ((noNx (u l1 S2)).W N R B C) = ((u l1 S2).W (fun _ _ => False) R N (fun _ _ => False)) := propext W_noNx
      with_unfolding_all simp [OutS.W, e]
      with_unfolding_all exact Iff.of_eq this
  | nx l2 S2 => with_unfolding_all rfl
  | bk l2 S2 => with_unfolding_all rfl
  | ct l2 S2 => with_unfolding_all rfl
  | ex => with_unfolding_all rfl
  | bad => with_unfolding_all rfl
end
end Pz

set_option Elab.async false
set_option linter.all false
set_option maxRecDepth 100000
set_option maxHeartbeats 4000000
/-! Lor: the first order that a generator of orders hands out. -/
namespace Pz
open PySem PySem.Spec PyProof.Rows L2
theorem wyV_compl {w : List Stp} {q : Bool} : ∀ (k f : Nat) {row : List Nat}, Row w row → row.length + k = w.length → unsN w (bmR row) < f → wyV w q f (bmR row) (lnR w row) = (compl w q k row).length
  | _, 0, _, _, _, h => by omega
  | 0, f + 1, row, hr, hk, hf => by
    unfold wyV
    rw [if_pos (hr.done.mpr (by omega))]
    rfl
  | k + 1, f + 1, row, hr, hk, hf => by
    unfold wyV
    rw [if_neg (fun z => by have := hr.done.mp z; omega), compl, List.length_flatMap]
    refine congrArg List.sum (List.map_congr_left fun s hs => ?_)
    have hs2 : s ∈ extR w q row := hs
    obtain ⟨h1, h2⟩ := nxtS_mem hs
    have := unsN_set h1 h2
    rw [linS_row, ← bmR_snoc]
    rw [← bmR_snoc] at this
    exact wyV_compl k f (hr.ext hs2) (by simp; omega) (by omega)
theorem wy_compl {w : List Stp} {q : Bool} {k : Nat} {row : List Nat} (hr : Row w row) (hk : row.length + k = w.length) : wy w q (bmR row) (lnR w row) = (compl w q k row).length := wyV_compl k _ hr hk (Nat.lt_succ_self _)
theorem wy_rows {w : List Stp} {q : Bool} : wy w q 0 [] = (rowsN w q w.length).length := by
  rw [rowsN_compl]
  exact wy_compl (w := w) (q := q) Row.nil (by simp)
def budN : Nat → Nat
  | 0 => 0
  | j + 1 => budN j + (j + 1) * nodeN j
theorem budN_mono : ∀ {u v : Nat}, u ≤ v → budN u ≤ budN v := by
  intro u v h
  induction h with
  | refl => exact Nat.le_refl _
  | step _ ih => exact Nat.le_trans ih (Nat.le_add_right _ _)
def encE (w : List Stp) (row : List Nat) : D := .tup [.tup (encI row), encSt (bmR row) (lnR w row)]
theorem st3_get {A G : Sto} {x : Ob} {n : Nat} (h : A.length = n) : (A ++ [x] ++ G)[n]? = some x := st_old (by rw [← h]; exact st_get0)
theorem st3_set {A G : Sto} {x y : Ob} {n : Nat} (h : A.length = n) : (A ++ [x] ++ G).set n y = A ++ [y] ++ G := by
  subst h
  rw [List.set_append_left _ _ (by simp), st_set0]
  rfl
theorem lnR_lt {w : List Stp} {row : List Nat} (h : Row w row) : ∀ g ∈ lnR w row, g < w.length := fun g hg => h.lt g (List.mem_filter.mp hg).1
theorem lnR_len {w : List Stp} {row : List Nat} : (lnR w row).length ≤ row.length := List.length_filter_le _ _
theorem head_flat {α β : Type} {f : α → List β} : ∀ {xs : List α}, (xs.flatMap f).head? = (match xs.filter fun x => decide (0 < (f x).length) with
    | [] => none
    | x :: _ => (f x).head?)
  | [] => rfl
  | x :: xs => by
    rw [List.flatMap_cons, List.filter_cons]
    cases e : f x with
    | nil =>
      simp only [List.length_nil, Nat.lt_irrefl, decide_false, Bool.false_eq_true, if_false, List.nil_append]
      exact head_flat
    | cons y ys => simp [e]
section
variable {w : List Stp} {q : Bool} {p a b c m : Nat} {S : Sto} {N : Loc → Sto → Prop} {R : D → Sto → Prop} {B C : Loc → Sto → Prop}
theorem orders_ok (hw : Web w) (hl : w.length ≤ 10) (h : Pas w q p a b c m S) (hc : S[c]? = some (.dn []))
    (hY : ∀ kv r, MemoW w q kv → (rowsN w q w.length).head? = some r → R (.tup (encI r)) (S.set c (.dn kv)))
    (hE : ∀ kv, MemoW w q kv → rowsN w q w.length = [] → N [] (S.set c (.dn kv))) : (F_Passes_orders [.ref p] S).W N R B C := by
  have hcl := (List.getElem?_eq_some_iff.mp hc).1
  have no1 : (pFs w.length q a b c m).lookup ("is_done" : Str) = none := pFs_no (by decide +kernel)
  have no2 : (pFs w.length q a b c m).lookup ("nexts" : Str) = none := pFs_no (by decide +kernel)
  have no3 : (pFs w.length q a b c m).lookup ("ways" : Str) = none := pFs_no (by decide +kernel)
  have bud : budN w.length ≤ 11000000 := Nat.le_trans (budN_mono hl) (by decide +kernel)
  refine W_runG rfl ?_
  simp [b_Passes_orders, b_Passes_orders_0]
  have Sl : ∀ kv : List (Int × D), (S.set c (.dn kv)).length = S.length := fun kv => by simp
  have same : S.set c (.dn []) = S := by
    refine List.ext_getElem? fun i => ?_
    by_cases z : c = i
    · subst z; rw [List.getElem?_set_self hcl]; exact hc.symm
    · rw [List.getElem?_set_ne z]
  have PasK : ∀ kv G, Pas w q p a b c m (S.set c (.dn kv) ++ G) := fun kv G => (h.setN hc).app G
  have getC : ∀ kv G, (S.set c (.dn kv) ++ G)[c]? = some (.dn kv) := fun kv G => st_old (by rw [List.getElem?_set_self hcl])
  have setC : ∀ kv kv2 G, (S.set c (.dn kv) ++ G).set c (.dn kv2) = S.set c (.dn kv2) ++ G := fun kv kv2 G => by
    rw [List.set_append_left _ _ (by simp; omega), List.set_set]
  have endG : ∀ kv G, MemoW w q kv → Old S (S.set c (.dn kv) ++ G) := fun kv G hM i o hi ho => by
    rw [List.getElem?_append_left (by simpa using hi)] at ho
    by_cases z : c = i
    · subst z
      rw [List.getElem?_set_self hcl] at ho
      cases ho
      exact .inr (by simp only [clO]; exact hM.cl _)
    · rw [List.getElem?_set_ne z] at ho
      exact .inl ho
  have tkG : ∀ kv (G : Sto), (S.set c (.dn kv) ++ G).take S.length = S.set c (.dn kv) := fun kv G => by
    rw [← Sl kv, List.take_left]
  obtain ⟨I, hI⟩ : ∃ I : Nat → Loc → Sto → Prop, ∀ k l S', I k l S' ↔ ∃ (v2 v3 v4 v5 v6 v7 v8 : Option D) (kv : List (Int × D)) (wl : List D) (G : Sto), l = [some (.ref p), some (.ref S.length), v2, v3, v4, v5, v6, v7, v8] ∧ S' = S.set c (.dn kv) ++ [.lst wl] ++ G ∧ MemoW w q kv ∧
      ((wl = [] ∧ rowsN w q w.length = []) ∨ ∃ X row, wl = X ++ [encE w row] ∧ Row w row ∧ k = w.length - row.length + 1 ∧ (compl w q (w.length - row.length) row).head? = (rowsN w q w.length).head? ∧ ((row = [] ∧ X = []) ∨ compl w q (w.length - row.length) row ≠ []) ∧ X.length ≤ row.length * w.length ∧ kv.length + budN (w.length - row.length) ≤ budN w.length) := ⟨_, fun _ _ _ => Iff.rfl⟩
  simp [b_Passes_orders_1]
  refine W_while I (k := w.length + 1) (by omega) ((hI _ _ _).2 ⟨none, none, none, none, none, none, none, [], _, [], rfl, by rw [same]; simp; rfl, MemoW.nil, .inr ⟨[], [], by simp [encE, bmR, lnR, encI, encSt], Row.nil, by simp, by rw [rowsN_compl]; simp, .inl ⟨rfl, rfl⟩, by simp, by simp⟩⟩) ?_
  intro k l S' hi
  obtain ⟨v2, v3, v4, v5, v6, v7, v8, kv, wl, G, rfl, hS', hM, hcase⟩ := (hI _ _ _).1 hi
  have P1 : Pas w q p a b c m S' := by rw [hS', List.append_assoc]; exact PasK _ _
  have g1 : S'[S.length]? = some (.lst wl) := by rw [hS']; exact st3_get (Sl _)
  have e1 := sD_ref g1
  simp [e1]
  rcases hcase with ⟨rfl, hnone⟩ | ⟨X, row, rfl, hr, hk, hhead, hne, hX, hbud⟩
  · simp
    rw [hS', List.append_assoc, gc_cut (endG _ _ hM) (by simp [clD]), W_ok, tkG]
    exact hE kv hM hnone
  · simp
    simp [b_Passes_orders_1_0]
    rw [W_isL g1, oPop_ref g1, W_ok]
    obtain ⟨S1, hS1⟩ : ∃ S1, S1 = S.set c (.dn kv) ++ [Ob.lst X] ++ G := ⟨_, rfl⟩
    have es1 : S'.set S.length (.lst X) = S1 := by rw [hS1, hS']; exact st3_set (Sl _)
    have P2 : Pas w q p a b c m S1 := by rw [hS1, List.append_assoc]; exact PasK _ _
    have g2 : S1[S.length]? = some (.lst X) := by rw [hS1]; exact st3_get (Sl _)
    rw [es1]
    have rl := hr.len
    refine ⟨_, rfl, ?_⟩
    simp [b_Passes_orders_1_1, W_eMeth, isIns_ref P2.ob no1, is_done_eq P2 (Nat.le_trans hl (by omega))]
    by_cases hd : bmR row = 2 ^ w.length - 1
    · rw [if_pos hd]
      have hlen := hr.done.mp hd
      rw [hS1, List.append_assoc, gc_cut (endG _ _ hM) (by simp [clD, encI_cl]), W_ok, tkG]
      refine hY kv row hM ?_
      rw [← hhead, hlen, Nat.sub_self]
      rfl
    · rw [if_neg hd]
      have hlt : row.length < w.length := Nat.lt_of_le_of_ne rl fun z => hd (hr.done.mpr z)
      obtain ⟨r, hrr⟩ : ∃ r, w.length - row.length = r + 1 := ⟨w.length - row.length - 1, by omega⟩
      rw [hrr] at hhead hbud hne
      have Ll := lnR_len (w := w) (row := row)
      simp [b_Passes_orders_1_1_e0, W_eMeth, isIns_ref P2.ob no2]
      rw [nexts_eq P2 hw (by omega) (lnR_lt hr) (by omega), W_ok]
      obtain ⟨Ns, hNs⟩ : ∃ Ns, Ns = extR w q row := ⟨_, rfl⟩
      have hNs2 : nxtS w q (bmR row) (lnR w row) = Ns := hNs.symm
      rw [hNs2]
      have hmem : ∀ s ∈ Ns, Row w (row ++ [s]) := fun s hs => hr.ext (by rw [← hNs]; exact hs)
      have hNl : Ns.length ≤ w.length - row.length := by
        have := nxtS_len (w := w) (q := q) (d := bmR row) (L := lnR w row)
        have := unsN_row hr
        rw [← hNs2]; omega
      obtain ⟨enc, henc⟩ : ∃ enc : Nat → D, enc = fun s => .tup [.int (s : Nat), encSt (bmR (row ++ [s])) (lnR w (row ++ [s]))] := ⟨_, rfl⟩
      have eNL : (Ns.map fun s => D.tup [.int (s : Nat), encSt (setB (bmR row) s) (linS w (bmR row) (lnR w row) s)]) = Ns.map enc := by
        rw [henc]
        refine List.map_congr_left fun s _ => ?_
        rw [linS_row, bmR_snoc]
      rw [eNL]
      have n1 : (S1 ++ [Ob.lst (Ns.map enc)])[S1.length]? = some (.lst (Ns.map enc)) := st_get0
      rw [kD_ref n1, W_ok]
      refine ⟨by simp [sizeLine_eq]; omega, ?_⟩
      obtain ⟨J, hJ⟩ : ∃ J : Nat → List D → Sto → Prop, ∀ i acc S', J i acc S' ↔ ∃ kv2, acc = (((Ns.take i).filter fun s => decide (0 < (compl w q r (row ++ [s])).length)).map enc) ∧ S' = S.set c (.dn kv2) ++ ([Ob.lst X] ++ G ++ [.lst (Ns.map enc)]) ∧ MemoW w q kv2 ∧ kv2.length ≤ kv.length + i * nodeN r := ⟨_, fun _ _ _ => Iff.rfl⟩
      have gN : ∀ kv2, (S.set c (.dn kv2) ++ ([Ob.lst X] ++ G ++ [.lst (Ns.map enc)]))[S1.length]? = some (.lst (Ns.map enc)) := fun kv2 => by
        have : S1.length = (S.set c (.dn kv2) ++ ([Ob.lst X] ++ G)).length := by rw [hS1]; simp
        rw [this, ← List.append_assoc]
        exact st_get0
      refine W_lcL J _ 0 ((hJ _ _ _).2 ⟨kv, by simp, by rw [hS1]; simp, hM, by omega⟩) ?_ ?_
      · intro i x acc S2 hx hj
        obtain ⟨kv2, rfl, hS2, hM2, hk2⟩ := (hJ _ _ _).1 hj
        rw [Nat.zero_add] at *
        rw [List.getElem?_map, Option.map_eq_some_iff] at hx
        obtain ⟨s, hs, rfl⟩ := hx
        have hsm := List.mem_of_getElem? hs
        have hil := (List.getElem?_eq_some_iff.mp hs).1
        have rs := hmem s hsm
        have us : unsN w (bmR (row ++ [s])) ≤ r := by
          have := unsN_row rs
          rw [List.length_append, List.length_singleton] at this
          omega
        have nm := nodeN_mono us
        have P3 : Pas w q p a b c m S2 := by rw [hS2]; exact PasK _ _
        have gc2 : S2[c]? = some (.dn kv2) := by rw [hS2]; exact getC _ _
        refine ⟨by show atGd _ _ _; rw [atGd_iff, hS2]; exact gN _, _, rfl, ?_⟩
        have mul : (i + 1) * nodeN r ≤ (r + 1) * nodeN r := Nat.mul_le_mul_right _ (by omega)
        have mul1 : (i + 1) * nodeN r = i * nodeN r + nodeN r := Nat.succ_mul _ _
        have bu : budN (r + 1) = budN r + (r + 1) * nodeN r := rfl
        have Ll2 := lnR_len (w := w) (row := row ++ [s])
        rw [List.length_append, List.length_singleton] at Ll2
        rw [henc]
        have i1 : ∀ (x y : D) (T : Sto), oIx (.tup [x, y]) (.int 1) T = .ok y T := fun x y T => oIx_tup rfl
        have i0 : ∀ (x y : D) (T : Sto), oIx (.tup [x, y]) (.int 0) T = .ok x T := fun x y T => oIx_tup rfl
        simp [wipeL, W_eMeth, isIns_ref P3.ob no3, encSt, i0, i1]
        refine ways_ok hw (by omega) 12 (d := bmR (row ++ [s])) (L := lnR w (row ++ [s])) P3 gc2 hM2 (lnR_lt rs) (by omega) (by omega) (by omega) fun kv3 hM3 hl3 => ?_
        rw [wy_compl (k := r) rs (by simp; omega)]
        have tk : (Ns.take (i + 1)) = Ns.take i ++ [s] := by rw [List.take_succ, hs]; rfl
        have e3 : S2.set c (.dn kv3) = S.set c (.dn kv3) ++ ([Ob.lst X] ++ G ++ [.lst (Ns.map enc)]) := by rw [hS2]; exact setC _ _ _
        rw [e3]
        by_cases hp : 0 < (compl w q r (row ++ [s])).length
        · simp [hp]
          refine (hJ _ _ _).2 ⟨kv3, ?_, rfl, hM3, by omega⟩
          rw [tk, List.filter_append, List.map_append]
          simp [hp, henc, encSt]
        · simp [hp]
          refine (hJ _ _ _).2 ⟨kv3, ?_, rfl, hM3, by omega⟩
          rw [tk, List.filter_append, List.map_append]
          simp [hp, henc, encSt]
      · intro acc S2 hj
        obtain ⟨kv2, rfl, hS2, hM2, hk2⟩ := (hJ _ _ _).1 hj
        rw [Nat.zero_add] at *
        change kv2.length ≤ kv.length + (Ns.map enc).length * nodeN r at hk2
        refine ⟨by show atGd _ _ _; rw [atGd_iff, hS2]; exact gN _, ?_⟩
        have tk : Ns.take (Ns.map enc).length = Ns := by rw [List.length_map, List.take_length]
        simp only [tk]
        obtain ⟨So, hSo⟩ : ∃ So, So = Ns.filter fun s => decide (0 < (compl w q r (row ++ [s])).length) := ⟨_, rfl⟩
        rw [← hSo]
        have hSol : So.length ≤ w.length := by
          have := List.length_filter_le (fun s => decide (0 < (compl w q r (row ++ [s])).length)) Ns
          rw [← hSo] at this; omega
        simp only [oeL_tmp, W_ok]
        simp [b_Passes_orders_1_1_e1]
        obtain ⟨S3, hS3⟩ : ∃ S3, S3 = S2 ++ [Ob.lst (So.map enc)] := ⟨_, rfl⟩
        have g3 : S3[S.length]? = some (.lst X) := by rw [hS3, hS2, ← List.append_assoc, ← List.append_assoc]; exact st_old (st_old (st3_get (Sl _)))
        have h3 : S3[S2.length]? = some (.lst (So.map enc)) := by rw [hS3]; exact st_get0
        rw [← hS3]
        refine W_eExt (n := S.length) ?_
        simp [g3]
        have er : oRev (.ref S2.length) S3 = .ok (.ref S3.length) (S3 ++ [.lst (So.map enc).reverse]) := by simp only [oRev, h3]
        rw [er, W_ok]
        have n4 : (S3 ++ [Ob.lst (So.map enc).reverse])[S3.length]? = some (.lst (So.map enc).reverse) := st_get0
        rw [kD_ref n4, W_ok]
        refine ⟨by simp [sizeLine_eq]; omega, ?_⟩
        rw [← List.map_reverse] at n4 ⊢
        refine W_lcT enc (fun s => encE w (row ++ [s])) (bs := So.reverse) (atGd_iff.2 n4) (fun s hs => ⟨_, by rw [henc]; rfl, ?_⟩) ?_
        · have es : encI (row ++ [s]) = encI row ++ [.int s] := by simp [encI]
          have el : (encI row).length + [D.int (s : Nat)].length ≤ sizeLine := by simp [encI, sizeLine_eq]; omega
          simp [wipeL, encE, encSt, es, oAdd_tup el]
        · obtain ⟨ys, hys⟩ : ∃ ys, ys = So.reverse.map fun s => encE w (row ++ [s]) := ⟨_, rfl⟩
          rw [← hys]
          have hyl : ys.length = So.length := by rw [hys]; simp
          have g5 : (S3 ++ [Ob.lst (So.reverse.map enc)])[S.length]? = some (.lst X) := st_old g3
          have hXl : X.length ≤ 100 := Nat.le_trans hX (Nat.mul_le_mul (show row.length ≤ 10 by omega) hl)
          refine ⟨X, g5, ys, rfl, by rw [sizeLine_eq]; omega, ?_⟩
          refine ⟨k - 1, by omega, (hI _ _ _).2 ⟨_, _, _, _, _, _, _, kv2, X ++ ys, G ++ [.lst (Ns.map enc)] ++ [.lst (So.map enc)] ++ [.lst (So.reverse.map enc)], rfl, ?_, hM2, ?_⟩⟩
          · have : S3 ++ [Ob.lst (So.reverse.map enc)] = S.set c (.dn kv2) ++ [Ob.lst X] ++ (G ++ [.lst (Ns.map enc)] ++ [.lst (So.map enc)] ++ [.lst (So.reverse.map enc)]) := by
              rw [hS3, hS2]; simp
            rw [this, st3_set (Sl _)]
          · have hcm : compl w q (r + 1) row = Ns.flatMap fun s => compl w q r (row ++ [s]) := by rw [hNs]; rfl
            have hh := head_flat (f := fun s => compl w q r (row ++ [s])) (xs := Ns)
            rw [← hcm, ← hSo] at hh
            cases hSc : So with
            | nil =>
              rw [hSc] at hh
              have hh : (compl w q (r + 1) row).head? = none := hh
              have hcn : compl w q (r + 1) row = [] := by simpa using hh
              rcases hne with ⟨hr0, hX0⟩ | hne
              · refine .inl ⟨?_, ?_⟩
                · rw [hX0, hys, hSc]; rfl
                · rw [hhead] at hh
                  simpa using hh
              · exact absurd hcn hne
            | cons s0 rest =>
              rw [hSc] at hh
              have hh : (compl w q (r + 1) row).head? = (compl w q r (row ++ [s0])).head? := hh
              have s0m : s0 ∈ So := by rw [hSc]; exact List.mem_cons_self
              have s0f := List.mem_filter.mp (by rw [← hSo]; exact s0m : s0 ∈ Ns.filter fun s => decide (0 < (compl w q r (row ++ [s])).length))
              have rs := hmem s0 s0f.1
              have hlen : (row ++ [s0]).length = row.length + 1 := by simp
              have hr2 : w.length - (row ++ [s0]).length = r := by omega
              refine .inr ⟨X ++ rest.reverse.map fun s => encE w (row ++ [s]), row ++ [s0], ?_, rs, by omega, ?_, ?_, ?_, ?_⟩
              · rw [hys, hSc]; simp
              · rw [hr2, ← hh, hhead]
              · right
                rw [hr2]
                intro z
                have := s0f.2
                rw [z] at this
                simp at this
              · rw [List.length_append, List.length_map, List.length_reverse, hlen, Nat.succ_mul]
                have : rest.length + 1 = So.length := by rw [hSc]; rfl
                omega
              · rw [hr2]
                have bu : budN (r + 1) = budN r + (r + 1) * nodeN r := rfl
                rw [List.length_map] at hk2
                have mul : Ns.length * nodeN r ≤ (r + 1) * nodeN r := Nat.mul_le_mul_right _ (by omega)
                omega
theorem first_ok (hw : Web w) (hl : w.length ≤ 10) (h : Pas w q p a b c m S) (hc : S[c]? = some (.dn [])) {P : D → Sto → Prop}
    (hP : ∀ kv, MemoW w q kv → P (match (rowsN w q w.length).head? with | some r => .tup (encI r) | none => .non) (S.set c (.dn kv))) : (F_Passes_first_order [.ref p] S).W P := by
  have hcl := (List.getElem?_eq_some_iff.mp hc).1
  have no1 : (pFs w.length q a b c m).lookup ("orders" : Str) = none := pFs_no (by decide +kernel)
  have old : ∀ kv, MemoW w q kv → Old S (S.set c (.dn kv)) := fun kv hM i o hi ho => by
    by_cases z : c = i
    · subst z
      rw [List.getElem?_set_self hcl] at ho
      cases ho
      exact .inr (by simp only [clO]; exact hM.cl _)
    · rw [List.getElem?_set_ne z] at ho
      exact .inl ho
  have tk : ∀ kv : List (Int × D), (S.set c (.dn kv)).take S.length = S.set c (.dn kv) := fun kv => List.take_of_length_le (by simp)
  refine W_runF rfl ?_
  simp [b_Passes_first_order, b_Passes_first_order_0]
  rw [W_sForF]
  simp [isIns_ref h.ob no1]
  refine orders_ok hw hl h hc (fun kv r hM hr => ⟨_, rfl, ?_⟩) (fun kv hM hr => ?_)
  · simp
    rw [gc_cut (old kv hM) (by simp [clD, encI_cl]), W_ok, tk]
    have := hP kv hM
    rw [hr] at this
    exact this
  · simp [b_Passes_first_order_1]
    rw [gc_cut (old kv hM) (by simp [clD]), W_ok, tk]
    have := hP kv hM
    rw [hr] at this
    exact this
end
end Pz

set_option Elab.async false
set_option linter.all false
set_option maxRecDepth 100000
set_option maxHeartbeats 4000000
/-! Lof: order_of. -/
namespace Pz
open PySem PySem.Spec PyProof.Rows L2
def optR (o : Option (List Nat)) : D := match o with
  | some r => .tup (encI r)
  | none => .non
section
variable {w : List Stp} {S : Sto}
theorem order_of_eq (hw : Web w) (hl : w.length ≤ 10) : F_order_of [encW w] S = .ok (optR (rowsN w false w.length).head?) S := by
  refine eq_Wf (F := F_order_of) fun P hP => ?_
  refine W_runF rfl ?_
  simp [b_order_of, b_order_of_0]
  rw [W_eMeth, W_eMk]
  simp only [W_aC, W_aN, W_eVs, W_eV0, W_eC]
  rw [W_oMk]
  refine passes_init hw (by omega) fun a b c m G h hc hm lc lm => ⟨rfl, ?_⟩
  have no3 : (pFs w.length false a b c m).lookup ("first_order" : Str) = none := pFs_no (by decide +kernel)
  simp only [isIns_ref h.ob no3, W_ok, W_aN]
  refine first_ok hw hl h hc fun kv hM => ?_
  have es : (S ++ G).set c (.dn kv) = S ++ G.set (c - S.length) (.dn kv) := by rw [List.set_append_right _ _ (by omega)]
  rw [es]
  cases e : (rowsN w false w.length).head? with
  | some r =>
    rw [e] at hP
    simp only
    rw [gc_tmp (by simp [clD, encI_cl]), W_ok]
    exact hP
  | none =>
    rw [e] at hP
    simp only
    rw [gc_tmp (by simp [clD]), W_ok]
    exact hP
end
end Pz

set_option Elab.async false
set_option linter.all false
set_option maxRecDepth 100000
set_option maxHeartbeats 4000000
/-! Pw13: the law's programs as data. -/
namespace Pz
open PySem PySem.Spec PyProof.Rows L2
def insU (w : List Stp) (n : Nat) : List (List Int) := ((List.range n).map fun t => (List.range (stp w t).2.length).map fun p => [((t : Nat) : Int), ((p : Nat) : Int)]).flatten
theorem insU_succ {w : List Stp} {n : Nat} : insU w (n + 1) = insU w n ++ (List.range (stp w n).2.length).map fun p => [((n : Nat) : Int), ((p : Nat) : Int)] := by simp [insU, List.range_succ]
theorem insU_mem {w : List Stp} {n : Nat} {l : List Int} : l ∈ insU w n ↔ ∃ t p, t < n ∧ p < (stp w t).2.length ∧ l = [((t : Nat) : Int), ((p : Nat) : Int)] := by
  simp only [insU, List.mem_flatten, List.mem_map, List.mem_range]
  constructor
  · rintro ⟨_, ⟨t, ht, rfl⟩, h⟩
    obtain ⟨p, hp, rfl⟩ := List.mem_map.mp h
    exact ⟨t, p, ht, List.mem_range.mp hp, rfl⟩
  · rintro ⟨t, p, ht, hp, rfl⟩
    exact ⟨_, ⟨t, ht, rfl⟩, List.mem_map.mpr ⟨p, List.mem_range.mpr hp, rfl⟩⟩
/-- a tie of an input -/
def toT (w : List Stp) (l : List Int) : List Int := [(((stp w (l.getD 0 0).toNat).2.getD (l.getD 1 0).toNat 0 : Nat) : Int), l.getD 0 0, l.getD 1 0]
theorem toT_ins (w : List Stp) : ∀ n, (insU w n).map (toT w) = tieU w n
  | 0 => rfl
  | n + 1 => by
    rw [insU_succ, List.map_append, toT_ins w n, tieU_succ]
    congr 1
    simp [rowT, toT, List.map_map, Function.comp_def, List.getD]
theorem insU_len {w : List Stp} (n : Nat) : (insU w n).length = (tieU w n).length := by rw [← toT_ins]; simp
/-- the takers of a step, as they are told -/
def tkO (s : Nat) (ls : List (List Int)) : List D := (ls.filter fun l => decide (tieG l = (s : Int))).map fun l => D.int (l.getD 1 0)
theorem tkO_len (w : List Stp) (s : Nat) : (tkO s (tieS w)).length = nOut w s := by rw [tkO, List.length_map, tieS_count]
theorem tkO_snoc {s : Nat} {ls : List (List Int)} {l : List Int} : tkO s (ls ++ [l]) = tkO s ls ++ (if tieG l = (s : Int) then [D.int (l.getD 1 0)] else []) := by
  unfold tkO
  rw [List.filter_append, List.map_append]
  congr 1
  by_cases h : tieG l = (s : Int)
  · rw [List.filter_cons_of_pos (by simpa using h), if_pos h]; rfl
  · rw [List.filter_cons_of_neg (by simpa using h), if_neg h]; rfl
/-- the places of a step's inputs, as the cells are found -/
def keyT (q : Bool) (order is : List Nat) : List (List Int) := ((List.range is.length).map fun p => [(if q then 1 else -1) * ((order.idxOf (is.getD p 0) : Nat) : Int), ((p : Nat) : Int)]).mergeSort leL
def whereT (q : Bool) (order is : List Nat) : List Nat := (keyT q order is).map fun l => (l.getD 1 0).toNat
def takesT (q : Bool) (order is : List Nat) : List Nat := (List.range is.length).map fun p => (whereT q order is).idxOf p
theorem keyT_perm {q : Bool} {order is : List Nat} : (keyT q order is).Perm ((List.range is.length).map fun p => [(if q then 1 else -1) * ((order.idxOf (is.getD p 0) : Nat) : Int), ((p : Nat) : Int)]) := List.mergeSort_perm _ _
theorem whereT_perm {q : Bool} {order is : List Nat} : (whereT q order is).Perm (List.range is.length) := by
  have := (keyT_perm (q := q) (order := order) (is := is)).map fun l => (l.getD 1 0).toNat
  rw [List.map_map] at this
  simpa [whereT, Function.comp_def] using this
theorem whereT_len {q : Bool} {order is : List Nat} : (whereT q order is).length = is.length := by rw [whereT_perm.length_eq, List.length_range]
theorem takesT_len {q : Bool} {order is : List Nat} : (takesT q order is).length = is.length := by simp [takesT]
theorem takesT_lt {q : Bool} {order is : List Nat} : ∀ t ∈ takesT q order is, t < is.length := by
  intro t ht
  obtain ⟨p, hp, rfl⟩ := List.mem_map.mp ht
  have : p ∈ whereT q order is := whereT_perm.mem_iff.mpr hp
  have := List.idxOf_lt_length_of_mem this
  rwa [whereT_len] at this
/-- the law's program -/
def progT (q : Bool) (w : List Stp) (order : List Nat) : List Ins := order.map fun s => ⟨s, takesT q order (stp w s).2, nOut w s⟩
end Pz

set_option Elab.async false
set_option linter.all false
set_option maxRecDepth 100000
set_option maxHeartbeats 4000000
/-! Lpit: the law's inputs, ties. -/
namespace Pz
open PySem PySem.Spec PyProof.Rows L2
section
variable {S : Sto} {w : List Stp}
theorem web_ixr (hw : Web w) {i : Nat} (h : i < w.length) {S : Sto} : oIx (encW w) (.int (i : Nat)) S = .ok (encS (stp w i)) S := oIx_tup (by rw [atI_nat, List.getElem?_map, stp_get h]; rfl)
theorem encS_1r {s : Stp} {S : Sto} : oIx (encS s) (.int 1) S = .ok (.tup (encI s.2)) S := oIx_tup (by simp)
theorem encI_ixr {is : List Nat} {p : Nat} (h : p < is.length) {S : Sto} : oIx (.tup (encI is)) (.int (p : Nat)) S = .ok (.int (is.getD p 0 : Nat)) S := oIx_tup (by
  rw [atI_nat]; simp [encI, h, List.getD])
theorem law_inputs_eq (hw : Web w) (hl : w.length ≤ 1000) : F__law_inputs [encW w] S = .ok (.ref S.length) (S ++ [.lst ((insU w w.length).map encT)]) := by
  suffices h : (F__law_inputs [encW w] S).W fun d S' => d = .ref S.length ∧ S' = S ++ [.lst ((insU w w.length).map encT)] by
    obtain ⟨d, S', e, rfl, rfl⟩ := h.ok
    exact e
  generalize hP : (fun (d : D) (S' : Sto) => d = D.ref S.length ∧ S' = S ++ [Ob.lst ((insU w w.length).map encT)]) = P
  refine W_runF rfl ?_
  have lenw : ∀ S, qD (encW w) S = .ok (w.map encS) S := fun S => qD_tup
  simp [b__law_inputs, b__law_inputs_0, b__law_inputs_1, lenw]
  rw [W_kRg (by decide) (rgB_small (by omega) (by omega)), rgD_encI]
  obtain ⟨I, hI⟩ : ∃ I : Nat → Loc → Sto → Prop, ∀ i l S', I i l S' ↔ ∃ (v2 v3 : Option D), l = [some (encW w), some (.ref S.length), v2, v3] ∧ S' = S ++ [.lst ((insU w i).map encT)] := ⟨_, fun _ _ _ => Iff.rfl⟩
  refine W_forL I _ 0 ((hI _ _ _).2 ⟨none, none, rfl, by simp [insU]⟩) ?_ ?_
  · intro i d l S' hx q
    obtain ⟨v2, v3, rfl, rfl⟩ := (hI _ _ _).1 q
    obtain ⟨hi, rfl⟩ := encR_get hx
    refine ⟨trivial, _, rfl, ?_⟩
    rw [Nat.zero_add] at *
    have lw := tieU_len (fun t ht => hw.le3 ht) i (by omega)
    have l3 := hw.le3 hi
    simp
    refine W_eExt (n := S.length) ?_
    simp [web_ixr hw hi, encS_1r, encI_len]
    rw [W_kRg (by decide) (rgB_small (by omega) (by omega)), rgD_encI]
    refine ⟨by simp [encI_len, sizeLine]; omega, ?_⟩
    refine W_lcT (fun p : Nat => D.int (p : Nat)) (fun p => encT [((i : Nat) : Int), ((p : Nat) : Int)]) (bs := List.range (stp w i).2.length) trivial (fun p hp => ⟨_, rfl, by simp [wipeL, encT]⟩) ?_
    refine ⟨(insU w i).map encT, by simp, ((List.range (stp w i).2.length).map fun p => [((i : Nat) : Int), ((p : Nat) : Int)]).map encT, ?_, ?_, ?_⟩
    · simp
    · rw [List.length_map, List.length_map, insU_len]; simp [sizeLine]; omega
    · refine (hI _ _ _).2 ⟨_, _, rfl, ?_⟩
      rw [insU_succ]; simp
  · intro l S' q
    obtain ⟨v2, v3, rfl, rfl⟩ := (hI _ _ _).1 q
    refine ⟨trivial, ?_⟩
    rw [encI_len, List.length_range, Nat.zero_add]
    simp [b__law_inputs_2]
    rw [gc_lst old_append (by simp : _ = some (Ob.lst ((insU w w.length).map encT))) (Nat.le_refl _) (by
      simp only [clO, clDs_all, List.all_eq_true, List.mem_map]
      rintro d ⟨l, _, rfl⟩
      simp only [encT, clD, clDs_all, List.all_eq_true, List.mem_map]
      rintro d ⟨z, _, rfl⟩
      rfl), W_ok, ← hP]
    exact ⟨rfl, by simp⟩
theorem encT_cl {n : Nat} (ls : List (List Int)) : clDs n (ls.map encT) = true := by
  simp only [clDs_all, List.all_eq_true, List.mem_map]
  rintro d ⟨l, _, rfl⟩
  simp only [encT, clD, clDs_all, List.all_eq_true, List.mem_map]
  rintro d ⟨z, _, rfl⟩
  rfl
theorem law_ties_eq (hw : Web w) (hl : w.length ≤ 1000) : F__law_ties [encW w] S = .ok (.ref S.length) (S ++ [.lst ((tieS w).map encT)]) := by
  suffices h : (F__law_ties [encW w] S).W fun d S' => d = .ref S.length ∧ S' = S ++ [.lst ((tieS w).map encT)] by
    obtain ⟨d, S', e, rfl, rfl⟩ := h.ok
    exact e
  generalize hP : (fun (d : D) (S' : Sto) => d = D.ref S.length ∧ S' = S ++ [Ob.lst ((tieS w).map encT)]) = P
  refine W_runF rfl ?_
  have lw := tieU_len (fun t ht => hw.le3 ht) w.length (Nat.le_refl _)
  have e0 : (S ++ [Ob.lst ((insU w w.length).map encT)])[S.length]? = some (.lst ((insU w w.length).map encT)) := by simp
  simp [b__law_ties, b__law_ties_0, law_inputs_eq hw hl, kD_ref e0]
  refine ⟨by rw [insU_len]; simp [sizeLine]; omega, ?_⟩
  refine W_lcT encT (fun l => encT (toT w l)) (bs := insU w w.length) e0 (fun l hl2 => ?_) ?_
  · obtain ⟨t, p, ht, hp, rfl⟩ := insU_mem.mp hl2
    refine ⟨_, rfl, ?_⟩
    simp [wipeL, web_ixr hw ht, encS_1r, encI_ixr hp, toT, encT]
  · rw [show (insU w w.length).map (fun l => encT (toT w l)) = (tieU w w.length).map encT by rw [← toT_ins]; simp]
    have fin : ∀ T, (gc S (.ref (S.length + 1)) (S ++ [T, .lst ((tieS w).map encT)])).W P := fun T => by
      rw [gc_lst old_append (by simp : _ = some (Ob.lst ((tieS w).map encT))) (by omega) (encT_cl _), W_ok, ← hP]
      exact ⟨rfl, by simp⟩
    have go : oSorted ((tieU w w.length).map encT) (S ++ [Ob.lst ((insU w w.length).map encT)]) = .ok (.tmp ((tieS w).map encT)) (S ++ [Ob.lst ((insU w w.length).map encT)]) := by
      by_cases h0 : tieU w w.length = []
      · have e : tieS w = [] := by unfold tieS; rw [h0]; simp
        rw [h0, e, List.map_nil, oSorted_nil]
      · rw [oSorted_tups h0 fun l hl => tieU_ne hl]; rfl
    simp [go]
    exact fin _
end
end Pz

set_option Elab.async false
set_option linter.all false
set_option maxRecDepth 100000
set_option maxHeartbeats 4000000
/-! Llh: the law's heights. -/
namespace Pz
open PySem PySem.Spec PyProof.Rows L2
section
variable {S : Sto} {w : List Stp} {q : Bool}
theorem law_heights_eq (hw : Web w) (hl : w.length ≤ 100) {row : List Nat} (hr : row.length = w.length) : F__law_heights [encW w, .tup (encI row)] S = .ok (.tup ((hgtL w row).map .int)) S := by
  refine eq_Wf (F := F__law_heights) fun P hP => ?_
  refine W_runF rfl ?_
  have lt : (tieS w).length ≤ 3 * w.length := by rw [tieS_len]; exact tieU_len (fun t ht => hw.le3 ht) _ (Nat.le_refl _)
  simp [b__law_heights, b__law_heights_0, b__law_heights_1]
  rw [encI_len, W_kRg (by decide) (rgB_small (by omega) (by omega)), rgD_encI]
  obtain ⟨I, hI⟩ : ∃ I : Nat → Loc → Sto → Prop, ∀ k l S', I k l S' ↔ ∃ (v3 v4 v5 v6 v7 : Option D) (G : Sto), l = [some (encW w), some (.tup (encI row)), some (.ref S.length), v3, v4, v5, v6, v7] ∧ S' = S ++ (Ob.lst (((hgtL w row).take k).map .int) :: G) := ⟨_, fun _ _ _ => Iff.rfl⟩
  refine W_forL I _ 0 ((hI _ _ _).2 ⟨_, _, _, _, _, [], rfl, by simp⟩) (fun k x l S' hx q1 => ?_) fun l S' q1 => ?_
  · obtain ⟨v3, v4, v5, v6, v7, G, rfl, rfl⟩ := (hI _ _ _).1 q1
    obtain ⟨hk, rfl⟩ := encR_get hx
    rw [Nat.zero_add] at *
    refine ⟨trivial, _, rfl, ?_⟩
    have n0 : (S ++ (Ob.lst (((hgtL w row).take k).map D.int) :: G))[S.length]? = some (.lst (((hgtL w row).take k).map D.int)) := st_get0
    obtain ⟨S1, hS1⟩ : ∃ S1, S1 = S ++ (Ob.lst (((hgtL w row).take k).map D.int) :: G) := ⟨_, rfl⟩
    rw [← hS1] at n0 ⊢
    simp [b__law_heights_1_0]
    rw [cutL_to (by omega) (by rw [encI_len]; omega), show (((k : Nat) : Int) + 1).toNat = k + 1 by omega]
    have ed : (encI row).take (k + 1) = encI (row.take (k + 1)) := by simp [encI, List.map_take]
    rw [ed]
    obtain ⟨done, hd⟩ : ∃ done, done = row.take (k + 1) := ⟨_, rfl⟩
    rw [← hd]
    simp [b__law_heights_1_1]
    rw [W_isL n0, law_ties_eq hw (by omega), W_ok]
    have q1 : (S1 ++ [Ob.lst ((tieS w).map encT)])[S1.length]? = some (.lst ((tieS w).map encT)) := st_get0
    rw [kD_ref q1, W_ok]
    refine ⟨by rw [List.length_map]; simp only [sizeLine]; omega, ?_⟩
    refine W_lcM encT (fun _ => D.int 1) (fun l => decide ((l.getD 0 0).toNat ∈ done) && decide ((l.getD 1 0).toNat ∉ done)) (bs := tieS w) (by show atGd _ _ _; rw [atGd_iff]; exact q1) (fun l hl => ?_) ?_
    · obtain ⟨t, p, h1, h2, rfl⟩ := tieS_mem.mp hl
      refine ⟨_, rfl, ?_⟩
      generalize (stp w t).2.getD p 0 = g
      simp [wipeL, oIn_nat (s := g) (xs := done) (y := .tup (encI done)) rfl, oNin_nat (s := t) (xs := done) (y := .tup (encI done)) rfl]
      by_cases hg : g ∈ done
      · simp [hg]
      · simp [hg]
    · have ec : ((tieS w).filter fun l => decide ((l.getD 0 0).toNat ∈ done) && decide ((l.getD 1 0).toNat ∉ done)).length = hgtR w done := by
        unfold hgtR tieP
        rw [List.filter_map, List.length_map]
        rfl
      simp only [qL_tmp, W_ok, oLenQ_eq, List.length_map, ec]
      have hlen : (((hgtL w row).take k).map D.int).length < sizeLine := by
        rw [List.length_map, List.length_take]
        have : (hgtL w row).length = w.length := by simp [hgtL]
        rw [sizeLine_eq]; omega
      rw [oApp_ref (st_old n0) hlen, W_ok]
      have tkk : (hgtL w row).take (k + 1) = (hgtL w row).take k ++ [((hgtR w done : Nat) : Int)] := by
        have : (hgtL w row)[k]? = some ((hgtR w done : Nat) : Int) := by
          unfold hgtL
          rw [List.getElem?_map, List.getElem?_range (by omega), hd]; rfl
        rw [List.take_succ, this]; rfl
      refine (hI _ _ _).2 ⟨_, _, _, _, _, G ++ [Ob.lst ((tieS w).map encT)], rfl, ?_⟩
      rw [tkk, hS1, List.append_assoc, st_set0]
      simp
  · obtain ⟨v3, v4, v5, v6, v7, G, rfl, rfl⟩ := (hI _ _ _).1 q1
    refine ⟨trivial, ?_⟩
    have ef : (hgtL w row).take (0 + (encI (List.range row.length)).length) = hgtL w row := by
      refine List.take_of_length_le ?_
      simp [hgtL, encI_len, hr]
    rw [ef]
    have n0 : (S ++ (Ob.lst ((hgtL w row).map D.int) :: G))[S.length]? = some (.lst ((hgtL w row).map D.int)) := st_get0
    simp [b__law_heights_2, qD_ref n0]
    rw [gc_tmp (by simp only [clD]; exact clDs_ints _ _), W_ok]
    exact hP
end
end Pz

set_option Elab.async false
set_option linter.all false
set_option maxRecDepth 100000
set_option maxHeartbeats 4000000
/-! Pw22: dict comprehensions reckoned; the places of a row. -/
namespace Pz
open PySem PySem.Spec PyProof.Rows L2
theorem W_dcL {gd : Sto → Prop} {t : Tg} {tk tv : FE} {l : Loc} {P : List (Key × D) → Sto → Prop} (J : Nat → List (Key × D) → Sto → Prop) : ∀ (xs : List D) (k : Nat) {acc : List (Key × D)} {S : Sto}, J k acc S →
    (∀ i d acc S, xs[i]? = some d → J (k + i) acc S → gd S ∧ ∃ l1, t.put d l = some l1 ∧ (tk l1 S).W fun y S1 => (tv l1 S1).W fun z S2 => ∃ kk, keyD y = some kk ∧ J (k + i + 1) (putD acc kk z) S2) →
    (∀ acc S, J (k + xs.length) acc S → gd S ∧ P acc S) → (dcL gd t tk tv l xs acc S).W P
  | [], k, acc, S, h0, hs, he => by
    obtain ⟨h1, h2⟩ := he acc S h0
    unfold dcL
    rw [if_pos h1]
    with_unfolding_all exact h2
  | x :: xs, k, acc, S, h0, hs, he => by
    obtain ⟨h1, l1, h2, h3⟩ := hs 0 x acc S rfl h0
    unfold dcL
    rw [if_pos h1]
    simp only [h2]
    have nx : ∀ acc S2, J (k + 0 + 1) acc S2 → (dcL gd t tk tv l xs acc S2).W P := fun acc S2 q => W_dcL J xs (k + 1) (by simpa using q) (fun i y acc S e q => by
      have := hs (i + 1) y acc S (by simpa using e) (by rw [show k + (i + 1) = k + 1 + i by omega]; with_unfolding_all exact q)
      rw [show k + (i + 1) = k + 1 + i by omega] at this
      with_unfolding_all exact this) fun acc S q => he acc S (by rw [List.length_cons, show k + (xs.length + 1) = k + 1 + xs.length by omega]; with_unfolding_all exact q)
    obtain ⟨y, S1, e, h3⟩ := h3.ok
    rw [e]
    show ((noX (tv l1 S1)).bind fun z S2 => match keyD y with
        | some k => dcL gd t tk tv l xs (putD acc k z) S2
        | none => .bad).W P
    obtain ⟨z, S2, e2, kk, ek, h3⟩ := h3.ok
    rw [e2]
    show (match keyD y with
        | some k => dcL gd t tk tv l xs (putD acc k z) S2
        | none => .bad : Out (List (Key × D))).W P
    rw [ek]
    exact nx _ _ h3
theorem W_eDc {vs : List Nat} {fi : FI} {t : Tg} {tk tv : FE} {l : Loc} {S : Sto} {P : D → Sto → Prop} : (eDc vs fi t tk tv l S).W P ↔ (fi l S).W fun x S1 => x.its.length ≤ sizeLine ∧ (dcL x.gd t tk tv (wipeL l vs) x.its [] S1).W fun kvs S2 => P (.ref S2.length) (S2 ++ [.dk kvs]) := by
  unfold eDc
  rw [W_bind]
  refine iff_of_eq (congrArg _ (funext fun d => funext fun S1 => ?_))
  by_cases h : d.its.length ≤ sizeLine
  · rw [if_pos h, W_bind]; simp [h]
  · rw [if_neg h]; simp [h]
/-! the places of a row -/
def plcK : Nat → List Nat → List (Key × D)
  | _, [] => []
  | k, x :: xs => (.inl (x : Nat), .int (k : Nat)) :: plcK (k + 1) xs
theorem plcK_snoc : ∀ {k : Nat} {xs : List Nat} {x : Nat}, plcK k (xs ++ [x]) = plcK k xs ++ [(.inl (x : Nat), .int ((k + xs.length : Nat) : Int))]
  | k, [], x => by simp [plcK]
  | k, y :: ys, x => by
    rw [List.cons_append, plcK, plcK, plcK_snoc]
    simp; omega
theorem plcK_keys : ∀ {k : Nat} {xs : List Nat} {e : Key × D}, e ∈ plcK k xs → ∃ x ∈ xs, e.1 = .inl ((x : Nat) : Int)
  | _, [], e, h => by simp [plcK] at h
  | k, y :: ys, e, h => by
    rcases List.mem_cons.mp h with rfl | h
    · exact ⟨y, List.mem_cons_self, rfl⟩
    · obtain ⟨x, h1, h2⟩ := plcK_keys h
      exact ⟨x, List.mem_cons_of_mem _ h1, h2⟩
theorem plcK_put {k : Nat} {xs : List Nat} {x : Nat} (h : x ∉ xs) : putD (plcK k xs) (.inl (x : Nat)) (.int ((k + xs.length : Nat) : Int)) = plcK k (xs ++ [x]) := by
  unfold putD
  rw [if_neg, plcK_snoc]
  intro z
  obtain ⟨e, h1, h2⟩ := List.any_eq_true.mp z
  obtain ⟨y, h3, h4⟩ := plcK_keys h1
  simp only [decide_eq_true_eq, h4, Sum.inl.injEq] at h2
  have : y = x := by omega
  exact h (this ▸ h3)
theorem plcK_get : ∀ {k : Nat} {xs : List Nat} {x : Nat}, x ∈ xs → Pz.getD (plcK k xs) (.inl (x : Nat)) = some (.int ((k + xs.idxOf x : Nat) : Int))
  | _, [], x, h => by cases h
  | k, y :: ys, x, h => by
    unfold Pz.getD plcK
    rw [List.find?_cons]
    by_cases e : y = x
    · subst e
      simp
    · have e2 : ¬ ((Sum.inl ((y : Nat) : Int) : Key) = .inl ((x : Nat) : Int)) := fun z => e (by have := Sum.inl.inj z; omega)
      have hx := (List.mem_cons.mp h).resolve_left fun z => e z.symm
      rw [decide_eq_false e2]
      have ih := plcK_get (k := k + 1) hx
      unfold Pz.getD at ih
      simp only at ih ⊢
      rw [ih, List.idxOf_cons]
      have : (y == x) = false := by simpa using e
      rw [this]
      simp only [cond_false]
      congr 2
      omega
theorem plcK_cl {n : Nat} : ∀ {k : Nat} {xs : List Nat}, clA n (plcK k xs) = true
  | _, [] => by simp [plcK, clA]
  | k, x :: xs => by simp only [plcK, clA, clD, Bool.true_and]; exact plcK_cl
/-- {x: i for i, x in enumerate(row)} -/
theorem W_places {vs : List Nat} {i j : Nat} {f : FE} {l : Loc} {S : Sto} {P : D → Sto → Prop} {row : List Nat} (hn : row.Nodup) (hl : row.length ≤ 1000) (hf : (f l S).W fun d S1 => d = .tup (encI row) ∧ S1 = S) (hij : i ≠ j) (hi : i < l.length) (hj : j < l.length)
    (hP : P (.ref S.length) (S ++ [.dk (plcK 0 row)])) : (eDc vs (iEn f) (.tp [.nm i, .nm j]) (eV j) (eV i) l S).W P := by
  rw [W_eDc, W_iEn]
  refine hf.mono fun d S1 ⟨h1, h2⟩ => ?_
  subst h1 h2
  rw [kEn_tup, W_ok]
  refine ⟨by rw [enumD_len, encI_len, sizeLine_eq]; omega, ?_⟩
  rw [enumD_encI]
  obtain ⟨J, hJ⟩ : ∃ J : Nat → List (Key × D) → Sto → Prop, ∀ k acc S', J k acc S' ↔ acc = plcK 0 (row.take k) ∧ S' = S1 := ⟨_, fun _ _ _ => Iff.rfl⟩
  refine W_dcL J _ 0 ((hJ _ _ _).2 ⟨by simp [plcK], rfl⟩) (fun k d acc S2 hx q => ?_) fun acc S2 q => ?_
  · obtain ⟨rfl, rfl⟩ := (hJ _ _ _).1 q
    rw [List.getElem?_map, Option.map_eq_some_iff] at hx
    obtain ⟨k', hk, rfl⟩ := hx
    obtain ⟨hk1, hk⟩ := List.getElem?_eq_some_iff.mp hk
    simp at hk1 hk
    subst hk
    rw [Nat.zero_add]
    have hx : row.getD k 0 ∉ row.take k := by
      rw [List.getD_eq_getElem?_getD, List.getElem?_eq_getElem hk1]
      simp only [Option.getD_some]
      intro z
      obtain ⟨a, ha, e⟩ := List.mem_iff_getElem.mp z
      rw [List.length_take] at ha
      rw [List.getElem_take] at e
      have := (List.getElem_inj hn).mp e
      omega
    have lw : (wipeL l vs).length = l.length := by
      have : ∀ (vs : List Nat) (l : Loc), (wipeL l vs).length = l.length := by
        intro vs
        induction vs with
        | nil => intro l; rfl
        | cons v vs ih => intro l; simp [wipeL, ih]
      exact this vs l
    refine ⟨trivial, _, rfl, ?_⟩
    have v1 : eV j (((wipeL l vs).set i (some (.int ((k : Nat) : Int)))).set j (some (.int ((row.getD k 0 : Nat) : Int)))) S2 = .ok (.int ((row.getD k 0 : Nat) : Int)) S2 := by
      unfold eV
      rw [List.getElem?_set_self (by simp [lw]; exact hj)]
    have v2 : eV i (((wipeL l vs).set i (some (.int ((k : Nat) : Int)))).set j (some (.int ((row.getD k 0 : Nat) : Int)))) S2 = .ok (.int ((k : Nat) : Int)) S2 := by
      unfold eV
      rw [List.getElem?_set_ne (Ne.symm hij), List.getElem?_set_self (by simp [lw]; exact hi)]
    show (eV j (((wipeL l vs).set i (some (.int ((k : Nat) : Int)))).set j (some (.int ((row.getD k 0 : Nat) : Int)))) S2).W _
    rw [v1, W_ok]
    show (eV i (((wipeL l vs).set i (some (.int ((k : Nat) : Int)))).set j (some (.int ((row.getD k 0 : Nat) : Int)))) S2).W _
    rw [v2, W_ok]
    refine ⟨_, rfl, (hJ _ _ _).2 ⟨?_, rfl⟩⟩
    have hp := plcK_put (k := 0) hx
    rw [List.length_take, Nat.zero_add, Nat.min_eq_left (by omega)] at hp
    rw [hp, List.take_succ, List.getD_eq_getElem?_getD, List.getElem?_eq_getElem hk1]
    rfl
  · obtain ⟨rfl, rfl⟩ := (hJ _ _ _).1 q
    refine ⟨trivial, ?_⟩
    rw [Nat.zero_add, List.length_map, List.length_range, List.take_length]
    exact hP
theorem oDGet_plc {n : Nat} {S : Sto} {row : List Nat} {s : Nat} (h : S[n]? = some (.dk (plcK 0 row))) (hs : s ∈ row) : oDGet (.ref n) (.int (s : Nat)) S = .ok (.int (row.idxOf s : Nat)) S := by
  have := plcK_get (k := 0) hs
  rw [Nat.zero_add] at this
  simp only [oDGet, dkD, h, keyD, this]
end Pz

set_option Elab.async false
set_option linter.all false
set_option maxRecDepth 100000
set_option maxHeartbeats 4000000
/-! Lhe: heights. -/
namespace Pz
open PySem PySem.Spec PyProof.Rows L2
/-- the ties under way, one step further -/
theorem hgt_step {ps : List (Nat × Nat)} {Dn : List Nat} {s : Nat} (hs : s ∉ Dn) (h1 : ∀ p ∈ ps, p.2 ∈ Dn → p.1 ∈ Dn) (h2 : ∀ p ∈ ps, p.2 = s → p.1 ∈ Dn) :
    (ps.filter fun p => decide (p.1 ∈ Dn ++ [s]) && decide (p.2 ∉ Dn ++ [s])).length + (ps.filter fun p => decide (p.2 = s)).length = (ps.filter fun p => decide (p.1 ∈ Dn) && decide (p.2 ∉ Dn)).length + (ps.filter fun p => decide (p.1 = s)).length := by
  induction ps with
  | nil => rfl
  | cons p ps ih =>
    have ih := ih (fun x hx => h1 x (List.mem_cons_of_mem _ hx)) fun x hx => h2 x (List.mem_cons_of_mem _ hx)
    have a1 := h1 p List.mem_cons_self
    have a2 := h2 p List.mem_cons_self
    obtain ⟨g, t⟩ := p
    simp only [List.filter_cons, List.mem_append, List.mem_singleton] at ih ⊢
    simp only at a1 a2
    have b3 : g = s → g ∉ Dn := fun e => by rw [e]; exact hs
    have b4 : t = s → t ∉ Dn := fun e => by rw [e]; exact hs
    by_cases c1 : g ∈ Dn <;> by_cases c2 : t ∈ Dn <;> by_cases c3 : g = s <;> by_cases c4 : t = s
    all_goals first
      | (exact absurd (a1 c2) c1)
      | (exact absurd (a2 c4) c1)
      | (exact absurd c1 (b3 c3))
      | (exact absurd c2 (b4 c4))
      | (simp only [c1, c2, c3, c4, hs, true_or, or_true, or_self, not_true_eq_false, not_false_eq_true, decide_true, decide_false, Bool.and_true, Bool.and_false, Bool.true_and, Bool.false_and, if_true, if_false, Bool.false_eq_true, List.length_cons, false_or, or_false]; omega)
section
variable {S : Sto} {w : List Stp}
theorem heights_eq (hw : Web w) (hl : w.length ≤ 100) {row : List Nat} (hr : Row w row) (hlen : row.length = w.length) (hlow : ∀ (i s : Nat), row[i]? = some s → ∀ g ∈ (stp w s).2, g ∈ row.take i) : F_heights [encW w, .tup (encI row)] S = .ok (.tup ((hgtL w row).map .int)) S := by
  refine eq_Wf (F := F_heights) fun P hP => ?_
  refine W_runF rfl ?_
  have lt : (tieS w).length ≤ 3 * w.length := by rw [tieS_len]; exact tieU_len (fun t ht => hw.le3 ht) _ (Nat.le_refl _)
  have mem : ∀ {s}, s < w.length → s ∈ row := fun {s} hs => by
    refine Classical.byContradiction fun hn => ?_
    have := nodup_le w.length (s :: row) (List.nodup_cons.mpr ⟨hn, hr.nd⟩) fun x hx => by
      rcases List.mem_cons.mp hx with e | e
      · rw [e]; exact hs
      · exact hr.lt x e
    simp at this
    omega
  simp [b_heights, b_heights_0, b_heights_1]
  refine W_places hr.nd (by omega) (by simp) (by decide) (by simp) (by simp) ?_
  obtain ⟨kvs, hkvs⟩ : ∃ kvs, kvs = plcK 0 row := ⟨_, rfl⟩
  rw [← hkvs]
  simp [b_heights_2]
  rw [encI_len, W_kRg (by decide) (rgB_small (by omega) (by omega)), rgD_encI]
  have hL : (hgtL w row).length = w.length := by simp [hgtL]
  have h00 : hgtR w [] = 0 := by unfold hgtR; rw [List.filter_eq_nil_iff.mpr (by simp)]; rfl
  obtain ⟨I, hI⟩ : ∃ I : Nat → Loc → Sto → Prop, ∀ k l S', I k l S' ↔ ∃ (v4 v6 v7 : Option D) (G : Sto), l = [some (encW w), some (.tup (encI row)), some (.ref S.length), some (.int ((hgtR w (row.take k) : Nat) : Int)), v4, some (.ref (S.length + 1)), v6, v7] ∧ S' = S ++ (Ob.lst (((hgtL w row).take k).map .int) :: Ob.dk kvs :: G) := ⟨_, fun _ _ _ => Iff.rfl⟩
  refine W_forL I _ 0 ((hI _ _ _).2 ⟨none, none, none, [], by simp [h00], by simp⟩) (fun k x l S' hx q1 => ?_) fun l S' q1 => ?_
  · obtain ⟨v4, v6, v7, G, rfl, hS'⟩ := (hI _ _ _).1 q1
    obtain ⟨hk, rfl⟩ := encR_get hx
    rw [Nat.zero_add] at *
    refine ⟨trivial, _, rfl, ?_⟩
    have n0 : S'[S.length]? = some (.lst (((hgtL w row).take k).map D.int)) := by rw [hS']; exact st_get0
    have n1 : S'[S.length + 1]? = some (.dk kvs) := by rw [hS', List.getElem?_append_right (by omega)]; simp
    have hgs : row[k]? = some (row.getD k 0) := by rw [List.getD_eq_getElem?_getD, List.getElem?_eq_getElem hk]; rfl
    obtain ⟨s, hs⟩ : ∃ s, s = row.getD k 0 := ⟨_, rfl⟩
    rw [← hs] at hgs
    have hsn : s ∉ row.take k := by
      intro z
      obtain ⟨a, ha, e⟩ := List.mem_iff_getElem.mp z
      rw [List.length_take] at ha
      rw [List.getElem_take] at e
      have e2 : row[k] = s := by rw [List.getElem?_eq_getElem hk] at hgs; exact Option.some.inj hgs
      have := (List.getElem_inj hr.nd).mp (e.trans e2.symm)
      omega
    have ixs : row.idxOf s = k := by
      have e2 : row[k] = s := by rw [List.getElem?_eq_getElem hk] at hgs; exact Option.some.inj hgs
      rw [← e2]
      exact hr.nd.idxOf_getElem k hk
    have ixi : ∀ a, a ∈ row → (row.idxOf a = k ↔ a = s) := fun a ha => by
      constructor
      · intro e
        have h1 := List.idxOf_lt_length_iff.mpr ha
        have h2 : row[row.idxOf a]? = some a := by rw [List.getElem?_eq_getElem h1, List.getElem_idxOf]
        rw [e, hgs] at h2
        exact (Option.some.inj h2).symm
      · intro e; rw [e]; exact ixs
    have tkk : row.take (k + 1) = row.take k ++ [s] := by rw [List.take_succ, hgs]; rfl
    -- a count
    have cnt : ∀ (j : Nat) (z : Int) (hz : z = (j : Nat)) (hj : j < 2) (v3 : D) (S2 : Sto) (P' : D → Sto → Prop), S2[S.length + 1]? = some (.dk kvs) → P' (.int ((((tieP w).filter fun p => decide ((if j = 0 then p.1 else p.2) = s)).length : Nat) : Int)) S2 →
        (eB1 oLenQ (lQ (lComp [7] (iE (eCall F_ties (aC (eV 0) (aN)))) (.nm 7) (eT (e2 oEq (e2 oDGet (eV 5) (e2 oIx (eV 7) (eC (.int z)))) (eV 4))) (eC (.int 1)))) [some (encW w), some (.tup (encI row)), some (.ref S.length), some v3, some (.int (k : Nat)), some (.ref (S.length + 1)), v6, v7] S2).W P' := fun j z hz hj v3 S2 P' hn2 hP' => by
      subst hz
      simp [ties_eq hw (show w.length ≤ 1000 by omega)]
      refine ⟨by simp only [sizeLine]; omega, ?_⟩
      refine W_lcM encT (fun _ => D.int 1) (fun l => decide ((if j = 0 then (l.getD 0 0).toNat else (l.getD 1 0).toNat) = s)) (bs := tieS w) trivial (fun l hl => ?_) ?_
      · obtain ⟨t, p, h1, h2, rfl⟩ := tieS_mem.mp hl
        refine ⟨_, rfl, ?_⟩
        have hg : (stp w t).2.getD p 0 ∈ (stp w t).2 := by
          rw [List.getD_eq_getElem?_getD, List.getElem?_eq_getElem h2]
          exact List.getElem_mem h2
        have hgl : (stp w t).2.getD p 0 < w.length := (hw.ok _ (List.mem_of_getElem? (stp_get h1))).2 _ hg
        generalize (stp w t).2.getD p 0 = g at *
        have ix0 : oIx (encT [((g : Nat) : Int), ((t : Nat) : Int), ((p : Nat) : Int)]) (.int ((j : Nat) : Int)) S2 = .ok (.int (((if j = 0 then g else t) : Nat) : Int)) S2 := by
          rcases (show j = 0 ∨ j = 1 by omega) with rfl | rfl
          · exact oIx_tup rfl
          · exact oIx_tup rfl
        have hx : (if j = 0 then g else t) ∈ row := by
          split
          · exact mem hgl
          · exact mem h1
        have dg := oDGet_plc (by rw [← hkvs]; exact hn2) hx
        simp [wipeL, ix0]
        rw [dg]
        simp
        have e1 : (decide (((row.idxOf (if j = 0 then g else t) : Nat) : Int) = ((k : Nat) : Int))) = decide ((if j = 0 then g else t) = s) := by
          have := ixi _ hx
          by_cases z : (if j = 0 then g else t) = s
          · rw [decide_eq_true z, decide_eq_true (by rw [this.mpr z])]
          · rw [decide_eq_false z, decide_eq_false (fun y => z (this.mp (by omega)))]
        simpa using e1
      · simp
        have ec : ((tieS w).filter fun l => decide ((if j = 0 then (l.getD 0 0).toNat else (l.getD 1 0).toNat) = s)).length = ((tieP w).filter fun p => decide ((if j = 0 then p.1 else p.2) = s)).length := by
          unfold tieP
          rw [List.filter_map, List.length_map]
          rfl
        simp at ec
        rw [ec]
        simpa using hP'
    have hst := hgt_step (ps := tieP w) (Dn := row.take k) (s := s) hsn (fun p hp hin => by
        obtain ⟨g, t⟩ := p
        obtain ⟨h1, h2⟩ := tieP_mem.mp hp
        obtain ⟨a, ha, e⟩ := List.mem_iff_getElem.mp hin
        rw [List.length_take] at ha
        rw [List.getElem_take] at e
        have e2 : row[a]? = some t := by rw [List.getElem?_eq_getElem (by omega)]; exact congrArg some e
        have := hlow a t e2 g h2
        exact (List.take_subset_take_left row (by omega : a ≤ k)) this) (fun p hp hin => by
        obtain ⟨g, t⟩ := p
        obtain ⟨h1, h2⟩ := tieP_mem.mp hp
        simp only at hin
        subst hin
        exact hlow k t hgs g h2)
    have hR1 : hgtR w (row.take k) = ((tieP w).filter fun p => decide (p.1 ∈ row.take k) && decide (p.2 ∉ row.take k)).length := rfl
    have hR2 : hgtR w (row.take (k + 1)) = ((tieP w).filter fun p => decide (p.1 ∈ row.take k ++ [s]) && decide (p.2 ∉ row.take k ++ [s])).length := by rw [tkk]; rfl
    simp only [W_sSeq, b_heights_2_0, W_sSetN, W_e2, W_eVs, W_eV0, W_ok, List.set_cons_succ, List.set_cons_zero]
    refine cnt 0 0 rfl (by omega) _ S' _ n1 ?_
    simp only [b_heights_2_1, oAdd_int, W_sSetN, W_e2, W_eVs, W_eV0, W_ok, List.set_cons_succ, List.set_cons_zero]
    refine cnt 1 1 rfl (by omega) _ S' _ n1 ?_
    simp [b_heights_2_2]
    have hlen2 : (((hgtL w row).take k).map D.int).length < sizeLine := by
      rw [List.length_map, List.length_take, sizeLine_eq]; omega
    have val : ((hgtR w (row.take k) : Nat) : Int) + ((((tieP w).filter fun p => decide (p.1 = s)).length : Nat) : Int) - ((((tieP w).filter fun p => decide (p.2 = s)).length : Nat) : Int) = ((hgtR w (row.take (k + 1)) : Nat) : Int) := by omega
    rw [val, W_isL n0, oApp_ref n0 hlen2, W_ok]
    have tk2 : (hgtL w row).take (k + 1) = (hgtL w row).take k ++ [((hgtR w (row.take (k + 1)) : Nat) : Int)] := by
      have : (hgtL w row)[k]? = some ((hgtR w (row.take (k + 1)) : Nat) : Int) := by
        unfold hgtL
        rw [List.getElem?_map, List.getElem?_range (by omega)]; rfl
      rw [List.take_succ, this]; rfl
    refine (hI _ _ _).2 ⟨_, _, _, G, rfl, ?_⟩
    rw [tk2, hS', st_set0]
    simp
  · obtain ⟨v4, v6, v7, G, rfl, rfl⟩ := (hI _ _ _).1 q1
    refine ⟨trivial, ?_⟩
    have ef : (hgtL w row).take (0 + (encI (List.range row.length)).length) = hgtL w row := by
      refine List.take_of_length_le ?_
      rw [hL, encI_len, List.length_range]; omega
    rw [ef]
    have n0 : (S ++ (Ob.lst ((hgtL w row).map D.int) :: Ob.dk kvs :: G))[S.length]? = some (.lst ((hgtL w row).map D.int)) := st_get0
    simp [b_heights_3, qD_ref n0]
    rw [gc_tmp (by simp only [clD]; exact clDs_ints _ _), W_ok]
    exact hP
end
end Pz

set_option Elab.async false
set_option linter.all false
set_option maxRecDepth 100000
set_option maxHeartbeats 4000000
/-! Pw14: webs and texts can be shown. -/
namespace Pz
open PySem PySem.Spec PyProof.Rows L2
theorem Web.small {w : List Stp} (hw : Web w) (hl : w.length ≤ 10) : ∀ s ∈ w, KOK s.1 s.2.length ∧ ∀ i ∈ s.2, i < 10 := fun s hs => ⟨(hw.ok s hs).1, fun i hi => by have := (hw.ok s hs).2 i hi; omega⟩
theorem encW_okd {N : Nat} {U : Sto} (hN : 10 ^ 30 ≤ N) {w : List Stp} (hl : w.length ≤ 10) (h : ∀ s ∈ w, KOK s.1 s.2.length ∧ ∀ i ∈ s.2, i < 10) : Ok N U 3 200 (encW w) := by
  have hi : ∀ i : Nat, i < 10 → Ok N U 0 0 (.int (i : Nat)) := fun i hi => .int (Nat.le_trans (show ((i : Nat) : Int).natAbs ≤ 30 by omega) (Nat.le_trans (by decide) hN))
  have ht : ∀ is : List Nat, (∀ i ∈ is, i < 10) → OkL N U 0 is.length (encI is) := by
    intro is
    induction is with
    | nil => exact fun _ => .nil
    | cons i is ih => exact fun q => .cons (hi i (q i List.mem_cons_self)) (ih fun j hj => q j (List.mem_cons_of_mem _ hj)) (by simp; omega)
  have hk : ∀ {d : D} {m : Nat}, KOK d m → Ok N U 1 5 d := fun {d m} hd => by
    have lit : ∀ z : Str, okB 200 1 5 (.str z) = true → Ok N U 1 5 (.str z) := fun z hz => (Ok.of_okB hz).more (Nat.le_trans (by decide) hN)
    match m, hd with
    | 0, .inl h => rw [h]; exact lit _ (by decide +kernel)
    | 0, .inr ⟨i, h, a, b⟩ => rw [h]; exact .int (Nat.le_trans (show i.natAbs ≤ 100 by omega) (Nat.le_trans (by decide) hN))
    | 1, h => rw [show d = .str "neg" from h]; exact lit _ (by decide +kernel)
    | 2, .inl h => rw [h]; exact lit _ (by decide +kernel)
    | 2, .inr (.inl h) => rw [h]; exact lit _ (by decide +kernel)
    | 2, .inr (.inr h) => rw [h]; exact lit _ (by decide +kernel)
    | 3, h => rw [show d = .str "pick" from h]; exact lit _ (by decide +kernel)
  have hs : ∀ s : Stp, KOK s.1 s.2.length → (∀ i ∈ s.2, i < 10) → Ok N U 2 15 (encS s) := fun s k q => by
    have := k.le
    exact (OkL.cons (hk k) (.cons ((ht s.2 q).tup.mono (Nat.le_refl _) (show s.2.length ≤ 5 by omega)) (.nil (m := 0)) (Nat.le_refl _)) (by omega)).tup
  have all : ∀ v : List Stp, (∀ s ∈ v, KOK s.1 s.2.length ∧ ∀ i ∈ s.2, i < 10) → OkL N U 2 (16 * v.length) (v.map encS) := by
    intro v
    induction v with
    | nil => exact fun _ => .nil
    | cons s v ih => exact fun q => .cons (hs s (q s List.mem_cons_self).1 (q s List.mem_cons_self).2) (ih fun t ht => q t (List.mem_cons_of_mem _ ht)) (by simp; omega)
  exact (all w h).tup.mono (Nat.le_refl _) (by omega)
theorem str_okd {N : Nat} {U : Sto} {z : Str} {m : Nat} (h : ∀ c ∈ z.cps.toList, c < 200) (hl : z.length ≤ m) : Ok N U 0 m (.str z) := by
  refine ⟨.str z, rfl, ?_, Nat.zero_le _, hl⟩
  simp only [small, List.all_eq_true, decide_eq_true_eq]
  intro c hc
  exact Nat.lt_of_lt_of_le (h c hc) (by decide)
end Pz

set_option Elab.async false
set_option linter.all false
set_option maxRecDepth 100000
set_option maxHeartbeats 4000000
/-! L_k30: heights of orders. -/
namespace Pz
open PySem PySem.Spec PyProof.Rows L2
theorem rows_low {w : List Stp} {q : Bool} {k : Nat} {r : List Nat} (h : r ∈ rowsN w q k) : r.length = k ∧ Row w r ∧ ∀ (i s : Nat), r[i]? = some s → ∀ g ∈ (stp w s).2, g ∈ r.take i := by
  obtain ⟨h1, h2, h3⟩ := rowsN_iff.mp h
  refine ⟨h1, h2, fun i s e g hg => (h3 i s e).1 g ?_⟩
  exact gvT_mem.mpr ⟨h2.lt s (List.mem_of_getElem? e), hg⟩
theorem head_mem {w : List Stp} {q : Bool} {k : Nat} {r : List Nat} (h : r ∈ rowsN w q k) : ∃ r', (rowsN w q k).head? = some r' ∧ r' ∈ rowsN w q k := by
  cases e : rowsN w q k with
  | nil => rw [e] at h; cases h
  | cons x xs => exact ⟨x, rfl, List.mem_cons_self⟩
theorem hgtR_le {w : List Stp} (hw : Web w) (row : List Nat) : hgtR w row ≤ 3 * w.length := Nat.le_trans (List.length_filter_le _ _) (tieP_len hw)
theorem okL_ints {N : Nat} {U : Sto} : ∀ {ns : List Int}, (∀ x ∈ ns, x.natAbs ≤ N) → OkL N U 0 ns.length (ns.map .int)
  | [], _ => .nil
  | x :: xs, h => OkL.cons (a := 0) (b := xs.length) (.int (h x List.mem_cons_self)) (okL_ints fun y hy => h y (List.mem_cons_of_mem _ hy)) (by simp; omega)
theorem atI_last {α : Type} {xs : List α} {x : α} : L2.atI (xs ++ [x]) (-1) = some x := by
  unfold L2.atI L2.ixN
  rw [if_neg (by omega), if_pos (by simp; omega)]
  simp
  rw [show ((-1 : Int) + ((xs.length : Nat) + 1)).toNat = xs.length by omega]
  simp
theorem hgtL_last {w : List Stp} {r : List Nat} (h0 : 0 < w.length) (hr : Row w r) (hl : r.length = w.length) (S : Sto) : oIx (.tup ((hgtL w r).map .int)) (.int (-1)) S = .ok (.int 0) S := by
  have mem : ∀ {s}, s < w.length → s ∈ r := fun {s} hs => by
    refine Classical.byContradiction fun hn => ?_
    have := nodup_le w.length (s :: r) (List.nodup_cons.mpr ⟨hn, hr.nd⟩) fun x hx => by
      rcases List.mem_cons.mp hx with e | e
      · rw [e]; exact hs
      · exact hr.lt x e
    simp at this
    omega
  have z : hgtR w r = 0 := by
    unfold hgtR
    rw [List.filter_eq_nil_iff.mpr fun p hp => ?_]
    · rfl
    · obtain ⟨g, t⟩ := p
      have := mem (tieP_mem.mp hp).1
      simp [this]
  refine oIx_tup ?_
  have e : (hgtL w r).map D.int = ((List.range (w.length - 1)).map fun i => D.int ((hgtR w (r.take (i + 1)) : Nat) : Int)) ++ [.int 0] := by
    unfold hgtL
    rw [show List.range w.length = List.range (w.length - 1) ++ [w.length - 1] by rw [← List.range_succ]; congr 1; omega, List.map_append, List.map_append, List.map_map]
    simp only [List.map_cons, List.map_nil, Function.comp_def]
    rw [show w.length - 1 + 1 = w.length by omega, List.take_of_length_le (by omega), z]
    rfl
  rw [e]
  exact atI_last
def hgtU (w : List Stp) (row : List Nat) : Nat := (((tieU w w.length).map fun l => ((l.getD 0 0).toNat, (l.getD 1 0).toNat)).filter fun p => decide (p.1 ∈ row) && decide (p.2 ∉ row)).length
theorem hgtR_U {w : List Stp} {row : List Nat} : hgtR w row = hgtU w row := by
  unfold hgtR hgtU tieP
  exact (((tieS_perm w).map _).filter _).length_eq
theorem purD_ints (ns : List Int) : purD 1 (.tup (ns.map .int)) = true := by
  simp [purD]
theorem law_true (ns : List Int) (hn : ns.length ≤ 63) : ∃ S, F_law [.rl (ns.map D.int)] [] = .ok (.bl true) S := by
  suffices h : (F_law [.rl (ns.map D.int)] []).W fun d _ => d = .bl true by
    obtain ⟨d, S', e, rfl⟩ := h.ok
    exact ⟨S', e⟩
  generalize hP : (fun (d : D) (_ : Sto) => d = D.bl true) = P
  have hT : ∀ S S', (gc S (.bl true) S').W P := by
    intro S S'
    unfold gc
    split
    · rw [W_ok, ← hP]
    · rw [W_ok, ← hP]
  refine W_runF rfl ?_
  simp [b_law, b_law_0]
  refine deck_ok hn fun S1 g1 => ?_
  simp [b_law_1]
  rw [W_kRg (by decide) (by decide)]
  obtain ⟨I, hI⟩ : ∃ I : Nat → Loc → Sto → Prop, ∀ i l S', I i l S' ↔ ∃ (T : Sto) (v0 v2 v3 v4 v5 : Option D), l = [v0, some (.ref 2), v2, v3, v4, v5] ∧ DC (10000 * i) T S' := ⟨_, fun _ _ _ => Iff.rfl⟩
  refine W_forL I _ 0 ((hI _ _ _).2 ⟨[], _, _, _, _, _, rfl, g1⟩) ?_ ?_
  · intro i x l S3 hx q
    obtain ⟨T, v0, v2, v3, v4, v5, rfl, g⟩ := (hI _ _ _).1 q
    have hi := (List.getElem?_eq_some_iff.mp hx).1
    simp only [rgD_len] at hi
    rw [Nat.zero_add] at g
    refine ⟨trivial, _, rfl, ?_⟩
    simp [b_law_1_0]
    have g' := g.app [Ob.lst [.int 8, .int 10]]
    refine one_ok g' (by omega) st_get0 (by have := g.len; omega) (by simp) (by simp) fun d S4 hd g4 => ?_
    obtain ⟨most, rfl, hm⟩ : ∃ m : Int, d = .int m ∧ (m = 8 ∨ m = 10) := by
      simp at hd
      rcases hd with rfl | rfl
      · exact ⟨8, rfl, .inl rfl⟩
      · exact ⟨10, rfl, .inr rfl⟩
    refine woven_ok g4 (by omega) (by omega) (by omega) fun ws pl is S5 hv l1 l2 hp g5 => ?_
    have hgr := hv.stp
    have hw0 : Web ws := Web.of_grown hgr
    have hw : Web (renum ws is) := hw0.renum hp
    have hlen : (renum ws is).length = ws.length := by unfold renum; rw [List.length_map, hp.length_eq, List.length_range]
    have hrow := woven_row hv hp
    obtain ⟨w, hW⟩ : ∃ w, w = renum ws is := ⟨_, rfl⟩
    obtain ⟨O, hO⟩ : ∃ O, O = (List.range ws.length).map fun k => is.idxOf k := ⟨_, rfl⟩
    rw [← hW] at hw hlen hrow ⊢
    rw [← hO] at hrow ⊢
    rw [← hlen] at hrow l1 l2
    have hl : w.length ≤ 10 := by omega
    obtain ⟨r', hh, hr'⟩ := head_mem hrow
    refine ⟨_, rfl, ?_⟩
    have both : ∀ {r}, r ∈ rowsN w false w.length → ∀ S, F_heights [encW w, .tup (encI r)] S = .ok (.tup ((hgtL w r).map .int)) S ∧ F__law_heights [encW w, .tup (encI r)] S = .ok (.tup ((hgtL w r).map .int)) S := fun {r} hr S => by
      obtain ⟨h1, h2, h3⟩ := rows_low hr
      exact ⟨heights_eq hw (by omega) h2 h1 h3, law_heights_eq hw (by omega) h1⟩
    have shown : ∀ r, ∃ t, ∀ S : Sto, reprD S (.tup ((hgtL w r).map .int)) = some t := fun r => by
      refine repr_pure (N := 10 ^ 30) (k := 1) (m := 20) (by decide) (by omega) (by omega) ?_
      refine OkL.tup ((okL_ints fun x hx => ?_).mono (Nat.le_refl _) (by simp [hgtL]; omega))
      obtain ⟨j, _, rfl⟩ := List.mem_map.mp hx
      have := hgtR_le hw (r.take (j + 1))
      exact Nat.le_trans (show (((hgtR w (r.take (j + 1)) : Nat) : Int)).natAbs ≤ 30 by omega) (by decide)
    simp [b_law_1_1, order_of_eq hw hl, hh, optR]
    obtain ⟨I2, hI2⟩ : ∃ I2 : Nat → Loc → Sto → Prop, ∀ j l S', I2 j l S' ↔ ∃ (T : Sto) (v2 v5 : Option D), l = [v0, some (.ref 2), v2, some (encW w), some (.tup (encI O)), v5] ∧ DC (10000 * i + 2000) T S' := ⟨_, fun _ _ _ => Iff.rfl⟩
    refine W_forL I2 _ 0 ((hI2 _ _ _).2 ⟨_, _, _, rfl, g5.le (by omega)⟩) ?_ ?_
    · intro j x l S6 hx q
      obtain ⟨T2, v2', v5', rfl, g6⟩ := (hI2 _ _ _).1 q
      obtain ⟨r, hr, rfl⟩ : ∃ r, r ∈ rowsN w false w.length ∧ x = .tup (encI r) := by
        have := List.mem_of_getElem? hx
        simp at this
        rcases this with rfl | rfl
        · exact ⟨O, hrow, rfl⟩
        · exact ⟨r', hr', rfl⟩
      refine ⟨trivial, _, rfl, ?_⟩
      obtain ⟨b1, b2⟩ := both hr S6
      obtain ⟨t, ht⟩ := shown r
      simp [b1]
      rw [oRepr_of (ht _), W_ok, b2, W_ok, oRepr_of (ht _), W_ok, oNe_str, W_ok, decide_eq_true rfl]
      simp
      exact (hI2 _ _ _).2 ⟨_, _, _, rfl, g6⟩
    · intro l S6 q
      obtain ⟨T2, v2', v5', rfl, g6⟩ := (hI2 _ _ _).1 q
      refine ⟨trivial, ?_⟩
      obtain ⟨b1, b2⟩ := both hrow S6
      obtain ⟨h1, h2, h3⟩ := rows_low hrow
      simp [b_law_1_2, b1]
      rw [hgtL_last (by omega) h2 h1, W_ok]
      simp
      rw [b1, W_ok, W_eCallK (len_cons (len_cons len_nil))]
      simp [permL, b1]
      rw [oNe_pur (n := 1) (m := 1) (by omega) (by omega) (purD_ints _) (purD_ints _), W_ok]
      simp
      exact (hI _ _ _).2 ⟨_, _, _, _, _, _, rfl, g6.le (by omega)⟩
  · intro l S3 q
    obtain ⟨T, v0, v2, v3, v4, v5, rfl, g⟩ := (hI _ _ _).1 q
    refine ⟨trivial, ?_⟩
    simp [b_law_2]
    obtain ⟨w3, hw3⟩ : ∃ w3 : List Stp, w3 = [(.str "in", []), (.str "pick", [0, 0, 0]), (.str "neg", [0])] := ⟨_, rfl⟩
    have e3 : (D.tup [.tup [.str "in", .tup []], .tup [.str "pick", .tup [.int 0, .int 0, .int 0]], .tup [.str "neg", .tup [.int 0]]]) = encW w3 := by rw [hw3]; rfl
    have r3 : (D.tup [.int 0, .int 1, .int 2]) = .tup (encI [0, 1, 2]) := rfl
    rw [e3, r3]
    have ww : Web w3 := Web.of_grown fun t s e => by
      have ht := (List.getElem?_eq_some_iff.mp e).1
      rw [hw3] at e ht
      match t, ht with
      | 0, _ => cases e; exact ⟨.inl rfl, by simp⟩
      | 1, _ => cases e; exact ⟨rfl, by simp⟩
      | 2, _ => cases e; exact ⟨rfl, by simp⟩
    rw [heights_eq ww (by rw [hw3]; decide) ⟨by decide, by rw [hw3]; decide⟩ (by rw [hw3]; rfl) (fun i s e g hg => ?_), W_ok]
    · have hl3 : hgtL w3 [0, 1, 2] = [4, 1, 0] := by rw [hw3]; unfold hgtL; simp only [hgtR_U]; kernel_rfl
      rw [hl3]
      have rp : reprD S3 (.tup ([4, 1, 0].map .int)) = some "(4, 1, 0)" := by kernel_rfl
      rw [oRepr_of rp, W_ok]
      simp
      exact hT _ _
    · rw [hw3] at hg
      have hi := (List.getElem?_eq_some_iff.mp e).1
      match i, hi with
      | 0, _ => cases e; simp [stp] at hg
      | 1, _ => cases e; simp [stp] at hg; simp [hg]
      | 2, _ => cases e; simp [stp] at hg; simp [hg]
end Pz

open PySem PySem.W PyProof.Rows in
set_option maxRecDepth 100000 in
set_option maxHeartbeats 0 in
theorem PySem.Challenge.cw_pilepass_k30_heights_of_orders_holds : PySem.Challenge.rw_pilepass_k30_heights_of_orders.Holds := by
  w_on; o_law; k_head; (case hw => w_witness2)
  k_fill
  refine Pz.law_walk (l := PySem.Challenge.rw_pilepass_k30_heights_of_orders) (k := 21) (x := "script") (F := Pz.F_law) rfl (by decide) rfl ⟨rfl, by decide, by decide⟩ (by kernel_rfl) (fun w h Y => PySem.W.kIn_of Y) ?hk1 ?G Pz.law_true
  case hk1 => (intro w; kernel_rfl)
  case G =>
    intro w mg fa h KX G hmg
    have T : Pz.TxtAt KX mg := by
      show Pz.Txt _ mg
      refine ⟨?g_abs, ?g_dict, ?g_enumerate, ?g_int, ?g_len, ?g_list, ?g_min, ?g_range, ?g_repr, ?g_sorted, ?g_sum, ?g_tuple, ?t__law_deck, ?t__law_draw, ?t__law_mixed, ?t__law_renumbered, ?t__law_one, ?t__law_kind, ?t__law_woven, ?t_Passes_is_done, ?t_Passes_cells, ?t_Passes_behind, ?t_Passes_finds, ?t_Passes_nexts, ?t_Passes_ways, ?t_Passes_orders, ?t_Passes_first_order, ?t_ties, ?t_Passes_init, ?t_order_of, ?t_heights, ?tk_heights_0, ?t__law_inputs, ?t__law_ties, ?t__law_heights, ?f_Passes_is_queue, ?f_Passes_known, ?f_Passes_many, ?f_Passes_peaks, ?f_Passes_uses, ?f_Passes_wants⟩
      (case g_abs => (refine PySem.W.mg_none_of KX G ?zzq; (case zzq => k_is)))
      (case g_dict => (refine PySem.W.mg_none_of KX G ?zzq; (case zzq => k_is)))
      (case g_enumerate => (refine PySem.W.mg_none_of KX G ?zzq; (case zzq => k_is)))
      (case g_int => (refine PySem.W.mg_none_of KX G ?zzq; (case zzq => k_is)))
      (case g_len => (refine PySem.W.mg_none_of KX G ?zzq; (case zzq => k_is)))
      (case g_list => (refine PySem.W.mg_none_of KX G ?zzq; (case zzq => k_is)))
      (case g_min => (refine PySem.W.mg_none_of KX G ?zzq; (case zzq => k_is)))
      (case g_range => (refine PySem.W.mg_none_of KX G ?zzq; (case zzq => k_is)))
      (case g_repr => (refine PySem.W.mg_none_of KX G ?zzq; (case zzq => k_is)))
      (case g_sorted => (refine PySem.W.mg_none_of KX G ?zzq; (case zzq => k_is)))
      (case g_sum => (refine PySem.W.mg_none_of KX G ?zzq; (case zzq => k_is)))
      (case g_tuple => (refine PySem.W.mg_none_of KX G ?zzq; (case zzq => k_is)))
      (case t__law_deck => (refine' Pz.tx_mk KX G (fun _ _ _ _ _ _ us hl => match us, hl with | [_], _ => rfl) ?zza ?zzl ?zzc ?zzk; (case zza => k_is); (case zzl => k_is); (case zzc => k_is); (case zzk => k_is)))
      (case t__law_draw => (refine' Pz.tx_mk KX G (fun _ _ _ _ _ _ us hl => match us, hl with | [_, _], _ => rfl) ?zza ?zzl ?zzc ?zzk; (case zza => k_is); (case zzl => k_is); (case zzc => k_is); (case zzk => k_is)))
      (case t__law_mixed => (refine' Pz.tx_mk KX G (fun _ _ _ _ _ _ us hl => match us, hl with | [_, _], _ => rfl) ?zza ?zzl ?zzc ?zzk; (case zza => k_is); (case zzl => k_is); (case zzc => k_is); (case zzk => k_is)))
      (case t__law_renumbered => (refine' Pz.tx_mk KX G (fun _ _ _ _ _ _ us hl => match us, hl with | [_, _], _ => rfl) ?zza ?zzl ?zzc ?zzk; (case zza => k_is); (case zzl => k_is); (case zzc => k_is); (case zzk => k_is)))
      (case t__law_one => (refine' Pz.tx_mk KX G (fun _ _ _ _ _ _ us hl => match us, hl with | [_, _], _ => rfl) ?zza ?zzl ?zzc ?zzk; (case zza => k_is); (case zzl => k_is); (case zzc => k_is); (case zzk => k_is)))
      (case t__law_kind => (refine' Pz.tx_mk KX G (fun _ _ _ _ _ _ us hl => match us, hl with | [_, _], _ => rfl) ?zza ?zzl ?zzc ?zzk; (case zza => k_is); (case zzl => k_is); (case zzc => k_is); (case zzk => k_is)))
      (case t__law_woven => (refine' Pz.tx_mk KX G (fun _ _ _ _ _ _ us hl => match us, hl with | [_, _, _], _ => rfl) ?zza ?zzl ?zzc ?zzk; (case zza => k_is); (case zzl => k_is); (case zzc => k_is); (case zzk => k_is)))
      (case t_Passes_is_done => (refine' Pz.txm_mk ?zaC (fun _ _ _ _ _ _ us hl => match us, hl with | [_, _], _ => rfl) ?za ?zi ?zl ?zc ?zk (Pz.clsF_mk ?zpg ?zhd ?zpo ?zsa); (case zaC => k_is); (case za => k_is); (case zi => k_is); (case zl => k_is); (case zc => k_is); (case zk => k_is); (case zpg => k_is); (case zhd => k_is); (case zpo => k_is); (case zsa => k_is)))
      (case t_Passes_cells => (refine' Pz.txm_mk ?zaC (fun _ _ _ _ _ _ us hl => match us, hl with | [_, _, _], _ => rfl) ?za ?zi ?zl ?zc ?zk (Pz.clsF_mk ?zpg ?zhd ?zpo ?zsa); (case zaC => k_is); (case za => k_is); (case zi => k_is); (case zl => k_is); (case zc => k_is); (case zk => k_is); (case zpg => k_is); (case zhd => k_is); (case zpo => k_is); (case zsa => k_is)))
      (case t_Passes_behind => (refine' Pz.txm_mk ?zaC (fun _ _ _ _ _ _ us hl => match us, hl with | [_, _, _, _], _ => rfl) ?za ?zi ?zl ?zc ?zk (Pz.clsF_mk ?zpg ?zhd ?zpo ?zsa); (case zaC => k_is); (case za => k_is); (case zi => k_is); (case zl => k_is); (case zc => k_is); (case zk => k_is); (case zpg => k_is); (case zhd => k_is); (case zpo => k_is); (case zsa => k_is)))
      (case t_Passes_finds => (refine' Pz.txm_mk ?zaC (fun _ _ _ _ _ _ us hl => match us, hl with | [_, _, _, _], _ => rfl) ?za ?zi ?zl ?zc ?zk (Pz.clsF_mk ?zpg ?zhd ?zpo ?zsa); (case zaC => k_is); (case za => k_is); (case zi => k_is); (case zl => k_is); (case zc => k_is); (case zk => k_is); (case zpg => k_is); (case zhd => k_is); (case zpo => k_is); (case zsa => k_is)))
      (case t_Passes_nexts => (refine' Pz.txm_mk ?zaC (fun _ _ _ _ _ _ us hl => match us, hl with | [_, _, _], _ => rfl) ?za ?zi ?zl ?zc ?zk (Pz.clsF_mk ?zpg ?zhd ?zpo ?zsa); (case zaC => k_is); (case za => k_is); (case zi => k_is); (case zl => k_is); (case zc => k_is); (case zk => k_is); (case zpg => k_is); (case zhd => k_is); (case zpo => k_is); (case zsa => k_is)))
      (case t_Passes_ways => (refine' Pz.txm_mk ?zaC (fun _ _ _ _ _ _ us hl => match us, hl with | [_, _, _], _ => rfl) ?za ?zi ?zl ?zc ?zk (Pz.clsF_mk ?zpg ?zhd ?zpo ?zsa); (case zaC => k_is); (case za => k_is); (case zi => k_is); (case zl => k_is); (case zc => k_is); (case zk => k_is); (case zpg => k_is); (case zhd => k_is); (case zpo => k_is); (case zsa => k_is)))
      (case t_Passes_orders => (refine' Pz.txm_mk ?zaC (fun _ _ _ _ _ _ us hl => match us, hl with | [_], _ => rfl) ?za ?zi ?zl ?zc ?zk (Pz.clsF_mk ?zpg ?zhd ?zpo ?zsa); (case zaC => k_is); (case za => k_is); (case zi => k_is); (case zl => k_is); (case zc => k_is); (case zk => k_is); (case zpg => k_is); (case zhd => k_is); (case zpo => k_is); (case zsa => k_is)))
      (case t_Passes_first_order => (refine' Pz.txm_mk ?zaC (fun _ _ _ _ _ _ us hl => match us, hl with | [_], _ => rfl) ?za ?zi ?zl ?zc ?zk (Pz.clsF_mk ?zpg ?zhd ?zpo ?zsa); (case zaC => k_is); (case za => k_is); (case zi => k_is); (case zl => k_is); (case zc => k_is); (case zk => k_is); (case zpg => k_is); (case zhd => k_is); (case zpo => k_is); (case zsa => k_is)))
      (case t_ties => (refine' Pz.tx_mk KX G (fun _ _ _ _ _ _ us hl => match us, hl with | [_], _ => rfl) ?zza ?zzl ?zzc ?zzk; (case zza => k_is); (case zzl => k_is); (case zzc => k_is); (case zzk => k_is)))
      (case t_Passes_init => (refine' Pz.txi_mk KX G ?zaC (fun _ _ _ _ _ _ us hl => match us, hl with | [_, _, _], _ => rfl) ?za ?zi ?zl ?zc ?zk ?zm ?zkc; (case zaC => k_is); (case za => k_is); (case zi => k_is); (case zl => k_is); (case zc => k_is); (case zk => k_is); (case zm => k_is); (case zkc => k_is)))
      (case t_order_of => (refine' Pz.tx_mk KX G (fun _ _ _ _ _ _ us hl => match us, hl with | [_], _ => rfl) ?zza ?zzl ?zzc ?zzk; (case zza => k_is); (case zzl => k_is); (case zzc => k_is); (case zzk => k_is)))
      (case t_heights => (refine' Pz.tx_mk KX G (fun _ _ _ _ _ _ us hl => match us, hl with | [_, _], _ => rfl) ?zza ?zzl ?zzc ?zzk; (case zza => k_is); (case zzl => k_is); (case zzc => k_is); (case zzk => k_is)))
      (case t__law_inputs => (refine' Pz.tx_mk KX G (fun _ _ _ _ _ _ us hl => match us, hl with | [_], _ => rfl) ?zza ?zzl ?zzc ?zzk; (case zza => k_is); (case zzl => k_is); (case zzc => k_is); (case zzk => k_is)))
      (case t__law_ties => (refine' Pz.tx_mk KX G (fun _ _ _ _ _ _ us hl => match us, hl with | [_], _ => rfl) ?zza ?zzl ?zzc ?zzk; (case zza => k_is); (case zzl => k_is); (case zzc => k_is); (case zzk => k_is)))
      (case t__law_heights => (refine' Pz.tx_mk KX G (fun _ _ _ _ _ _ us hl => match us, hl with | [_, _], _ => rfl) ?zza ?zzl ?zzc ?zzk; (case zza => k_is); (case zzl => k_is); (case zzc => k_is); (case zzk => k_is)))
      (case tk_heights_0 => (refine' Pz.txk_mk KX G (fun _ _ _ _ _ _ us hl => match us, hl with | [_, _], _ => rfl) ?zza ?zzl ?zzc ?zzk; (case zza => k_is); (case zzl => k_is); (case zzc => k_is); (case zzk => k_is)))
      (case f_Passes_is_queue => (refine' Pz.fldC_mk ?zaC (Pz.clsF_mk ?zpg ?zhd ?zpo ?zsa) ?zno; (case zaC => k_is); (case zpg => k_is); (case zhd => k_is); (case zpo => k_is); (case zsa => k_is); (case zno => k_is)))
      (case f_Passes_known => (refine' Pz.fldC_mk ?zaC (Pz.clsF_mk ?zpg ?zhd ?zpo ?zsa) ?zno; (case zaC => k_is); (case zpg => k_is); (case zhd => k_is); (case zpo => k_is); (case zsa => k_is); (case zno => k_is)))
      (case f_Passes_many => (refine' Pz.fldC_mk ?zaC (Pz.clsF_mk ?zpg ?zhd ?zpo ?zsa) ?zno; (case zaC => k_is); (case zpg => k_is); (case zhd => k_is); (case zpo => k_is); (case zsa => k_is); (case zno => k_is)))
      (case f_Passes_peaks => (refine' Pz.fldC_mk ?zaC (Pz.clsF_mk ?zpg ?zhd ?zpo ?zsa) ?zno; (case zaC => k_is); (case zpg => k_is); (case zhd => k_is); (case zpo => k_is); (case zsa => k_is); (case zno => k_is)))
      (case f_Passes_uses => (refine' Pz.fldC_mk ?zaC (Pz.clsF_mk ?zpg ?zhd ?zpo ?zsa) ?zno; (case zaC => k_is); (case zpg => k_is); (case zhd => k_is); (case zpo => k_is); (case zsa => k_is); (case zno => k_is)))
      (case f_Passes_wants => (refine' Pz.fldC_mk ?zaC (Pz.clsF_mk ?zpg ?zhd ?zpo ?zsa) ?zno; (case zaC => k_is); (case zpg => k_is); (case zhd => k_is); (case zpo => k_is); (case zsa => k_is); (case zno => k_is)))
    refine' Pz.law_fn (F := Pz.F_law) (st := Pz.s_law) KX G hmg (fun _ _ _ _ _ _ _ _ => .of_eq rfl) (fun F base hK hG => Pz.fnG_law T F) ?zza ?zzl ?zzc ?zzk
    (case zza => k_is)
    (case zzl => k_is)
    (case zzc => k_is)
    (case zzk => k_is)

