import PyProof.Rows.All
import Wide.All
import OpenK.AllK
import Wide.FinOn
import HandS.ForMost
import HandS.ForExc
import HandS.CallSlots
import HandS.TupAny
import HandS.TupMul
import HandS.IsInst
import KE.KDictKeyed
import HandS.Wide
import KE.SortData
import HandS.Conv
import HandS.Style
import KE.GoesEnum
import HandS.Zip
import HandS.SortRule
import HandS.SortInts
import HandS.SetFor
import HandS.Strs
import HandS.RaiseMore
import HandS.ExcInit
import HandS.ExcField
import HandS.TryMany
import HandS.ClsMeth
import KE.KIsAll
import HandS.ExcIs
import KE.KIndexOf
import HandS.Deep
import PySem.Challenge.RW_pilepass_k46_texts_that_are_wrong
set_option Elab.async false
set_option linter.all false
set_option maxRecDepth 100000
set_option maxHeartbeats 4000000
/-! Pz0: new tuples whose object is known (it has no dict): the rules of HandS that make tuples, told so. -/
namespace Pz
open PySem PySem.Spec PyProof.Rows L2
/-- a new tuple at p -/
abbrev nwT (vs : List V) (H : Hp) (Q : VK) : Prop := ∀ (p : Addr) (ob : Obj), H p = none → ob.dict = none → Q (.ref p) (upd H p (.frz ob (.tup vs)))
section
variable {X : Cx} {es : List Expr} {t : TA} {pos : Pos}
def tTupF (t : TA) : TE := fun σ H Q => t σ H fun xs H1 => xs.length ≤ sizeLine ∧ nwT xs H1 Q
theorem frz_new {P : Program} {w : World} {H : Hp} {h : Heap} {its : List Value} {xs : List V} (hz : xs.length ≤ sizeLine) (r : Vals xs its) :
    ObjOk P w H (h.push { cls := .type "tuple", data := .seq its.toArray }) h.objs.size (.frz { cls := .type "tuple", data := .seq its.toArray } (.tup xs)) :=
  ⟨Heap.get?_push_size _ rfl, hz, its, r, IsTup.new _ _⟩
theorem pe_tupF {x1} (h : PA X es t) : PE X (.Tuple es x1 pos) (tTupF t) := by
  refine ⟨fun pins s σ H Q I hq => ?_⟩
  refine wpAny_Tuple_spliced (thn (h.run pos pins s σ H _ I hq) fun us s1 ⟨xs, H1, I1, r, z, q⟩ => ⟨by rw [← r.length]; exact z, ?_⟩)
  have hf : H1 s1.heap.objs.size = none := I1.hok.fresh (Nat.le_refl _)
  exact ⟨.ref s1.heap.objs.size, _, I1.laid (t' := s1.toks) (fun b u e => Heap.get?_push_of_some _ e) (Nat.le_refl _) (frz_new z r), rfl, q _ _ hf rfl⟩
def rCatF (K : PySem.W.Frag) : R2 := fun x y H Q => ∃ a b xs ys, x = .ref a ∧ y = .ref b ∧ SqT K H a xs ∧ SqT K H b ys ∧ xs.length + ys.length ≤ sizeLine ∧
  (xs = [] → Q (.ref b) H) ∧ (xs ≠ [] → ys = [] → Q (.ref a) H) ∧ (xs ≠ [] → ys ≠ [] → nwT (xs ++ ys) H Q)
theorem op_catF : OpR X (binaryOp .Add) (rCatF X.K) := by
  intro pins s σ H x y v u Q I rx ry h
  obtain ⟨a, b, xs, ys, rfl, rfl, ha, hb, hz, q0, q1, q2⟩ := h
  cases rx
  cases ry
  obtain ⟨its, r1, p1, _⟩ := I.tuple ha
  obtain ⟨its2, r2, p2, _⟩ := I.tuple hb
  by_cases hx : xs = []
  · subst hx
    cases r1
    exact cat_tup0 p1 p2 ⟨.ref b, H, I, rfl, q0 rfl⟩
  · refine HT.cat_tup p1 p2 (fun z => hx (r1.nil_iff.mp z)) (fun z => ⟨.ref a, H, I, rfl, q1 hx (r2.nil_iff.mp z)⟩) (fun z => ?_) (by rw [← r1.length, ← r2.length]; exact hz)
    exact ⟨.ref s.heap.objs.size, _, I.laid (t' := s.toks) (fun b ob q => Heap.get?_push_of_some _ q) (Nat.le_refl _) (frz_new (by rw [List.length_append]; exact hz) (r1.append r2)), rfl, q2 hx (fun w => z (r2.nil_iff.mpr w)) _ _ (I.hok.fresh (Nat.le_refl _)) rfl⟩
def rSlF (K : PySem.W.Frag) : V → Option Int → Option Int → Hp → VK → Prop := fun x lo hi H Q => ∃ a xs, x = .ref a ∧ SqT K H a xs ∧
  (HT.sIx xs.length 0 lo = 0 ∧ HT.sIx xs.length xs.length hi = xs.length → Q (.ref a) H) ∧ (¬ (HT.sIx xs.length 0 lo = 0 ∧ HT.sIx xs.length xs.length hi = xs.length) → nwT (cutV xs lo hi) H Q)
theorem sl_tupF : SlR X (rSlF X.K) := by
  intro pins s σ H x v vl vu lo hi sl Q I rx hs pl pu h
  obtain ⟨a, xs, rfl, hx, q1, q2⟩ := h
  cases rx
  obtain ⟨its, r, ht, hz⟩ := I.tuple hx
  have hlen : its.toArray.size = xs.length := by rw [List.size_toArray]; exact r.length.symm
  refine ⟨"tuple", _, PyProof.Rows.slot_tuple_getitem.lookup, ht.typeIs, ?_⟩
  by_cases hw : HT.sIx xs.length 0 lo = 0 ∧ HT.sIx xs.length xs.length hi = xs.length
  · exact getItem_tuple_whole ht hs pl pu (by rw [hlen]; exact hw) ⟨.ref a, H, I, rfl, q1 hw⟩
  · refine HT.getItem_tuple_cut ht hs pl pu (by rw [hlen]; exact hw) ?_ (by rw [hlen]; exact hz)
    rw [hlen]
    exact ⟨.ref s.heap.objs.size, _, I.laid (t' := s.toks) (fun b ob q => Heap.get?_push_of_some _ q) (Nat.le_refl _) (frz_new (Nat.le_trans (cutV_length xs lo hi) hz) ((r.drop (HT.sIx xs.length 0 lo)).take (HT.sIx xs.length xs.length hi - HT.sIx xs.length 0 lo))), rfl, q2 hw _ _ (I.hok.fresh (Nat.le_refl _)) rfl⟩
theorem call_tupleF : CallR X (.type "tuple") (fun xs H Q => ∃ p ys, xs = [.ref p] ∧ ((SqL X.K H p ys ∧ nwT ys H Q) ∨ (SqT X.K H p ys ∧ Q (.ref p) H))) := by
  intro pins s σ H xs us Q I r h
  obtain ⟨p, ys, rfl, h⟩ := h
  obtain ⟨u, rfl, rx⟩ := vals1 r
  cases rx
  rcases h with ⟨hq, q⟩ | ⟨hq, q⟩
  · obtain ⟨its, r', pl, hz⟩ := I.list hq
    have hlen := r'.length
    refine call_tuple_list pl.isList (fun h' kp => ?_) (by simp only [List.size_toArray] <;> omega)
    have I1 : Inv X pins σ H { s with heap := h' } := I.kept (t' := s.toks) kp
    have I2 : Inv X pins σ (upd H h'.objs.size (.frz { cls := .type "tuple", data := .seq its.toArray } (.tup ys))) { s with heap := h'.push { cls := .type "tuple", data := .seq its.toArray } } :=
      I1.laid (t' := s.toks) (fun b o e => Heap.get?_push_of_some _ e) (Nat.le_refl _) (frz_new hz r')
    exact ⟨.ref h'.objs.size, _, I2, rfl, q _ _ (I1.hok.fresh (Nat.le_refl _)) rfl⟩
  · obtain ⟨its, r', pl, hz⟩ := I.tuple hq
    exact call_tuple_same pl ⟨.ref p, H, I, rfl, q⟩
def rRepF (K : PySem.W.Frag) : R2 := fun x y H Q => ∃ l k xs, x = .ref l ∧ y = .int k ∧ SqT K H l xs ∧ xs ≠ [] ∧ 2 ≤ k ∧ k ≤ 1000 ∧ xs.length ≤ 1000 ∧ nwT (List.replicate k.toNat xs).flatten H Q
theorem op_repF : OpR X (binaryOp .Mult) (rRepF X.K) := by
  intro pins s σ H x y v u Q I rx ry h
  obtain ⟨l, k, xs, rfl, rfl, hT, hne, h1, h2, hz, q⟩ := h
  cases rx
  obtain ⟨t, rfl⟩ := ry
  obtain ⟨its, r, ⟨⟨cls, dd, data, sl⟩, ho, hc, n, hd⟩, hs⟩ := I.tuple hT
  simp only at hc hd
  subst hc hd
  have hle : its.length = xs.length := r.length.symm
  have hn : its ≠ [] := fun e => hne (by
    rw [e] at hle
    exact List.eq_nil_of_length_eq_zero hle.symm)
  have hi : its.toArray.isEmpty = false := by
    cases its with
    | nil => exact absurd rfl hn
    | cons a b => rfl
  have hsz0 : its.toArray.size = xs.length := by rw [List.size_toArray, hle]
  have hm : ((its.toArray.size : Nat) : Int) * k ≤ 1000000 := by
    rw [hsz0]
    have a1 : ((xs.length : Nat) : Int) * k ≤ 1000 * k := Int.mul_le_mul_of_nonneg_right (by omega) (by omega)
    omega
  have flen : (List.replicate k.toNat its).flatten.length ≤ sizeLine := by
    rw [PyProof.Rows.lm_len_rep_flat, hle, sizeLine_eq]
    have a1 : k.toNat * xs.length ≤ 1000 * 1000 := Nat.mul_le_mul (by omega) hz
    omega
  have c0 : (decide (k < -(2 ^ 63)) || decide (k ≥ 2 ^ 63)) = false := by
    rw [decide_eq_false (by omega), decide_eq_false (by omega)] <;> rfl
  have c1 : (its.toArray.isEmpty || k == 1) = false := by
    rw [hi, Bool.false_or]
    exact beq_eq_false_iff_ne.mpr (by omega)
  have c2 : (decide (k ≤ 0) || its.toArray.isEmpty) = false := by
    rw [hi, Bool.or_false]
    exact decide_eq_false (by omega)
  have c4 : Builtin.Tuple.tupleTooMany (((its.toArray.size : Nat) : Int) * k) = false := by
    unfold Builtin.Tuple.tupleTooMany
    rw [sizeLine_eq]
    exact decide_eq_false (by omega)
  refine wpAny_binaryOp_repeat_ref (T := "tuple") (U := "int") (by decide) ⟨_, ho, rfl⟩ (fun s' => typeIs_int s' k t) noFill_tuple_mul F.fills_int_mul F.slot_int_rmul repeat_tuple F.slot_int_index.lookup
    (call_meets F.slot_int_rmul (typeIs_int s k t) F.entry_int_rmul (F.args_int_rmul_2 _ _) (int_rmul_tuple k t l its.toArray n dd sl)
      ⟨ho, rfl, ⟨_, ho, rfl⟩, call_meets F.slot_tuple_mul ⟨_, ho, rfl⟩ F.entry_tuple_mul (F.args_tuple_mul_2 _ _) (tuple_mulW l its.toArray n dd sl k t c0 c1 c2 (by omega) c4 (by rw [size_rep, List.size_toArray]; exact flen)) ⟨ho, ?_⟩⟩)
  rw [size_rep]
  exact ⟨.ref s.heap.objs.size, _, I.laid (t' := s.toks) (fun b ob q => Heap.get?_push_of_some _ q) (Nat.le_refl _) (frz_new (by rw [PyProof.Rows.lm_len_rep_flat, sizeLine_eq]; have a1 : k.toNat * xs.length ≤ 1000 * 1000 := Nat.mul_le_mul (by omega) hz; omega) (r.rep k.toNat)), rfl, q _ _ (I.hok.fresh (Nat.le_refl _)) rfl⟩
end
end Pz

set_option Elab.async false
set_option linter.all false
set_option maxRecDepth 100000
set_option maxHeartbeats 4000000
/-! Pz1: data trees, the store, how they lie in the abstract heap; what an expression computes as a Lean function. -/
namespace Pz
open PySem PySem.Spec PyProof.Rows L2

/-! ### data, store, ends -/
inductive D where
  | non | bl (b : Bool) | int (i : Int) | str (s : Str) | tup (xs : List D) | ref (n : Nat) | fn (a : Addr) | rl (xs : List D)

abbrev Loc := List (Option D)
inductive Ob where
  | lst (xs : List D)
  | dk (kvs : List (Key × D))
  | ins (C : Str) (fs : List (Str × D))
  /-- a dict whose keys are nested tuples, its values ints: each pair turned round -/
  | dn (kvs : List (Int × D))
abbrev Sto := List Ob
mutual
/-- the key of a dict that a value is -/
def nkD : D → Option NestedKey
  | .non => some .none
  | .bl b => some (.num (if b = true then 1 else 0))
  | .int i => some (.num i)
  | .tup xs => match nkDs xs with
    | some ks => some (.tup ks)
    | none => none
  | _ => none
def nkDs : List D → Option (List NestedKey)
  | [] => some []
  | x :: xs => match nkD x, nkDs xs with
    | some k, some ks => some (k :: ks)
    | _, _ => none
end
/-- the entries of the dict -/
inductive DnE : List (Int × D) → List (Int × V) → List (NestedKey × Addr × Value) → Prop
  | nil : DnE [] [] []
  | cons {z d k b t r us xs} : nkD d = some k → DnE r us xs → DnE ((z, d) :: r) ((z, .ref b) :: us) ((k, b, .int z t) :: xs)
/-- the dict itself -/
def DnO (a : Addr) (kvs : List (Int × D)) (us : List (Int × V)) : Heap → Prop := fun h => ∃ o es ep xs, h.get? a = some o ∧ o.ExactDict ∧ o.data = .dict es ep ∧ DnE kvs us xs ∧ (xs.map (·.1)).Nodup ∧
  ∀ (P : Program) (w : World), es.toList = xs.map (entryOfKey (nestedKind P w))
inductive Out (α : Type) where
  | ok (a : α) (S : Sto)
  | ex (C : Str) (fs : Option (List (Str × D))) (S : Sto)
  | bad
def Out.bind {α β : Type} (o : Out α) (f : α → Sto → Out β) : Out β := match o with
  | .ok a S => f a S
  | .ex C fs S => .ex C fs S
  | .bad => .bad
inductive OutS where
  | nx (l : Loc) (S : Sto)
  | rt (d : D) (S : Sto)
  | bk (l : Loc) (S : Sto)
  | ct (l : Loc) (S : Sto)
  | ex (l : Loc) (C : Str) (fs : Option (List (Str × D))) (S : Sto)
  | bad

section
variable (K : PySem.W.Frag) (m : List Addr) (H : Hp)
/-- a list that nobody writes at: the script -/
def SqF (a : Addr) (xs : List V) : Prop := (∃ o, H a = some (.frz o (.lst xs))) ∨
    ∃ (o : Obj) (its : Array Value) (n : Nat), K.lookup a = some o ∧ o.cls = .type "list" ∧ o.dict = none ∧ o.data = .seq its n ∧ its.size ≤ sizeLine ∧ Vals xs its.toList
/-- a tuple that has no dict -/
def SqN (a : Addr) (xs : List V) : Prop := (∃ ob : Obj, ob.dict = none ∧ H a = some (.frz ob (.tup xs))) ∨
    ∃ (o : Obj) (its : Array Value) (n : Nat), K.lookup a = some o ∧ o.cls = .type "tuple" ∧ o.dict = none ∧ o.data = .seq its n ∧ its.size ≤ sizeLine ∧ Vals xs its.toList
mutual
def VR : D → V → Prop
  | .non, v => v = .non
  | .bl b, v => v = .bl b
  | .int i, v => v = .int i
  | .str s, v => v = .str s
  | .tup xs, v => ∃ a vs, v = .ref a ∧ SqN K H a vs ∧ VRs xs vs
  | .ref n, v => ∃ a, m[n]? = some a ∧ v = .ref a
  | .fn a, v => v = .ref a
  | .rl xs, v => ∃ a vs, v = .ref a ∧ SqF K H a vs ∧ VRs xs vs
def VRs : List D → List V → Prop
  | [], vs => vs = []
  | x :: xs, vs => ∃ v r, vs = v :: r ∧ VR x v ∧ VRs xs r
end
def AR {κ : Type} : List (κ × D) → List (κ × V) → Prop
  | [], us => us = []
  | (k, d) :: r, us => ∃ v q, us = (k, v) :: q ∧ VR K m H d v ∧ AR r q
/-- where the class of that name stands -/
def clsA (C : Str) : Addr := match PySem.W.nsIn K mainGlobals C with
  | some (some (.ref a)) => a
  | _ => 0
def OR : Ob → Addr → Prop
  | .lst xs, a => ∃ vs, H a = some (.lst vs) ∧ VRs K m H xs vs
  | .dk kvs, a => ∃ us, H a = some (.dK us) ∧ AR K m H kvs us
  | .ins C fs, a => ∃ dx us, H a = some (.ins (clsA K C) dx us) ∧ AR K m H fs us
  | .dn kvs, a => ∃ us, H a = some (.ext (DnO a kvs us)) ∧ AR K m H kvs us
structure SR (S : Sto) : Prop where
  len : m.length = S.length
  nd : m.Nodup
  «at» : ∀ (n : Nat) o, S[n]? = some o → ∃ a, m[n]? = some a ∧ OR K m H o a
  sys : ∃ o u, H sysModules = some (.frz o u)
/-- an exception of the class at C with these fields -/
def XR (C : Str) (fs : Option (List (Str × D))) (cls : Value) (d : Option Addr) : Prop := cls = .ref (clsA K C) ∧ match fs with
  | none => d = none
  | some fs => ∃ a us, d = some a ∧ H a = some (.xd us) ∧ AR K m H fs us
end
structure Ext (m : List Addr) (H : Hp) (m' : List Addr) (H' : Hp) : Prop where
  mu : ∃ ν, m' = m ++ ν ∧ ∀ a ∈ ν, H a = none
  tup : ∀ a xs, H a = some (.tup xs) → H' a = some (.tup xs)
  frz : ∀ a o u, H a = some (.frz o u) → H' a = some (.frz o u)
  oth : ∀ a o, H a = some o → a ∉ m → H' a = some o
  dom : ∀ a, H' a = none → H a = none

section
variable {K : PySem.W.Frag} {m m1 m2 m' : List Addr} {H H1 H2 H' : Hp} {S S' : Sto} {a p : Addr}
theorem Ext.refl : Ext m H m H := ⟨⟨[], by simp, fun _ h => nomatch h⟩, fun _ _ h => h, fun _ _ _ h => h, fun _ _ h _ => h, fun _ h => h⟩
theorem Ext.trans (e : Ext m H m1 H1) (f : Ext m1 H1 m2 H2) : Ext m H m2 H2 := by
  obtain ⟨n1, rfl, q1⟩ := e.mu
  obtain ⟨n2, rfl, q2⟩ := f.mu
  refine ⟨⟨n1 ++ n2, by rw [List.append_assoc], fun a ha => ?_⟩, fun a xs h => f.tup a xs (e.tup a xs h), fun a o u h => f.frz a o u (e.frz a o u h), fun a o h hn => ?_, fun a h => e.dom a (f.dom a h)⟩
  · rcases List.mem_append.mp ha with ha | ha
    · exact q1 a ha
    · exact e.dom a (q2 a ha)
  · refine f.oth a o (e.oth a o h hn) fun hm => ?_
    rcases List.mem_append.mp hm with hm | hm
    · exact hn hm
    · rw [q1 a hm] at h; cases h
theorem Ext.get (e : Ext m H m' H') {n : Nat} (h : m[n]? = some a) : m'[n]? = some a := by
  obtain ⟨ν, rfl, _⟩ := e.mu
  rw [List.getElem?_append_left (List.getElem?_eq_some_iff.mp h).1]; exact h
theorem SqT.ext {vs : List V} (e : Ext m H m' H') (h : SqT K H a vs) : SqT K H' a vs := by
  rcases h with (h | ⟨o, h⟩) | h
  · exact .inl (.inl (e.tup _ _ h))
  · exact .inl (.inr ⟨o, e.frz _ _ _ h⟩)
  · exact .inr h
theorem SqF.ext {vs : List V} (e : Ext m H m' H') (h : SqF K H a vs) : SqF K H' a vs := by
  rcases h with ⟨o, h⟩ | h
  · exact .inl ⟨o, e.frz _ _ _ h⟩
  · exact .inr h
theorem SqF.sql {vs : List V} (h : SqF K H a vs) : SqL K H a vs := by
  rcases h with ⟨o, h⟩ | h
  · exact .inl (.inr ⟨o, h⟩)
  · exact .inr h
theorem SqT.mono {vs : List V} (t : ∀ a xs, H a = some (.tup xs) → H' a = some (.tup xs)) (z : ∀ a o u, H a = some (.frz o u) → H' a = some (.frz o u)) (h : SqT K H a vs) : SqT K H' a vs := by
  rcases h with (h | ⟨o, h⟩) | h
  · exact .inl (.inl (t _ _ h))
  · exact .inl (.inr ⟨o, z _ _ _ h⟩)
  · exact .inr h
theorem SqN.t {vs : List V} (h : SqN K H a vs) : SqT K H a vs := by
  rcases h with ⟨ob, _, h⟩ | ⟨o, its, n, h1, h2, _, h3, h4, h5⟩
  · exact .inl (.inr ⟨ob, h⟩)
  · exact .inr ⟨o, its, n, h1, h2, h3, h4, h5⟩
instance {vs : List V} : Coe (SqN K H a vs) (SqT K H a vs) := ⟨SqN.t⟩
theorem SqN.ext {vs : List V} (e : Ext m H m' H') (h : SqN K H a vs) : SqN K H' a vs := by
  rcases h with ⟨o, h1, h⟩ | h
  · exact .inl ⟨o, h1, e.frz _ _ _ h⟩
  · exact .inr h
theorem SqN.mono {vs : List V} (z : ∀ a o u, H a = some (.frz o u) → H' a = some (.frz o u)) (h : SqN K H a vs) : SqN K H' a vs := by
  rcases h with ⟨o, h1, h⟩ | h
  · exact .inl ⟨o, h1, z _ _ _ h⟩
  · exact .inr h
theorem SqF.mono {vs : List V} (z : ∀ a o u, H a = some (.frz o u) → H' a = some (.frz o u)) (h : SqF K H a vs) : SqF K H' a vs := by
  rcases h with ⟨o, h⟩ | h
  · exact .inl ⟨o, z _ _ _ h⟩
  · exact .inr h
mutual
theorem VR.mono (k : ∀ (n : Nat) (a : Addr), m[n]? = some a → m'[n]? = some a) (t : ∀ a xs, H a = some (.tup xs) → H' a = some (.tup xs)) (z : ∀ a o u, H a = some (.frz o u) → H' a = some (.frz o u)) : ∀ (d : D) (v : V), VR K m H d v → VR K m' H' d v
  | .non, _, h => by simpa only [VR] using h
  | .bl _, _, h => by simpa only [VR] using h
  | .int _, _, h => by simpa only [VR] using h
  | .str _, _, h => by simpa only [VR] using h
  | .fn _, _, h => by simpa only [VR] using h
  | .tup xs, _, h => by
    simp only [VR] at h ⊢
    obtain ⟨a, vs, h1, h2, h3⟩ := h
    exact ⟨a, vs, h1, SqN.mono z h2, VRs.mono k t z xs vs h3⟩
  | .ref _, _, h => by
    simp only [VR] at h ⊢
    obtain ⟨a, h1, h2⟩ := h
    exact ⟨a, k _ _ h1, h2⟩
  | .rl xs, _, h => by
    simp only [VR] at h ⊢
    obtain ⟨a, vs, h1, h2, h3⟩ := h
    exact ⟨a, vs, h1, SqF.mono z h2, VRs.mono k t z xs vs h3⟩
theorem VRs.mono (k : ∀ (n : Nat) (a : Addr), m[n]? = some a → m'[n]? = some a) (t : ∀ a xs, H a = some (.tup xs) → H' a = some (.tup xs)) (z : ∀ a o u, H a = some (.frz o u) → H' a = some (.frz o u)) : ∀ (d : List D) (v : List V), VRs K m H d v → VRs K m' H' d v
  | [], _, h => by simpa only [VRs] using h
  | x :: xs, _, h => by
    simp only [VRs] at h ⊢
    obtain ⟨v, r, h1, h2, h3⟩ := h
    exact ⟨v, r, h1, VR.mono k t z x v h2, VRs.mono k t z xs r h3⟩
end
theorem AR.mono {κ : Type} (k : ∀ (n : Nat) (a : Addr), m[n]? = some a → m'[n]? = some a) (t : ∀ a xs, H a = some (.tup xs) → H' a = some (.tup xs)) (z : ∀ a o u, H a = some (.frz o u) → H' a = some (.frz o u)) : ∀ (d : List (κ × D)) (v : List (κ × V)), AR K m H d v → AR K m' H' d v
  | [], _, h => h
  | (_, x) :: xs, _, h => by
    obtain ⟨v, r, h1, h2, h3⟩ := h
    exact ⟨v, r, h1, VR.mono k t z x v h2, AR.mono k t z xs r h3⟩
theorem VR.ext (e : Ext m H m' H') (d : D) (v : V) (h : VR K m H d v) : VR K m' H' d v := VR.mono (fun _ _ q => e.get q) e.tup e.frz d v h
theorem VRs.ext (e : Ext m H m' H') (d : List D) (v : List V) (h : VRs K m H d v) : VRs K m' H' d v := VRs.mono (fun _ _ q => e.get q) e.tup e.frz d v h
theorem AR.ext {κ : Type} (e : Ext m H m' H') (d : List (κ × D)) (v : List (κ × V)) (h : AR K m H d v) : AR K m' H' d v := AR.mono (fun _ _ q => e.get q) e.tup e.frz d v h
theorem OR.ext (e : Ext m H m' H') (ha : H' a = H a) : ∀ o : Ob, OR K m H o a → OR K m' H' o a
  | .lst xs, ⟨vs, h1, h2⟩ => ⟨vs, ha.trans h1, VRs.ext e _ _ h2⟩
  | .dk kvs, ⟨us, h1, h2⟩ => ⟨us, ha.trans h1, AR.ext e _ _ h2⟩
  | .ins C fs, ⟨dx, us, h1, h2⟩ => ⟨dx, us, ha.trans h1, AR.ext e _ _ h2⟩
  | .dn kvs, ⟨us, h1, h2⟩ => ⟨us, ha.trans h1, AR.ext e _ _ h2⟩
theorem XR.ext {C : Str} {fs : Option (List (Str × D))} {cls : Value} {d : Option Addr} (e : Ext m H m' H') (hn : ∀ a, d = some a → a ∉ m) (h : XR K m H C fs cls d) : XR K m' H' C fs cls d := by
  obtain ⟨h1, h2⟩ := h
  refine ⟨h1, ?_⟩
  cases fs with
  | none => exact h2
  | some fs =>
    obtain ⟨a, us, rfl, h3, h4⟩ := h2
    exact ⟨a, us, rfl, e.oth _ _ h3 (hn a rfl), AR.ext e _ _ h4⟩
theorem OR.here {o : Ob} (h : OR K m H o a) : H a ≠ none := by
  cases o with
  | lst xs => obtain ⟨_, h, _⟩ := h; rw [h]; exact fun q => by cases q
  | dk xs => obtain ⟨_, h, _⟩ := h; rw [h]; exact fun q => by cases q
  | ins C fs => obtain ⟨_, _, h, _⟩ := h; rw [h]; exact fun q => by cases q
  | dn xs => obtain ⟨_, h, _⟩ := h; rw [h]; exact fun q => by cases q
/-- what may be written and stands in the store -/
def Mu (o : Option HO) : Prop := (∀ xs, o ≠ some (.tup xs)) ∧ ∀ ob u, o ≠ some (.frz ob u)
theorem OR.mu {o : Ob} (h : OR K m H o a) : Mu (H a) := by
  cases o with
  | lst xs => obtain ⟨_, h, _⟩ := h; rw [h]; exact ⟨fun _ q => (by cases q), fun _ _ q => (by cases q)⟩
  | dk xs => obtain ⟨_, h, _⟩ := h; rw [h]; exact ⟨fun _ q => (by cases q), fun _ _ q => (by cases q)⟩
  | ins C fs => obtain ⟨_, _, h, _⟩ := h; rw [h]; exact ⟨fun _ q => (by cases q), fun _ _ q => (by cases q)⟩
  | dn xs => obtain ⟨_, h, _⟩ := h; rw [h]; exact ⟨fun _ q => (by cases q), fun _ _ q => (by cases q)⟩
theorem SR.mem (s : SR K m H S) (h : a ∈ m) : ∃ (n : Nat) (o : Ob), S[n]? = some o ∧ m[n]? = some a ∧ OR K m H o a := by
  obtain ⟨n, hn⟩ := List.mem_iff_getElem?.mp h
  have hl := (List.getElem?_eq_some_iff.mp hn).1
  have hl' : n < S.length := by rw [← s.len]; exact hl
  obtain ⟨b, hb, ho⟩ := s.at n S[n] (by simp [hl'])
  rw [hn] at hb; cases hb
  exact ⟨n, _, by simp [hl'], hn, ho⟩
theorem SR.notin (s : SR K m H S) (h : H a = none) : a ∉ m := fun hm => by
  obtain ⟨_, _, _, _, ho⟩ := s.mem hm
  exact ho.here h
theorem SR.keep (s : SR K m H S) (e : Ext m H m H') (h : ∀ a ∈ m, H' a = H a) : SR K m H' S :=
  ⟨s.len, s.nd, fun n o ho => by
    obtain ⟨a, h1, h2⟩ := s.at n o ho
    exact ⟨a, h1, h2.ext e (h a (List.mem_iff_getElem?.mpr ⟨n, h1⟩))⟩, let ⟨o, u, h⟩ := s.sys; ⟨o, u, e.frz _ _ _ h⟩⟩
/-- something new that is not in the store -/
theorem Ext.tmp {ho : HO} (hp : H p = none) : Ext m H m (upd H p ho) := by
  have ne : ∀ {b o}, H b = some o → b ≠ p := fun {b o} h q => by rw [q, hp] at h; cases h
  refine ⟨⟨[], by simp, fun _ h => nomatch h⟩, fun a xs h => by rw [upd_ne (ne h)]; exact h, fun a o u h => by rw [upd_ne (ne h)]; exact h, fun a o h _ => by rw [upd_ne (ne h)]; exact h, fun a h => ?_⟩
  by_cases q : a = p
  · rw [q]; exact hp
  · rw [upd_ne q] at h; exact h
theorem SR.tmp {ho : HO} (s : SR K m H S) (hp : H p = none) : SR K m (upd H p ho) S :=
  s.keep (Ext.tmp hp) fun a ha => upd_ne fun q => s.notin hp (by rw [← q]; exact ha)
/-- a temporary goes into the store -/
theorem Ext.into (hp : H p = none) (e : Ext m H m' H') : Ext m H (m' ++ [p]) H' := by
  obtain ⟨ν, rfl, q⟩ := e.mu
  exact ⟨⟨ν ++ [p], by rw [List.append_assoc], fun a ha => (List.mem_append.mp ha).elim (q a) fun h => by rw [List.mem_singleton.mp h]; exact hp⟩, e.tup, e.frz, e.oth, e.dom⟩
/-- the store grows by what stands already in the heap -/
theorem Ext.grow (hp : ∀ a ∈ m', H a = none) : Ext m H (m ++ m') H := ⟨⟨m', rfl, hp⟩, fun _ _ h => h, fun _ _ _ h => h, fun _ _ h _ => h, fun _ h => h⟩
theorem OR.keys {m m' : List Addr} (key : ∀ (n : Nat) (a : Addr), m[n]? = some a → m'[n]? = some a) : ∀ o : Ob, OR K m H o a → OR K m' H o a
  | .lst xs, ⟨vs, h1, h2⟩ => ⟨vs, h1, VRs.mono key (fun _ _ h => h) (fun _ _ _ h => h) _ _ h2⟩
  | .dk kvs, ⟨us, h1, h2⟩ => ⟨us, h1, AR.mono key (fun _ _ h => h) (fun _ _ _ h => h) _ _ h2⟩
  | .ins C fs, ⟨dx, us, h1, h2⟩ => ⟨dx, us, h1, AR.mono key (fun _ _ h => h) (fun _ _ _ h => h) _ _ h2⟩
  | .dn kvs, ⟨us, h1, h2⟩ => ⟨us, h1, AR.mono key (fun _ _ h => h) (fun _ _ _ h => h) _ _ h2⟩
theorem SR.grow {o : Ob} (s : SR K m H S) (hp : p ∉ m) (ho : OR K m H o p) : SR K (m ++ [p]) H (S ++ [o]) := by
  have key : ∀ (n : Nat) (a : Addr), m[n]? = some a → (m ++ [p])[n]? = some a := fun n a h => by
    rw [List.getElem?_append_left (List.getElem?_eq_some_iff.mp h).1]; exact h
  refine ⟨by simp [s.len], ?_, fun n ob hn => ?_, s.sys⟩
  · rw [List.nodup_append]
    exact ⟨s.nd, by simp, fun a ha b hb q => hp (by rw [List.mem_singleton.mp hb] at q; rw [← q]; exact ha)⟩
  · by_cases hl : n < S.length
    · rw [List.getElem?_append_left hl] at hn
      obtain ⟨a, h1, h2⟩ := s.at n ob hn
      exact ⟨a, key n a h1, OR.keys key _ h2⟩
    · have hl2 := (List.getElem?_eq_some_iff.mp hn).1
      rw [List.length_append, List.length_singleton] at hl2
      have e : n = S.length := by omega
      subst e
      rw [List.getElem?_concat_length] at hn
      cases hn
      exact ⟨p, by rw [← s.len, List.getElem?_concat_length], OR.keys key _ ho⟩
/-- an object of the store is written -/
theorem Ext.wr {ho : HO} (ha : a ∈ m) (mu : Mu (H a)) : Ext m H m (upd H a ho) := by
  refine ⟨⟨[], by simp, fun _ h => nomatch h⟩, fun b xs h => ?_, fun b o u h => ?_, fun b o h hn => ?_, fun b h => ?_⟩
  · rw [upd_ne (show b ≠ a from fun q => mu.1 xs (by rw [← q]; exact h))]; exact h
  · rw [upd_ne (show b ≠ a from fun q => mu.2 o u (by rw [← q]; exact h))]; exact h
  · rw [upd_ne (show b ≠ a from fun q => hn (by rw [q]; exact ha))]; exact h
  · by_cases q : b = a
    · rw [q, upd_same] at h; cases h
    · rw [upd_ne q] at h; exact h
theorem SR.wr {ho : HO} {n : Nat} {o : Ob} (s : SR K m H S) (hn : m[n]? = some a) (mu : Mu (H a)) (new : OR K m (upd H a ho) o a) : SR K m (upd H a ho) (S.set n o) := by
  have ha : a ∈ m := List.mem_iff_getElem?.mpr ⟨n, hn⟩
  have e : Ext m H m (upd H a ho) := Ext.wr ha mu
  have hl := (List.getElem?_eq_some_iff.mp hn).1
  rw [s.len] at hl
  refine ⟨by simp [s.len], s.nd, fun k ob hk => ?_, let ⟨o, u, h⟩ := s.sys; ⟨o, u, e.frz _ _ _ h⟩⟩
  by_cases q : k = n
  · subst q
    rw [List.getElem?_set_self hl] at hk
    cases hk
    exact ⟨a, hn, new⟩
  · rw [List.getElem?_set_ne (Ne.symm q)] at hk
    obtain ⟨b, h1, h2⟩ := s.at k ob hk
    refine ⟨b, h1, h2.ext e (upd_ne fun z => q ?_)⟩
    subst z
    exact (List.getElem?_inj (List.getElem?_eq_some_iff.mp h1).1 s.nd).mp (h1.trans hn.symm)
theorem SR.ref (s : SR K m H S) {n : Nat} {o : Ob} {v : V} (h : S[n]? = some o) (r : VR K m H (.ref n) v) : ∃ a, v = .ref a ∧ m[n]? = some a ∧ a ∈ m ∧ OR K m H o a := by
  simp only [VR] at r
  obtain ⟨a, h1, h2⟩ := r
  obtain ⟨b, h3, h4⟩ := s.at n o h
  rw [h1] at h3; cases h3
  exact ⟨a, h2, h1, List.mem_iff_getElem?.mpr ⟨n, h1⟩, h4⟩
end
section
variable {K : PySem.W.Frag} {m : List Addr} {H : Hp}
theorem VRs.length : ∀ {ds : List D} {vs : List V}, VRs K m H ds vs → vs.length = ds.length
  | [], _, h => by simp only [VRs] at h; rw [h]; rfl
  | x :: xs, _, h => by
    simp only [VRs] at h
    obtain ⟨v, r, rfl, _, h⟩ := h
    simp [VRs.length h]
theorem VRs.nil : VRs K m H [] [] := by simp only [VRs]
theorem VRs.cons {d : D} {ds : List D} {v : V} {vs : List V} (h : VR K m H d v) (t : VRs K m H ds vs) : VRs K m H (d :: ds) (v :: vs) := by
  simp only [VRs]; exact ⟨v, vs, rfl, h, t⟩
theorem VRs.append : ∀ {ds es : List D} {vs us : List V}, VRs K m H ds vs → VRs K m H es us → VRs K m H (ds ++ es) (vs ++ us)
  | [], _, _, _, h, t => by simp only [VRs] at h; rw [h]; exact t
  | x :: xs, _, _, _, h, t => by
    simp only [VRs] at h
    obtain ⟨v, r, rfl, h1, h⟩ := h
    exact .cons h1 (VRs.append h t)
theorem VRs.get : ∀ {ds : List D} {vs : List V} {i : Nat} {d : D}, VRs K m H ds vs → ds[i]? = some d → ∃ v, vs[i]? = some v ∧ VR K m H d v
  | [], _, _, _, _, e => by simp at e
  | x :: xs, _, 0, _, h, e => by
    simp only [VRs] at h
    obtain ⟨v, r, rfl, h1, h⟩ := h
    simp at e; subst e
    exact ⟨v, rfl, h1⟩
  | x :: xs, _, i + 1, d, h, e => by
    simp only [VRs] at h
    obtain ⟨v, r, rfl, h1, h⟩ := h
    obtain ⟨u, h2, h3⟩ := VRs.get (i := i) (d := d) h (by simpa using e)
    exact ⟨u, by simpa using h2, h3⟩
theorem VRs.take : ∀ {ds : List D} {vs : List V} (n : Nat), VRs K m H ds vs → VRs K m H (ds.take n) (vs.take n)
  | _, _, 0, _ => VRs.nil
  | [], _, _ + 1, h => by simp only [VRs] at h; rw [h]; exact VRs.nil
  | x :: xs, _, n + 1, h => by
    simp only [VRs] at h
    obtain ⟨v, r, rfl, h1, h⟩ := h
    exact .cons h1 (VRs.take n h)
theorem VRs.drop : ∀ {ds : List D} {vs : List V} (n : Nat), VRs K m H ds vs → VRs K m H (ds.drop n) (vs.drop n)
  | _, _, 0, h => h
  | [], _, _ + 1, h => by simp only [VRs] at h; rw [h]; exact VRs.nil
  | x :: xs, _, n + 1, h => by
    simp only [VRs] at h
    obtain ⟨v, r, rfl, h1, h⟩ := h
    exact VRs.drop n h
theorem VRs.set {d : D} {v : V} (r : VR K m H d v) : ∀ {ds : List D} {vs : List V} (i : Nat), VRs K m H ds vs → VRs K m H (ds.set i d) (vs.set i v)
  | [], _, _, h => by simp only [VRs] at h; rw [h]; exact VRs.nil
  | x :: xs, _, 0, h => by
    simp only [VRs] at h
    obtain ⟨v', r', rfl, h1, h⟩ := h
    exact .cons r h
  | x :: xs, _, n + 1, h => by
    simp only [VRs] at h
    obtain ⟨v', r', rfl, h1, h⟩ := h
    exact .cons h1 (VRs.set r n h)
theorem VRs.eraseIdx : ∀ {ds : List D} {vs : List V} (i : Nat), VRs K m H ds vs → VRs K m H (ds.eraseIdx i) (vs.eraseIdx i)
  | [], _, _, h => by simp only [VRs] at h; rw [h]; exact VRs.nil
  | x :: xs, _, 0, h => by
    simp only [VRs] at h
    obtain ⟨v, r, rfl, h1, h⟩ := h
    exact h
  | x :: xs, _, n + 1, h => by
    simp only [VRs] at h
    obtain ⟨v, r, rfl, h1, h⟩ := h
    exact .cons h1 (VRs.eraseIdx n h)
theorem VRs.reverse : ∀ {ds : List D} {vs : List V}, VRs K m H ds vs → VRs K m H ds.reverse vs.reverse
  | [], _, h => by simp only [VRs] at h; rw [h]; exact VRs.nil
  | x :: xs, _, h => by
    simp only [VRs] at h
    obtain ⟨v, r, rfl, h1, h⟩ := h
    rw [List.reverse_cons, List.reverse_cons]
    exact (VRs.reverse h).append (.cons h1 .nil)
theorem VRs.replicate {ds : List D} {vs : List V} (h : VRs K m H ds vs) : ∀ k : Nat, VRs K m H (List.replicate k ds).flatten (List.replicate k vs).flatten
  | 0 => .nil
  | k + 1 => by
    rw [List.replicate_succ, List.replicate_succ, List.flatten_cons, List.flatten_cons]
    exact h.append (VRs.replicate h k)
theorem VRs.ints : ∀ {ns : List Int} {vs : List V}, VRs K m H (ns.map D.int) vs → vs = ns.map V.int
  | [], _, h => by simpa only [List.map_nil, VRs] using h
  | n :: ns, _, h => by
    simp only [List.map_cons, VRs, VR] at h
    obtain ⟨v, r, rfl, rfl, h⟩ := h
    rw [VRs.ints h]; rfl
theorem VRs.of_ints : ∀ (ns : List Int), VRs K m H (ns.map D.int) (ns.map V.int)
  | [] => .nil
  | n :: ns => .cons (by simp only [VR]) (VRs.of_ints ns)
theorem VRs.bls : ∀ {ns : List Bool} {vs : List V}, VRs K m H (ns.map D.bl) vs → vs = ns.map V.bl
  | [], _, h => by simpa only [List.map_nil, VRs] using h
  | n :: ns, _, h => by
    simp only [List.map_cons, VRs, VR] at h
    obtain ⟨v, r, rfl, rfl, h⟩ := h
    rw [VRs.bls h]; rfl
theorem VRs.strs : ∀ {ns : List Str} {vs : List V}, VRs K m H (ns.map D.str) vs → vs = ns.map V.str
  | [], _, h => by simpa only [List.map_nil, VRs] using h
  | n :: ns, _, h => by
    simp only [List.map_cons, VRs, VR] at h
    obtain ⟨v, r, rfl, rfl, h⟩ := h
    rw [VRs.strs h]; rfl
theorem AR.lookup {κ : Type} [BEq κ] : ∀ {ds : List (κ × D)} {us : List (κ × V)} {k : κ}, AR K m H ds us → match ds.lookup k with
    | some d => ∃ v, us.lookup k = some v ∧ VR K m H d v
    | none => us.lookup k = none
  | [], _, k, h => by
    simp only [AR] at h
    rw [h]; rfl
  | (j, d) :: ds, _, k, h => by
    obtain ⟨v, q, rfl, h1, h2⟩ := h
    rw [List.lookup_cons, List.lookup_cons]
    cases k == j with
    | true => exact ⟨v, rfl, h1⟩
    | false => exact AR.lookup h2
theorem AR.length {κ : Type} : ∀ {ds : List (κ × D)} {us : List (κ × V)}, AR K m H ds us → us.length = ds.length
  | [], _, h => by simp only [AR] at h; rw [h]; rfl
  | (j, d) :: ds, _, h => by
    obtain ⟨v, q, rfl, h1, h2⟩ := h
    simp [AR.length h2]
end

/-! ### what is wanted behind a computation -/
abbrev PRel (α β : Type) := Hp → List Addr → Hp → α → β → Prop
section
variable {α β γ : Type} (K : PySem.W.Frag) (W : WX) (PR : PRel α β) (σ : L2.St) (m : List Addr) (H : Hp)
def post (Q : β → Hp → Prop) : Out α → Prop
  | .ok d S => ∀ v H' m', Ext m H m' H' → SR K m' H' S → PR H m' H' d v → Q v H'
  | .ex C fs S => ∀ cls dd H' m', Ext m H m' H' → SR K m' H' S → XR K m' H' C fs cls dd → W cls dd σ H'
  | .bad => False
end
/-- the relation leans on the entry's heap only by what was free there -/
def Anti {α β : Type} (PR : PRel α β) : Prop := ∀ H H1 m' H' a b, (∀ x, H1 x = none → H x = none) → PR H1 m' H' a b → PR H m' H' a b
section
variable {α β γ δ : Type} {K : PySem.W.Frag} {W : WX} {PR : PRel α β} {PR' : PRel γ δ} {σ : L2.St} {m m' : List Addr} {H H' : Hp} {S : Sto} {Q : β → Hp → Prop} {Q' : δ → Hp → Prop}
theorem post.mono (ha : Anti PR) (e : Ext m H m' H') : ∀ {o : Out α}, post K W PR σ m H Q o → post K W PR σ m' H' Q o
  | .ok _ _, h => fun v H2 m2 e2 s r => h v H2 m2 (e.trans e2) s (ha _ _ _ _ _ _ e.dom r)
  | .ex _ _ _, h => fun c d H2 m2 e2 s r => h c d H2 m2 (e.trans e2) s r
  | .bad, h => h
theorem post.imp {Q2 : β → Hp → Prop} (i : ∀ v H, Q v H → Q2 v H) : ∀ {o : Out α}, post K W PR σ m H Q o → post K W PR σ m H Q2 o
  | .ok _ _, h => fun v H2 m2 e2 s r => i _ _ (h v H2 m2 e2 s r)
  | .ex _ _ _, h => h
  | .bad, h => h
theorem post.bind (ha : Anti PR') {f : α → Sto → Out γ} : ∀ {o : Out α}, post K W PR' σ m H Q' (o.bind f) →
    (∀ a S1 v H1 m1, Ext m H m1 H1 → SR K m1 H1 S1 → PR H m1 H1 a v → post K W PR' σ m1 H1 Q' (f a S1) → Q v H1) → post K W PR σ m H Q o
  | .ok a S1, h, k => fun v H1 m1 e s r => k a S1 v H1 m1 e s r (post.mono ha e h)
  | .ex _ _ _, h, _ => h
  | .bad, h, _ => h
end
/-- the slots, the store, the heap -/
structure Rel (K : PySem.W.Frag) (l : Loc) (σ : L2.St) (m : List Addr) (S : Sto) (H : Hp) : Prop where
  sr : SR K m H S
  len : σ.length = l.length
  «at» : ∀ (i : Nat) d, l[i]? = some (some d) → ∃ v, σ[i]? = some (some v) ∧ VR K m H d v
theorem Rel.ext {K : PySem.W.Frag} {l : Loc} {σ : L2.St} {m m' : List Addr} {S S' : Sto} {H H' : Hp} (r : Rel K l σ m S H) (e : Ext m H m' H') (s : SR K m' H' S') : Rel K l σ m' S' H' :=
  ⟨s, r.len, fun i d h => let ⟨v, h1, h2⟩ := r.at i d h; ⟨v, h1, VR.ext e _ _ h2⟩⟩
def tX {α β : Type} (K : PySem.W.Frag) (W : WX) (PR : PRel α β) (f : Loc → Sto → Out α) : L2.St → Hp → (β → Hp → Prop) → Prop :=
  fun σ H Q => ∃ l m S, Rel K l σ m S H ∧ post K W PR σ m H Q (f l S)

abbrev pD (K : PySem.W.Frag) : PRel D V := fun _ m H d v => VR K m H d v
abbrev pB : PRel Bool Bool := fun _ _ _ a b => a = b
abbrev pA (K : PySem.W.Frag) : PRel (List D) (List V) := fun _ m H d v => VRs K m H d v
inductive LV where
  | tmp (xs : List D) | «at» (n : Nat)
def pL (K : PySem.W.Frag) : PRel LV V := fun H0 m H x v => match x with
  | .tmp xs => ∃ p vs, v = .ref p ∧ H p = some (.lst vs) ∧ p ∉ m ∧ H0 p = none ∧ VRs K m H xs vs
  | .at n => ∃ a, m[n]? = some a ∧ v = .ref a
def LV.get (S : Sto) : LV → Option (List D)
  | .tmp xs => some xs
  | .at n => match S[n]? with
    | some (.lst xs) => some xs
    | _ => none
theorem anti_D {K : PySem.W.Frag} : Anti (pD K) := fun _ _ _ _ _ _ _ h => h
theorem anti_B : Anti pB := fun _ _ _ _ _ _ _ h => h
theorem anti_A {K : PySem.W.Frag} : Anti (pA K) := fun _ _ _ _ _ _ _ h => h
theorem anti_L {K : PySem.W.Frag} : Anti (pL K) := fun H H1 m' H' a b q h => by
  cases a with
  | tmp xs =>
    obtain ⟨p, vs, h1, h2, h3, h4, h5⟩ := h
    exact ⟨p, vs, h1, h2, h3, q p h4, h5⟩
  | «at» n => exact h
/-- the list behind, later -/
theorem pL.read {K : PySem.W.Frag} {H0 H H' : Hp} {m m' : List Addr} {S : Sto} {x : LV} {v : V} {xs : List D} (r : pL K H0 m H x v) (e : Ext m H m' H') (s : SR K m' H' S) (h : x.get S = some xs) :
    ∃ p vs, v = .ref p ∧ H' p = some (.lst vs) ∧ VRs K m' H' xs vs := by
  cases x with
  | tmp ys =>
    cases h
    obtain ⟨p, vs, h1, h2, h3, h4, h5⟩ := r
    exact ⟨p, vs, h1, e.oth _ _ h2 h3, VRs.ext e _ _ h5⟩
  | «at» n =>
    obtain ⟨a, h1, h2⟩ := r
    simp only [LV.get] at h
    split at h
    · rename_i ys hn
      cases h
      obtain ⟨b, h3, vs, h4, h5⟩ := s.at n _ hn
      rw [e.get h1] at h3; cases h3
      exact ⟨a, vs, h2, h4, h5⟩
    · cases h

theorem _root_.L2.PE.imp {X : Cx} {e : Expr} {t t' : TE} (h : PE X e t) (i : ∀ σ H Q, t' σ H Q → t σ H Q) : PE X e t' := ⟨fun pins s σ H Q I q => h.run pins s σ H Q I (i _ _ _ q)⟩
theorem _root_.L2.PT.imp {X : Cx} {e : Expr} {t t' : TT} (h : PT X e t) (i : ∀ σ H Q, t' σ H Q → t σ H Q) : PT X e t' := ⟨fun pins s σ H Q I q => h.run pins s σ H Q I (i _ _ _ q)⟩
theorem _root_.L2.PW.imp {X : Cx} {e : Expr} {t t' : TT} (h : PW X e t) (i : ∀ σ H Q, t' σ H Q → t σ H Q) : PW X e t' := ⟨fun wh pins s σ H Q I q => h.run wh pins s σ H Q I (i _ _ _ q)⟩
theorem _root_.L2.PA.imp {X : Cx} {e : List Expr} {t t' : TA} (h : PA X e t) (i : ∀ σ H Q, t' σ H Q → t σ H Q) : PA X e t' := ⟨fun pos pins s σ H Q I q => h.run pos pins s σ H Q I (i _ _ _ q)⟩
theorem _root_.L2.PS.imp {X : Cx} {e : Stmt} {t t' : TS} (h : PS X e t) (i : ∀ D σ H, t' D σ H → t D σ H) : PS X e t' := ⟨fun pins s σ H D I q => h.run pins s σ H D I (i _ _ _ q)⟩
theorem _root_.L2.PSs.imp {X : Cx} {e : List Stmt} {t t' : TS} (h : PSs X e t) (i : ∀ D σ H, t' D σ H → t D σ H) : PSs X e t' := ⟨fun pins s σ H D I q => h.run pins s σ H D I (i _ _ _ q)⟩

abbrev FE := Loc → Sto → Out D
abbrev FT := Loc → Sto → Out Bool
abbrev FA := Loc → Sto → Out (List D)
abbrev FL := Loc → Sto → Out LV
abbrev ME (X : Cx) (W : WX) (e : Expr) (f : FE) : Prop := PE X e (tX X.K W (pD X.K) f)
abbrev ML (X : Cx) (W : WX) (e : Expr) (f : FL) : Prop := PE X e (tX X.K W (pL X.K) f)
abbrev MT (X : Cx) (W : WX) (e : Expr) (f : FT) : Prop := PT X e (tX X.K W pB f)
abbrev MW (X : Cx) (W : WX) (e : Expr) (f : FT) : Prop := PW X e (tX X.K W pB f)
abbrev MA (X : Cx) (W : WX) (es : List Expr) (f : FA) : Prop := PA X es (tX X.K W (pA X.K) f)
end Pz

set_option Elab.async false
set_option linter.all false
set_option maxRecDepth 100000
set_option maxHeartbeats 4000000
/-! Pz2: expressions, rule by rule. -/
namespace Pz
open PySem PySem.Spec PyProof.Rows L2
section
variable {X : Cx} {W : WX} {a b c e : Expr} {rest es : List Expr} {f g h : FE} {pos : Pos} {K : PySem.W.Frag}

/-! ### names and constants -/
def eV (i : Nat) : FE := fun l S => match l[i]? with
  | some (some d) => .ok d S
  | _ => .bad
def eC (d : D) : FE := fun _ S => .ok d S
theorem me_of_var {i : Nat} (h : PE X e (tVar i)) : ME X W e (eV i) := h.imp fun σ H Q ⟨l, m, S, R, q⟩ => by
  unfold eV at q
  split at q
  · rename_i d hd
    obtain ⟨v, h1, h2⟩ := R.at i d hd
    exact ⟨v, h1, q v H m .refl R.sr h2⟩
  · exact q.elim
theorem mv (i : Nat) {x : Str} {pos : Pos} (hN : X.N[i]? = some x := by rfl) (hv : Vis X.env.scope x := by first | exact Or.inl rfl | exact Or.inr (Or.inl rfl) | exact Or.inr (Or.inr rfl)) (hd : (x == ("__debug__" : Str)) = false := by decide)
    (hcd : (x == ("__classdict__" : Str)) = false := by decide) : ME X W (.Name x pos) (eV i) := me_of_var (pe_var hN hv hd hcd)
theorem me_c {v : V} {d : D} (h : PE X e (tC v)) (r : ∀ m H, VR X.K m H d v) : ME X W e (eC d) := h.imp fun σ H Q ⟨l, m, S, R, q⟩ => q v H m .refl R.sr (r m H)
theorem me_int {i j pos} : ME X W (.Constant (.int i) j pos) (eC (.int i)) := me_c pe_int fun _ _ => by simp only [VR]
theorem me_bl {i j pos} : ME X W (.Constant (.bool i) j pos) (eC (.bl i)) := me_c pe_bl fun _ _ => by simp only [VR]
theorem me_non {j pos} : ME X W (.Constant .none j pos) (eC .non) := me_c pe_non fun _ _ => by simp only [VR]
theorem me_str {i j pos} : ME X W (.Constant (.str i) j pos) (eC (.str i)) := me_c pe_str fun _ _ => by simp only [VR]
/-- a name of the module -/
theorem me_glob {x : Str} {v : V} {u : Value} {d : D} {pos : Pos} (hg : Gl X x) (hm : X.mg x = some u) (r : RelV v u) (r2 : ∀ m H, VR X.K m H d v) (hd : (x == ("__debug__" : Str)) = false := by decide) : ME X W (.Name x pos) (eC d) :=
  me_c (pe_glob hg hm r hd) r2

/-! ### operators, by values -/
def O1 (K : PySem.W.Frag) (r : V → Hp → VK → Prop) (f : D → Sto → Out D) : Prop := ∀ (W : WX) (σ : L2.St) (m : List Addr) (H : Hp) (S : Sto) (x : D) (v : V) (Q : VK), SR K m H S → VR K m H x v → post K W (pD K) σ m H Q (f x S) → r v H Q
def O2 (K : PySem.W.Frag) (r : R2) (f : D → D → Sto → Out D) : Prop := ∀ (W : WX) (σ : L2.St) (m : List Addr) (H : Hp) (S : Sto) (x y : D) (v u : V) (Q : VK), SR K m H S → VR K m H x v → VR K m H y u → post K W (pD K) σ m H Q (f x y S) → r v u H Q
def e1 (o : D → Sto → Out D) (f : FE) : FE := fun l S => (f l S).bind o
def e2 (o : D → D → Sto → Out D) (f g : FE) : FE := fun l S => (f l S).bind fun x S1 => (g l S1).bind fun y S2 => o x y S2
theorem tX_2 {r : R2} {o : D → D → Sto → Out D} (hf : O2 K r o) {σ : L2.St} {H : Hp} {Q : VK} (q : tX K W (pD K) (e2 o f g) σ H Q) : tOp r (tX K W (pD K) f) (tX K W (pD K) g) σ H Q := by
  obtain ⟨l, m, S, R, q⟩ := q
  refine ⟨l, m, S, R, post.bind (PR := pD K) anti_D q fun x S1 v H1 m1 E1 R1 V1 q1 => ⟨l, m1, S1, R.ext E1 R1, post.bind (PR := pD K) anti_D q1 fun y S2 u H2 m2 E2 R2 V2 q2 => ?_⟩⟩
  exact hf W σ m2 H2 S2 x y v u Q R2 (VR.ext E2 x v V1) V2 q2
theorem me_op {op : Operator} {r : R2} {o : D → D → Sto → Out D} (ho : OpR X (binaryOp op) r) (hf : O2 X.K r o) (ha : ME X W a f) (hb : ME X W b g) : ME X W (.BinOp a op b pos) (e2 o f g) :=
  (pe_op ho ha hb).imp fun σ H Q q => tX_2 hf q
theorem me_cmp {op : CmpOp} {r : R2} {o : D → D → Sto → Out D} (ho : OpR X (compareOp op) r) (hf : O2 X.K r o) (ha : ME X W a f) (hb : ME X W b g) (hm : behindInMarks op b = false) : ME X W (.Compare a [op] [b] pos) (e2 o f g) :=
  (pe_cmpR ho ha hb hm).imp fun σ H Q q => tX_2 hf q
theorem me_un {op : UnaryOp} {r : V → Hp → VK → Prop} {o : D → Sto → Out D} (ho : UnR X (unaryOp op) r) (hf : O1 X.K r o) (ha : ME X W a f) : ME X W (.UnaryOp op a pos) (e1 o f) :=
  (pe_un ho ha).imp fun σ H Q ⟨l, m, S, R, q⟩ => ⟨l, m, S, R, post.bind (PR := pD X.K) anti_D q fun x S1 v H1 m1 E1 R1 V1 q1 => hf W σ m1 H1 S1 x v Q R1 V1 q1⟩

/-! ### tests -/
def tst (d : D) (S : Sto) : Out Bool := match d with
  | .bl b => .ok b S
  | _ => .bad
def eT (f : FE) : FT := fun l S => (f l S).bind tst
theorem tst_post {σ : L2.St} {m : List Addr} {H : Hp} {S : Sto} {Q : Bool → Hp → Prop} {d : D} {v : V} (s : SR K m H S) (r : VR K m H d v) (q : post K W pB σ m H Q (tst d S)) : ∃ k, v = .bl k ∧ Q k H := by
  unfold tst at q
  split at q
  · rename_i b
    simp only [VR] at r
    exact ⟨b, r, q b H m .refl s rfl⟩
  · exact q.elim
theorem tX_tst {σ : L2.St} {H : Hp} {Q : Bool → Hp → Prop} (q : tX K W pB (eT f) σ H Q) : tX K W (pD K) f σ H fun x H' => ∃ k, x = .bl k ∧ Q k H' := by
  obtain ⟨l, m, S, R, q⟩ := q
  exact ⟨l, m, S, R, post.bind (PR := pD K) anti_B q fun x S1 v H1 m1 E1 R1 V1 q1 => tst_post R1 V1 q1⟩
theorem mt_val (h : ME X W e f) (he : ∀ whole, isTrue e X.env whole = (do let v ← whole; standAt e.pos; holding [v] (truthy v)) := by intro _; rfl) : MT X W e (eT f) := (pt_val h he).imp fun σ H Q q => tX_tst q
theorem mt_cmp {op : CmpOp} {r : R2} {o : D → D → Sto → Out D} (ho : OpR X (compareOp op) r) (hf : O2 X.K r o) (ha : ME X W a f) (hb : ME X W b g) (hm : behindInMarks op b = false) : MT X W (.Compare a [op] [b] pos) (eT (e2 o f g)) :=
  (pt_cmpR ho ha hb hm).imp fun σ H Q q => by
    obtain ⟨l, m, S, R, q⟩ := q
    refine tX_2 hf ⟨l, m, S, R, post.bind (PR := pD X.K) anti_B q fun x S1 v H1 m1 E1 R1 V1 q1 => tst_post R1 V1 q1⟩
variable {s t : FT}
def tAndF (s t : FT) : FT := fun l S => (s l S).bind fun k S1 => if k then t l S1 else .ok false S1
def tOrF (s t : FT) : FT := fun l S => (s l S).bind fun k S1 => if k then .ok true S1 else t l S1
def tNotF (s : FT) : FT := fun l S => (s l S).bind fun k S1 => .ok (!k) S1
theorem mw_and1 (ha : MT X W a s) : MW X W (.BoolOp .And [a] pos) s := pw_and1 ha
theorem mw_or1 (ha : MT X W a s) : MW X W (.BoolOp .Or [a] pos) s := pw_or1 ha
theorem mw_and (ha : MT X W a s) (hb : MW X W (.BoolOp .And (b :: rest) pos) t) : MW X W (.BoolOp .And (a :: b :: rest) pos) (tAndF s t) :=
  (pw_and ha hb).imp fun σ H Q ⟨l, m, S, R, q⟩ => ⟨l, m, S, R, post.bind (PR := pB) anti_B q fun k S1 v H1 m1 E1 R1 V1 q1 => by
    subst V1
    cases k with
    | true => exact ⟨l, m1, S1, R.ext E1 R1, q1⟩
    | false => exact q1 _ H1 m1 .refl R1 rfl⟩
theorem mw_or (ha : MT X W a s) (hb : MW X W (.BoolOp .Or (b :: rest) pos) t) : MW X W (.BoolOp .Or (a :: b :: rest) pos) (tOrF s t) :=
  (pw_or ha hb).imp fun σ H Q ⟨l, m, S, R, q⟩ => ⟨l, m, S, R, post.bind (PR := pB) anti_B q fun k S1 v H1 m1 E1 R1 V1 q1 => by
    subst V1
    cases k with
    | false => exact ⟨l, m1, S1, R.ext E1 R1, q1⟩
    | true => exact q1 _ H1 m1 .refl R1 rfl⟩
theorem mt_w (h : MW X W e s) : MT X W e s := PW.pt h
theorem mt_not (ha : MT X W a s) : MT X W (.UnaryOp .Not a pos) (tNotF s) :=
  (pt_not ha).imp fun σ H Q ⟨l, m, S, R, q⟩ => ⟨l, m, S, R, post.bind (PR := pB) anti_B q fun k S1 v H1 m1 E1 R1 V1 q1 => by
    subst V1
    exact q1 _ H1 m1 .refl R1 rfl⟩
/-- .. as values -/
def eAnd (f g : FE) : FE := fun l S => (f l S).bind fun x S1 => match x with
  | .bl true => g l S1
  | .bl false => .ok (.bl false) S1
  | _ => .bad
def eOr (f g : FE) : FE := fun l S => (f l S).bind fun x S1 => match x with
  | .bl false => g l S1
  | .bl true => .ok (.bl true) S1
  | _ => .bad
def eNot (f : FE) : FE := fun l S => (f l S).bind fun x S1 => match x with
  | .bl k => .ok (.bl (!k)) S1
  | _ => .bad
theorem me_one {op} (h : ME X W a f) : ME X W (.BoolOp op [a] pos) f := pe_one h
theorem me_and (ha : ME X W a f) (hb : ME X W (.BoolOp .And (b :: rest) pos) g) : ME X W (.BoolOp .And (a :: b :: rest) pos) (eAnd f g) :=
  (pe_and ha hb).imp fun σ H Q ⟨l, m, S, R, q⟩ => ⟨l, m, S, R, post.bind (PR := pD X.K) anti_D q fun x S1 v H1 m1 E1 R1 V1 q1 => by
    split at q1
    · simp only [VR] at V1
      exact ⟨true, V1, l, m1, S1, R.ext E1 R1, q1⟩
    · simp only [VR] at V1
      exact ⟨false, V1, q1 _ H1 m1 .refl R1 (by simp only [VR])⟩
    · exact q1.elim⟩
theorem me_or (ha : ME X W a f) (hb : ME X W (.BoolOp .Or (b :: rest) pos) g) : ME X W (.BoolOp .Or (a :: b :: rest) pos) (eOr f g) :=
  (pe_or ha hb).imp fun σ H Q ⟨l, m, S, R, q⟩ => ⟨l, m, S, R, post.bind (PR := pD X.K) anti_D q fun x S1 v H1 m1 E1 R1 V1 q1 => by
    split at q1
    · simp only [VR] at V1
      exact ⟨false, V1, l, m1, S1, R.ext E1 R1, q1⟩
    · simp only [VR] at V1
      exact ⟨true, V1, q1 _ H1 m1 .refl R1 (by simp only [VR])⟩
    · exact q1.elim⟩
theorem me_not (ha : ME X W a f) : ME X W (.UnaryOp .Not a pos) (eNot f) :=
  (pe_not ha).imp fun σ H Q ⟨l, m, S, R, q⟩ => ⟨l, m, S, R, post.bind (PR := pD X.K) anti_D q fun x S1 v H1 m1 E1 R1 V1 q1 => by
    split at q1
    · rename_i k
      simp only [VR] at V1
      exact ⟨k, V1, q1 _ H1 m1 .refl R1 (by simp only [VR])⟩
    · exact q1.elim⟩
/-- x if c else y, of any payload -/
def eIf {α : Type} (s : FT) (f g : Loc → Sto → Out α) : Loc → Sto → Out α := fun l S => (s l S).bind fun k S1 => if k then f l S1 else g l S1
theorem pe_if' {α : Type} {PR : PRel α V} (ha : Anti PR) {f g : Loc → Sto → Out α} (hc : MT X W c s) (h1 : PE X a (tX X.K W PR f)) (h2 : PE X b (tX X.K W PR g)) : PE X (.IfExp c a b pos) (tX X.K W PR (eIf s f g)) :=
  (pe_ifExp hc h1 h2).imp fun σ H Q ⟨l, m, S, R, q⟩ => ⟨l, m, S, R, post.bind (PR := pB) ha q fun k S1 v H1 m1 E1 R1 V1 q1 => by
    subst V1
    cases k with
    | true => exact ⟨l, m1, S1, R.ext E1 R1, q1⟩
    | false => exact ⟨l, m1, S1, R.ext E1 R1, q1⟩⟩
theorem me_if (hc : MT X W c s) (ha : ME X W a f) (hb : ME X W b g) : ME X W (.IfExp c a b pos) (eIf s f g) := pe_if' anti_D hc ha hb
theorem ml_if {f g : FL} (hc : MT X W c s) (ha : ML X W a f) (hb : ML X W b g) : ML X W (.IfExp c a b pos) (eIf s f g) := pe_if' anti_L hc ha hb
/-- a op b op' c -/
def eCh (o o' : D → D → Sto → Out D) (f g h : FE) : FE := fun l S => (f l S).bind fun x S1 => (g l S1).bind fun y S2 => (o x y S2).bind fun z S3 => match z with
  | .bl true => (h l S3).bind fun w S4 => o' y w S4
  | .bl false => .ok (.bl false) S3
  | _ => .bad
theorem tX_ch {r r' : R2} {o o' : D → D → Sto → Out D} (hf : O2 K r o) (hf' : O2 K r' o') {σ : L2.St} {H : Hp} {Q : VK} (q : tX K W (pD K) (eCh o o' f g h) σ H Q) : tChain r r' (tX K W (pD K) f) (tX K W (pD K) g) (tX K W (pD K) h) σ H Q := by
  obtain ⟨l, m, S, R, q⟩ := q
  refine ⟨l, m, S, R, post.bind (PR := pD K) anti_D q fun x S1 v H1 m1 E1 R1 V1 q1 => ⟨l, m1, S1, R.ext E1 R1, post.bind (PR := pD K) anti_D q1 fun y S2 u H2 m2 E2 R2 V2 q2 => ?_⟩⟩
  refine hf W σ m2 H2 S2 x y v u _ R2 (VR.ext E2 x v V1) V2 (post.bind (PR := pD K) anti_D q2 fun z S3 w H3 m3 E3 R3 V3 q3 => ?_)
  split at q3
  · simp only [VR] at V3
    refine ⟨true, V3, ?_⟩
    rw [if_pos rfl]
    exact ⟨l, m3, S3, R.ext (E1.trans (E2.trans E3)) R3, post.bind (PR := pD K) anti_D q3 fun z' S4 w' H4 m4 E4 R4 V4 q4 => hf' W σ m4 H4 S4 y z' u w' Q R4 (VR.ext (E3.trans E4) y u V2) V4 q4⟩
  · simp only [VR] at V3
    refine ⟨false, V3, ?_⟩
    rw [if_neg (by decide)]
    exact q3 _ H3 m3 .refl R3 (by simp only [VR])
  · exact q3.elim
theorem me_ch {op op' : CmpOp} {r r' : R2} {o o' : D → D → Sto → Out D} (ho : OpR X (compareOp op) r) (hf : O2 X.K r o) (ho' : OpR X (compareOp op') r') (hf' : O2 X.K r' o') (ha : ME X W a f) (hb : ME X W b g) (hc : ME X W c h)
    (hm : lastMarks [op, op'] [b, c] = false := by with_unfolding_all rfl) : ME X W (.Compare a [op, op'] [b, c] pos) (eCh o o' f g h) := (pe_chain ho ho' ha hb hc hm).imp fun σ H Q q => tX_ch hf hf' q
theorem mt_ch {op op' : CmpOp} {r r' : R2} {o o' : D → D → Sto → Out D} (ho : OpR X (compareOp op) r) (hf : O2 X.K r o) (ho' : OpR X (compareOp op') r') (hf' : O2 X.K r' o') (ha : ME X W a f) (hb : ME X W b g) (hc : ME X W c h)
    (hm : lastMarks [op, op'] [b, c] = false := by with_unfolding_all rfl) : MT X W (.Compare a [op, op'] [b, c] pos) (eT (eCh o o' f g h)) := (pt_chain ho ho' ha hb hc hm).imp fun σ H Q q => by
  obtain ⟨l, m, S, R, q⟩ := q
  exact tX_ch hf hf' ⟨l, m, S, R, post.bind (PR := pD X.K) anti_B q fun x S1 v H1 m1 E1 R1 V1 q1 => tst_post R1 V1 q1⟩

/-! ### arguments, displays -/
def aN : FA := fun _ S => .ok [] S
def aC (f : FE) (g : FA) : FA := fun l S => (f l S).bind fun x S1 => (g l S1).bind fun xs S2 => .ok (x :: xs) S2
def aL (f : FE) (n : Nat) : Prop := True
theorem ma_nil : MA X W [] aN := pa_nil.imp fun σ H Q ⟨l, m, S, R, q⟩ => q [] H m .refl R.sr .nil
theorem ma_cons {g : FA} (ha : ME X W e f) (hr : MA X W es g) (hs : starEach (e :: es) X.env = (false, eval e X.env) :: starEach es X.env := by rfl) : MA X W (e :: es) (aC f g) :=
  (pa_cons ha hr hs).imp fun σ H Q ⟨l, m, S, R, q⟩ => ⟨l, m, S, R, post.bind (PR := pD X.K) anti_A q fun x S1 v H1 m1 E1 R1 V1 q1 => ⟨l, m1, S1, R.ext E1 R1, post.bind (PR := pA X.K) anti_A q1 fun xs S2 vs H2 m2 E2 R2 V2 q2 =>
    q2 _ H2 m2 .refl R2 (.cons (VR.ext E2 x v V1) V2)⟩⟩
/-- so many values come -/
def Len (n : Nat) (f : FA) : Prop := ∀ l S ds S', f l S = .ok ds S' → ds.length = n
theorem len_nil : Len 0 aN := fun l S ds S' h => by cases h; rfl
theorem len_cons {n : Nat} {g : FA} (h : Len n g) : Len (n + 1) (aC f g) := fun l S ds S' q => by
  unfold aC at q
  cases e1 : f l S with
  | bad => rw [e1] at q; cases q
  | ex C fs T => rw [e1] at q; cases q
  | ok x S1 =>
    rw [e1] at q
    cases e2 : g l S1 with
    | bad => simp only [Out.bind, e2] at q; cases q
    | ex C fs T => simp only [Out.bind, e2] at q; cases q
    | ok xs S2 =>
      simp only [Out.bind, e2] at q
      cases q
      simp [h _ _ _ _ e2]
def eTup (f : FA) : FE := fun l S => (f l S).bind fun ds S1 => .ok (.tup ds) S1
theorem post_ok {α β : Type} {PR : PRel α β} {σ : L2.St} {m : List Addr} {H : Hp} {Q : β → Hp → Prop} {o : Out α} {Z : α → Prop} (h : post K W PR σ m H Q o) (z : ∀ a S, o = .ok a S → Z a) : post K W PR σ m H Q o := h
theorem post.with {α β : Type} {PR : PRel α β} {σ : L2.St} {m : List Addr} {H : Hp} {Q Q2 : β → Hp → Prop} {o : Out α} (h : post K W PR σ m H Q o) (i : ∀ a S v H' m', o = .ok a S → Ext m H m' H' → SR K m' H' S → PR H m' H' a v → Q v H' → Q2 v H') : post K W PR σ m H Q2 o := by
  cases o with
  | ok a S => exact fun v H' m' e s r => i a S v H' m' rfl e s r (h v H' m' e s r)
  | ex C fs S => exact h
  | bad => exact h
theorem VR.tupNew {K : PySem.W.Frag} {m : List Addr} {H : Hp} {ds : List D} {vs : List V} {p : Addr} {ob : Obj} (hp : H p = none) (hd : ob.dict = none) (h : VRs K m H ds vs) : VR K m (upd H p (.frz ob (.tup vs))) (.tup ds) (.ref p) := by
  simp only [VR]
  exact ⟨p, vs, rfl, .inl ⟨ob, hd, upd_same⟩, VRs.ext (Ext.tmp hp) _ _ h⟩
theorem me_tup {x1} {n : Nat} {g : FA} (ha : MA X W es g) (hl : Len n g) (hz : n ≤ sizeLine := by decide) : ME X W (.Tuple es x1 pos) (eTup g) :=
  (pe_tupF ha).imp fun σ H Q ⟨l, m, S, R, q⟩ => ⟨l, m, S, R, by
    refine post.with (Q := fun vs H1 => nwT vs H1 Q) (post.bind (PR := pA X.K) anti_D q fun ds S1 vs H1 m1 E1 R1 V1 q1 p ob hp hd => ?_) fun ds S1 vs H1 m1 eo E1 R1 V1 q1 => ⟨?_, q1⟩
    · exact q1 _ _ m1 (Ext.tmp hp) (R1.tmp hp) (VR.tupNew hp hd V1)
    · rw [V1.length, hl _ _ _ _ eo]; exact hz⟩
def lLst (f : FA) : FL := fun l S => (f l S).bind fun ds S1 => .ok (.tmp ds) S1
theorem pL.new {K : PySem.W.Frag} {m m' : List Addr} {H H' : Hp} {S : Sto} {ds : List D} {vs : List V} {p : Addr} (e : Ext m H m' H') (s : SR K m' H' S) (hp : H' p = none) (h : VRs K m' H' ds vs) : pL K H m' (upd H' p (.lst vs)) (.tmp ds) (.ref p) :=
  ⟨p, vs, rfl, upd_same, s.notin hp, e.dom p hp, VRs.ext (Ext.tmp hp) _ _ h⟩
theorem ml_lst {n : Nat} {g : FA} (ha : MA X W es g) (hl : Len n g) (hz : n ≤ sizeLine := by decide) : ML X W (.List es pos) (lLst g) :=
  (pe_lst ha).imp fun σ H Q ⟨l, m, S, R, q⟩ => ⟨l, m, S, R, by
    refine post.with (Q := fun vs H1 => ∀ p, H1 p = none → Q (.ref p) (upd H1 p (.lst vs))) (post.bind (PR := pA X.K) anti_L q fun ds S1 vs H1 m1 E1 R1 V1 q1 p hp => ?_) fun ds S1 vs H1 m1 eo E1 R1 V1 q1 => ⟨?_, q1⟩
    · exact q1 _ _ m1 (Ext.tmp hp) (R1.tmp hp) (pL.new .refl R1 hp V1)
    · rw [V1.length, hl _ _ _ _ eo]; exact hz⟩
/-- a list that was only on its way goes into the store -/
def eL (f : FL) : FE := fun l S => (f l S).bind fun x S1 => match x with
  | .tmp xs => .ok (.ref S1.length) (S1 ++ [.lst xs])
  | .at n => .ok (.ref n) S1
def toAt (d : D) (S : Sto) : Out LV := match d with
  | .ref n => .ok (.at n) S
  | _ => .bad
def lE (f : FE) : FL := fun l S => (f l S).bind toAt
theorem tX_eL {f : FL} {σ : L2.St} {H : Hp} {Q : VK} (q : tX K W (pD K) (eL f) σ H Q) : tX K W (pL K) f σ H Q := by
  obtain ⟨l, m, S, R, q⟩ := q
  refine ⟨l, m, S, R, ?_⟩
  unfold eL at q
  cases e1 : f l S with
  | bad => rw [e1] at q; exact q
  | ex C fs T => rw [e1] at q; exact q
  | ok x S1 =>
    rw [e1] at q
    intro v H' m' E' s r
    cases x with
    | tmp xs =>
      obtain ⟨p, vs, rfl, h2, h3, h4, h5⟩ := r
      refine q _ H' (m' ++ [p]) (E'.into h4) (s.grow h3 ⟨vs, h2, h5⟩) ?_
      simp only [VR]
      exact ⟨p, by rw [← s.len, List.getElem?_concat_length], rfl⟩
    | «at» n =>
      obtain ⟨p, h1, rfl⟩ := r
      exact q _ H' m' E' s (by simp only [VR]; exact ⟨p, h1, rfl⟩)
theorem me_l {f : FL} (h : ML X W e f) : ME X W e (eL f) := PE.imp h fun σ H Q q => tX_eL q
theorem ml_e (h : ME X W e f) : ML X W e (lE f) := PE.imp h fun σ H Q ⟨l, m, S, R, q⟩ => ⟨l, m, S, R, post.bind (PR := pD X.K) anti_L q fun d S1 v H1 m1 E1 R1 V1 q1 => by
  cases d with
  | ref n =>
    simp only [VR] at V1
    obtain ⟨a, h1, rfl⟩ := V1
    exact q1 _ H1 m1 .refl R1 ⟨a, h1, rfl⟩
  | _ => exact q1.elim⟩
end
end Pz

set_option Elab.async false
set_option linter.all false
set_option maxRecDepth 100000
set_option maxHeartbeats 4000000
/-! Pz3: operators and comparisons by values. -/
namespace Pz
open PySem PySem.Spec PyProof.Rows L2
section
variable {X : Cx} {W : WX} {a b c e : Expr} {rest es : List Expr} {f g h : FE} {pos : Pos} {K : PySem.W.Frag} {m : List Addr} {H : Hp} {S : Sto}

theorem O2.or {r r' : R2} {o : D → D → Sto → Out D} {p : D → D → Sto → Bool} (h : ∀ W σ m H S x y v u Q, p x y S = true → SR K m H S → VR K m H x v → VR K m H y u → post K W (pD K) σ m H Q (o x y S) → r v u H Q)
    (h' : ∀ W σ m H S x y v u Q, p x y S = false → SR K m H S → VR K m H x v → VR K m H y u → post K W (pD K) σ m H Q (o x y S) → r' v u H Q) : O2 K (fun x y H Q => r x y H Q ∨ r' x y H Q) o :=
  fun W σ m H S x y v u Q s rx ry q => by
    cases e : p x y S with
    | true => exact .inl (h W σ m H S x y v u Q e s rx ry q)
    | false => exact .inr (h' W σ m H S x y v u Q e s rx ry q)

/-! ### whole numbers -/
def fI (cond : Int → Int → Bool) (g : Int → Int → D) : D → D → Sto → Out D
  | .int i, .int j, S => if cond i j then .ok (g i j) S else .bad
  | _, _, _ => .bad
theorem o2_I {C : Int → Int → Prop} {cond : Int → Int → Bool} {g : Int → Int → D} {g' : Int → Int → V} (hc : ∀ i j, cond i j = true → C i j) (hg : ∀ m H i j, VR K m H (g i j) (g' i j)) : O2 K (rI C g') (fI cond g) := fun W σ m H S x y v u Q s rx ry q => by
  unfold fI at q
  split at q
  · rename_i i j
    simp only [VR] at rx ry
    split at q
    · rename_i hcd
      exact ⟨i, j, rx, ry, hc i j hcd, q _ H m .refl s (hg m H i j)⟩
    · exact q.elim
  · exact q.elim
theorem o2_I0 {g : Int → Int → D} {g' : Int → Int → V} (hg : ∀ m H i j, VR K m H (g i j) (g' i j)) : O2 K (rI0 g') (fI (fun _ _ => true) g) := fun W σ m H S x y v u Q s rx ry q => by
  obtain ⟨i, j, h1, h2, _, h3⟩ := o2_I (C := fun _ _ => True) (fun _ _ _ => trivial) hg W σ m H S x y v u Q s rx ry q
  exact ⟨i, j, h1, h2, h3⟩
def cDiv (i j : Int) : Bool := j != 0 && decide (j.natAbs < 1073741824)
def cMod (i j : Int) : Bool := j != 0
def cPow (i j : Int) : Bool := decide (0 ≤ j ∧ j ≤ 1000000 ∧ i.natAbs < 2 ^ 64)
def cMul (i j : Int) : Bool := decide (((-(2 ^ 64) < i ∧ i < 2 ^ 64) ∨ (-(2 ^ 64) < j ∧ j < 2 ^ 64)) ∨ i.natAbs.log2 + j.natAbs.log2 < 1000000)
def cShr (i j : Int) : Bool := decide (0 ≤ j)
def oSub := fI (fun _ _ => true) fun i j => .int (i - j)
def oDiv := fI cDiv fun i j => .int (i.fdiv j)
def oMod := fI cMod fun i j => .int (i.fmod j)
def oPow := fI cPow fun i j => .int (i ^ j.toNat)
def oShl := fI cPow fun i j => .int (i * 2 ^ j.toNat)
def oShr := fI cShr fun i j => .int (i / 2 ^ j.toNat)
def oAnd := fI (fun _ _ => true) fun i j => .int (Builtin.bitAnd i j)
def oOr := fI (fun _ _ => true) fun i j => .int (Builtin.bitOr i j)
def oLt := fI (fun _ _ => true) fun i j => .bl (decide (i < j))
def oLe := fI (fun _ _ => true) fun i j => .bl (decide (i ≤ j))
def oGt := fI (fun _ _ => true) fun i j => .bl (decide (j < i))
def oGe := fI (fun _ _ => true) fun i j => .bl (decide (j ≤ i))
theorem o2_sub : O2 K (rI0 fun i j => .int (i - j)) oSub := o2_I0 fun _ _ _ _ => by simp only [VR]
theorem o2_div : O2 K (rI CDivN fun i j => .int (i.fdiv j)) oDiv := o2_I (fun i j h => by simpa [cDiv, CDivN] using h) fun _ _ _ _ => by simp only [VR]
theorem o2_mod : O2 K (rI (fun _ j => j ≠ 0) fun i j => .int (i.fmod j)) oMod := o2_I (fun i j h => by simpa [cMod] using h) fun _ _ _ _ => by simp only [VR]
theorem o2_pow : O2 K (rI CPow fun i j => .int (i ^ j.toNat)) oPow := o2_I (fun i j h => by simpa [cPow, CPow] using h) fun _ _ _ _ => by simp only [VR]
theorem o2_shl : O2 K (rI CPow fun i j => .int (i * 2 ^ j.toNat)) oShl := o2_I (fun i j h => by simpa [cPow, CPow] using h) fun _ _ _ _ => by simp only [VR]
theorem o2_shr : O2 K (rI (fun _ j => 0 ≤ j) fun i j => .int (i / 2 ^ j.toNat)) oShr := o2_I (fun i j h => of_decide_eq_true h) fun _ _ _ _ => by simp only [VR]
theorem o2_and : O2 K (rI0 fun i j => .int (Builtin.bitAnd i j)) oAnd := o2_I0 fun _ _ _ _ => by simp only [VR]
theorem o2_or : O2 K (rI0 fun i j => .int (Builtin.bitOr i j)) oOr := o2_I0 fun _ _ _ _ => by simp only [VR]
theorem o2_lt : O2 K (rI0 fun i j => .bl (decide (i < j))) oLt := o2_I0 fun _ _ _ _ => by simp only [VR]
theorem o2_le : O2 K (rI0 fun i j => .bl (decide (i ≤ j))) oLe := o2_I0 fun _ _ _ _ => by simp only [VR]
theorem o2_gt : O2 K (rI0 fun i j => .bl (decide (j < i))) oGt := o2_I0 fun _ _ _ _ => by simp only [VR]
theorem o2_ge : O2 K (rI0 fun i j => .bl (decide (j ≤ i))) oGe := o2_I0 fun _ _ _ _ => by simp only [VR]
def oNeg : D → Sto → Out D
  | .int i, S => .ok (.int (-i)) S
  | _, _ => .bad
theorem o1_neg : O1 K (rU fun i => .int (-i)) oNeg := fun W σ m H S x v Q s rx q => by
  unfold oNeg at q
  split at q
  · rename_i i
    simp only [VR] at rx
    exact ⟨i, rx, q _ H m .refl s (by simp only [VR])⟩
  · exact q.elim

/-! ### + of numbers, texts, tuples, lists -/
def oAdd : D → D → Sto → Out D
  | .int i, .int j, S => .ok (.int (i + j)) S
  | .str x, .str y, S => if x.length + y.length ≤ sizeLine then .ok (.str (x ++ y)) S else .bad
  | .tup xs, .tup ys, S => if xs.length + ys.length ≤ sizeLine then .ok (.tup (xs ++ ys)) S else .bad
  | .ref n, .ref k, S => match S[n]?, S[k]? with
    | some (.lst xs), some (.lst ys) => if xs.length + ys.length ≤ sizeLine then .ok (.ref S.length) (S ++ [.lst (xs ++ ys)]) else .bad
    | _, _ => .bad
  | _, _, _ => .bad
def rAddI : R2 := rI0 fun i j => .int (i + j)
def rAddS : R2 := fun x y H Q => ∃ i j, x = .str i ∧ y = .str j ∧ i.length + j.length ≤ sizeLine ∧ Q (.str (i ++ j)) H
theorem op_addA : OpR X (binaryOp .Add) (fun x y H Q => (rAddI x y H Q ∨ rAddS x y H Q) ∨ (rCatF X.K x y H Q ∨ rCat x y H Q)) := (op_add.or op_add_str).or (op_catF.or op_cat)
theorem VR.catTup {xs ys : List D} {v u : V} (rx : VR K m H (.tup xs) v) (ry : VR K m H (.tup ys) u) {Q : VK} (s : SR K m H S) (hz : xs.length + ys.length ≤ sizeLine)
    (q : ∀ w H', Ext m H m H' → SR K m H' S → VR K m H' (.tup (xs ++ ys)) w → Q w H') : rCatF K v u H Q := by
  simp only [VR] at rx ry
  obtain ⟨p, vs, rfl, h1, h2⟩ := rx
  obtain ⟨p', us, rfl, h3, h4⟩ := ry
  have e1 := h2.length
  have e2 := h4.length
  refine ⟨p, p', vs, us, rfl, rfl, h1, h3, by omega, fun h => ?_, fun h h' => ?_, fun h h' t ob ht hd => ?_⟩
  · subst h
    have e : xs = [] := List.eq_nil_of_length_eq_zero e1.symm
    subst e
    exact q _ H .refl s (by simp only [VR]; exact ⟨p', us, rfl, h3, h4⟩)
  · subst h'
    have e : ys = [] := List.eq_nil_of_length_eq_zero e2.symm
    subst e
    rw [List.append_nil] at q
    exact q _ H .refl s (by simp only [VR]; exact ⟨p, vs, rfl, h1, h2⟩)
  · exact q _ _ (Ext.tmp ht) (s.tmp ht) (VR.tupNew ht hd (h2.append h4))
theorem SR.newList {xs : List D} {vs : List V} {p : Addr} (s : SR K m H S) (hp : H p = none) (h : VRs K m H xs vs) : SR K (m ++ [p]) (upd H p (.lst vs)) (S ++ [.lst xs]) ∧ Ext m H (m ++ [p]) (upd H p (.lst vs)) ∧ VR K (m ++ [p]) (upd H p (.lst vs)) (.ref S.length) (.ref p) := by
  refine ⟨(s.tmp hp).grow (s.notin hp) ⟨vs, upd_same, VRs.ext (Ext.tmp hp) _ _ h⟩, (Ext.tmp hp).into hp, ?_⟩
  simp only [VR]
  exact ⟨p, by rw [← s.len, List.getElem?_concat_length], rfl⟩
theorem o2_add : O2 K (fun x y H Q => (rAddI x y H Q ∨ rAddS x y H Q) ∨ (rCatF K x y H Q ∨ rCat x y H Q)) oAdd := fun W σ m H S x y v u Q s rx ry q => by
  unfold oAdd at q
  split at q
  · rename_i i j
    simp only [VR] at rx ry
    exact .inl (.inl ⟨i, j, rx, ry, q _ H m .refl s (by simp only [VR])⟩)
  · rename_i i j
    simp only [VR] at rx ry
    split at q
    · rename_i hz
      exact .inl (.inr ⟨i, j, rx, ry, hz, q _ H m .refl s (by simp only [VR])⟩)
    · exact q.elim
  · rename_i xs ys
    split at q
    · rename_i hz
      exact .inr (.inl (VR.catTup rx ry s hz fun w H' e s' r => q w H' m e s' r))
    · exact q.elim
  · rename_i n k
    split at q
    · rename_i xs ys hn hk
      split at q
      · rename_i hz
        obtain ⟨p, rfl, _, _, vs, h1, h2⟩ := s.ref hn rx
        obtain ⟨p', rfl, _, _, us, h3, h4⟩ := s.ref hk ry
        refine .inr (.inr ⟨p, p', vs, us, rfl, rfl, h1, h3, by rw [h2.length, h4.length]; exact hz, fun t ht => ?_⟩)
        obtain ⟨s', e', r'⟩ := s.newList ht (h2.append h4)
        exact q _ _ _ e' s' r'
      · exact q.elim
    · exact q.elim
  · exact q.elim
theorem me_add (ha : ME X W a f) (hb : ME X W b g) : ME X W (.BinOp a .Add b pos) (e2 oAdd f g) := me_op op_addA o2_add ha hb
theorem me_sub (ha : ME X W a f) (hb : ME X W b g) : ME X W (.BinOp a .Sub b pos) (e2 oSub f g) := me_op op_sub o2_sub ha hb
theorem me_div (ha : ME X W a f) (hb : ME X W b g) : ME X W (.BinOp a .FloorDiv b pos) (e2 oDiv f g) := me_op op_fdivN o2_div ha hb
theorem me_mod (ha : ME X W a f) (hb : ME X W b g) : ME X W (.BinOp a .Mod b pos) (e2 oMod f g) := me_op op_modN o2_mod ha hb
theorem me_pow (ha : ME X W a f) (hb : ME X W b g) : ME X W (.BinOp a .Pow b pos) (e2 oPow f g) := me_op op_pow o2_pow ha hb
theorem me_shl (ha : ME X W a f) (hb : ME X W b g) : ME X W (.BinOp a .LShift b pos) (e2 oShl f g) := me_op op_shl o2_shl ha hb
theorem me_shr (ha : ME X W a f) (hb : ME X W b g) : ME X W (.BinOp a .RShift b pos) (e2 oShr f g) := me_op op_shr o2_shr ha hb
theorem me_band (ha : ME X W a f) (hb : ME X W b g) : ME X W (.BinOp a .BitAnd b pos) (e2 oAnd f g) := me_op op_and o2_and ha hb
theorem me_bor (ha : ME X W a f) (hb : ME X W b g) : ME X W (.BinOp a .BitOr b pos) (e2 oOr f g) := me_op op_or o2_or ha hb
theorem me_neg (ha : ME X W a f) : ME X W (.UnaryOp .USub a pos) (e1 oNeg f) := me_un un_neg o1_neg ha
/-! * of numbers, of a tuple and a number -/
def oMul : D → D → Sto → Out D
  | .int i, .int j, S => if cMul i j then .ok (.int (i * j)) S else .bad
  | .tup xs, .int k, S => if !xs.isEmpty && decide (2 ≤ k ∧ k ≤ 1000) && decide (xs.length ≤ 1000) then .ok (.tup (List.replicate k.toNat xs).flatten) S else .bad
  | _, _, _ => .bad

theorem o2_mul : O2 K (fun x y H Q => (rI CMul (fun i j => .int (i * j)) x y H Q ∨ rI CMulW (fun i j => .int (i * j)) x y H Q) ∨ rRepF K x y H Q) oMul := fun W σ m H S x y v u Q s rx ry q => by
  unfold oMul at q
  split at q
  · rename_i i j
    simp only [VR] at rx ry
    split at q
    · rename_i hc
      have hc2 : CMul i j ∨ CMulW i j := by
        unfold cMul at hc
        rw [decide_eq_true_eq] at hc
        exact hc
      rcases hc2 with hc2 | hc2
      · exact .inl (.inl ⟨i, j, rx, ry, hc2, q _ H m .refl s (by simp only [VR])⟩)
      · exact .inl (.inr ⟨i, j, rx, ry, hc2, q _ H m .refl s (by simp only [VR])⟩)
    · exact q.elim
  · rename_i xs k
    simp only [VR] at rx ry
    obtain ⟨p, vs, rfl, h1, h2⟩ := rx
    split at q
    · rename_i hc
      simp only [Bool.and_eq_true, decide_eq_true_eq, Bool.not_eq_true', List.isEmpty_eq_false_iff] at hc
      obtain ⟨⟨c1, c2, c3⟩, c4⟩ := hc
      have e1 := h2.length
      refine .inr ⟨p, k, vs, rfl, ry, h1, fun z => c1 ?_, c2, c3, by omega, fun t ob ht hd => ?_⟩
      · subst z
        exact List.eq_nil_of_length_eq_zero e1.symm
      · exact q _ _ m (Ext.tmp ht) (s.tmp ht) (VR.tupNew ht hd (h2.replicate _))
    · exact q.elim
  · exact q.elim
theorem me_mul (ha : ME X W a f) (hb : ME X W b g) : ME X W (.BinOp a .Mult b pos) (e2 oMul f g) := me_op ((op_mul.or op_mulW).or op_repF) o2_mul ha hb

/-! ### lists on their way: +, * -/
/-- a rule over two lists -/
def lCat (f g : FL) : FL := fun l S => (f l S).bind fun x S1 => (g l S1).bind fun y S2 => match x.get S2, y.get S2 with
  | some xs, some ys => if xs.length + ys.length ≤ sizeLine then .ok (.tmp (xs ++ ys)) S2 else .bad
  | _, _ => .bad
theorem ml_cat {f g : FL} (ha : ML X W a f) (hb : ML X W b g) : ML X W (.BinOp a .Add b pos) (lCat f g) := (pe_op op_cat ha hb).imp fun σ H Q ⟨l, m, S, R, q⟩ =>
  ⟨l, m, S, R, post.bind (PR := pL X.K) anti_L q fun x S1 v H1 m1 E1 R1 V1 q1 => ⟨l, m1, S1, R.ext E1 R1, post.bind (PR := pL X.K) anti_L q1 fun y S2 u H2 m2 E2 R2 V2 q2 => by
    cases e1 : x.get S2 with
    | none => rw [e1] at q2; exact q2.elim
    | some xs =>
      cases e2 : y.get S2 with
      | none => rw [e1, e2] at q2; exact q2.elim
      | some ys =>
        rw [e1, e2] at q2
        obtain ⟨p, vs, rfl, h1, h2⟩ := pL.read V1 E2 R2 e1
        obtain ⟨p', us, rfl, h3, h4⟩ := pL.read V2 .refl R2 e2
        have l1 := h2.length
        have l2 := h4.length
        by_cases hz : xs.length + ys.length ≤ sizeLine
        · have q2 : post X.K W (pL X.K) σ m2 H2 Q (if xs.length + ys.length ≤ sizeLine then .ok (.tmp (xs ++ ys)) S2 else .bad) := q2
          rw [if_pos hz] at q2
          refine ⟨p, p', vs, us, rfl, rfl, h1, h3, by omega, fun t ht => ?_⟩
          exact q2 _ _ m2 (Ext.tmp ht) (R2.tmp ht) (pL.new .refl R2 ht (h2.append h4))
        · have q2 : post X.K W (pL X.K) σ m2 H2 Q (if xs.length + ys.length ≤ sizeLine then .ok (.tmp (xs ++ ys)) S2 else .bad) := q2
          rw [if_neg hz] at q2
          exact q2.elim⟩⟩
def lRep (f : FL) (g : FE) : FL := fun l S => (f l S).bind fun x S1 => (g l S1).bind fun y S2 => match x.get S2, y with
  | some xs, .int k => if k < 2 ^ 63 ∧ -(2 ^ 63) ≤ k ∧ xs.length * k.toNat ≤ sizeLine then .ok (.tmp (List.replicate k.toNat xs).flatten) S2 else .bad
  | _, _ => .bad
theorem ml_rep {f : FL} (ha : ML X W a f) (hb : ME X W b g) : ML X W (.BinOp a .Mult b pos) (lRep f g) := (pe_op op_rep ha hb).imp fun σ H Q ⟨l, m, S, R, q⟩ =>
  ⟨l, m, S, R, post.bind (PR := pL X.K) anti_L q fun x S1 v H1 m1 E1 R1 V1 q1 => ⟨l, m1, S1, R.ext E1 R1, post.bind (PR := pD X.K) anti_L q1 fun y S2 u H2 m2 E2 R2 V2 q2 => by
    cases e1 : x.get S2 with
    | none => rw [e1] at q2; exact q2.elim
    | some xs =>
      rw [e1] at q2
      obtain ⟨p, vs, rfl, h1, h2⟩ := pL.read V1 E2 R2 e1
      have l1 := h2.length
      cases y with
      | int k =>
        simp only [VR] at V2
        by_cases hz : k < 2 ^ 63 ∧ -(2 ^ 63) ≤ k ∧ xs.length * k.toNat ≤ sizeLine
        · have q2 : post X.K W (pL X.K) σ m2 H2 Q (if k < 2 ^ 63 ∧ -(2 ^ 63) ≤ k ∧ xs.length * k.toNat ≤ sizeLine then .ok (.tmp (List.replicate k.toNat xs).flatten) S2 else .bad) := q2
          rw [if_pos hz] at q2
          refine ⟨p, k, vs, rfl, V2, h1, hz.2.1, hz.1, by rw [l1]; exact hz.2.2, fun t ht => ?_⟩
          exact q2 _ _ m2 (Ext.tmp ht) (R2.tmp ht) (pL.new .refl R2 ht (h2.replicate _))
        · have q2 : post X.K W (pL X.K) σ m2 H2 Q (if k < 2 ^ 63 ∧ -(2 ^ 63) ≤ k ∧ xs.length * k.toNat ≤ sizeLine then .ok (.tmp (List.replicate k.toNat xs).flatten) S2 else .bad) := q2
          rw [if_neg hz] at q2
          exact q2.elim
      | _ => exact q2.elim⟩⟩
end
end Pz

set_option Elab.async false
set_option linter.all false
set_option maxRecDepth 100000
set_option maxHeartbeats 4000000
/-! Pz4: == and in, is None, isinstance, len, subscripts, slices. -/
namespace Pz
open PySem PySem.Spec PyProof.Rows L2
section
variable {X : Cx} {W : WX} {a b c e : Expr} {rest es : List Expr} {f g h : FE} {pos : Pos} {K : PySem.W.Frag} {m : List Addr} {H : Hp} {S : Sto}

/-! ### data as the library's data -/
def mapO {α β : Type} (f : α → Option β) : List α → Option (List β)
  | [] => some []
  | x :: xs => match f x, mapO f xs with
    | some y, some ys => some (y :: ys)
    | _, _ => none
def toPy : Nat → Sto → D → Option PyData
  | 0, _, _ => none
  | n + 1, S, d => match d with
    | .non => some .none
    | .bl b => some (.bool b)
    | .int i => some (.int i)
    | .str s => some (.str s)
    | .tup xs => (mapO (toPy n S) xs).map .tuple
    | .ref k => match S[k]? with
      | some (.lst xs) => (mapO (toPy n S) xs).map .list
      | _ => none
    | _ => none
theorem mapO_dp {f : D → Option PyData} (hf : ∀ d v p, VR K m H d v → f d = some p → Dp K H v p) : ∀ (ds : List D) (vs : List V) (ps : List PyData), VRs K m H ds vs → mapO f ds = some ps → DpAll K H vs ps
  | [], vs, ps, h, e => by
    simp only [VRs] at h
    subst h
    simp only [mapO, Option.some.injEq] at e
    subst e
    exact .nil
  | d :: ds, vs, ps, h, e => by
    simp only [VRs] at h
    obtain ⟨v, r, rfl, h1, h2⟩ := h
    unfold mapO at e
    split at e
    · rename_i y ys e1 e2
      cases e
      exact .cons (hf d v y h1 e1) (mapO_dp hf ds r ys h2 e2)
    · cases e
theorem toPy_dp (s : SR K m H S) : ∀ (n : Nat) (d : D) (v : V) (p : PyData), VR K m H d v → toPy n S d = some p → Dp K H v p
  | 0, _, _, _, _, e => by simp only [toPy] at e; cases e
  | n + 1, d, v, p, r, e => by
    cases d with
    | non => simp only [toPy, Option.some.injEq] at e; simp only [VR] at r; subst e r; exact .non
    | bl _ => simp only [toPy, Option.some.injEq] at e; simp only [VR] at r; subst e r; exact .bl _
    | int _ => simp only [toPy, Option.some.injEq] at e; simp only [VR] at r; subst e r; exact .int _
    | str _ => simp only [toPy, Option.some.injEq] at e; simp only [VR] at r; subst e r; exact .str _
    | tup xs =>
      simp only [toPy, Option.map_eq_some_iff] at e
      obtain ⟨ps, e1, rfl⟩ := e
      simp only [VR] at r
      obtain ⟨a, vs, rfl, h1, h2⟩ := r
      exact .tup h1 (mapO_dp (fun d v p => toPy_dp s n d v p) xs vs ps h2 e1)
    | ref k =>
      simp only [toPy] at e
      split at e
      · rename_i xs hk
        obtain ⟨ps, e1, rfl⟩ := Option.map_eq_some_iff.mp e
        obtain ⟨a, rfl, _, _, vs, h1, h2⟩ := s.ref hk r
        exact .lst (SqL.of h1) (mapO_dp (fun d v p => toPy_dp s n d v p) xs vs ps h2 e1)
      · cases e
    | fn _ => simp only [toPy] at e; cases e
    | rl _ => simp only [toPy] at e; cases e

/-! ### == -/
def scE : D → D → Option Bool
  | .int i, .int j => some (decide (i = j))
  | .str x, .str y => some (decide (x = y))
  | .bl x, .bl y => some (decide (x = y))
  | .non, .non => some true
  | .non, .int _ => some false | .int _, .non => some false
  | .non, .str _ => some false | .str _, .non => some false
  | .non, .bl _ => some false | .bl _, .non => some false
  | .int _, .str _ => some false | .str _, .int _ => some false
  | .bl _, .str _ => some false | .str _, .bl _ => some false
  | _, _ => none
def dEq (S : Sto) (x y : D) : Option Bool := match scE x y with
  | some b => some b
  | none => match toPy 40 S x, toPy 40 S y with
    | some d, some e => if SeqAt.shaped d && SeqAt.shaped e then some (PyData.eqv d e) else none
    | _, _ => none
def oEq (x y : D) (S : Sto) : Out D := match dEq S x y with
  | some b => .ok (.bl b) S
  | none => .bad
def oNe (x y : D) (S : Sto) : Out D := match dEq S x y with
  | some b => .ok (.bl (!b)) S
  | none => .bad
theorem decT {p : Prop} [Decidable p] (h : p) : decide p = true := decide_eq_true h
theorem scE_ok {x y : D} {v u : V} {k : Bool} (h : scE x y = some k) (rx : VR K m H x v) (ry : VR K m H y u) : scal v u = true ∧ decide (v = u) = k := by
  unfold scE at h
  split at h <;> first
    | (cases h; done)
    | (simp only [VR] at rx ry
       subst rx ry
       cases h
       exact ⟨rfl, by simp⟩)
theorem dEq_ok (s : SR K m H S) {x y : D} {v u : V} {k : Bool} (h : dEq S x y = some k) (rx : VR K m H x v) (ry : VR K m H y u) :
    (scal v u = true ∧ decide (v = u) = k) ∨ ∃ d e, Dp K H v d ∧ Dp K H u e ∧ SeqAt.shaped d = true ∧ SeqAt.shaped e = true ∧ PyData.eqv d e = k := by
  unfold dEq at h
  split at h
  · rename_i b hb
    cases h
    exact .inl (scE_ok hb rx ry)
  · split at h
    · rename_i d e h1 h2
      split at h
      · rename_i hs
        rw [Bool.and_eq_true] at hs
        cases h
        exact .inr ⟨d, e, toPy_dp s _ _ _ _ rx h1, toPy_dp s _ _ _ _ ry h2, hs.1, hs.2, rfl⟩
      · cases h
    · cases h
theorem o2_eq : O2 K (fun x y H Q => rEq x y H Q ∨ rEqD K x y H Q) oEq := fun W σ m H S x y v u Q s rx ry q => by
  unfold oEq at q
  split at q
  · rename_i k hk
    have q1 := q _ H m .refl s (by simp only [VR]; rfl)
    rcases dEq_ok s hk rx ry with ⟨h1, h2⟩ | ⟨d, e, h1, h2, h3, h4, h5⟩
    · exact .inl ⟨h1, by rw [h2]; exact q1⟩
    · exact .inr ⟨d, e, h1, h2, h3, h4, by rw [h5]; exact q1⟩
  · exact q.elim
theorem o2_ne : O2 K (fun x y H Q => rNe x y H Q ∨ rNeD K x y H Q) oNe := fun W σ m H S x y v u Q s rx ry q => by
  unfold oNe at q
  split at q
  · rename_i k hk
    have q1 := q _ H m .refl s (by simp only [VR]; rfl)
    rcases dEq_ok s hk rx ry with ⟨h1, h2⟩ | ⟨d, e, h1, h2, h3, h4, h5⟩
    · exact .inl ⟨h1, by rw [h2]; exact q1⟩
    · exact .inr ⟨d, e, h1, h2, h3, h4, by rw [h5]; exact q1⟩
  · exact q.elim
theorem me_eq (hu : X.A.units + 64 < cLine) (ha : ME X W a f) (hb : ME X W b g) : ME X W (.Compare a [.Eq] [b] pos) (e2 oEq f g) := me_cmp (op_eq.or (op_eqD hu)) o2_eq ha hb (nomark _)
theorem me_ne (hu : X.A.units + 64 < cLine) (ha : ME X W a f) (hb : ME X W b g) : ME X W (.Compare a [.NotEq] [b] pos) (e2 oNe f g) := me_cmp (op_ne.or (op_neD hu)) o2_ne ha hb (nomark _)
theorem mt_eq (hu : X.A.units + 64 < cLine) (ha : ME X W a f) (hb : ME X W b g) : MT X W (.Compare a [.Eq] [b] pos) (eT (e2 oEq f g)) := mt_cmp (op_eq.or (op_eqD hu)) o2_eq ha hb (nomark _)
theorem mt_ne (hu : X.A.units + 64 < cLine) (ha : ME X W a f) (hb : ME X W b g) : MT X W (.Compare a [.NotEq] [b] pos) (eT (e2 oNe f g)) := mt_cmp (op_ne.or (op_neD hu)) o2_ne ha hb (nomark _)
theorem me_lt (ha : ME X W a f) (hb : ME X W b g) : ME X W (.Compare a [.Lt] [b] pos) (e2 oLt f g) := me_cmp op_lt o2_lt ha hb (nomark _)
theorem me_le (ha : ME X W a f) (hb : ME X W b g) : ME X W (.Compare a [.LtE] [b] pos) (e2 oLe f g) := me_cmp op_le o2_le ha hb (nomark _)
theorem me_gt (ha : ME X W a f) (hb : ME X W b g) : ME X W (.Compare a [.Gt] [b] pos) (e2 oGt f g) := me_cmp op_gt o2_gt ha hb (nomark _)
theorem me_ge (ha : ME X W a f) (hb : ME X W b g) : ME X W (.Compare a [.GtE] [b] pos) (e2 oGe f g) := me_cmp op_ge o2_ge ha hb (nomark _)
theorem mt_lt (ha : ME X W a f) (hb : ME X W b g) : MT X W (.Compare a [.Lt] [b] pos) (eT (e2 oLt f g)) := mt_cmp op_lt o2_lt ha hb (nomark _)
theorem mt_le (ha : ME X W a f) (hb : ME X W b g) : MT X W (.Compare a [.LtE] [b] pos) (eT (e2 oLe f g)) := mt_cmp op_le o2_le ha hb (nomark _)
theorem mt_gt (ha : ME X W a f) (hb : ME X W b g) : MT X W (.Compare a [.Gt] [b] pos) (eT (e2 oGt f g)) := mt_cmp op_gt o2_gt ha hb (nomark _)
theorem mt_ge (ha : ME X W a f) (hb : ME X W b g) : MT X W (.Compare a [.GtE] [b] pos) (eT (e2 oGe f g)) := mt_cmp op_ge o2_ge ha hb (nomark _)
theorem me_cle2 (ha : ME X W a f) (hb : ME X W b g) (hc : ME X W c h) (hm : lastMarks [.LtE, .LtE] [b, c] = false := by with_unfolding_all rfl) : ME X W (.Compare a [.LtE, .LtE] [b, c] pos) (eCh oLe oLe f g h) := me_ch op_le o2_le op_le o2_le ha hb hc hm
theorem mt_cle2 (ha : ME X W a f) (hb : ME X W b g) (hc : ME X W c h) (hm : lastMarks [.LtE, .LtE] [b, c] = false := by with_unfolding_all rfl) : MT X W (.Compare a [.LtE, .LtE] [b, c] pos) (eT (eCh oLe oLe f g h)) := mt_ch op_le o2_le op_le o2_le ha hb hc hm

/-! ### is None -/
def dNon : D → Bool
  | .non => true
  | _ => false
theorem dNon_ok {x : D} {v : V} (r : VR K m H x v) : decide (v = .non) = dNon x := by
  cases x <;> simp only [VR] at r
  case non => subst r; rfl
  case bl => subst r; rfl
  case int => subst r; rfl
  case str => subst r; rfl
  case fn => subst r; rfl
  case tup => obtain ⟨_, _, rfl, _⟩ := r; rfl
  case ref => obtain ⟨_, _, rfl⟩ := r; rfl
  case rl => obtain ⟨_, _, rfl, _⟩ := r; rfl
def oIs (x : D) (y : D) (S : Sto) : Out D := match y with
  | .non => .ok (.bl (dNon x)) S
  | _ => .bad
def oIsN (x : D) (y : D) (S : Sto) : Out D := match y with
  | .non => .ok (.bl (!dNon x)) S
  | _ => .bad
theorem o2_is : O2 K (fun x y H Q => y = .non ∧ Q (.bl (decide (x = .non))) H) oIs := fun W σ m H S x y v u Q s rx ry q => by
  cases y with
  | non =>
    simp only [VR] at ry
    exact ⟨ry, by rw [dNon_ok rx]; exact q _ H m .refl s (by simp only [VR])⟩
  | _ => exact q.elim
theorem o2_isn : O2 K (fun x y H Q => y = .non ∧ Q (.bl (!decide (x = .non))) H) oIsN := fun W σ m H S x y v u Q s rx ry q => by
  cases y with
  | non =>
    simp only [VR] at ry
    exact ⟨ry, by rw [dNon_ok rx]; exact q _ H m .refl s (by simp only [VR])⟩
  | _ => exact q.elim
theorem me_is (ha : ME X W a f) (hb : ME X W b g) : ME X W (.Compare a [.Is] [b] pos) (e2 oIs f g) := me_cmp op_isN o2_is ha hb (nomark _)
theorem me_isn (ha : ME X W a f) (hb : ME X W b g) : ME X W (.Compare a [.IsNot] [b] pos) (e2 oIsN f g) := me_cmp op_notN o2_isn ha hb (nomark _)
theorem mt_is (ha : ME X W a f) (hb : ME X W b g) : MT X W (.Compare a [.Is] [b] pos) (eT (e2 oIs f g)) := mt_cmp op_isN o2_is ha hb (nomark _)
theorem mt_isn (ha : ME X W a f) (hb : ME X W b g) : MT X W (.Compare a [.IsNot] [b] pos) (eT (e2 oIsN f g)) := mt_cmp op_notN o2_isn ha hb (nomark _)

/-! ### in, of flat things in a list or tuple -/
def flatD : D → Bool
  | .non => true | .bl _ => true | .int _ => true | .str _ => true
  | _ => false
def eqF : D → D → Bool
  | .non, .non => true
  | .bl a, .bl b => a == b
  | .bl a, .int b => (if a then 1 else 0) == b
  | .int a, .bl b => a == (if b then 1 else 0)
  | .int a, .int b => a == b
  | .str a, .str b => a == b
  | _, _ => false
theorem flat_ok {x : D} {v : V} (r : VR K m H x v) (h : flatD x = true) : flatV v = true := by
  cases x <;> first | (simp only [flatD] at h; cases h; done) | (simp only [VR] at r; subst r; rfl)
theorem eqF_ok {x y : D} {v u : V} (rx : VR K m H x v) (ry : VR K m H y u) (hx : flatD x = true) (hy : flatD y = true) : eqV v u = eqF x y := by
  cases x <;> first | (simp only [flatD] at hx; cases hx; done) | (cases y <;> first | (simp only [flatD] at hy; cases hy; done) | (simp only [VR] at rx ry; subst rx ry; rfl))
theorem flats_ok : ∀ {xs : List D} {vs : List V}, VRs K m H xs vs → xs.all flatD = true → vs.all flatV = true
  | [], _, h, _ => by simp only [VRs] at h; subst h; rfl
  | x :: xs, _, h, q => by
    simp only [VRs] at h
    obtain ⟨v, r, rfl, h1, h2⟩ := h
    rw [List.all_cons, Bool.and_eq_true] at q ⊢
    exact ⟨flat_ok h1 q.1, flats_ok h2 q.2⟩
theorem inF_ok {x : D} {v : V} (rx : VR K m H x v) (hx : flatD x = true) : ∀ {xs : List D} {vs : List V}, VRs K m H xs vs → xs.all flatD = true → inV v vs = xs.any fun y => eqF y x
  | [], _, h, _ => by simp only [VRs] at h; subst h; rfl
  | y :: xs, _, h, q => by
    simp only [VRs] at h
    obtain ⟨u, r, rfl, h1, h2⟩ := h
    rw [List.all_cons, Bool.and_eq_true] at q
    have := inF_ok rx hx h2 q.2
    unfold inV at this ⊢
    rw [List.any_cons, List.any_cons, this, eqF_ok h1 rx q.1 hx]
def seqD (S : Sto) : D → Option (List D)
  | .tup xs => some xs
  | .rl xs => some xs
  | .ref n => match S[n]? with
    | some (.lst xs) => some xs
    | _ => none
  | _ => none
theorem seqD_ok (s : SR K m H S) {y : D} {u : V} {ys : List D} (r : VR K m H y u) (h : seqD S y = some ys) : ∃ p vs, u = .ref p ∧ (SqL K H p vs ∨ SqN K H p vs) ∧ VRs K m H ys vs := by
  cases y with
  | tup xs =>
    simp only [seqD, Option.some.injEq] at h
    subst h
    simp only [VR] at r
    obtain ⟨p, vs, h1, h2, h3⟩ := r
    exact ⟨p, vs, h1, .inr h2, h3⟩
  | rl xs =>
    simp only [seqD, Option.some.injEq] at h
    subst h
    simp only [VR] at r
    obtain ⟨p, vs, h1, h2, h3⟩ := r
    exact ⟨p, vs, h1, .inl h2.sql, h3⟩
  | ref n =>
    simp only [seqD] at h
    split at h
    · rename_i xs hn
      cases h
      obtain ⟨p, h1, _, _, vs, h2, h3⟩ := s.ref hn r
      exact ⟨p, vs, h1, .inl (SqL.of h2), h3⟩
    · cases h
  | _ => simp only [seqD] at h; cases h
def dIn (S : Sto) (x y : D) : Option Bool := match seqD S y with
  | some ys => if flatD x && ys.all flatD then some (ys.any fun z => eqF z x) else none
  | none => none
theorem dIn_ok (s : SR K m H S) {x y : D} {v u : V} {k : Bool} (h : dIn S x y = some k) (rx : VR K m H x v) (ry : VR K m H y u) :
    ∃ p vs, u = .ref p ∧ (SqL K H p vs ∨ SqT K H p vs) ∧ flatV v = true ∧ vs.all flatV = true ∧ inV v vs = k := by
  unfold dIn at h
  split at h
  · rename_i ys hy
    split at h
    · rename_i hf
      rw [Bool.and_eq_true] at hf
      obtain ⟨p, vs, h1, h2, h3⟩ := seqD_ok s ry hy
      cases h
      exact ⟨p, vs, h1, h2.imp id SqN.t, flat_ok rx hf.1, flats_ok h3 hf.2, inF_ok rx hf.1 h3 hf.2⟩
    · cases h
  · cases h
def oIn (x y : D) (S : Sto) : Out D := match dIn S x y with
  | some b => .ok (.bl b) S
  | none => .bad
def oNin (x y : D) (S : Sto) : Out D := match dIn S x y with
  | some b => .ok (.bl (!b)) S
  | none => .bad
theorem o2_in : O2 K (rIn K false) oIn := fun W σ m H S x y v u Q s rx ry q => by
  unfold oIn at q
  split at q
  · rename_i k hk
    obtain ⟨p, vs, h1, h2, h3, h4, h5⟩ := dIn_ok s hk rx ry
    refine ⟨p, vs, h1, h2, h3, h4, ?_⟩
    rw [if_neg (by decide), h5]
    exact q _ H m .refl s (by simp only [VR])
  · exact q.elim
theorem o2_nin : O2 K (rIn K true) oNin := fun W σ m H S x y v u Q s rx ry q => by
  unfold oNin at q
  split at q
  · rename_i k hk
    obtain ⟨p, vs, h1, h2, h3, h4, h5⟩ := dIn_ok s hk rx ry
    refine ⟨p, vs, h1, h2, h3, h4, ?_⟩
    rw [if_pos rfl, h5]
    exact q _ H m .refl s (by simp only [VR])
  · exact q.elim
theorem me_in (ha : ME X W a f) (hb : ME X W b g) (hm : behindInMarks .In b = false := by rfl) : ME X W (.Compare a [.In] [b] pos) (e2 oIn f g) := me_cmp op_in_seq o2_in ha hb hm
theorem me_nin (ha : ME X W a f) (hb : ME X W b g) (hm : behindInMarks .NotIn b = false := by rfl) : ME X W (.Compare a [.NotIn] [b] pos) (e2 oNin f g) := me_cmp op_notIn_seq o2_nin ha hb hm
theorem mt_in (ha : ME X W a f) (hb : ME X W b g) (hm : behindInMarks .In b = false := by rfl) : MT X W (.Compare a [.In] [b] pos) (eT (e2 oIn f g)) := mt_cmp op_in_seq o2_in ha hb hm
theorem mt_nin (ha : ME X W a f) (hb : ME X W b g) (hm : behindInMarks .NotIn b = false := by rfl) : MT X W (.Compare a [.NotIn] [b] pos) (eT (e2 oNin f g)) := mt_cmp op_notIn_seq o2_nin ha hb hm
end
end Pz

set_option Elab.async false
set_option linter.all false
set_option maxRecDepth 100000
set_option maxHeartbeats 4000000
/-! Pz5: isinstance, len, subscripts, slices, calls of built-ins. -/
namespace Pz
open PySem PySem.Spec PyProof.Rows L2
section
variable {X : Cx} {W : WX} {a b c e : Expr} {rest es : List Expr} {f g h : FE} {p pos : Pos} {K : PySem.W.Frag} {m : List Addr} {H : Hp} {S : Sto}

/-! ### isinstance with a built-in class -/
def tyD (S : Sto) : D → Option String
  | .non => some "NoneType" | .bl _ => some "bool" | .int _ => some "int" | .str _ => some "str" | .tup _ => some "tuple" | .rl _ => some "list" | .fn _ => none
  | .ref n => match S[n]? with
    | some (.lst _) => some "list"
    | some (.dk _) => some "dict"
    | _ => none
def isB (t T : String) : Bool := t == T || (t == "bool" && T == "int")
theorem kit_all : ∀ t ∈ ["NoneType", "bool", "int", "str", "tuple", "list", "dict"], ∀ T ∈ ["int", "bool", "str", "tuple"], kitB t T = some (isB t T) := by decide +kernel
theorem tyD_ok (s : SR K m H S) {x : D} {v : V} {t : String} (h : tyD S x = some t) (r : VR K m H x v) : TyX K H v (.type t) ∧ t ∈ ["NoneType", "bool", "int", "str", "tuple", "list", "dict"] := by
  cases x with
  | non => cases h; simp only [VR] at r; subst r; exact ⟨.base .non, by simp⟩
  | bl b => cases h; simp only [VR] at r; subst r; exact ⟨.base (.bl b), by simp⟩
  | int i => cases h; simp only [VR] at r; subst r; exact ⟨.base (.int i), by simp⟩
  | str z => cases h; simp only [VR] at r; subst r; exact ⟨.base (.str z), by simp⟩
  | fn _ => cases h
  | tup xs =>
    cases h
    simp only [VR] at r
    obtain ⟨p, vs, rfl, h1, _⟩ := r
    rcases h1.t with (h1 | ⟨o, h1⟩) | ⟨o, _, _, h1, h2, _⟩
    · exact ⟨.base (.tup h1), by simp⟩
    · exact ⟨.fTuple h1, by simp⟩
    · exact ⟨.kTuple h1 h2, by simp⟩
  | rl xs =>
    cases h
    simp only [VR] at r
    obtain ⟨p, vs, rfl, h1, _⟩ := r
    rcases h1 with ⟨o, h1⟩ | ⟨o, _, _, h1, h2, _⟩
    · exact ⟨.base (.frz h1), by simp⟩
    · exact ⟨.kList h1 h2, by simp⟩
  | ref n =>
    simp only [tyD] at h
    split at h
    · rename_i xs hn
      cases h
      obtain ⟨p, rfl, _, _, vs, h1, _⟩ := s.ref hn r
      exact ⟨.base (.lst h1), by simp⟩
    · rename_i xs hn
      cases h
      obtain ⟨p, rfl, _, _, vs, h1, _⟩ := s.ref hn r
      exact ⟨.base (.dK h1), by simp⟩
    · cases h
def oIsi (T : String) (x : D) (S : Sto) : Out D := match tyD S x with
  | some t => .ok (.bl (isB t T)) S
  | none => .bad
theorem me_isi {T : String} {p2 : Pos} {x : Str} (hx : bootBuiltins x = some (.type T)) (hT : T ∈ ["int", "bool", "str", "tuple"]) (hg : Gl X "isinstance") (hm : X.mg "isinstance" = none) (hb : bootBuiltins "isinstance" = some (.builtin "isinstance")) (hg2 : Gl X x) (hm2 : X.mg x = none) (he : ME X W e f)
    (hn : x ≠ "__name__" := by decide) (hd : (x == ("__debug__" : Str)) = false := by decide) (s1 : starEach [e, .Name x p2] X.env = (false, eval e X.env) :: starEach [.Name x p2] X.env := by rfl)
    (s2 : starEach [.Name x p2] X.env = (false, eval (.Name x p2) X.env) :: starEach [] X.env := by rfl) (hpl : (backTo pos (starEach [.Name x p2] X.env)).any (·.1) = false := by rfl) : ME X W (.Call (.Name "isinstance" p) [e, .Name x p2] [] pos) (e1 (oIsi T) f) :=
  (pe_callB call_isi hg hm hb (pa_cons he (pa_cons (pe_bltn (v := .ty T) hg2 hm2 hx rfl hn hd) pa_nil s2) s1) (by decide) (by decide) s1 hpl).imp fun σ H Q ⟨l, m, S, R, q⟩ => ⟨l, m, S, R, post.bind (PR := pD X.K) anti_D q fun x S1 v H1 m1 E1 R1 V1 q1 => by
    unfold oIsi at q1
    split at q1
    · rename_i t ht
      obtain ⟨h1, h2⟩ := tyD_ok R1 ht V1
      exact ⟨v, .ty T, _, _, _, rfl, .ty T, h1, kit_ty (kit_all t h2 T hT), q1 _ H1 m1 .refl R1 (by simp only [VR])⟩
    · exact q1.elim⟩

/-! ### a built-in called with one value -/
def rd1 {α β γ : Type} (PR : PRel α β) (PR' : PRel γ V) (K : PySem.W.Frag) (r : List β → Hp → VK → Prop) (o : α → Sto → Out γ) : Prop :=
  ∀ (W : WX) (σ : L2.St) (m : List Addr) (H H0 : Hp) (S : Sto) (x : α) (v : β) (Q : VK), SR K m H S → PR H0 m H x v → post K W PR' σ m H Q (o x S) → r [v] H Q
def eB1 {α γ : Type} (o : α → Sto → Out γ) (f : Loc → Sto → Out α) : Loc → Sto → Out γ := fun l S => (f l S).bind o
variable {α γ : Type} {PR : PRel α V} {PR' : PRel γ V} {r : List V → Hp → VK → Prop} {o : α → Sto → Out γ} {fa : Loc → Sto → Out α} {idn T : String} {x : Str}
theorem call1B (hc : CallR X (.builtin idn) r) (hf : rd1 PR PR' X.K r o) (ha : Anti PR') (hg : Gl X x) (hm : X.mg x = none) (hb : bootBuiltins x = some (.builtin idn)) (he : PE X e (tX X.K W PR fa)) (hn : x ≠ "__name__" := by decide) (hd : (x == ("__debug__" : Str)) = false := by decide)
    (s1 : starEach [e] X.env = (false, eval e X.env) :: starEach [] X.env := by rfl) (hpl : (backTo pos (starEach [] X.env)).any (·.1) = false := by rfl) : PE X (.Call (.Name x p) [e] [] pos) (tX X.K W PR' (eB1 o fa)) :=
  (pe_callB hc hg hm hb (pa_cons he pa_nil s1) hn hd s1 hpl).imp fun σ H Q ⟨l, m, S, R, q⟩ => ⟨l, m, S, R, post.bind (PR := PR) ha q fun x S1 v H1 m1 E1 R1 V1 q1 => hf W σ m1 H1 H S1 x v Q R1 V1 q1⟩
theorem call1T (hc : CallR X (.type T) r) (hf : rd1 PR PR' X.K r o) (ha : Anti PR') (hg : Gl X x) (hm : X.mg x = none) (hb : bootBuiltins x = some (.type T)) (he : PE X e (tX X.K W PR fa)) (hn : x ≠ "__name__" := by decide) (hd : (x == ("__debug__" : Str)) = false := by decide)
    (s1 : starEach [e] X.env = (false, eval e X.env) :: starEach [] X.env := by rfl) (hpl : (backTo pos (starEach [] X.env)).any (·.1) = false := by rfl) : PE X (.Call (.Name x p) [e] [] pos) (tX X.K W PR' (eB1 o fa)) :=
  (pe_callTy hc hg hm hb (pa_cons he pa_nil s1) hn hd s1 hpl).imp fun σ H Q ⟨l, m, S, R, q⟩ => ⟨l, m, S, R, post.bind (PR := PR) ha q fun x S1 v H1 m1 E1 R1 V1 q1 => hf W σ m1 H1 H S1 x v Q R1 V1 q1⟩

/-! ### what may be read as a sequence: MQ; as a list: MS -/
def pQ (K : PySem.W.Frag) : PRel (List D) V := fun _ m H ds v => ∃ p vs, v = .ref p ∧ (SqL K H p vs ∨ SqN K H p vs) ∧ VRs K m H ds vs
def pS (K : PySem.W.Frag) : PRel (List D) V := fun _ m H ds v => ∃ p vs, v = .ref p ∧ SqL K H p vs ∧ VRs K m H ds vs
abbrev FQ := Loc → Sto → Out (List D)
abbrev MQ (X : Cx) (W : WX) (e : Expr) (f : FQ) : Prop := PE X e (tX X.K W (pQ X.K) f)
abbrev MS' (X : Cx) (W : WX) (e : Expr) (f : FQ) : Prop := PE X e (tX X.K W (pS X.K) f)
theorem anti_Q {K : PySem.W.Frag} : Anti (pQ K) := fun _ _ _ _ _ _ _ h => h
theorem anti_S {K : PySem.W.Frag} : Anti (pS K) := fun _ _ _ _ _ _ _ h => h
def qD (d : D) (S : Sto) : Out (List D) := match seqD S d with
  | some xs => .ok xs S
  | none => .bad
def sD (d : D) (S : Sto) : Out (List D) := match d with
  | .tup _ => .bad
  | d => match seqD S d with
    | some xs => .ok xs S
    | none => .bad
def qL (x : LV) (S : Sto) : Out (List D) := match x.get S with
  | some xs => .ok xs S
  | none => .bad
def eQ (f : FE) : FQ := fun l S => (f l S).bind qD
def eS (f : FE) : FQ := fun l S => (f l S).bind sD
def lQ (f : FL) : FQ := fun l S => (f l S).bind qL
theorem mq_e (h : ME X W e f) : MQ X W e (eQ f) := PE.imp h fun σ H Q ⟨l, m, S, R, q⟩ => ⟨l, m, S, R, post.bind (PR := pD X.K) anti_Q q fun x S1 v H1 m1 E1 R1 V1 q1 => by
  unfold qD at q1
  split at q1
  · rename_i xs hx
    obtain ⟨p, vs, h1, h2, h3⟩ := seqD_ok R1 V1 hx
    exact q1 v H1 m1 .refl R1 ⟨p, vs, h1, h2, h3⟩
  · exact q1.elim⟩
theorem ms_e (h : ME X W e f) : MS' X W e (eS f) := PE.imp h fun σ H Q ⟨l, m, S, R, q⟩ => ⟨l, m, S, R, post.bind (PR := pD X.K) anti_S q fun x S1 v H1 m1 E1 R1 V1 q1 => by
  cases x with
  | rl xs =>
    simp only [VR] at V1
    obtain ⟨p, vs, h1, h2, h3⟩ := V1
    exact q1 v H1 m1 .refl R1 ⟨p, vs, h1, h2.sql, h3⟩
  | ref n =>
    simp only [sD, seqD] at q1
    split at q1
    · rename_i ys hy
      split at hy
      · rename_i xs hn
        cases hy
        obtain ⟨p, h1, _, _, vs, h2, h3⟩ := R1.ref hn V1
        exact q1 v H1 m1 .refl R1 ⟨p, vs, h1, SqL.of h2, h3⟩
      · cases hy
    · exact q1.elim
  | _ => exact q1.elim⟩
theorem ms_l {f : FL} (h : ML X W e f) : MS' X W e (lQ f) := PE.imp h fun σ H Q ⟨l, m, S, R, q⟩ => ⟨l, m, S, R, post.bind (PR := pL X.K) anti_S q fun x S1 v H1 m1 E1 R1 V1 q1 => by
  unfold qL at q1
  split at q1
  · rename_i xs hx
    obtain ⟨p, vs, h1, h2, h3⟩ := pL.read V1 .refl R1 hx
    exact q1 v H1 m1 .refl R1 ⟨p, vs, h1, SqL.of h2, h3⟩
  · exact q1.elim⟩
theorem mq_s {f : FQ} (h : MS' X W e f) : MQ X W e f := PE.imp h fun σ H Q ⟨l, m, S, R, q⟩ => ⟨l, m, S, R, by
  cases e1 : f l S with
  | ok x S1 =>
    rw [e1] at q
    exact fun v H1 m1 E1 R1 ⟨p, vs, h1, h2, h3⟩ => q v H1 m1 E1 R1 ⟨p, vs, h1, .inl h2, h3⟩
  | ex C fs S1 => rw [e1] at q; exact q
  | bad => rw [e1] at q; exact q⟩
theorem mq_l {f : FL} (h : ML X W e f) : MQ X W e (lQ f) := mq_s (ms_l h)

/-! ### len, tuple, list, sum, max, min, any, all of these -/
variable {q s : FQ}
def oLenQ (xs : List D) (S : Sto) : Out D := .ok (.int xs.length) S
def oTup (xs : List D) (S : Sto) : Out D := .ok (.tup xs) S
def oLst (xs : List D) (S : Sto) : Out LV := .ok (.tmp xs) S
theorem me_len (hg : Gl X "len") (hm : X.mg "len" = none) (he : MQ X W e q) (s1 : starEach [e] X.env = (false, eval e X.env) :: starEach [] X.env := by rfl) (hpl : (backTo pos (starEach [] X.env)).any (·.1) = false := by rfl) : ME X W (.Call (.Name "len" p) [e] [] pos) (eB1 oLenQ q) :=
  call1B call_len_seq (fun W σ m H H0 S x v Q R ⟨p, vs, h1, h2, h3⟩ q => ⟨p, vs, by rw [h1], h2.imp id SqN.t, by rw [h3.length]; exact q _ H m .refl R (by simp only [VR])⟩) anti_D hg hm PySem.boot_len he (by decide) (by decide) s1 hpl
def oLenS (d : D) (S : Sto) : Out D := match d with
  | .str z => if z.length ≤ sizeLine then .ok (.int z.length) S else .bad
  | _ => .bad
theorem me_lenS (hg : Gl X "len") (hm : X.mg "len" = none) (he : ME X W e f) (s1 : starEach [e] X.env = (false, eval e X.env) :: starEach [] X.env := by rfl) (hpl : (backTo pos (starEach [] X.env)).any (·.1) = false := by rfl) : ME X W (.Call (.Name "len" p) [e] [] pos) (eB1 oLenS f) :=
  call1B call_len_str (fun W σ m H H0 S x v Q R V q => by
    cases x with
    | str z =>
      simp only [VR] at V
      subst V
      simp only [oLenS] at q
      split at q
      · rename_i hz
        exact ⟨z, rfl, hz, q _ H m .refl R (by simp only [VR])⟩
      · exact q.elim
    | _ => exact q.elim) anti_D hg hm PySem.boot_len he (by decide) (by decide) s1 hpl
theorem me_tupOf (hg : Gl X "tuple") (hm : X.mg "tuple" = none) (hb : bootBuiltins "tuple" = some (.type "tuple")) (he : MQ X W e q) (s1 : starEach [e] X.env = (false, eval e X.env) :: starEach [] X.env := by rfl) (hpl : (backTo pos (starEach [] X.env)).any (·.1) = false := by rfl) : ME X W (.Call (.Name "tuple" p) [e] [] pos) (eB1 oTup q) :=
  call1T call_tupleF (fun W σ m H H0 S x v Q R ⟨p, vs, h1, h2, h3⟩ q => by
    subst h1
    rcases h2 with h2 | h2
    · exact ⟨p, vs, rfl, .inl ⟨h2, fun t ob ht hd => q _ _ m (Ext.tmp ht) (R.tmp ht) (VR.tupNew ht hd h3)⟩⟩
    · exact ⟨p, vs, rfl, .inr ⟨h2, q _ H m .refl R (by simp only [VR]; exact ⟨p, vs, rfl, h2, h3⟩)⟩⟩) anti_D hg hm hb he (by decide) (by decide) s1 hpl
theorem ml_listOf (hg : Gl X "list") (hm : X.mg "list" = none) (hb : bootBuiltins "list" = some (.type "list")) (he : MQ X W e q) (s1 : starEach [e] X.env = (false, eval e X.env) :: starEach [] X.env := by rfl) (hpl : (backTo pos (starEach [] X.env)).any (·.1) = false := by rfl) : ML X W (.Call (.Name "list" p) [e] [] pos) (eB1 oLst q) :=
  call1T call_list_of (fun W σ m H H0 S x v Q R ⟨p, vs, h1, h2, h3⟩ q => by
    subst h1
    exact ⟨p, vs, rfl, h2.imp id SqN.t, fun t ht => q _ _ m (Ext.tmp ht) (R.tmp ht) (pL.new .refl R ht h3)⟩) anti_L hg hm hb he (by decide) (by decide) s1 hpl
/-- the whole numbers, the truths in a list -/
def intsD : List D → Option (List Int) := mapO fun d => match d with
  | .int i => some i
  | _ => none
def blsD : List D → Option (List Bool) := mapO fun d => match d with
  | .bl i => some i
  | _ => none
theorem intsD_ok : ∀ {ds : List D} {ns : List Int}, intsD ds = some ns → ds = ns.map D.int
  | [], ns, h => by cases h; rfl
  | d :: ds, ns, h => by
    unfold intsD mapO at h
    split at h
    · rename_i y ys h1 h2
      cases h
      split at h1
      · cases h1
        rw [intsD_ok (ds := ds) h2]; rfl
      · cases h1
    · cases h
theorem blsD_ok : ∀ {ds : List D} {ns : List Bool}, blsD ds = some ns → ds = ns.map D.bl
  | [], ns, h => by cases h; rfl
  | d :: ds, ns, h => by
    unfold blsD mapO at h
    split at h
    · rename_i y ys h1 h2
      cases h
      split at h1
      · cases h1
        rw [blsD_ok (ds := ds) h2]; rfl
      · cases h1
    · cases h
theorem intsD_map (ns : List Int) : intsD (ns.map D.int) = some ns := by
  induction ns with
  | nil => rfl
  | cons n ns ih =>
    unfold intsD at ih ⊢
    rw [List.map_cons, mapO, ih]
theorem blsD_map (ns : List Bool) : blsD (ns.map D.bl) = some ns := by
  induction ns with
  | nil => rfl
  | cons n ns ih =>
    unfold blsD at ih ⊢
    rw [List.map_cons, mapO, ih]
def oSum (xs : List D) (S : Sto) : Out D := match intsD xs with
  | some ns => .ok (.int ns.sum) S
  | none => .bad
def oAny (xs : List D) (S : Sto) : Out D := match blsD xs with
  | some ns => .ok (.bl (ns.any id)) S
  | none => .bad
def oAll (xs : List D) (S : Sto) : Out D := match blsD xs with
  | some ns => .ok (.bl (ns.all id)) S
  | none => .bad
def oMax (xs : List D) (S : Sto) : Out D := match intsD xs with
  | some (n :: ns) => .ok (.int (ns.foldl max n)) S
  | _ => .bad
def oMin (xs : List D) (S : Sto) : Out D := match intsD xs with
  | some (n :: ns) => .ok (.int (ns.foldl min n)) S
  | _ => .bad
theorem me_sum (hc : X.calm = true) (hg : Gl X "sum") (hm : X.mg "sum" = none) (hb : bootBuiltins "sum" = some (.builtin "sum")) (he : MS' X W e s) (s1 : starEach [e] X.env = (false, eval e X.env) :: starEach [] X.env := by rfl) (hpl : (backTo pos (starEach [] X.env)).any (·.1) = false := by rfl) : ME X W (.Call (.Name "sum" p) [e] [] pos) (eB1 oSum s) :=
  call1B (cr_sum hc) (fun W σ m H H0 S x v Q R ⟨p, vs, h1, h2, h3⟩ q => by
    unfold oSum at q
    split at q
    · rename_i ns hn
      have e := intsD_ok hn
      subst e h1
      rw [h3.ints] at h2
      exact ⟨p, ns, rfl, h2, q _ H m .refl R (by simp only [VR])⟩
    · exact q.elim) anti_D hg hm hb he (by decide) (by decide) s1 hpl
theorem me_any (hc : X.calm = true) (hg : Gl X "any") (hm : X.mg "any" = none) (hb : bootBuiltins "any" = some (.builtin "any")) (he : MS' X W e s) (s1 : starEach [e] X.env = (false, eval e X.env) :: starEach [] X.env := by rfl) (hpl : (backTo pos (starEach [] X.env)).any (·.1) = false := by rfl) : ME X W (.Call (.Name "any" p) [e] [] pos) (eB1 oAny s) :=
  call1B (cr_any hc) (fun W σ m H H0 S x v Q R ⟨p, vs, h1, h2, h3⟩ q => by
    unfold oAny at q
    split at q
    · rename_i ns hn
      have e := blsD_ok hn
      subst e h1
      rw [h3.bls] at h2
      exact ⟨p, ns, rfl, h2, q _ H m .refl R (by simp only [VR])⟩
    · exact q.elim) anti_D hg hm hb he (by decide) (by decide) s1 hpl
theorem me_all (hc : X.calm = true) (hg : Gl X "all") (hm : X.mg "all" = none) (hb : bootBuiltins "all" = some (.builtin "all")) (he : MS' X W e s) (s1 : starEach [e] X.env = (false, eval e X.env) :: starEach [] X.env := by rfl) (hpl : (backTo pos (starEach [] X.env)).any (·.1) = false := by rfl) : ME X W (.Call (.Name "all" p) [e] [] pos) (eB1 oAll s) :=
  call1B (cr_all hc) (fun W σ m H H0 S x v Q R ⟨p, vs, h1, h2, h3⟩ q => by
    unfold oAll at q
    split at q
    · rename_i ns hn
      have e := blsD_ok hn
      subst e h1
      rw [h3.bls] at h2
      exact ⟨p, ns, rfl, h2, q _ H m .refl R (by simp only [VR])⟩
    · exact q.elim) anti_D hg hm hb he (by decide) (by decide) s1 hpl
end
end Pz

set_option Elab.async false
set_option linter.all false
set_option maxRecDepth 100000
set_option maxHeartbeats 4000000
/-! Pz6: numbers' built-ins, sorted, subscripts, slices, methods of lists. -/
namespace Pz
open PySem PySem.Spec PyProof.Rows L2
section
variable {X : Cx} {W : WX} {a b c e : Expr} {rest es : List Expr} {f g h : FE} {p pos : Pos} {K : PySem.W.Frag} {m : List Addr} {H : Hp} {S : Sto} {q s : FQ}

/-! ### abs, int, max, min -/
def oAbs (d : D) (S : Sto) : Out D := match d with
  | .int i => .ok (.int (if i < 0 then -i else i)) S
  | _ => .bad
def oInt (d : D) (S : Sto) : Out D := match d with
  | .int i => .ok (.int i) S
  | .bl k => .ok (.int (if k then 1 else 0)) S
  | _ => .bad
theorem me_abs (hg : Gl X "abs") (hm : X.mg "abs" = none) (hb : bootBuiltins "abs" = some (.builtin "abs")) (he : ME X W e f) (s1 : starEach [e] X.env = (false, eval e X.env) :: starEach [] X.env := by rfl) (hpl : (backTo pos (starEach [] X.env)).any (·.1) = false := by rfl) : ME X W (.Call (.Name "abs" p) [e] [] pos) (eB1 oAbs f) :=
  call1B call_abs (fun W σ m H H0 S x v Q R V q => by
    cases x with
    | int i =>
      simp only [VR] at V
      subst V
      exact ⟨i, rfl, q _ H m .refl R (by simp only [VR])⟩
    | _ => exact q.elim) anti_D hg hm hb he (by decide) (by decide) s1 hpl
theorem me_intOf (hg : Gl X "int") (hm : X.mg "int" = none) (hb : bootBuiltins "int" = some (.type "int")) (he : ME X W e f) (s1 : starEach [e] X.env = (false, eval e X.env) :: starEach [] X.env := by rfl) (hpl : (backTo pos (starEach [] X.env)).any (·.1) = false := by rfl) : ME X W (.Call (.Name "int" p) [e] [] pos) (eB1 oInt f) :=
  call1T call_int1 (fun W σ m H H0 S x v Q R V q => by
    cases x with
    | int i =>
      simp only [VR] at V
      subst V
      exact .inl ⟨i, rfl, q _ H m .refl R (by simp only [VR])⟩
    | bl i =>
      simp only [VR] at V
      subst V
      exact .inr ⟨i, rfl, q _ H m .refl R (by simp only [VR])⟩
    | _ => exact q.elim) anti_D hg hm hb he (by decide) (by decide) s1 hpl
theorem fold_max : ∀ (ns : List Int) (n : Int), ns.foldl max n ∈ n :: ns ∧ ∀ y ∈ n :: ns, y ≤ ns.foldl max n
  | [], n => ⟨by simp, by simp⟩
  | k :: ns, n => by
    obtain ⟨h1, h2⟩ := fold_max ns (max n k)
    rw [List.foldl_cons]
    refine ⟨?_, fun y hy => ?_⟩
    · rcases List.mem_cons.mp h1 with e | h
      · rw [e]
        by_cases q : n ≤ k
        · rw [Int.max_eq_right q]; simp
        · rw [Int.max_eq_left (by omega)]; simp
      · simp [h]
    · have q := h2 (max n k) (by simp)
      rcases List.mem_cons.mp hy with rfl | hy
      · omega
      · rcases List.mem_cons.mp hy with rfl | hy
        · omega
        · exact h2 y (by simp [hy])
theorem fold_min : ∀ (ns : List Int) (n : Int), ns.foldl min n ∈ n :: ns ∧ ∀ y ∈ n :: ns, ns.foldl min n ≤ y
  | [], n => ⟨by simp, by simp⟩
  | k :: ns, n => by
    obtain ⟨h1, h2⟩ := fold_min ns (min n k)
    rw [List.foldl_cons]
    refine ⟨?_, fun y hy => ?_⟩
    · rcases List.mem_cons.mp h1 with e | h
      · rw [e]
        by_cases q : n ≤ k
        · rw [Int.min_eq_left q]; simp
        · rw [Int.min_eq_right (by omega)]; simp
      · simp [h]
    · have q := h2 (min n k) (by simp)
      rcases List.mem_cons.mp hy with rfl | hy
      · omega
      · rcases List.mem_cons.mp hy with rfl | hy
        · omega
        · exact h2 y (by simp [hy])
theorem me_max (hc : X.calm = true) (hg : Gl X "max") (hm : X.mg "max" = none) (hb : bootBuiltins "max" = some (.builtin "max")) (he : MS' X W e s) (s1 : starEach [e] X.env = (false, eval e X.env) :: starEach [] X.env := by rfl) (hpl : (backTo pos (starEach [] X.env)).any (·.1) = false := by rfl) : ME X W (.Call (.Name "max" p) [e] [] pos) (eB1 oMax s) :=
  call1B (cr_max hc) (fun W σ m H H0 S x v Q R ⟨p, vs, h1, h2, h3⟩ q => by
    unfold oMax at q
    split at q
    · rename_i n ns hn
      have e := intsD_ok hn
      subst e h1
      rw [h3.ints] at h2
      obtain ⟨k1, k2⟩ := fold_max ns n
      refine ⟨p, n :: ns, rfl, h2, by simp, fun k hk hk2 => ?_⟩
      have e : k = ns.foldl max n := Int.le_antisymm (k2 k hk) (hk2 _ k1)
      rw [e]
      exact q _ H m .refl R (by simp only [VR])
    · exact q.elim) anti_D hg hm hb he (by decide) (by decide) s1 hpl
theorem me_min (hc : X.calm = true) (hg : Gl X "min") (hm : X.mg "min" = none) (hb : bootBuiltins "min" = some (.builtin "min")) (he : MS' X W e s) (s1 : starEach [e] X.env = (false, eval e X.env) :: starEach [] X.env := by rfl) (hpl : (backTo pos (starEach [] X.env)).any (·.1) = false := by rfl) : ME X W (.Call (.Name "min" p) [e] [] pos) (eB1 oMin s) :=
  call1B (cr_min hc) (fun W σ m H H0 S x v Q R ⟨p, vs, h1, h2, h3⟩ q => by
    unfold oMin at q
    split at q
    · rename_i n ns hn
      have e := intsD_ok hn
      subst e h1
      rw [h3.ints] at h2
      obtain ⟨k1, k2⟩ := fold_min ns n
      refine ⟨p, n :: ns, rfl, h2, by simp, fun k hk hk2 => ?_⟩
      have e : k = ns.foldl min n := Int.le_antisymm (hk2 _ k1) (k2 k hk)
      rw [e]
      exact q _ H m .refl R (by simp only [VR])
    · exact q.elim) anti_D hg hm hb he (by decide) (by decide) s1 hpl
def eB2 (o : D → D → Sto → Out D) (f g : FE) : FE := e2 o f g
def oMax2 := fI (fun _ _ => true) fun i j => .int (if j > i then j else i)
def oMin2 := fI (fun _ _ => true) fun i j => .int (if j < i then j else i)
theorem call2B {r : List V → Hp → VK → Prop} {o : D → D → Sto → Out D} {idn : String} {x : Str} (hc : CallR X (.builtin idn) r) (hf : O2 X.K (fun x y H Q => r [x, y] H Q) o) (hg : Gl X x) (hm : X.mg x = none) (hb : bootBuiltins x = some (.builtin idn)) (ha : ME X W a f) (he : ME X W b g)
    (hn : x ≠ "__name__" := by decide) (hd : (x == ("__debug__" : Str)) = false := by decide) (s1 : starEach [a, b] X.env = (false, eval a X.env) :: starEach [b] X.env := by rfl) (s2 : starEach [b] X.env = (false, eval b X.env) :: starEach [] X.env := by rfl)
    (hpl : (backTo pos (starEach [b] X.env)).any (·.1) = false := by rfl) : ME X W (.Call (.Name x p) [a, b] [] pos) (e2 o f g) :=
  (pe_callB hc hg hm hb (pa_cons ha (pa_cons he pa_nil s2) s1) hn hd s1 hpl).imp fun σ H Q q => tX_2 (r := fun x y H Q => r [x, y] H Q) hf q
theorem me_max2 (hc : X.calm = true) (hg : Gl X "max") (hm : X.mg "max" = none) (hb : bootBuiltins "max" = some (.builtin "max")) (ha : ME X W a f) (he : ME X W b g) (s1 : starEach [a, b] X.env = (false, eval a X.env) :: starEach [b] X.env := by rfl) (s2 : starEach [b] X.env = (false, eval b X.env) :: starEach [] X.env := by rfl)
    (hpl : (backTo pos (starEach [b] X.env)).any (·.1) = false := by rfl) : ME X W (.Call (.Name "max" p) [a, b] [] pos) (e2 oMax2 f g) :=
  call2B (call_max2 hc) (fun W σ m H S x y v u Q s rx ry q => by
    obtain ⟨i, j, h1, h2, h3⟩ := o2_I0 (g := fun i j => D.int (if j > i then j else i)) (g' := fun i j => V.int (if j > i then j else i)) (fun _ _ _ _ => by simp only [VR]) W σ m H S x y v u Q s rx ry q
    exact ⟨i, j, by rw [h1, h2], h3⟩) hg hm hb ha he (by decide) (by decide) s1 s2 hpl
theorem me_min2 (hc : X.calm = true) (hg : Gl X "min") (hm : X.mg "min" = none) (hb : bootBuiltins "min" = some (.builtin "min")) (ha : ME X W a f) (he : ME X W b g) (s1 : starEach [a, b] X.env = (false, eval a X.env) :: starEach [b] X.env := by rfl) (s2 : starEach [b] X.env = (false, eval b X.env) :: starEach [] X.env := by rfl)
    (hpl : (backTo pos (starEach [b] X.env)).any (·.1) = false := by rfl) : ME X W (.Call (.Name "min" p) [a, b] [] pos) (e2 oMin2 f g) :=
  call2B (call_min2 hc) (fun W σ m H S x y v u Q s rx ry q => by
    obtain ⟨i, j, h1, h2, h3⟩ := o2_I0 (g := fun i j => D.int (if j < i then j else i)) (g' := fun i j => V.int (if j < i then j else i)) (fun _ _ _ _ => by simp only [VR]) W σ m H S x y v u Q s rx ry q
    exact ⟨i, j, by rw [h1, h2], h3⟩) hg hm hb ha he (by decide) (by decide) s1 s2 hpl

/-! ### list(range(..)) -/
def rgD (a b : Int) : List D := (List.range (b - a).toNat).map fun i => D.int (a + (i : Nat))
theorem rg_ok (a b : Int) : VRs K m H (rgD a b) (rgV a b) := by
  have h := VRs.of_ints (K := K) (m := m) (H := H) ((List.range (b - a).toNat).map fun (i : Nat) => a + (i : Nat))
  rw [List.map_map, List.map_map] at h
  exact h
def rgOk (a b : Int) : Bool := decide (-(2 ^ 62) ≤ a ∧ a < 2 ^ 62 ∧ -(2 ^ 62) ≤ b ∧ b < 2 ^ 62 ∧ (b - a).toNat ≤ 2 ^ 24)
def lRg (a b : Int) (S : Sto) : Out LV := if rgOk a b then .ok (.tmp (rgD a b)) S else .bad
def lRg1 (f : FE) : FL := fun l S => (f l S).bind fun x S1 => match x with
  | .int n => lRg 0 n S1
  | _ => .bad
def lRg2 (f g : FE) : FL := fun l S => (f l S).bind fun x S1 => (g l S1).bind fun y S2 => match x, y with
  | .int i, .int j => lRg i j S2
  | _, _ => .bad
theorem lRg_ok {σ : L2.St} {Q : VK} {a b : Int} (R : SR K m H S) (q : post K W (pL K) σ m H Q (lRg a b S)) : RgOk a b ∧ ∀ t, H t = none → Q (.ref t) (upd H t (.lst (rgV a b))) := by
  unfold lRg at q
  split at q
  · rename_i h
    exact ⟨by simpa [rgOk, RgOk] using h, fun t ht => q _ _ m (Ext.tmp ht) (R.tmp ht) (pL.new .refl R ht (rg_ok a b))⟩
  · exact q.elim
theorem ml_range1 {p2 p3 : Pos} (hc : X.calm = true) (hg : Gl X "list") (hm : X.mg "list" = none) (hg2 : Gl X "range") (hm2 : X.mg "range" = none) (he : ME X W e f)
    (s1 : starEach [e] X.env = (false, eval e X.env) :: starEach [] X.env := by rfl) (na : starEach [.Call (.Name "range" p2) [e] [] p3] X.env = (false, eval (.Call (.Name "range" p2) [e] [] p3) X.env) :: starEach [] X.env := by rfl) :
    ML X W (.Call (.Name "list" p) [.Call (.Name "range" p2) [e] [] p3] [] pos) (lRg1 f) := (pe_listRg hc hg hm (prg_1 hg2 hm2 he s1) na).imp fun σ H Q ⟨l, m, S, R, q⟩ => ⟨l, m, S, R, post.bind (PR := pD X.K) anti_L q fun x S1 v H1 m1 E1 R1 V1 q1 => by
    cases x with
    | int i =>
      simp only [VR] at V1
      exact ⟨i, V1, lRg_ok R1 q1⟩
    | _ => exact q1.elim⟩
theorem ml_range2 {p2 p3 : Pos} (hc : X.calm = true) (hg : Gl X "list") (hm : X.mg "list" = none) (hg2 : Gl X "range") (hm2 : X.mg "range" = none) (ha : ME X W a f) (he : ME X W b g)
    (s1 : starEach [a, b] X.env = (false, eval a X.env) :: starEach [b] X.env := by rfl) (s2 : starEach [b] X.env = (false, eval b X.env) :: starEach [] X.env := by rfl) (hp : (backTo p3 (starEach [b] X.env)).any (·.1) = false := by rfl)
    (na : starEach [.Call (.Name "range" p2) [a, b] [] p3] X.env = (false, eval (.Call (.Name "range" p2) [a, b] [] p3) X.env) :: starEach [] X.env := by rfl) :
    ML X W (.Call (.Name "list" p) [.Call (.Name "range" p2) [a, b] [] p3] [] pos) (lRg2 f g) := (pe_listRg hc hg hm (prg_2 hg2 hm2 ha he s1 s2 hp) na).imp fun σ H Q ⟨l, m, S, R, q⟩ => ⟨l, m, S, R, post.bind (PR := pD X.K) anti_L q fun x S1 v H1 m1 E1 R1 V1 q1 =>
    ⟨l, m1, S1, R.ext E1 R1, post.bind (PR := pD X.K) anti_L q1 fun y S2 u H2 m2 E2 R2 V2 q2 => by
      cases x with
      | int i =>
        cases y with
        | int j =>
          simp only [VR] at V1 V2
          exact ⟨i, j, V1, V2, lRg_ok R2 q2⟩
        | _ => exact q2.elim
      | _ => cases y <;> exact q2.elim⟩⟩

/-! ### x[i] -/
theorem VRs.atI {ds : List D} {vs : List V} {i : Int} {d : D} (r : VRs K m H ds vs) (h : L2.atI ds i = some d) : ∃ v, L2.atI vs i = some v ∧ VR K m H d v := by
  unfold L2.atI at h ⊢
  rw [r.length]
  obtain ⟨j, h1, h2⟩ := Option.bind_eq_some_iff.mp h
  obtain ⟨v, h3, h4⟩ := r.get h2
  exact ⟨v, by rw [h1]; exact h3, h4⟩
def oIx (x y : D) (S : Sto) : Out D := match y with
  | .int i => match x with
    | .str z => if z.length ≤ sizeLine then match L2.atI z.cps.toList i with
      | some c => .ok (.str ⟨#[c]⟩) S
      | none => .bad else .bad
    | x => match seqD S x with
      | some xs => match L2.atI xs i with
        | some d => .ok d S
        | none => .bad
      | none => .bad
  | _ => .bad
theorem o2_ix : O2 K (rIx K) oIx := fun W σ m H S x y v u Q s rx ry q => by
  unfold oIx at q
  split at q
  · rename_i i
    simp only [VR] at ry
    subst ry
    split at q
    · rename_i z
      simp only [VR] at rx
      subst rx
      split at q
      · rename_i hz
        split at q
        · rename_i c hc
          exact .inr (.inr ⟨z, i, c, rfl, rfl, hz, hc, q _ H m .refl s (by simp only [VR])⟩)
        · exact q.elim
      · exact q.elim
    · split at q
      · rename_i xs hx
        split at q
        · rename_i d hd
          obtain ⟨p, vs, rfl, h2, h3⟩ := seqD_ok s rx hx
          obtain ⟨w, h4, h5⟩ := h3.atI hd
          have q1 := q w H m .refl s h5
          rcases h2 with h2 | h2
          · exact .inl ⟨p, vs, i, w, rfl, rfl, h2, h4, q1⟩
          · exact .inr (.inl ⟨p, vs, i, w, rfl, rfl, h2, h4, q1⟩)
        · exact q.elim
      · exact q.elim
  · exact q.elim
theorem me_ix (ha : ME X W a f) (hb : ME X W b g) (hs : PlainIx b := by exact fun _ _ => rfl) : ME X W (.Subscript a b pos) (e2 oIx f g) := (pe_ix ix_seq ha hb hs).imp fun σ H Q q => tX_2 o2_ix q
end
end Pz

set_option Elab.async false
set_option linter.all false
set_option maxRecDepth 100000
set_option maxHeartbeats 4000000
/-! Pz7: slices, methods of lists, sorted, stores by place. -/
namespace Pz
open PySem PySem.Spec PyProof.Rows L2
section
variable {X : Cx} {W : WX} {a b c e : Expr} {rest es : List Expr} {f g h : FE} {p pos : Pos} {K : PySem.W.Frag} {m : List Addr} {H : Hp} {S : Sto} {q s : FQ}

/-! ### x[lo:hi] -/
abbrev pO : PRel (Option Int) (Option Int) := fun _ _ _ a b => a = b
theorem anti_O : Anti pO := fun _ _ _ _ _ _ _ h => h
abbrev FO := Loc → Sto → Out (Option Int)
abbrev MO (X : Cx) (W : WX) (e : Option Expr) (f : FO) : Prop := PO X e (tX X.K W pO f)
theorem _root_.L2.PO.imp {X : Cx} {e : Option Expr} {t t' : TO} (h : PO X e t) (i : ∀ σ H Q, t' σ H Q → t σ H Q) : PO X e t' := ⟨fun pins s σ H Q I q => h.run pins s σ H Q I (i _ _ _ q)⟩
def oPart (d : D) (S : Sto) : Out (Option Int) := match d with
  | .int i => .ok (some i) S
  | _ => .bad
def pN : FO := fun _ S => .ok none S
def pS1 (f : FE) : FO := fun l S => (f l S).bind oPart
theorem mo_none : MO X W none pN := po_none.imp fun σ H Q ⟨l, m, S, R, q⟩ => q _ H m .refl R.sr rfl
theorem mo_some (h : ME X W e f) : MO X W (some e) (pS1 f) := (po_some h).imp fun σ H Q ⟨l, m, S, R, q⟩ => ⟨l, m, S, R, post.bind (PR := pD X.K) anti_O q fun x S1 v H1 m1 E1 R1 V1 q1 => by
  cases x with
  | int i =>
    simp only [VR] at V1
    exact ⟨i, V1, q1 _ H1 m1 .refl R1 rfl⟩
  | _ => exact q1.elim⟩
def cutL {α : Type} (xs : List α) (lo hi : Option Int) : List α := (xs.drop (HT.sIx xs.length 0 lo)).take (HT.sIx xs.length xs.length hi - HT.sIx xs.length 0 lo)
theorem VRs.cut {ds : List D} {vs : List V} (lo hi : Option Int) (r : VRs K m H ds vs) : VRs K m H (cutL ds lo hi) (cutV vs lo hi) := by
  unfold cutL cutV
  rw [r.length]
  exact (r.drop _).take _
/-- a tuple's, a text's -/
def oSl (x : D) (lo hi : Option Int) (S : Sto) : Out D := match x with
  | .tup xs => .ok (.tup (cutL xs lo hi)) S
  | .ref n => match S[n]? with
    | some (.lst xs) => .ok (.ref S.length) (S ++ [.lst (cutL xs lo hi)])
    | _ => .bad
  | .rl xs => .ok (.ref S.length) (S ++ [.lst (cutL xs lo hi)])
  | .str z => if z.length ≤ sizeLine then .ok (.str (cutS z lo hi)) S else .bad
  | _ => .bad
def eSl (f : FE) (lo hi : FO) : FE := fun l S => (f l S).bind fun x S1 => (lo l S1).bind fun i S2 => (hi l S2).bind fun j S3 => oSl x i j S3
def rSl3 (K : PySem.W.Frag) : V → Option Int → Option Int → Hp → VK → Prop := fun x lo hi H Q => (rSlF K x lo hi H Q ∨ rSlL K x lo hi H Q) ∨ rSlS x lo hi H Q
theorem sl_3 : SlR X (rSl3 X.K) := (sl_tupF.or sl_list).or sl_str
theorem oSl_ok {σ : L2.St} {x : D} {v : V} {lo hi : Option Int} {Q : VK} (s : SR K m H S) (rx : VR K m H x v) (q : post K W (pD K) σ m H Q (oSl x lo hi S)) : rSl3 K v lo hi H Q := by
  cases x with
  | tup xs =>
    simp only [VR] at rx
    obtain ⟨p, vs, rfl, h1, h2⟩ := rx
    refine .inl (.inl ⟨p, vs, rfl, h1, fun hw => ?_, fun _ t ob ht hd => ?_⟩)
    · have e : cutL xs lo hi = xs := by
        unfold cutL
        rw [← h2.length, hw.1, hw.2, List.drop_zero, Nat.sub_zero, h2.length, List.take_length]
      simp only [oSl, e] at q
      exact q _ H m .refl s (by simp only [VR]; exact ⟨p, vs, rfl, h1, h2⟩)
    · exact q _ _ m (Ext.tmp ht) (s.tmp ht) (VR.tupNew ht hd (h2.cut lo hi))
  | ref n =>
    simp only [oSl] at q
    split at q
    · rename_i xs hn
      obtain ⟨p, rfl, _, _, vs, h1, h2⟩ := s.ref hn rx
      refine .inl (.inr ⟨p, vs, rfl, SqL.of h1, fun t ht => ?_⟩)
      obtain ⟨s', e', r'⟩ := s.newList ht (h2.cut lo hi)
      exact q _ _ _ e' s' r'
    · exact q.elim
  | rl xs =>
    simp only [VR] at rx
    obtain ⟨p, vs, rfl, h1, h2⟩ := rx
    refine .inl (.inr ⟨p, vs, rfl, h1.sql, fun t ht => ?_⟩)
    obtain ⟨s', e', r'⟩ := s.newList ht (h2.cut lo hi)
    exact q _ _ _ e' s' r'
  | str z =>
    simp only [VR] at rx
    simp only [oSl] at q
    split at q
    · rename_i hz
      exact .inr ⟨z, rx, hz, q _ H m .refl s (by simp only [VR])⟩
    · exact q.elim
  | _ => exact q.elim
theorem me_sl {lo hi : Option Expr} {p2 : Pos} {i j : FO} (he : ME X W e f) (hl : MO X W lo i) (hh : MO X W hi j) : ME X W (.Subscript e (.Slice lo hi none p2) pos) (eSl f i j) :=
  (pe_slice sl_3 he hl hh).imp fun σ H Q ⟨l, m, S, R, q⟩ => ⟨l, m, S, R, post.bind (PR := pD X.K) anti_D q fun x S1 v H1 m1 E1 R1 V1 q1 => ⟨l, m1, S1, R.ext E1 R1, post.bind (PR := pO) anti_D q1 fun i' S2 u H2 m2 E2 R2 V2 q2 =>
    ⟨l, m2, S2, R.ext (E1.trans E2) R2, post.bind (PR := pO) anti_D q2 fun j' S3 w H3 m3 E3 R3 V3 q3 => by
      subst V2 V3
      exact oSl_ok R3 (VR.ext (E2.trans E3) x v V1) q3⟩⟩⟩
/-- a list's, on its way -/
def lSl (f : FL) (lo hi : FO) : FL := fun l S => (f l S).bind fun x S1 => (lo l S1).bind fun i S2 => (hi l S2).bind fun j S3 => match x.get S3 with
  | some xs => .ok (.tmp (cutL xs i j)) S3
  | none => .bad
theorem ml_sl {lo hi : Option Expr} {p2 : Pos} {f : FL} {i j : FO} (he : ML X W e f) (hl : MO X W lo i) (hh : MO X W hi j) : ML X W (.Subscript e (.Slice lo hi none p2) pos) (lSl f i j) :=
  (pe_slice sl_list he hl hh).imp fun σ H Q ⟨l, m, S, R, q⟩ => ⟨l, m, S, R, post.bind (PR := pL X.K) anti_L q fun x S1 v H1 m1 E1 R1 V1 q1 => ⟨l, m1, S1, R.ext E1 R1, post.bind (PR := pO) anti_L q1 fun i' S2 u H2 m2 E2 R2 V2 q2 =>
    ⟨l, m2, S2, R.ext (E1.trans E2) R2, post.bind (PR := pO) anti_L q2 fun j' S3 w H3 m3 E3 R3 V3 q3 => by
      subst V2 V3
      split at q3
      · rename_i xs hx
        obtain ⟨p, vs, rfl, h1, h2⟩ := pL.read V1 (E2.trans E3) R3 hx
        exact ⟨p, vs, rfl, SqL.of h1, fun t ht => q3 _ _ m3 (Ext.tmp ht) (R3.tmp ht) (pL.new .refl R3 ht (h2.cut _ _))⟩
      · exact q3.elim⟩⟩⟩
/-- of a list that nobody writes at (the script), on its way -/
def lSlR (f : FE) (lo hi : FO) : FL := fun l S => (f l S).bind fun x S1 => (lo l S1).bind fun i S2 => (hi l S2).bind fun j S3 => match x with
  | .rl xs => .ok (.tmp (cutL xs i j)) S3
  | .ref n => match S3[n]? with
    | some (.lst xs) => .ok (.tmp (cutL xs i j)) S3
    | _ => .bad
  | _ => .bad
theorem ml_slR {lo hi : Option Expr} {p2 : Pos} {i j : FO} (he : ME X W e f) (hl : MO X W lo i) (hh : MO X W hi j) : ML X W (.Subscript e (.Slice lo hi none p2) pos) (lSlR f i j) :=
  (pe_slice sl_list he hl hh).imp fun σ H Q ⟨l, m, S, R, q⟩ => ⟨l, m, S, R, post.bind (PR := pD X.K) anti_L q fun x S1 v H1 m1 E1 R1 V1 q1 => ⟨l, m1, S1, R.ext E1 R1, post.bind (PR := pO) anti_L q1 fun i' S2 u H2 m2 E2 R2 V2 q2 =>
    ⟨l, m2, S2, R.ext (E1.trans E2) R2, post.bind (PR := pO) anti_L q2 fun j' S3 w H3 m3 E3 R3 V3 q3 => by
      subst V2 V3
      have V1 := VR.ext (E2.trans E3) x v V1
      cases x with
      | rl xs =>
        simp only [VR] at V1
        obtain ⟨p, vs, rfl, h1, h2⟩ := V1
        exact ⟨p, vs, rfl, h1.sql, fun t ht => q3 _ _ m3 (Ext.tmp ht) (R3.tmp ht) (pL.new .refl R3 ht (h2.cut _ _))⟩
      | ref n =>
        cases hn : S3[n]? with
        | none => simp only [hn] at q3; exact q3.elim
        | some o =>
          cases o with
          | lst xs =>
            simp only [hn] at q3
            obtain ⟨p, rfl, _, _, vs, h1, h2⟩ := R3.ref hn V1
            exact ⟨p, vs, rfl, SqL.of h1, fun t ht => q3 _ _ m3 (Ext.tmp ht) (R3.tmp ht) (pL.new .refl R3 ht (h2.cut _ _))⟩
          | _ => simp only [hn] at q3; exact q3.elim
      | _ => exact q3.elim⟩⟩⟩

/-! ### xs.append(x) and its like -/
variable {name : Str} {apos cpos : Pos} {T idn : String} {r : V → List V → Hp → VK → Prop}
/-- o.m(e) of a list in the store -/
def oM1 (w : List D → D → Sto → Option (List D × D)) (x y : D) (S : Sto) : Out D := match x with
  | .ref n => match S[n]? with
    | some (.lst xs) => match w xs y S with
      | some (ys, d) => .ok d (S.set n (.lst ys))
      | none => .bad
    | _ => .bad
  | _ => .bad
/-- list methods with one argument: the receiver is asked to be a list when it comes -/
def isL (d : D) (S : Sto) : Out D := match d with
  | .ref n => match S[n]? with
    | some (.lst _) => .ok d S
    | _ => .bad
  | _ => .bad
def eM1 (k : D → D → Sto → Out D) (f g : FE) : FE := fun l S => (f l S).bind fun x S1 => (isL x S1).bind fun _ _ => (g l S1).bind fun y S2 => k x y S2
def eM0 (k : D → Sto → Out D) (f : FE) : FE := fun l S => (f l S).bind fun x S1 => (isL x S1).bind fun _ _ => k x S1
theorem isL_ok {x : D} {v : V} {α : Type} {k : Out α} {PR : PRel α V} {σ : L2.St} {Q : VK} (s : SR K m H S) (rx : VR K m H x v) (q : post K W PR σ m H Q ((isL x S).bind fun _ _ => k)) : tyV K "list" v H ∧ post K W PR σ m H Q k := by
  cases x with
  | ref n =>
    simp only [isL] at q
    split at q
    · rename_i xs hn
      obtain ⟨p, rfl, _, _, vs, h1, h2⟩ := s.ref hn rx
      exact ⟨.inl ⟨rfl, vs, SqL.of h1⟩, q⟩
    · exact q.elim
  | _ => exact q.elim
theorem me_lm1 {o : Expr} (slot : Slot "list" name idn) (hty : typeOf (.builtin idn) = pure (.type "method_descriptor")) (hm : MtR X idn r) {k : D → D → Sto → Out D} (hf : O2 X.K (fun x y H Q => r x [y] H Q) k) (ho : ME X W o f) (he : ME X W e g)
    (hbase : attributeBase o name X.env (eval o X.env) = eval o X.env := by rfl) (hfew : ((backTo cpos (starEach [e] X.env)).all (fun x => !x.1) && (backToKw cpos (keywordEach [] X.env)).all (fun x => x.1.isSome) && decide ([e].length + ([] : List Keyword).length + (if ([] : List Keyword).isEmpty then 0 else 1) < 30)) = true := by rfl) (hline : (apos.endLine == cpos.line) = true := by rfl) (hs : starEach [e] X.env = (false, eval e X.env) :: starEach [] X.env := by rfl)
    (hplain : (backTo cpos (starEach [] X.env)).any (·.1) = false := by rfl) : ME X W (.Call (.Attribute o name apos) [e] [] cpos) (eM1 k f g) :=
  (pe_bm PySem.F.plainAttrs_list slot hty hm ho (pa_cons he pa_nil hs) hbase hfew hline hs hplain).imp fun σ H Q ⟨l, m, S, R, q⟩ => ⟨l, m, S, R, post.bind (PR := pD X.K) anti_D q fun x S1 v H1 m1 E1 R1 V1 q1 => by
    obtain ⟨h1, q2⟩ := isL_ok R1 V1 q1
    exact ⟨h1, l, m1, S1, R.ext E1 R1, post.bind (PR := pD X.K) anti_D q2 fun y S2 u H2 m2 E2 R2 V2 q3 => hf W σ m2 H2 S2 x y v u Q R2 (VR.ext E2 x v V1) V2 q3⟩⟩
theorem me_lm0 {o : Expr} (slot : Slot "list" name idn) (hty : typeOf (.builtin idn) = pure (.type "method_descriptor")) (hm : MtR X idn r) {k : D → Sto → Out D} (hf : O1 X.K (fun x H Q => r x [] H Q) k) (ho : ME X W o f)
    (hbase : attributeBase o name X.env (eval o X.env) = eval o X.env := by rfl) (hline : (apos.endLine == cpos.line) = true := by rfl) : ME X W (.Call (.Attribute o name apos) [] [] cpos) (eM0 k f) :=
  (pe_bm0 PySem.F.plainAttrs_list slot hty hm ho hbase hline).imp fun σ H Q ⟨l, m, S, R, q⟩ => ⟨l, m, S, R, post.bind (PR := pD X.K) anti_D q fun x S1 v H1 m1 E1 R1 V1 q1 => by
    obtain ⟨h1, q2⟩ := isL_ok R1 V1 q1
    exact ⟨h1, hf W σ m1 H1 S1 x v Q R1 V1 q2⟩⟩

/-- the list in the store becomes another one -/
theorem SR.setL {n : Nat} {xs ys : List D} {v : V} (s : SR K m H S) (hn : S[n]? = some (.lst xs)) (rx : VR K m H (.ref n) v) :
    ∃ p vs, v = .ref p ∧ H p = some (.lst vs) ∧ VRs K m H xs vs ∧ ∀ us, VRs K m H ys us → Ext m H m (upd H p (.lst us)) ∧ SR K m (upd H p (.lst us)) (S.set n (.lst ys)) := by
  obtain ⟨p, rfl, hm, hp, vs, h1, h2⟩ := s.ref hn rx
  have mu : Mu (H p) := by rw [h1]; exact ⟨fun _ q => (by cases q), fun _ _ q => (by cases q)⟩
  refine ⟨p, vs, rfl, h1, h2, fun us hu => ⟨Ext.wr hp mu, s.wr hm mu ⟨us, upd_same, VRs.ext (Ext.wr hp mu) _ _ hu⟩⟩⟩
def oApp (x y : D) (S : Sto) : Out D := match x with
  | .ref n => match S[n]? with
    | some (.lst xs) => if xs.length < sizeLine then .ok .non (S.set n (.lst (xs ++ [y]))) else .bad
    | _ => .bad
  | _ => .bad
theorem o2_app : O2 K (fun x y H Q => rAppend x [y] H Q) oApp := fun W σ m H S x y v u Q s rx ry q => by
  cases x with
  | ref n =>
    simp only [oApp] at q
    split at q
    · rename_i xs hn
      obtain ⟨p, vs, rfl, h1, h2, h3⟩ := s.setL (ys := xs ++ [y]) hn rx
      split at q
      · rename_i hz
        obtain ⟨e', s'⟩ := h3 (vs ++ [u]) (h2.append (.cons ry .nil))
        exact ⟨p, vs, u, rfl, rfl, h1, by rw [h2.length]; exact hz, q _ _ m e' s' (by simp only [VR])⟩
      · exact q.elim
    · exact q.elim
  | _ => exact q.elim
def oPop (x : D) (S : Sto) : Out D := match x with
  | .ref n => match S[n]? with
    | some (.lst xs) => match xs[xs.length - 1]? with
      | some y => .ok y (S.set n (.lst xs.dropLast))
      | none => .bad
    | _ => .bad
  | _ => .bad
theorem VRs.dropLast {ds : List D} {vs : List V} (h : VRs K m H ds vs) : VRs K m H ds.dropLast vs.dropLast := by
  rw [List.dropLast_eq_take, List.dropLast_eq_take, h.length]
  exact h.take _
theorem o1_pop : O1 K (fun x H Q => rPop x [] H Q) oPop := fun W σ m H S x v Q s rx q => by
  cases x with
  | ref n =>
    simp only [oPop] at q
    split at q
    · rename_i xs hn
      obtain ⟨p, vs, rfl, h1, h2, h3⟩ := s.setL (ys := xs.dropLast) hn rx
      split at q
      · rename_i y hy
        obtain ⟨w, h4, h5⟩ := h2.get hy
        obtain ⟨e', s'⟩ := h3 vs.dropLast h2.dropLast
        exact ⟨p, vs, w, rfl, rfl, h1, by rw [h2.length]; exact h4, q _ _ m e' s' (VR.ext e' _ _ h5)⟩
      · exact q.elim
    · exact q.elim
  | _ => exact q.elim
def oPopAt (x y : D) (S : Sto) : Out D := match x, y with
  | .ref n, .int i => match S[n]? with
    | some (.lst xs) => match ixN xs.length i with
      | some k => match xs[k]? with
        | some d => if -(2 ^ 63) ≤ i ∧ i < 2 ^ 63 then .ok d (S.set n (.lst (xs.eraseIdx k))) else .bad
        | none => .bad
      | none => .bad
    | _ => .bad
  | _, _ => .bad
theorem o2_popAt : O2 K (fun x y H Q => rPopAt x [y] H Q) oPopAt := fun W σ m H S x y v u Q s rx ry q => by
  unfold oPopAt at q
  split at q
  · rename_i n i
    split at q
    · rename_i xs hn
      split at q
      · rename_i k hk
        obtain ⟨p, vs, rfl, h1, h2, h3⟩ := s.setL (ys := xs.eraseIdx k) hn rx
        split at q
        · rename_i d hd
          split at q
          · rename_i hz
            simp only [VR] at ry
            subst ry
            obtain ⟨w, h4, h5⟩ := h2.get hd
            obtain ⟨e', s'⟩ := h3 (vs.eraseIdx k) (h2.eraseIdx k)
            exact ⟨p, vs, i, k, w, rfl, rfl, h1, hz.1, hz.2, by rw [h2.length]; exact (ixN_seq hk).1, h4, q _ _ m e' s' (VR.ext e' _ _ h5)⟩
          · exact q.elim
        · exact q.elim
      · exact q.elim
    · exact q.elim
  · exact q.elim
/-- xs.extend(ys), ys a list on its way or in the store -/
def eExt (f : FE) (g : FL) : FE := fun l S => (f l S).bind fun x S1 => (isL x S1).bind fun _ _ => (g l S1).bind fun y S2 => match x with
  | .ref n => match S2[n]?, y.get S2 with
    | some (.lst xs), some ys => if xs.length + ys.length ≤ sizeLine then .ok .non (S2.set n (.lst (xs ++ ys))) else .bad
    | _, _ => .bad
  | _ => .bad
theorem me_ext {o : Expr} {g : FL} (ho : ME X W o f) (he : ML X W e g)
    (hbase : attributeBase o "extend" X.env (eval o X.env) = eval o X.env := by rfl) (hfew : ((backTo cpos (starEach [e] X.env)).all (fun x => !x.1) && (backToKw cpos (keywordEach [] X.env)).all (fun x => x.1.isSome) && decide ([e].length + ([] : List Keyword).length + (if ([] : List Keyword).isEmpty then 0 else 1) < 30)) = true := by rfl)
    (hline : (apos.endLine == cpos.line) = true := by rfl) (hs : starEach [e] X.env = (false, eval e X.env) :: starEach [] X.env := by rfl)
    (hplain : (backTo cpos (starEach [] X.env)).any (·.1) = false := by rfl) : ME X W (.Call (.Attribute o "extend" apos) [e] [] cpos) (eExt f g) :=
  (pe_bm PySem.F.plainAttrs_list PySem.F.slot_list_extend PySem.F.type_list_extend mt_extend ho (pa_cons he pa_nil hs) hbase hfew hline hs hplain).imp fun σ H Q ⟨l, m, S, R, q⟩ => ⟨l, m, S, R, post.bind (PR := pD X.K) anti_D q fun x S1 v H1 m1 E1 R1 V1 q1 => by
    obtain ⟨h1, q2⟩ := isL_ok R1 V1 q1
    refine ⟨h1, l, m1, S1, R.ext E1 R1, post.bind (PR := pL X.K) anti_D q2 fun y S2 u H2 m2 E2 R2 V2 q3 => ?_⟩
    have V1 := VR.ext E2 x v V1
    cases x with
    | ref n =>
      simp only at q3
      split at q3
      · rename_i xs ys hn hy
        obtain ⟨p', us, rfl, h6, h7⟩ := pL.read V2 .refl R2 hy
        obtain ⟨p, vs, rfl, h8, h2, h3⟩ := R2.setL (ys := xs ++ ys) hn V1
        split at q3
        · rename_i hz
          obtain ⟨e', s'⟩ := h3 (vs ++ us) (h2.append h7)
          exact ⟨p, p', vs, us, rfl, rfl, h8, h6, by rw [h2.length, h7.length]; exact hz, q3 _ _ m2 e' s' (by simp only [VR])⟩
        · exact q3.elim
      · exact q3.elim
    | _ => exact q3.elim⟩
/-- the first place of a flat thing -/
def findF (x : D) : List D → Nat → Option Nat
  | [], _ => none
  | y :: ys, n => if eqF y x then some n else findF x ys (n + 1)
theorem findF_ok {x : D} : ∀ {ys : List D} {n j : Nat}, findF x ys n = some j → n ≤ j ∧ (∃ z, ys[j - n]? = some z ∧ eqF z x = true) ∧ ∀ (k : Nat) z, k < j - n → ys[k]? = some z → eqF z x = false
  | [], _, _, h => by cases h
  | y :: ys, n, j, h => by
    unfold findF at h
    split at h
    · rename_i e
      cases h
      exact ⟨Nat.le_refl _, ⟨y, by simp, e⟩, fun k z hk => by omega⟩
    · rename_i e
      obtain ⟨h1, ⟨z, h2, h3⟩, h4⟩ := findF_ok h
      refine ⟨by omega, ⟨z, ?_, h3⟩, fun k z' hk hz => ?_⟩
      · have q : j - n = (j - (n + 1)) + 1 := by omega
        rw [q, List.getElem?_cons_succ]; exact h2
      · cases k with
        | zero => simp at hz; subst hz; simpa using e
        | succ k => exact h4 k z' (by omega) (by simpa using hz)
def oIndex (x y : D) (S : Sto) : Out D := match x with
  | .ref n => match S[n]? with
    | some (.lst xs) => if flatD y && xs.all flatD then match findF y xs 0 with
      | some j => .ok (.int (j : Nat)) S
      | none => .bad else .bad
    | _ => .bad
  | _ => .bad
theorem VRs.back : ∀ {ds : List D} {vs : List V} {i : Nat} {v : V}, VRs K m H ds vs → vs[i]? = some v → ∃ d, ds[i]? = some d ∧ VR K m H d v
  | [], _, _, _, h, e => by simp only [VRs] at h; subst h; simp at e
  | x :: xs, _, 0, _, h, e => by
    simp only [VRs] at h
    obtain ⟨v, r, rfl, h1, h⟩ := h
    simp at e; subst e
    exact ⟨x, rfl, h1⟩
  | x :: xs, _, i + 1, w, h, e => by
    simp only [VRs] at h
    obtain ⟨v, r, rfl, h1, h⟩ := h
    obtain ⟨u, h2, h3⟩ := VRs.back (i := i) (v := w) h (by simpa using e)
    exact ⟨u, by simpa using h2, h3⟩
theorem o2_index : O2 K (fun x y H Q => rIndex K x [y] H Q) oIndex := fun W σ m H S x y v u Q s rx ry q => by
  cases x with
  | ref n =>
    simp only [oIndex] at q
    split at q
    · rename_i xs hn
      obtain ⟨p, rfl, _, _, vs, h1, h2⟩ := s.ref hn rx
      split at q
      · rename_i hf
        rw [Bool.and_eq_true] at hf
        split at q
        · rename_i j hj
          obtain ⟨_, ⟨z, h3, h4⟩, h5⟩ := findF_ok hj
          rw [Nat.sub_zero] at h3 h5
          obtain ⟨w, h6, h7⟩ := h2.get h3
          have fz : ∀ {k : Nat} {z : D}, xs[k]? = some z → flatD z = true := fun h => List.all_eq_true.mp hf.2 _ (List.mem_of_getElem? h)
          refine ⟨p, vs, u, j, w, rfl, rfl, SqL.of h1, flat_ok ry hf.1, flats_ok h2 hf.2, h6, by rw [eqF_ok h7 ry (fz h3) hf.1]; exact h4, fun k w' hk hw => ?_, q _ H m .refl s (by simp only [VR])⟩
          obtain ⟨d, h8, h9⟩ := h2.back hw
          rw [eqF_ok h9 ry (fz h8) hf.1]
          exact h5 k d hk h8
        · exact q.elim
      · exact q.elim
    · exact q.elim
  | _ => exact q.elim
end
end Pz

set_option Elab.async false
set_option linter.all false
set_option maxRecDepth 100000
set_option maxHeartbeats 4000000
/-! Pz8: what a def computes; what it leaves behind; calls of own defs. -/
namespace Pz
open PySem PySem.Spec PyProof.Rows L2

/-! ### data that names no object from n on -/
mutual
def clD (n : Nat) : D → Bool
  | .ref k => decide (k < n)
  | .tup xs => clDs n xs
  | .rl xs => clDs n xs
  | _ => true
def clDs (n : Nat) : List D → Bool
  | [] => true
  | x :: xs => clD n x && clDs n xs
end
def clA {κ : Type} (n : Nat) : List (κ × D) → Bool
  | [] => true
  | (_, d) :: r => clD n d && clA n r
def clO (n : Nat) : Ob → Bool
  | .lst xs => clDs n xs
  | .dk kvs => clA n kvs
  | .ins _ fs => clA n fs
  | .dn kvs => clA n kvs
def clX (n : Nat) : Option (List (Str × D)) → Bool
  | none => true
  | some fs => clA n fs
section
variable {K : PySem.W.Frag} {m m' : List Addr} {H H' : Hp} {S S' : Sto} {n : Nat} {a : Addr}
mutual
theorem VR.closed : ∀ (d : D) (v : V), VR K m H d v → clD m.length d = true
  | .ref k, _, h => by
    simp only [VR] at h
    obtain ⟨a, h1, _⟩ := h
    simp only [clD, decide_eq_true_eq]
    exact (List.getElem?_eq_some_iff.mp h1).1
  | .tup xs, _, h => by
    simp only [VR] at h
    obtain ⟨a, vs, _, _, h⟩ := h
    simp only [clD]
    exact VRs.closed xs vs h
  | .rl xs, _, h => by
    simp only [VR] at h
    obtain ⟨a, vs, _, _, h⟩ := h
    simp only [clD]
    exact VRs.closed xs vs h
  | .non, _, _ => by simp only [clD]
  | .bl _, _, _ => by simp only [clD]
  | .int _, _, _ => by simp only [clD]
  | .str _, _, _ => by simp only [clD]
  | .fn _, _, _ => by simp only [clD]
theorem VRs.closed : ∀ (ds : List D) (vs : List V), VRs K m H ds vs → clDs m.length ds = true
  | [], _, _ => by simp only [clDs]
  | x :: xs, _, h => by
    simp only [VRs] at h
    obtain ⟨v, r, _, h1, h2⟩ := h
    simp only [clDs, Bool.and_eq_true]
    exact ⟨VR.closed x v h1, VRs.closed xs r h2⟩
end
theorem AR.closed {κ : Type} : ∀ (ds : List (κ × D)) (vs : List (κ × V)), AR K m H ds vs → clA m.length ds = true
  | [], _, _ => by simp only [clA]
  | (k, x) :: xs, _, h => by
    obtain ⟨v, r, _, h1, h2⟩ := h
    simp only [clA, Bool.and_eq_true]
    exact ⟨VR.closed x v h1, AR.closed xs r h2⟩
theorem OR.closed : ∀ (o : Ob), OR K m H o a → clO m.length o = true
  | .lst xs, ⟨vs, _, h⟩ => VRs.closed xs vs h
  | .dk xs, ⟨vs, _, h⟩ => AR.closed xs vs h
  | .ins _ fs, ⟨_, vs, _, h⟩ => AR.closed fs vs h
  | .dn xs, ⟨vs, _, h⟩ => AR.closed xs vs h
mutual
theorem VR.down (e : ∀ k, k < n → m[k]? = m'[k]?) : ∀ (d : D) (v : V), clD n d = true → VR K m' H d v → VR K m H d v
  | .ref k, _, c, h => by
    simp only [VR] at h ⊢
    simp only [clD, decide_eq_true_eq] at c
    rw [e k c]; exact h
  | .tup xs, _, c, h => by
    simp only [VR] at h ⊢
    simp only [clD] at c
    obtain ⟨a, vs, h1, h2, h⟩ := h
    exact ⟨a, vs, h1, h2, VRs.down e xs vs c h⟩
  | .rl xs, _, c, h => by
    simp only [VR] at h ⊢
    simp only [clD] at c
    obtain ⟨a, vs, h1, h2, h⟩ := h
    exact ⟨a, vs, h1, h2, VRs.down e xs vs c h⟩
  | .non, _, _, h => by simpa only [VR] using h
  | .bl _, _, _, h => by simpa only [VR] using h
  | .int _, _, _, h => by simpa only [VR] using h
  | .str _, _, _, h => by simpa only [VR] using h
  | .fn _, _, _, h => by simpa only [VR] using h
theorem VRs.down (e : ∀ k, k < n → m[k]? = m'[k]?) : ∀ (ds : List D) (vs : List V), clDs n ds = true → VRs K m' H ds vs → VRs K m H ds vs
  | [], _, _, h => by simpa only [VRs] using h
  | x :: xs, _, c, h => by
    simp only [VRs] at h ⊢
    simp only [clDs, Bool.and_eq_true] at c
    obtain ⟨v, r, h0, h1, h2⟩ := h
    exact ⟨v, r, h0, VR.down e x v c.1 h1, VRs.down e xs r c.2 h2⟩
end
theorem AR.down {κ : Type} (e : ∀ k, k < n → m[k]? = m'[k]?) : ∀ (ds : List (κ × D)) (vs : List (κ × V)), clA n ds = true → AR K m' H ds vs → AR K m H ds vs
  | [], _, _, h => h
  | (k, x) :: xs, _, c, h => by
    obtain ⟨v, r, h0, h1, h2⟩ := h
    simp only [clA, Bool.and_eq_true] at c
    exact ⟨v, r, h0, VR.down e x v c.1 h1, AR.down e xs r c.2 h2⟩
theorem OR.down (e : ∀ k, k < n → m[k]? = m'[k]?) : ∀ (o : Ob), clO n o = true → OR K m' H o a → OR K m H o a
  | .lst xs, c, ⟨vs, h1, h⟩ => ⟨vs, h1, VRs.down e xs vs c h⟩
  | .dk xs, c, ⟨vs, h1, h⟩ => ⟨vs, h1, AR.down e xs vs c h⟩
  | .ins _ fs, c, ⟨dx, vs, h1, h⟩ => ⟨dx, vs, h1, AR.down e fs vs c h⟩
  | .dn xs, c, ⟨vs, h1, h⟩ => ⟨vs, h1, AR.down e xs vs c h⟩
/-- the old objects name old objects alone -/
def Old (S S' : Sto) : Prop := ∀ (i : Nat) (o : Ob), i < S.length → S'[i]? = some o → S[i]? = some o ∨ clO S.length o = true
theorem Ext.back (s : SR K m H S) (e : Ext m H m' H') (s' : SR K m' H' S') (h : Old S S') : m'.take S.length = m ∧ Ext m H m H' ∧ SR K m H' (S'.take S.length) := by
  obtain ⟨ν, rfl, hν⟩ := e.mu
  have hl : S.length = m.length := s.len.symm
  have hm : (m ++ ν).take S.length = m := by rw [hl, List.take_left]
  have hs' := s'.len
  rw [List.length_append] at hs'
  have key : ∀ k, k < S.length → m[k]? = (m ++ ν)[k]? := fun k hk => by rw [List.getElem?_append_left (by omega)]
  refine ⟨hm, ⟨⟨[], by simp, fun _ q => nomatch q⟩, e.tup, e.frz, e.oth, e.dom⟩, ⟨?_, s.nd, fun k o hk => ?_, s'.sys⟩⟩
  · rw [List.length_take]; omega
  · by_cases hk2 : k < S.length
    · rw [List.getElem?_take_of_lt hk2] at hk
      obtain ⟨a, h1, h2⟩ := s'.at k o hk
      rw [← key k hk2] at h1
      refine ⟨a, h1, OR.down key o ?_ h2⟩
      rcases h k o hk2 hk with h3 | h3
      · obtain ⟨b, _, h5⟩ := s.at k o h3
        rw [hl]; exact OR.closed o h5
      · exact h3
    · rw [List.getElem?_take_eq_none (by omega)] at hk; cases hk
end
open Classical in
/-- what is left when a def hands back: a value that names old objects alone leaves no new object; a new object whose content names old ones alone leaves itself alone -/
noncomputable def gc (S : Sto) (d : D) (S' : Sto) : Out D :=
  if Old S S' ∧ clD S.length d = true then .ok d (S'.take S.length)
  else match d with
    | .ref n => match S'[n]? with
      | some o => if Old S S' ∧ S.length ≤ n ∧ clO S.length o = true then .ok (.ref S.length) (S'.take S.length ++ [o]) else .ok d S'
      | none => .ok d S'
    | _ => .ok d S'
open Classical in
noncomputable def gcX (S : Sto) (C : Str) (fs : Option (List (Str × D))) (S' : Sto) : Out D :=
  if Old S S' ∧ clX S.length fs = true then .ex C fs (S'.take S.length) else .ex C fs S'
noncomputable def runF (n nl : Nat) (b : Loc → Sto → OutS) (ds : List D) (S : Sto) : Out D :=
  if ds.length = n then match b (ds.map some ++ List.replicate (nl - n) none) S with
    | .rt d S' => gc S d S'
    | .nx _ S' => gc S .non S'
    | .ex _ C fs S' => gcX S C fs S'
    | _ => .bad
  else .bad
section
variable {K : PySem.W.Frag} {W : WX} {m m' : List Addr} {H H' : Hp} {S S' : Sto} {σ : L2.St} {Q : VK}
theorem gc_ok {d : D} {v : V} (s : SR K m H S) (q : post K W (pD K) σ m H Q (gc S d S')) (e : Ext m H m' H') (s' : SR K m' H' S') (r : VR K m' H' d v) : Q v H' := by
  unfold gc at q
  have hl : S.length = m.length := s.len.symm
  have key : ∀ k, k < S.length → m[k]? = m'[k]? := fun k hk => by
    obtain ⟨ν, rfl, _⟩ := e.mu
    rw [List.getElem?_append_left (by omega)]
  split at q
  · rename_i h
    obtain ⟨_, e2, s2⟩ := Ext.back s e s' h.1
    exact q v H' m e2 s2 (VR.down key d v h.2 r)
  · split at q
    · rename_i n _
      split at q
      · rename_i o ho
        split at q
        · rename_i h
          obtain ⟨h1, h2, h3⟩ := h
          obtain ⟨e1, e2, s2⟩ := Ext.back s e s' h1
          simp only [VR] at r
          obtain ⟨a, h4, h5⟩ := r
          obtain ⟨b, h6, h7⟩ := s'.at n o ho
          rw [h4] at h6; cases h6
          have ha : a ∈ m'.drop S.length := by
            refine List.mem_iff_getElem?.mpr ⟨n - S.length, ?_⟩
            rw [List.getElem?_drop]
            have : S.length + (n - S.length) = n := by omega
            rw [this]; exact h4
          have hna : a ∉ m := fun hm => by
            have nd := s'.nd
            rw [← List.take_append_drop S.length m', e1, List.nodup_append] at nd
            exact nd.2.2 a hm a ha rfl
          have hnone : H a = none := by
            obtain ⟨ν, rfl, hν⟩ := e.mu
            rw [hl, List.drop_left] at ha
            exact hν a ha
          refine q v H' (m ++ [a]) ⟨⟨[a], rfl, fun b hb => by rw [List.mem_singleton.mp hb]; exact hnone⟩, e.tup, e.frz, e.oth, e.dom⟩ (s2.grow hna (OR.down key o h3 h7)) ?_
          simp only [VR]
          exact ⟨a, by rw [hl, List.getElem?_concat_length], h5⟩
        · exact q v H' m' e s' r
      · exact q v H' m' e s' r
    · exact q v H' m' e s' r
theorem gcX_ok {C : Str} {fs : Option (List (Str × D))} {cls : Value} {dd : Option Addr} (s : SR K m H S) (q : post K W (pD K) σ m H Q (gcX S C fs S')) (e : Ext m H m' H') (s' : SR K m' H' S') (r : XR K m' H' C fs cls dd) : W cls dd σ H' := by
  unfold gcX at q
  have hl : S.length = m.length := s.len.symm
  have key : ∀ k, k < S.length → m[k]? = m'[k]? := fun k hk => by
    obtain ⟨ν, rfl, _⟩ := e.mu
    rw [List.getElem?_append_left (by omega)]
  split at q
  · rename_i h
    obtain ⟨_, e2, s2⟩ := Ext.back s e s' h.1
    refine q cls dd H' m e2 s2 ?_
    obtain ⟨h1, h2⟩ := r
    refine ⟨h1, ?_⟩
    cases fs with
    | none => exact h2
    | some fs =>
      obtain ⟨a, us, h3, h4, h5⟩ := h2
      exact ⟨a, us, h3, h4, AR.down key fs us h.2 h5⟩
  · exact q cls dd H' m' e s' r
end

/-! ### statements: what is wanted behind them -/
section
variable (K : PySem.W.Frag) (W : WX) (m : List Addr) (H : Hp) (D' : Ends)
def postS : OutS → Prop
  | .nx l S => ∀ σ' H' m', Ext m H m' H' → Rel K l σ' m' S H' → D'.nx σ' H'
  | .rt d S => ∀ v H' m', Ext m H m' H' → SR K m' H' S → VR K m' H' d v → D'.rt v H'
  | .bk l S => ∀ σ' H' m', Ext m H m' H' → Rel K l σ' m' S H' → D'.bk σ' H'
  | .ct l S => ∀ σ' H' m', Ext m H m' H' → Rel K l σ' m' S H' → D'.ct σ' H'
  | .ex l C fs S => ∀ cls dd σ' H' m', Ext m H m' H' → Rel K l σ' m' S H' → XR K m' H' C fs cls dd → W cls dd σ' H'
  | .bad => False
end
theorem postS.mono {K : PySem.W.Frag} {W : WX} {m m' : List Addr} {H H' : Hp} {D' : Ends} (e : Ext m H m' H') : ∀ {o : OutS}, postS K W m H D' o → postS K W m' H' D' o
  | .nx _ _, h => fun σ2 H2 m2 e2 r => h σ2 H2 m2 (e.trans e2) r
  | .rt _ _, h => fun σ2 H2 m2 e2 r => h σ2 H2 m2 (e.trans e2) r
  | .bk _ _, h => fun σ2 H2 m2 e2 r => h σ2 H2 m2 (e.trans e2) r
  | .ct _ _, h => fun σ2 H2 m2 e2 r => h σ2 H2 m2 (e.trans e2) r
  | .ex _ _ _ _, h => fun c d σ2 H2 m2 e2 r => h c d σ2 H2 m2 (e.trans e2) r
  | .bad, h => h
abbrev FS := Loc → Sto → OutS
def tS (K : PySem.W.Frag) (W : WX) (f : FS) : TS := fun D' σ H => ∃ l m S, Rel K l σ m S H ∧ postS K W m H D' (f l S)
abbrev MS (X : Cx) (W : WX) (st : Stmt) (f : FS) : Prop := PS X st (tS X.K W f)
abbrev MSs (X : Cx) (W : WX) (st : List Stmt) (f : FS) : Prop := PSs X st (tS X.K W f)

/-! ### a def of one's own -/
/-- the wish of a caller, whatever its slots -/
abbrev wE (E : XK) : WX := fun cls d _ H => E cls d H
def spF (K : PySem.W.Frag) (F : List D → Sto → Out D) : Sp := fun vs H Q E => ∃ ds m S, VRs K m H ds vs ∧ SR K m H S ∧ post K (wE E) (pD K) [] m H Q (F ds S)
structure FnA (P : Program) (w : World) (K : PySem.W.Frag) (mg : Str → Option Value) (base : Heap) (k : Nat) (f : Addr) (fd : FuncData) (ps : List Str) (F : List D → Sto → Out D) : Prop where
  ok : FnOk P w K mg base (L2.CX P w) k f fd ps (spF K F)
/-- a def of the module's, by its name -/
structure Fn (P : Program) (w : World) (K : PySem.W.Frag) (mg : Str → Option Value) (base : Heap) (k : Nat) (x : Str) (F : List D → Sto → Out D) : Prop where
  ex : ∃ f fd ps, FnOk P w K mg base (L2.CX P w) k f fd ps (spF K F) ∧ mg x = some (.ref f) ∧ PySem.W.keepIn K (.ref f) = true ∧ Binds K fd ps []
theorem Rel.start {K : PySem.W.Frag} {m : List Addr} {H : Hp} {S : Sto} {ds : List D} {vs : List V} {N : List Str} (s : SR K m H S) (r : VRs K m H ds vs) : Rel K (ds.map some ++ List.replicate (N.length - ds.length) none) (L2.start N vs) m S H := by
  refine ⟨s, by simp [L2.start, r.length], fun i d h => ?_⟩
  unfold L2.start
  by_cases hi : i < ds.length
  · rw [List.getElem?_append_left (by simpa using hi), List.getElem?_map] at h
    obtain ⟨x, hx, e⟩ := Option.map_eq_some_iff.mp h
    cases e
    obtain ⟨v, h1, h2⟩ := r.get hx
    refine ⟨v, ?_, h2⟩
    rw [List.getElem?_append_left (by simp [r.length]; exact hi), List.getElem?_map, h1]; rfl
  · rw [List.getElem?_append_right (by simpa using hi)] at h
    have := List.mem_of_getElem? h
    rw [List.mem_replicate] at this
    cases this.2
theorem spF_len {K : PySem.W.Frag} {n nl : Nat} {b : FS} {vs : List V} {H : Hp} {Q : VK} {E : XK} (h : spF K (runF n nl b) vs H Q E) : vs.length = n := by
  obtain ⟨ds, m, S, h1, _, h2⟩ := h
  unfold runF at h2
  split at h2
  · rename_i e; rw [h1.length]; exact e
  · exact h2.elim
/-- the context of a def's body -/
abbrev cxB (P : Program) (w : World) (K : PySem.W.Frag) (mg : Str → Option Value) (base : Heap) (N : List Str) (qual : Str) (st : Stmt) (f : Addr) (cdv : Value) (A : Around) (outer : List Env) (s : Shared) (H : Hp) (E : XK) : Cx :=
  cxOf (L2.CX P w) P w K mg base N qual (defScope st) f cdv A outer s H E
/-- THE RULE for a def: its body computes b -/
theorem fn_ok {P : Program} {w : World} {K : PySem.W.Frag} {mg : Str → Option Value} {base : Heap} {x qual : Str} {st : Stmt} {f : Addr} {fd : FuncData} {N ps : List Str} {k : Nat} {b : FS} (F : Fun K x qual st f fd) (sc : FnScope N ps (defScope st))
    (hbody : ∀ (cdv : Value) (A : Around) (outer : List Env) (s : Shared) (H : Hp) (E : XK), Room k (cxB P w K mg base N qual st f cdv A outer s H E).A → MSs (cxB P w K mg base N qual st f cdv A outer s H E) (wE E) (defBody st) b) : FnOk P w K mg base (L2.CX P w) (k + 1) f fd ps (spF K (runF ps.length N.length b)) := by
  refine F.okX sc (fun vs H Q E h => spF_len h) fun cdv A outer s H vs Q E hr hsp => ?_
  refine ⟨_, hbody cdv A outer s H E hr, ?_⟩
  obtain ⟨ds, m, S, h1, h2, h3⟩ := hsp
  unfold runF at h3
  split at h3
  · rename_i hl
    rw [← hl] at h3
    refine ⟨_, m, S, Rel.start h2 h1, ?_⟩
    split at h3
    · rename_i d S' e
      rw [e]
      exact fun v H' m' e1 s1 r1 => gc_ok h2 h3 e1 s1 r1
    · rename_i l S' e
      rw [e]
      exact fun σ' H' m' e1 r1 => gc_ok h2 h3 e1 r1.sr (by simp only [VR])
    · rename_i l C fs S' e
      rw [e]
      exact fun cls dd σ' H' m' e1 r1 x1 => gcX_ok (W := wE E) (σ := []) h2 h3 e1 r1.sr x1
    · exact h3.elim
  · exact h3.elim
section
variable {X : Cx} {W : WX} {k : Nat} {x : Str} {e : Expr} {es : List Expr} {p pos : Pos} {F : List D → Sto → Out D} {fa : FA}
def eCall (F : List D → Sto → Out D) (fa : FA) : FE := fun l S => (fa l S).bind F
theorem post.wE {K : PySem.W.Frag} {σ : L2.St} {m : List Addr} {H : Hp} {Q : VK} {o : Out D} (h : post K W (pD K) σ m H Q o) : post K (Pz.wE fun cls d H => W cls d σ H) (pD K) [] m H Q o := by
  cases o with
  | ok a S => exact h
  | ex C fs S => exact h
  | bad => exact h
theorem me_call (h : Fn X.prog X.w X.K X.mg X.base k x F) (hr : Room k X.A) (tk : Takes X W) (hg : Gl X x) (ha : MA X W (e :: es) fa) (hdb : (x == ("__debug__" : Str)) = false := by decide)
    (he : starEach (e :: es) X.env = (false, eval e X.env) :: starEach es X.env := by rfl) (hpl : (backTo pos (starEach es X.env)).any (·.1) = false := by rfl) : ME X W (.Call (.Name x p) (e :: es) [] pos) (eCall F fa) := by
  obtain ⟨f, fd, ps, h1, h2, h3, h4⟩ := h.ex
  refine (pe_callSD (E := fun σ cls d H => W cls d σ H) h1 hr hg h2 h3 h4 .nil (fun σ => passAt tk σ) ha hdb he hpl).imp fun σ H Q ⟨l, m, S, R, q⟩ => ⟨l, m, S, R, post.bind (PR := pA X.K) anti_D q fun ds S1 vs H1 m1 E1 R1 V1 q1 => ?_⟩
  exact ⟨ds, m1, S1, by rw [List.append_nil]; exact V1, R1, post.wE q1⟩
end
end Pz

set_option Elab.async false
set_option linter.all false
set_option maxRecDepth 100000
set_option maxHeartbeats 4000000
/-! Pz9: statements, targets, what is walked, for, while, comprehensions. -/
namespace Pz
open PySem PySem.Spec PyProof.Rows L2
section
variable {X : Cx} {W : WX} {a b c e : Expr} {rest es : List Expr} {f g h : FE} {pos : Pos} {K : PySem.W.Frag} {m m' : List Addr} {H H' : Hp} {S S' : Sto} {st : Stmt} {sts : List Stmt} {u v : FS}

/-! ### blocks -/
def sNx : FS := fun l S => .nx l S
def sSeq (f g : FS) : FS := fun l S => match f l S with
  | .nx l1 S1 => g l1 S1
  | o => o
theorem ms_nil : MSs X W [] sNx := pss_nil.imp fun D' σ H ⟨l, m, S, R, q⟩ => q σ H m .refl R
theorem ms_cons (h1 : MS X W st u) (h2 : MSs X W sts v) : MSs X W (st :: sts) (sSeq u v) := (pss_cons h1 h2).imp fun D' σ H ⟨l, m, S, R, q⟩ => ⟨l, m, S, R, by
  unfold sSeq at q
  cases e1 : u l S with
  | nx l1 S1 =>
    rw [e1] at q
    exact fun σ' H' m' E' R' => ⟨l1, m', S1, R', postS.mono E' q⟩
  | rt d S1 => rw [e1] at q; exact q
  | bk l1 S1 => rw [e1] at q; exact q
  | ct l1 S1 => rw [e1] at q; exact q
  | ex l1 C fs S1 => rw [e1] at q; exact q
  | bad => rw [e1] at q; exact q⟩
theorem ms_one (h1 : MS X W st u) : MSs X W [st] u := pss_one h1
/-- an expression's end as a statement's -/
def toS {α : Type} (l : Loc) (o : Out α) (k : α → Sto → OutS) : OutS := match o with
  | .ok a S => k a S
  | .ex C fs S => .ex l C fs S
  | .bad => .bad
theorem postS.bind {α β : Type} {PR : PRel α β} {σ : L2.St} {l : Loc} {D' : Ends} {k : α → Sto → OutS} {Q : β → Hp → Prop} (R : Rel K l σ m S H) : ∀ {o : Out α}, postS K W m H D' (toS l o k) →
    (∀ a S1 v H1 m1, Ext m H m1 H1 → SR K m1 H1 S1 → PR H m1 H1 a v → Rel K l σ m1 S1 H1 → postS K W m1 H1 D' (k a S1) → Q v H1) → post K W PR σ m H Q o
  | .ok a S1, q, i => fun v H1 m1 E1 R1 V1 => i a S1 v H1 m1 E1 R1 V1 (R.ext E1 R1) (postS.mono E1 q)
  | .ex C fs S1, q, _ => fun cls dd H1 m1 E1 R1 X1 => q cls dd σ H1 m1 E1 (R.ext E1 R1) X1
  | .bad, q, _ => q
def sPass : FS := sNx
def sBrk : FS := fun l S => .bk l S
def sCnt : FS := fun l S => .ct l S
theorem ms_pass : MS X W (.Pass pos) sPass := ps_pass.imp fun D' σ H ⟨l, m, S, R, q⟩ => q σ H m .refl R
theorem ms_break : MS X W (.Break pos) sBrk := ps_break.imp fun D' σ H ⟨l, m, S, R, q⟩ => q σ H m .refl R
theorem ms_continue : MS X W (.Continue pos) sCnt := ps_continue.imp fun D' σ H ⟨l, m, S, R, q⟩ => q σ H m .refl R
def sExp (f : FE) : FS := fun l S => toS l (f l S) fun _ S1 => .nx l S1
theorem ms_exp (he : ME X W e f) (hs : swapsWith e none pos.line X.env = pure false := by rfl) : MS X W (.Expr e pos) (sExp f) := (ps_expr he hs).imp fun D' σ H ⟨l, m, S, R, q⟩ => ⟨l, m, S, R,
  postS.bind (PR := pD X.K) R q fun d S1 w H1 m1 E1 R1 V1 R2 q1 => q1 σ H1 m1 .refl R2⟩
def sRet (f : FE) : FS := fun l S => toS l (f l S) fun d S1 => .rt d S1
theorem ms_ret (he : ME X W e f) : MS X W (.Return (some e) pos) (sRet f) := (ps_ret he).imp fun D' σ H ⟨l, m, S, R, q⟩ => ⟨l, m, S, R,
  postS.bind (PR := pD X.K) R q fun d S1 w H1 m1 E1 R1 V1 R2 q1 => q1 w H1 m1 .refl R1 V1⟩
def sRetN : FS := fun l S => .rt .non S
theorem ms_retN : MS X W (.Return none pos) sRetN := ps_retN.imp fun D' σ H ⟨l, m, S, R, q⟩ => q _ H m .refl R.sr (by simp only [VR])
def sIf (t : FT) (f g : FS) : FS := fun l S => toS l (t l S) fun k S1 => if k then f l S1 else g l S1
theorem ms_if {t : FT} {as bs : List Stmt} (hc : MT X W c t) (ha : MSs X W as u) (hb : MSs X W bs v) : MS X W (.If c as bs pos) (sIf t u v) := (ps_if hc ha hb).imp fun D' σ H ⟨l, m, S, R, q⟩ => ⟨l, m, S, R,
  postS.bind (PR := pB) R q fun k S1 w H1 m1 E1 R1 V1 R2 q1 => by
    subst V1
    cases k with
    | true => exact ⟨l, m1, S1, R2, q1⟩
    | false => exact ⟨l, m1, S1, R2, q1⟩⟩

/-! ### targets -/
inductive Tg where
  | nm (i : Nat)
  | tp (ts : List Tg)
mutual
def Tg.put : Tg → D → Loc → Option Loc
  | .nm i, d, l => some (l.set i (some d))
  | .tp ts, d, l => match d with
    | .tup xs => Tg.puts ts xs l
    | _ => none
def Tg.puts : List Tg → List D → Loc → Option Loc
  | [], [], l => some l
  | t :: ts, x :: xs, l => match Tg.put t x l with
    | some l1 => Tg.puts ts xs l1
    | none => none
  | _, _, _ => none
end
mutual
def Tg.slots : Tg → List Nat
  | .nm i => [i]
  | .tp ts => Tg.slotss ts
def Tg.slotss : List Tg → List Nat
  | [] => []
  | t :: ts => Tg.slots t ++ Tg.slotss ts
end
def tG (K : PySem.W.Frag) (t : Tg) : TG := fun v σ H Q => ∃ l m S d l', Rel K l σ m S H ∧ VR K m H d v ∧ t.put d l = some l' ∧ ∀ σ', Rel K l' σ' m S H → (∀ vs : List Nat, (∀ i ∈ t.slots, i ∈ vs) → wipe σ' vs = wipe σ vs) → Q σ' H
def tGs (K : PySem.W.Frag) (t : List Tg) : TGs := fun v σ H Q => ∃ l m S d l', Rel K l σ m S H ∧ VRs K m H d v ∧ Tg.puts t d l = some l' ∧ ∀ σ', Rel K l' σ' m S H → (∀ vs : List Nat, (∀ i ∈ Tg.slotss t, i ∈ vs) → wipe σ' vs = wipe σ vs) → Q σ' H
abbrev MG (X : Cx) (tg : Expr) (t : Tg) : Prop := PG X tg (tG X.K t)
abbrev MGs (X : Cx) (tg : List Expr) (t : List Tg) : Prop := PGs X tg (tGs X.K t)
theorem Rel.put {l : Loc} {σ : L2.St} {i : Nat} {d : D} {w : V} (R : Rel K l σ m S H) (r : VR K m H d w) : Rel K (l.set i (some d)) (σ.set i (some w)) m S H := by
  refine ⟨R.sr, by rw [List.length_set, List.length_set]; exact R.len, fun j x hj => ?_⟩
  by_cases e : j = i
  · subst e
    have hl : j < l.length := by
      have := (List.getElem?_eq_some_iff.mp hj).1
      rwa [List.length_set] at this
    rw [List.getElem?_set_self hl] at hj
    cases hj
    exact ⟨w, List.getElem?_set_self (by rw [R.len]; exact hl), r⟩
  · rw [List.getElem?_set_ne (Ne.symm e)] at hj
    obtain ⟨z, h1, h2⟩ := R.at j x hj
    exact ⟨z, by rw [List.getElem?_set_ne (Ne.symm e)]; exact h1, h2⟩
theorem wipe_set {σ : L2.St} {i : Nat} {x : Option V} : ∀ {vs : List Nat}, i ∈ vs → wipe (σ.set i x) vs = wipe σ vs
  | v :: vs, h => by
    by_cases e : i ∈ vs
    · simp only [wipe]; rw [wipe_set e]
    · have hv : i = v := (List.mem_cons.mp h).resolve_right e
      subst hv
      have : ∀ us : List Nat, i ∉ us → wipe (σ.set i x) us = (wipe σ us).set i x := by
        intro us
        induction us with
        | nil => intro _; rfl
        | cons w us ih =>
          intro hn
          simp only [wipe]
          rw [ih fun q => hn (List.mem_cons_of_mem _ q), List.set_comm _ _ (fun q => hn (by rw [q]; exact List.mem_cons_self))]
      simp only [wipe]
      rw [this vs e, List.set_set]
theorem mg_nm (i : Nat) {x : Str} {pos : Pos} (hN : X.N.Nodup) (hi : X.N[i]? = some x := by rfl) (hx : L2.Loc X.env.scope x := by first | exact Or.inl rfl | exact Or.inr rfl) (hf : X.fn x = true ∨ X.env.scope.names.lookup x = some .local := by first | exact .inl rfl | exact .inr rfl) : MG X (.Name x pos) (.nm i) :=
  ⟨fun pins s σ H w u' Q I r ⟨l, m, S, d, l', R, V, e, q⟩ => (pg_name hN hi hx hf).run pins s σ H w u' Q I r (by
    simp only [Tg.put, Option.some.injEq] at e
    subst e
    refine q _ (R.put V) fun vs hvs => ?_
    exact wipe_set (hvs i (by simp [Tg.slots])))⟩
theorem mgs_nil : MGs X [] [] := ⟨fun pins s σ H w u' Q I r ⟨l, m, S, d, l', R, V, e, q⟩ => pgs_nil.run pins s σ H w u' Q I r (by
  cases d with
  | nil =>
    simp only [Tg.puts, Option.some.injEq] at e
    subst e
    simp only [VRs] at V
    exact ⟨V, q _ R fun _ _ => rfl⟩
  | cons x xs => simp only [Tg.puts] at e; cases e)⟩
theorem mgs_cons {e : Expr} {es : List Expr} {t : Tg} {ts : List Tg} (h1 : MG X e t) (h2 : MGs X es ts) (hs : (assignEach (e :: es) X.env).map (·.2) = assign e X.env :: (assignEach es X.env).map (·.2) := by rfl) : MGs X (e :: es) (t :: ts) := ⟨fun pins s σ H w u' Q I r ⟨l, m, S, d, l', R, V, ep, q⟩ => (pgs_cons h1 h2 hs).run pins s σ H w u' Q I r (by
  cases d with
  | nil => simp only [Tg.puts] at ep; cases ep
  | cons x xs =>
    simp only [Tg.puts] at ep
    split at ep
    · rename_i l1 h3
      simp only [VRs] at V
      obtain ⟨z, zs, rfl, h4, h5⟩ := V
      refine ⟨z, zs, rfl, l, m, S, x, l1, R, h4, h3, fun σ1 R1 w1 => ⟨l1, m, S, xs, l', R1, h5, ep, fun σ2 R2 w2 => q σ2 R2 fun vs hvs => ?_⟩⟩
      rw [w2 vs fun i hi => hvs i (by simp only [Tg.slotss]; exact List.mem_append_right _ hi), w1 vs fun i hi => hvs i (by simp only [Tg.slotss]; exact List.mem_append_left _ hi)]
    · cases ep)⟩
theorem puts_len : ∀ {ts : List Tg} {xs : List D} {l l' : Loc}, Tg.puts ts xs l = some l' → xs.length = ts.length
  | [], [], _, _, _ => rfl
  | [], _ :: _, _, _, h => by simp only [Tg.puts] at h; cases h
  | _ :: _, [], _, _, h => by simp only [Tg.puts] at h; cases h
  | t :: ts, x :: xs, l, l', h => by
    simp only [Tg.puts] at h
    split at h
    · simp [puts_len h]
    · cases h

theorem mg_tp {es : List Expr} {k : Nat} {ts : List Tg} (hc : X.calm = true) (h : MGs X es ts) (hn : (assignEach es X.env).length = ts.length := by rfl) (hst : (assignEach es X.env).findIdx? (·.1) = none := by rfl) : MG X (.Tuple es k pos) (.tp ts) :=
  ⟨fun pins s σ H w u' Q I r ⟨l, m, S, d, l', R, V, e, q⟩ => (pg_tup (n := ts.length) hc h hn hst).run pins s σ H w u' Q I r (by
    cases d with
    | tup xs =>
      simp only [Tg.put] at e
      simp only [VR] at V
      obtain ⟨a, vs, rfl, h1, h2⟩ := V
      exact ⟨a, vs, rfl, h1, by rw [h2.length]; exact puts_len e, l, m, S, xs, l', R, h2, e, fun σ' R' w' => q σ' R' fun us hu => w' us fun i hi => hu i (by simp only [Tg.slots]; exact hi)⟩
    | _ => simp only [Tg.put] at e; cases e)⟩

/-! ### target = e -/
def sSet (t : Tg) (f : FE) : FS := fun l S => toS l (f l S) fun d S1 => match t.put d l with
  | some l1 => .nx l1 S1
  | none => .bad
theorem ms_set {tg : Expr} {t : Tg} (he : ME X W e f) (hg : MG X tg t) (hs : swapsWithSole [tg] e pos.line X.env = pure false := by rfl) (hw : swappedStores [tg] e X.env = pure none := by rfl) (h1 : (assignEach [tg] X.env).map (·.2) = [assign tg X.env] := by rfl) : MS X W (.Assign [tg] e pos) (sSet t f) :=
  (ps_asg he hg hs hw h1).imp fun D' σ H ⟨l, m, S, R, q⟩ => ⟨l, m, S, R, postS.bind (PR := pD X.K) R q fun d S1 w H1 m1 E1 R1 V1 R2 q1 => by
    cases e1 : t.put d l with
    | none => rw [e1] at q1; exact q1.elim
    | some l1 =>
      rw [e1] at q1
      exact ⟨l, m1, S1, d, l1, R2, V1, e1, fun σ' R' _ => q1 σ' H1 m1 .refl R'⟩⟩
/-- a, b = x, y -/
def sPar (i j : Nat) (f : FA) : FS := fun l S => toS l (f l S) fun ds S1 => match ds with
  | [x, y] => .nx ((l.set i (some x)).set j (some y)) S1
  | _ => .bad
theorem ms_par {i j : Nat} {x y : Str} {a b : Expr} {fa : FA} {px py pt : Pos} {kt k2 pt2} (hc : X.calm = true) (hN : X.N.Nodup) (ha : MA X W [a, b] fa) (hi : X.N[i]? = some x := by rfl) (hj : X.N[j]? = some y := by rfl) (hij : i ≠ j := by decide)
    (hx : X.env.scope.names.lookup x = some .local := by rfl) (hy : X.env.scope.names.lookup y = some .local := by rfl)
    (hw : swappedStores [.Tuple [.Name x px, .Name y py] kt pt] (.Tuple [a, b] k2 pt2) X.env = pure (some [x, y]) := by rfl)
    (hs : swapsWithSole [.Tuple [.Name x px, .Name y py] kt pt] (.Tuple [a, b] k2 pt2) pos.line X.env = pure false := by rfl) : MS X W (.Assign [.Tuple [.Name x px, .Name y py] kt pt] (.Tuple [a, b] k2 pt2) pos) (sPar i j fa) :=
  (ps_par hc hN hi hj hij hx hy ha hw hs).imp fun D' σ H ⟨l, m, S, R, q⟩ => ⟨l, m, S, R, postS.bind (PR := pA X.K) R q fun ds S1 ws H1 m1 E1 R1 V1 R2 q1 => by
    split at q1
    · simp only [VRs] at V1
      obtain ⟨v, _, rfl, h1, w, _, rfl, h2, rfl⟩ := V1
      exact ⟨v, w, rfl, q1 _ H1 m1 .refl ((R2.put h1).put h2)⟩
    · exact q1.elim⟩

/-! ### while -/
/-- so many turns at most -/
def loopW (t : FT) (b : FS) : Nat → FS
  | 0, _, _ => .bad
  | n + 1, l, S => toS l (t l S) fun k S1 => if k then match b l S1 with
      | .nx l2 S2 => loopW t b n l2 S2
      | .ct l2 S2 => loopW t b n l2 S2
      | .bk l2 S2 => .nx l2 S2
      | o => o
    else .nx l S1
def sWhile (t : FT) (b : FS) : FS := loopW t b 1000000000
theorem ms_while {t : FT} {body : List Stmt} (hp : PassesOwn (model X.prog X.w) X.A X.env X.xe) (hc : MT X W c t) (hb : MSs X W body u) : MS X W (.While c body [] pos) (sWhile t u) := (ps_while hp hc hb).imp fun D' σ H ⟨l, m, S, R, q⟩ => by
  refine ⟨fun n σ H => ∃ l m S, Rel X.K l σ m S H ∧ postS X.K W m H D' (loopW t u n l S), ⟨_, l, m, S, R, q⟩, ?_⟩
  rintro n σ H ⟨l, m, S, R, q⟩
  cases n with
  | zero => exact q.elim
  | succ n =>
    refine ⟨l, m, S, R, postS.bind (PR := pB) R q fun k S1 w H1 m1 E1 R1 V1 R2 q1 => ?_⟩
    subst V1
    cases k with
    | false => exact q1 σ H1 m1 .refl R2
    | true =>
      refine ⟨fun σ' H' => ∃ l m S, Rel X.K l σ' m S H' ∧ postS X.K W m H' D' (loopW t u n l S), fun σ' H' h => ⟨n, Nat.lt_succ_self n, h⟩, l, m1, S1, R2, ?_⟩
      rw [if_pos rfl] at q1
      cases e1 : u l S1 with
      | nx l2 S2 => rw [e1] at q1; exact fun σ' H' m' E' R' => ⟨l2, m', S2, R', postS.mono E' q1⟩
      | ct l2 S2 => rw [e1] at q1; exact fun σ' H' m' E' R' => ⟨l2, m', S2, R', postS.mono E' q1⟩
      | bk l2 S2 => rw [e1] at q1; exact q1
      | rt d S2 => rw [e1] at q1; exact q1
      | ex l2 C fs S2 => rw [e1] at q1; exact q1
      | bad => rw [e1] at q1; exact q1

/-! ### what is walked -/
/-- the items, and what must stay true of the store while they are walked -/
structure Src where
  its : List D
  gd : Sto → Prop
def SrcOk (K : PySem.W.Frag) (m : List Addr) (H : Hp) (x : Src) (J : It) : Prop := ∀ m' H' S', Ext m H m' H' → SR K m' H' S' → x.gd S' → ∀ i : Nat,
  (∀ d, x.its[i]? = some d → J.go i H' ∧ ∀ y H2, J.yld i H' y H2 → Ext m' H' m' H2 ∧ SR K m' H2 S' ∧ VR K m' H2 d y) ∧ (x.its.length = i → J.stop i H')
def pI (K : PySem.W.Frag) : PRel Src It := fun _ m H x J => SrcOk K m H x J
theorem anti_I {K : PySem.W.Frag} : Anti (pI K) := fun _ _ _ _ _ _ _ h => h
abbrev FI := Loc → Sto → Out Src
abbrev MI (X : Cx) (W : WX) (tg e : Expr) (f : FI) : Prop := PI X tg e (tX X.K W (pI X.K) f)
theorem _root_.L2.PI.imp {X : Cx} {tg e : Expr} {t t' : TI} (h : PI X tg e t) (i : ∀ σ H Q, t' σ H Q → t σ H Q) : PI X tg e t' := ⟨fun pins s σ H Q I q => h.run pins s σ H Q I (i _ _ _ q)⟩
open Classical in
noncomputable def forL (gd : Sto → Prop) (t : Tg) (b : FS) : List D → FS
  | [], l, S => if gd S then .nx l S else .bad
  | x :: xs, l, S => if gd S then match t.put x l with
      | some l1 => match b l1 S with
        | .nx l2 S2 => forL gd t b xs l2 S2
        | .ct l2 S2 => forL gd t b xs l2 S2
        | .bk l2 S2 => .nx l2 S2
        | o => o
      | none => .bad
    else .bad
noncomputable def sFor (f : FI) (t : Tg) (b : FS) : FS := fun l S => toS l (f l S) fun x S1 => forL x.gd t b x.its l S1
theorem ms_for {tg iter : Expr} {fi : FI} {t : Tg} {body : List Stmt} (hp : PassesOwn (model X.prog X.w) X.A X.env X.xe) (hc : X.calm = true) (hi : MI X W tg iter fi) (hg : MG X tg t) (hb : MSs X W body u)
    (hs : ∀ x, foldedSetIterable iter X.env x = pure x := by intro _; rfl) : MS X W (.For tg iter body [] pos) (sFor fi t u) := (ps_for hp hc hi hg hb hs).imp fun D' σ H ⟨l, m, S, R, q⟩ => ⟨l, m, S, R,
  postS.bind (PR := pI X.K) R q fun x S1 J H1 m1 E1 R1 V1 R2 q1 => by
    refine ⟨fun i k σ' H' => k = x.its.length - i ∧ i ≤ x.its.length ∧ ∃ l m' S', Rel X.K l σ' m' S' H' ∧ Ext m1 H1 m' H' ∧ postS X.K W m' H' D' (forL x.gd t u (x.its.drop i) l S'), ⟨_, rfl, Nat.zero_le _, l, m1, S1, R2, .refl, q1⟩, ?_⟩
    rintro i k σ' H' ⟨rfl, hi, l, m', S', R', E', q'⟩
    by_cases hlt : i < x.its.length
    · rw [List.drop_eq_getElem_cons hlt] at q'
      simp only [forL] at q'
      split at q'
      · rename_i hgd
        obtain ⟨h1, _⟩ := V1 m' H' S' E' R'.sr hgd i
        obtain ⟨h2, h3⟩ := h1 x.its[i] (by simp [hlt])
        refine .inr ⟨h2, fun σ2 H2 => ∃ l m S, Rel X.K l σ2 m S H2 ∧ Ext m1 H1 m H2 ∧ postS X.K W m H2 D' (forL x.gd t u (x.its.drop (i + 1)) l S), fun σ2 H2 h => ⟨x.its.length - (i + 1), by omega, rfl, hlt, h⟩, fun y H2 hy => ?_⟩
        obtain ⟨h4, h5, h6⟩ := h3 y H2 hy
        cases e1 : t.put x.its[i] l with
        | none => rw [e1] at q'; exact q'.elim
        | some l1 =>
          rw [e1] at q'
          refine ⟨l, m', S', x.its[i], l1, R'.ext h4 h5, h6, e1, fun σ3 R3 _ => ⟨l1, m', S', R3, ?_⟩⟩
          have q2 := postS.mono h4 q'
          cases e2 : u l1 S' with
          | nx l2 S2 => simp only [e2] at q2; exact fun σ4 H4 m4 E4 R4 => ⟨l2, m4, S2, R4, E'.trans (h4.trans E4), postS.mono E4 q2⟩
          | ct l2 S2 => simp only [e2] at q2; exact fun σ4 H4 m4 E4 R4 => ⟨l2, m4, S2, R4, E'.trans (h4.trans E4), postS.mono E4 q2⟩
          | bk l2 S2 => simp only [e2] at q2; exact q2
          | rt d S2 => simp only [e2] at q2; exact q2
          | ex l2 C fs S2 => simp only [e2] at q2; exact q2
          | bad => simp only [e2] at q2; exact q2
      · exact q'.elim
    · have e : i = x.its.length := by omega
      subst e
      rw [List.drop_length] at q'
      simp only [forL] at q'
      split at q'
      · rename_i hgd
        exact .inl ⟨(V1 m' H' S' E' R'.sr hgd _).2 rfl, q' σ' H' m' .refl R'⟩
      · exact q'.elim⟩
end
end Pz

set_option Elab.async false
set_option linter.all false
set_option maxRecDepth 100000
set_option maxHeartbeats 4000000
/-! Pz10: sources of loops; comprehensions. -/
namespace Pz
open PySem PySem.Spec PyProof.Rows L2
section
variable {X : Cx} {W : WX} {a b c e tg : Expr} {rest es : List Expr} {f g h : FE} {p pos : Pos} {K : PySem.W.Frag} {m m' : List Addr} {H H' : Hp} {S S' : Sto}

theorem _root_.L2.PI.or {t t' : TI} (h : PI X tg e t) (h' : PI X tg e t') : PI X tg e (fun σ H R => t σ H R ∨ t' σ H R) := ⟨fun pins s σ H R I q => q.elim (h.run pins s σ H R I) (h'.run pins s σ H R I)⟩
/-! ### lists, tuples -/
theorem VRs.getV {ds : List D} {vs : List V} {i : Nat} {d : D} {y : V} (r : VRs K m H ds vs) (h : ds[i]? = some d) (hy : vs[i]? = some y) : VR K m H d y := by
  obtain ⟨v, h1, h2⟩ := r.get h
  rw [hy] at h1; cases h1
  exact h2
theorem src_list {x : Src} {a : Addr} (h : ∀ m' H' S', Ext m H m' H' → SR K m' H' S' → x.gd S' → ∃ vs, SqL K H' a vs ∧ VRs K m' H' x.its vs) : SrcOk K m H x (Itl K a) := fun m' H' S' E s g i => by
  obtain ⟨vs, h1, h2⟩ := h m' H' S' E s g
  refine ⟨fun d hd => ?_, fun hi => ⟨vs, h1, by rw [h2.length, hi]; exact Nat.le_refl _⟩⟩
  obtain ⟨v, h3, h4⟩ := h2.get hd
  refine ⟨⟨vs, v, h1, h3⟩, fun y H2 hy => ?_⟩
  obtain ⟨rfl, hy⟩ := hy
  exact ⟨.refl, s, h2.getV hd (hy vs h1)⟩
theorem src_tup {x : Src} {a : Addr} (h : ∀ m' H', Ext m H m' H' → ∃ vs, SqT K H' a vs ∧ VRs K m' H' x.its vs) : SrcOk K m H x (Itt K a) := fun m' H' S' E s g i => by
  obtain ⟨vs, h1, h2⟩ := h m' H' E
  refine ⟨fun d hd => ?_, fun hi => ⟨vs, h1, by rw [h2.length, hi]; exact Nat.le_refl _⟩⟩
  obtain ⟨v, h3, h4⟩ := h2.get hd
  refine ⟨⟨vs, v, h1, h3⟩, fun y H2 hy => ?_⟩
  obtain ⟨rfl, hy⟩ := hy
  exact ⟨.refl, s, h2.getV hd (hy vs h1)⟩
def noGd : Sto → Prop := fun _ => True
def atGd (n : Nat) (xs : List D) : Sto → Prop := fun S => S[n]? = some (.lst xs)
def kLV (x : LV) (S : Sto) : Out Src := match x with
  | .tmp xs => .ok ⟨xs, noGd⟩ S
  | .at n => match S[n]? with
    | some (.lst xs) => .ok ⟨xs, atGd n xs⟩ S
    | _ => .bad
def iL (f : FL) : FI := fun l S => (f l S).bind kLV
theorem kLV_ok {x : LV} {v : V} {H0 : Hp} {σ : L2.St} {Q : It → Hp → Prop} (s : SR K m H S) (r : pL K H0 m H x v) (q : post K W (pI K) σ m H Q (kLV x S)) : ∃ a, v = .ref a ∧ (∃ xs, SqL K H a xs) ∧ Q (Itl K a) H := by
  cases x with
  | tmp xs =>
    obtain ⟨p, vs, rfl, h2, h3, h4, h5⟩ := r
    refine ⟨p, rfl, ⟨vs, SqL.of h2⟩, q _ H m .refl s (src_list fun m' H' S' E s' _ => ⟨vs, SqL.of (E.oth _ _ h2 h3), VRs.ext E _ _ h5⟩)⟩
  | «at» n =>
    obtain ⟨p, h1, rfl⟩ := r
    simp only [kLV] at q
    split at q
    · rename_i xs hn
      obtain ⟨p', h2, vs, h3, h4⟩ := s.at n _ hn
      rw [h1] at h2; cases h2
      refine ⟨p, rfl, ⟨vs, SqL.of h3⟩, q _ H m .refl s (src_list fun m' H' S' E s' g => ?_)⟩
      obtain ⟨p'', h5, us, h6, h7⟩ := s'.at n _ g
      rw [E.get h1] at h5; cases h5
      exact ⟨us, SqL.of h6, h7⟩
    · exact q.elim
theorem mi_l {f : FL} (h : ML X W e f) : MI X W tg e (iL f) := (pi_list h).imp fun σ H Q ⟨l, m, S, R, q⟩ => ⟨l, m, S, R, post.bind (PR := pL X.K) anti_I q fun x S1 v H1 m1 E1 R1 V1 q1 => kLV_ok R1 V1 q1⟩
def kD (x : D) (S : Sto) : Out Src := match x with
  | .tup xs => .ok ⟨xs, noGd⟩ S
  | .rl xs => .ok ⟨xs, noGd⟩ S
  | .ref n => kLV (.at n) S
  | _ => .bad
def iE (f : FE) : FI := fun l S => (f l S).bind kD
theorem mi_e (h : ME X W e f) : MI X W tg e (iE f) := ((pi_list h).or (pi_tup h)).imp fun σ H Q ⟨l, m, S, R, q⟩ => by
  have key : ∀ (v : V) (H1 : Hp) (m1 : List Addr) (S1 : Sto) (d : D), SR X.K m1 H1 S1 → VR X.K m1 H1 d v → post X.K W (pI X.K) σ m1 H1 Q (kD d S1) →
      ((∀ xs, d ≠ .tup xs) → ∃ a, v = .ref a ∧ (∃ xs, SqL X.K H1 a xs) ∧ Q (Itl X.K a) H1) ∧ (∀ xs, d = .tup xs → ∃ a, v = .ref a ∧ (∃ xs, SqT X.K H1 a xs) ∧ Q (Itt X.K a) H1) := by
    intro v H1 m1 S1 d R1 V1 q1
    refine ⟨fun hne => ?_, fun xs hx => ?_⟩
    · cases d with
      | tup xs => exact absurd rfl (hne xs)
      | rl xs =>
        simp only [VR] at V1
        obtain ⟨p, vs, rfl, h1, h2⟩ := V1
        exact ⟨p, rfl, ⟨vs, h1.sql⟩, q1 _ H1 m1 .refl R1 (src_list fun m' H' S' E s' _ => ⟨vs, (SqF.ext E h1).sql, VRs.ext E _ _ h2⟩)⟩
      | ref n =>
        simp only [VR] at V1
        exact kLV_ok (H0 := H1) R1 (x := .at n) V1 q1
      | _ => exact q1.elim
    · subst hx
      simp only [VR] at V1
      obtain ⟨p, vs, rfl, h1, h2⟩ := V1
      exact ⟨p, rfl, ⟨vs, h1⟩, q1 _ H1 m1 .refl R1 (src_tup fun m' H' E => ⟨vs, SqT.ext E h1, VRs.ext E _ _ h2⟩)⟩
  unfold iE at q
  cases e1 : f l S with
  | bad => rw [e1] at q; exact q.elim
  | ex C fs S1 =>
    rw [e1] at q
    refine .inl ⟨l, m, S, R, ?_⟩
    rw [e1]; exact q
  | ok d S1 =>
    rw [e1] at q
    have q : post X.K W (pI X.K) σ m H Q (kD d S1) := q
    by_cases hd : ∃ xs, d = .tup xs
    · obtain ⟨xs, hd⟩ := hd
      refine .inr ⟨l, m, S, R, ?_⟩
      rw [e1]
      exact fun v H1 m1 E1 R1 V1 => (key v H1 m1 S1 d R1 V1 (post.mono anti_I E1 q)).2 xs hd
    · refine .inl ⟨l, m, S, R, ?_⟩
      rw [e1]
      exact fun v H1 m1 E1 R1 V1 => (key v H1 m1 S1 d R1 V1 (post.mono anti_I E1 q)).1 fun xs h => hd ⟨xs, h⟩
/-! ### range -/
theorem src_rng (lo : Int) (n : Nat) : SrcOk K m H ⟨(List.range n).map fun (i : Nat) => D.int (lo + (i : Nat)), noGd⟩ (Itr lo n) := fun m' H' S' E s g i => by
  refine ⟨fun d hd => ?_, fun hi => by
    simp at hi
    exact Nat.le_of_eq hi⟩
  simp only [List.getElem?_map, Option.map_eq_some_iff] at hd
  obtain ⟨j, hj, rfl⟩ := hd
  have h1 := List.getElem?_eq_some_iff.mp hj
  obtain ⟨h2, h3⟩ := h1
  rw [List.getElem_range] at h3
  subst h3
  rw [List.length_range] at h2
  refine ⟨h2, fun y H2 hy => ?_⟩
  obtain ⟨rfl, rfl⟩ := hy
  exact ⟨.refl, s, by simp only [VR]⟩
def rgB (i : Int) : Bool := decide (-(2 ^ 62) ≤ i ∧ i < 2 ^ 62)
def kRg (a b : Int) (S : Sto) : Out Src := if rgB a && rgB b then .ok ⟨rgD a b, noGd⟩ S else .bad
def iRg1 (f : FE) : FI := fun l S => (f l S).bind fun x S1 => match x with
  | .int n => kRg 0 n S1
  | _ => .bad
def iRg2 (f g : FE) : FI := fun l S => (f l S).bind fun x S1 => (g l S1).bind fun y S2 => match x, y with
  | .int i, .int j => kRg i j S2
  | _, _ => .bad
theorem mi_range1 (hg : Gl X "range") (hm : X.mg "range" = none) (he : ME X W e f) (s1 : starEach [e] X.env = (false, eval e X.env) :: starEach [] X.env := by rfl) (hs : starEach [e] X.env = [(false, eval e X.env)] := by rfl) : MI X W tg (.Call (.Name "range" p) [e] [] pos) (iRg1 f) :=
  (pi_range1 hg hm (pa_cons he pa_nil s1) hs).imp fun σ H Q ⟨l, m, S, R, q⟩ => ⟨l, m, S, R, post.bind (PR := pD X.K) anti_I q fun x S1 v H1 m1 E1 R1 V1 q1 => by
    cases x with
    | int n =>
      simp only [VR] at V1
      subst V1
      simp only [kRg] at q1
      split at q1
      · rename_i hb
        rw [Bool.and_eq_true] at hb
        have hb2 := of_decide_eq_true hb.2
        refine ⟨n, rfl, hb2.1, hb2.2, q1 _ H1 m1 .refl R1 ?_⟩
        have := src_rng (K := X.K) (m := m1) (H := H1) 0 (n - 0).toNat
        rw [Int.sub_zero] at this
        unfold rgD
        rw [Int.sub_zero]
        exact this
      · exact q1.elim
    | _ => exact q1.elim⟩
theorem mi_range2 (hg : Gl X "range") (hm : X.mg "range" = none) (ha : ME X W a f) (he : ME X W b g) (s1 : starEach [a, b] X.env = (false, eval a X.env) :: starEach [b] X.env := by rfl) (s2 : starEach [b] X.env = (false, eval b X.env) :: starEach [] X.env := by rfl)
    (hs : starEach [a, b] X.env = [(false, eval a X.env), (false, eval b X.env)] := by rfl) (hs2 : starEach [b] X.env = [(false, eval b X.env)] := by rfl) : MI X W tg (.Call (.Name "range" p) [a, b] [] pos) (iRg2 f g) :=
  (pi_range2 hg hm (pa_cons ha (pa_cons he pa_nil s2) s1) hs hs2).imp fun σ H Q ⟨l, m, S, R, q⟩ => ⟨l, m, S, R, post.bind (PR := pD X.K) anti_I q fun x S1 v H1 m1 E1 R1 V1 q1 => ⟨l, m1, S1, R.ext E1 R1, post.bind (PR := pD X.K) anti_I q1 fun y S2 u H2 m2 E2 R2 V2 q2 => by
    cases x with
    | int i =>
      cases y with
      | int j =>
        simp only [VR] at V1 V2
        subst V1 V2
        simp only [kRg] at q2
        split at q2
        · rename_i hb
          rw [Bool.and_eq_true] at hb
          have hb1 := of_decide_eq_true hb.1
          have hb2 := of_decide_eq_true hb.2
          exact ⟨i, j, rfl, ⟨hb1.1, hb1.2, hb2.1, hb2.2⟩, q2 _ H2 m2 .refl R2 (src_rng i (j - i).toNat)⟩
        · exact q2.elim
      | _ => exact q2.elim
    | _ => cases y <;> exact q2.elim⟩⟩
/-! ### enumerate -/
/-- enumerate of a tuple -/
def ItE (K : PySem.W.Frag) (a : Addr) : It :=
  ⟨fun i H => ∃ (xs : List V) (x : V), SqT K H a xs ∧ xs[i]? = some x, fun i H v H' => ∃ T x ob, v = .ref T ∧ H T = none ∧ ob.dict = none ∧ H' = upd H T (.frz ob (.tup [.int (i : Nat), x])) ∧ ∀ xs, SqT K H a xs → xs[i]? = some x, fun i H => ∃ xs : List V, SqT K H a xs ∧ xs.length = i⟩
theorem in1_handled {A : Around} (h : A.handled = none) : A.in1.handled = none := h
theorem turn_enumTup {P : Program} {w : World} {K : PySem.W.Frag} {elts : List Expr} {kk : Nat} {tpos : Pos} (a e it : Addr) :
    Turn P w K (.Tuple elts kk tpos) (ItE K a) [e, it] e (fun i h => (∃ old, IsEnum h e it ((i : Nat) : Int) old) ∧ h.IsTupleIter it a i ∧ e ≠ it) where
  mem := List.mem_cons_self
  obj := fun i h ⟨⟨old, he⟩, ⟨o, ho, hc, hd⟩, _⟩ b hb => by
    rcases List.mem_cons.mp hb with rfl | hb
    · exact ⟨_, he, fun v q => nomatch q⟩
    · rw [List.mem_singleton.mp hb]; exact ⟨o, ho, fun v q => by rw [hd] at q; cases q⟩
  keep := fun i h h' ⟨⟨old, he⟩, hi, hne⟩ k => ⟨⟨old, k e (by simp) _ he⟩, hi.at fun o q => k it (by simp) o q, hne⟩
  item := fun X hP hw hK hc i pins s σ H E I hf ⟨⟨old, he⟩, hit, hne⟩ ⟨xs, x, hq, hx⟩ => by
    subst hP hw hK
    obtain ⟨its, rv, pt, hz⟩ := I.tuple hq
    obtain ⟨u, hu, ru⟩ := rv.get hx
    have hie : e < s.heap.objs.size := Heap.lt_size he
    have hii : it < s.heap.objs.size := by obtain ⟨_, q, _⟩ := hit; exact Heap.lt_size q
    have pt' : s.heap.IsTuple a its.toArray := pt
    have nea : e ≠ a := fun q => by
      obtain ⟨o, ho, hcl, _⟩ := pt'
      rw [← q, he] at ho
      cases ho
      injection hcl with z
      exact absurd z (by decide)
    have nia : a ≠ it := fun q => by
      obtain ⟨o, ho, hcl, _⟩ := pt'
      obtain ⟨o2, ho2, hcl2, _⟩ := hit
      rw [q, ho2] at ho
      cases ho
      rw [hcl] at hcl2
      injection hcl2 with z
      exact absurd z (by decide)
    have hu' : its.toArray[i]? = some u := by simpa using hu
    have hlt : i < its.toArray.size := (Array.getElem?_eq_some_iff.mp hu').1
    refine wpAny_pyNext_enum_itemD (Draws.tuple (in1_handled (I.ok.hd hc)) it a nia its.toArray) he ⟨hit, pt'⟩ hlt hne (by simp [hne, nea]) fun y h' tk hy ho hst hT hsz hk => ?_
    have ey : y = u := Option.some.inj (hy.symm.trans hu')
    subst ey
    refine ⟨_, rfl, wpAny_letOwnedTupleGo_enum (s := { s with heap := h', toks := tk + 1 }) ho fun h2 he2 sb => ?_⟩
    have hT2 : h2.get? s.heap.objs.size = some { cls := .type "tuple", data := .seq #[.int i tk, y] } := (sb.2 _ (Nat.ne_of_gt hie)).trans hT
    have new : ObjOk X.prog X.w (upd H s.heap.objs.size (.frz { cls := .type "tuple", data := .seq #[.int i tk, y] } (.tup [.int (i : Nat), x]))) h2 s.heap.objs.size (.frz { cls := .type "tuple", data := .seq #[.int i tk, y] } (.tup [.int (i : Nat), x])) :=
      ⟨hT2, by show 2 ≤ sizeLine; decide, [.int i tk, y], .cons ⟨_, rfl⟩ (.cons ru .nil), ⟨_, hT2, rfl, _, rfl⟩⟩
    have I1 : Inv X pins σ (upd H s.heap.objs.size (.frz { cls := .type "tuple", data := .seq #[.int i tk, y] } (.tup [.int (i : Nat), x]))) { s with heap := h2, toks := tk + 1 } :=
      I.turnedNew (ch := [e, it]) (fun b ob hb q => (sb.2 b fun z => hb (by simp [z])).trans (hk b ob (fun z => hb (by simp [z])) (fun z => hb (by simp [z])) q)) hf (Nat.le_refl _) new
    refine ⟨.ref s.heap.objs.size, _, I1, rfl, ⟨_, x, _, rfl, I.hok.fresh (Nat.le_refl _), rfl, rfl, fun ys hys => by rw [I.tuple_inj hys hq]; exact hx⟩, ⟨⟨y, ?_⟩, hst.1.at fun o q => (sb.2 it (Ne.symm hne)).trans q, hne⟩, fun b hb => ?_⟩
    · rw [show ((i + 1 : Nat) : Int) = (i : Int) + 1 by omega]; exact he2
    · have hlb : b < s.heap.objs.size := by
        rcases List.mem_cons.mp hb with rfl | hb
        · exact hie
        · rw [List.mem_singleton.mp hb]; exact hii
      rw [upd_ne (Nat.ne_of_lt hlb)]
      exact (hf b hb).1
  done := fun X hP hw hK hc i pins s σ H E I hf ⟨⟨old, he⟩, hit, hne⟩ ⟨xs, hq, hx⟩ => by
    subst hP hw hK
    obtain ⟨its, rv, pt, hz⟩ := I.tuple hq
    obtain ⟨f0, f1, f2, f3, f4, f5⟩ := hf it (by simp)
    have pt' : s.heap.IsTuple a its.toArray := pt
    have nia : a ≠ it := fun q => by
      obtain ⟨o, ho, hcl, _⟩ := pt'
      obtain ⟨o2, ho2, hcl2, _⟩ := hit
      rw [q, ho2] at ho
      cases ho
      rw [hcl] at hcl2
      injection hcl2 with z
      exact absurd z (by decide)
    have hn : its.toArray.size = i := by rw [List.size_toArray, ← rv.length]; exact hx
    exact wpAny_pyNext_enum_endD (Draws.tuple (in1_handled (I.ok.hd hc)) it a nia its.toArray) he (by rw [hn]; exact ⟨hit, pt'⟩) fun h' eb => ⟨rfl, I.turned (t' := s.toks) (fun b o hb q => eb b o hb q) f0 f1 f3 f4 f5⟩
  self := fun A i s Q E ⟨⟨_, he⟩, _⟩ h => wpAny_pyIter_enum he h

set_option maxHeartbeats 1000000 in
theorem meets_enum_new {v : Value} {o : Obj} {B : Heap → Prop} (b : Begins v o B) :
    Meets (Builtin.«enumerate.__new__» ⟨[.type "enumerate", v], []⟩) (fun _ R s => B s.heap ∧
      R (.ok (.ret (.ref (s.heap.push o).objs.size))) { s with heap := (s.heap.push o).push { cls := .type "enumerate", data := .fields #[.none, .bool false, .ref s.heap.objs.size, rawInt 0, .none, .none] } }) :=
  .of_wp fun prog w A R s h => by
    obtain ⟨hp, gs, dr, tk, os⟩ := s
    obtain ⟨h1, h2⟩ := h
    have hsub := sub_enumerate
    have go : ∀ {A' : Around} {E : Value → Shared → Prop} {Q : Value → Shared → Prop}, Q (.ref hp.objs.size) ⟨hp.push o, gs, dr, tk, os⟩ → wpAny (model prog w) A' (pyIter v) Q E ⟨hp, gs, dr, tk, os⟩ :=
      fun q => b.iter prog w _ _ ⟨hp, gs, dr, tk, os⟩ _ h1 q
    wp_walk using go
    refine wpAny_stack_any fun st => wpAny_pure ?_
    split
    · rename_i c _ _ _ _ _
      cases (c == Value.type "enumerate")
      all_goals (wp_walk using go; exact ⟨_, rfl, h2⟩)
    · wp_walk using go
      exact ⟨_, rfl, h2⟩
theorem call_enum {prog : Program} {w : World} {A : Around} {E : Value → Shared → Prop} {s : Shared} {v : Value} {o : Obj} {B : Heap → Prop} {Q : Value → Shared → Prop} (b : Begins v o B) (h1 : B s.heap)
    (h : ∀ h', IsEnum h' (s.heap.objs.size + 1) s.heap.objs.size 0 .none → h'.get? s.heap.objs.size = some o → (∀ b o, s.heap.get? b = some o → h'.get? b = some o) → Q (.ref (s.heap.objs.size + 1)) { s with heap := h' }) :
    wpAny (model prog w) A (call (.type "enumerate") [v]) Q E s := by
  refine callType_new F.called_enumerate (by decide) (F.typeCall_enumerate_1 _) (F.newCall_enumerate_1 _) (fun obj => F.args_object_init_2 obj _) F.entry_enumerate_new (meets_enum_new b) ⟨h1, ?_⟩
  have hz : (s.heap.push o).objs.size = s.heap.objs.size + 1 := Heap.size_push ..
  show _ ∧ _
  rw [hz]
  have he := Heap.get?_push_size (s.heap.push o) (o := { cls := .type "enumerate", data := .fields #[.none, .bool false, .ref s.heap.objs.size, rawInt 0, .none, .none] }) rfl
  rw [hz] at he
  exact ⟨⟨_, he, rfl⟩, h _ he (Heap.get?_push_of_some _ (Heap.get?_push_size _ b.free)) fun c u x => Heap.get?_push_of_some _ (Heap.get?_push_of_some _ x)⟩
def iEnumT (K : PySem.W.Frag) (ta : TA) : TI := fun σ H R => ta σ H fun vs H1 => ∃ a xs, vs = [.ref a] ∧ SqT K H1 a xs ∧ R (ItE K a) H1
theorem pi_enumT {e : Expr} {ta : TA} {tpos : Pos} {elts : List Expr} {kk : Nat} (hg : Gl X "enumerate") (hm : X.mg "enumerate" = none) (ha : PA X [e] ta) (hs : starEach [e] X.env = [(false, eval e X.env)] := by rfl) :
    PI X (.Tuple elts kk tpos) (.Call (.Name "enumerate" p) [e] [] pos) (iEnumT X.K ta) := by
  refine ⟨fun pins s σ H R I h => Call_ (ld_blt I hg hm boot_enumerate (PyProof.Rows.callWith_type1 (thn (ha.run pos pins s σ H _ I h) fun us s1 ⟨vs, H1, I1, r1, q1⟩ => ?_) hs rfl))⟩
  obtain ⟨a, xs, ex, hq, q⟩ := q1
  subst ex
  cases r1 with
  | cons r rr =>
    cases rr
    cases r
    obtain ⟨its, rv, pt, hz⟩ := I1.tuple hq
    refine call_enum (begins_tuple a its.toArray) (show s1.heap.IsTuple a its.toArray from pt) fun h' he hit hk => wpAny_pyIter_enum he ?_
    have I2 : Inv X pins σ H1 { s1 with heap := h' } := I1.kept (t' := s1.toks) hk
    refine ⟨s1.heap.objs.size + 1, [s1.heap.objs.size + 1, s1.heap.objs.size], _, _, H1, rfl, I2, turn_enumTup a (s1.heap.objs.size + 1) s1.heap.objs.size, ⟨⟨.none, he⟩, ⟨_, hit, rfl, rfl⟩, Nat.succ_ne_self _⟩, fun b hb => ?_, q⟩
    have hle : s1.heap.objs.size ≤ b := by
      rcases List.mem_cons.mp hb with rfl | hb
      · exact Nat.le_succ _
      · rw [List.mem_singleton.mp hb]; exact Nat.le_refl _
    exact I1.fpOk hle (I1.hok.fresh hle)
/-- enumerate of a list -/
def IteF (K : PySem.W.Frag) (a : Addr) : It :=
  ⟨fun i H => ∃ (xs : List V) (x : V), SqL K H a xs ∧ xs[i]? = some x, fun i H v H' => ∃ T x ob, v = .ref T ∧ H T = none ∧ ob.dict = none ∧ H' = upd H T (.frz ob (.tup [.int (i : Nat), x])) ∧ ∀ xs, SqL K H a xs → xs[i]? = some x, fun i H => ∃ xs : List V, SqL K H a xs ∧ xs.length ≤ i⟩
theorem turn_enumF {P : Program} {w : World} {K : PySem.W.Frag} {elts : List Expr} {kk : Nat} {tpos : Pos} (a e it : Addr) :
    Turn P w K (.Tuple elts kk tpos) (IteF K a) [e, it] e (fun i h => (∃ old, IsEnum h e it ((i : Nat) : Int) old) ∧ h.IsListIter it a i ∧ e ≠ it) where
  mem := by simp
  obj := (turn_enum (P := P) (w := w) (K := K) (elts := elts) (kk := kk) (tpos := tpos) a e it).obj
  keep := (turn_enum (P := P) (w := w) (K := K) (elts := elts) (kk := kk) (tpos := tpos) a e it).keep
  item := by
    intro X hP hw hK hc i pins s σ H E I hf st hg
    subst hP hw hK
    obtain ⟨⟨old, he⟩, hit, hne⟩ := st
    obtain ⟨xs, x, hq, hx⟩ := hg
    obtain ⟨its, rv, p, hz⟩ := I.list hq
    obtain ⟨u, hu, ru⟩ := rv.get hx
    have hel : e < s.heap.objs.size := Heap.lt_size he
    have hil : it < s.heap.objs.size := by obtain ⟨_, q, _⟩ := hit; exact Heap.lt_size q
    refine wpAny_pyNext_enum_item he hit p.isList (x := u) (by simpa using hu) hne fun h' ho hit' hT hsz hk => ?_
    refine ⟨_, rfl, wpAny_letOwnedTupleGo_enum (s := { s with heap := h', toks := s.toks + 1 }) ho fun h'' he' sb => ?_⟩
    have hT2 : h''.get? s.heap.objs.size = some { cls := .type "tuple", data := .seq #[.int i s.toks, u] } := (sb.2 _ (Nat.ne_of_gt hel)).trans hT
    have new : ObjOk X.prog X.w (upd H s.heap.objs.size (.frz { cls := .type "tuple", data := .seq #[.int i s.toks, u] } (.tup [.int (i : Nat), x]))) h'' s.heap.objs.size (.frz { cls := .type "tuple", data := .seq #[.int i s.toks, u] } (.tup [.int (i : Nat), x])) :=
      ⟨hT2, by show 2 ≤ sizeLine; decide, [.int i s.toks, u], .cons ⟨_, rfl⟩ (.cons ru .nil), ⟨_, hT2, rfl, _, rfl⟩⟩
    have I1 : Inv X pins σ (upd H s.heap.objs.size (.frz { cls := .type "tuple", data := .seq #[.int i s.toks, u] } (.tup [.int (i : Nat), x]))) { s with heap := h'', toks := s.toks + 1 } :=
      I.turnedNew (ch := [e, it]) (fun b ob hb q => (sb.2 b (fun z => hb (by simp [z]))).trans (hk b ob (fun z => hb (by simp [z])) (fun z => hb (by simp [z])) q)) hf (Nat.le_refl _) new
    refine ⟨.ref s.heap.objs.size, _, I1, rfl, ⟨_, x, _, rfl, I.hok.fresh (Nat.le_refl _), rfl, rfl, fun ys hy => by rw [I.list_inj hy hq]; exact hx⟩, ⟨⟨u, ?_⟩, hit'.at fun o q => (sb.2 it (Ne.symm hne)).trans q, hne⟩, fun b hb => ?_⟩
    · have e1 : ((i + 1 : Nat) : Int) = (i : Int) + 1 := by omega
      rw [e1]; exact he'
    · have hb' : b < s.heap.objs.size := by
        have e' : b = e ∨ b = it := by simpa using hb
        rcases e' with z | z
        · rw [z]; exact hel
        · rw [z]; exact hil
      rw [upd_ne (Nat.ne_of_lt hb')]
      exact (hf b hb).1
  done := (turn_enum (P := P) (w := w) (K := K) (elts := elts) (kk := kk) (tpos := tpos) a e it).done
  self := (turn_enum (P := P) (w := w) (K := K) (elts := elts) (kk := kk) (tpos := tpos) a e it).self
def iEnumF (K : PySem.W.Frag) (ta : TA) : TI := fun σ H R => ta σ H fun vs H1 => ∃ a xs, vs = [.ref a] ∧ SqL K H1 a xs ∧ R (IteF K a) H1
theorem pi_enumF {e : Expr} {ta : TA} {tpos : Pos} {elts : List Expr} {kk : Nat} (hg : Gl X "enumerate") (hm : X.mg "enumerate" = none) (ha : PA X [e] ta) (hs : starEach [e] X.env = [(false, eval e X.env)] := by rfl) :
    PI X (.Tuple elts kk tpos) (.Call (.Name "enumerate" p) [e] [] pos) (iEnumF X.K ta) := by
  refine ⟨fun pins s σ H R I h => ?_⟩
  refine Call_ (ld_blt I hg hm boot_enumerate (PyProof.Rows.callWith_type1 (thn (ha.run pos pins s σ H _ I h) fun us s1 ⟨vs, H1, I1, r1, q1⟩ => ?_) hs rfl))
  obtain ⟨a, xs, ex, hq, q⟩ := q1
  subst ex
  cases r1 with
  | cons r rr =>
    cases rr
    cases r
    obtain ⟨its, rv, p', hz⟩ := I1.list hq
    refine call_enumerate_list p'.isList fun h' he hit hsz hk => wpAny_pyIter_enum he ?_
    have I2 : Inv X pins σ H1 { s1 with heap := h' } := I1.kept (t' := s1.toks) hk
    refine ⟨s1.heap.objs.size + 1, [s1.heap.objs.size + 1, s1.heap.objs.size], _, _, H1, rfl, I2, turn_enumF a (s1.heap.objs.size + 1) s1.heap.objs.size, ⟨⟨.none, he⟩, hit, Nat.succ_ne_self _⟩, fun b hb => ?_, q⟩
    have hle : s1.heap.objs.size ≤ b := by
      rcases List.mem_cons.mp hb with z | z
      · rw [z]; exact Nat.le_add_right _ _
      · rw [List.mem_singleton.mp z]; exact Nat.le_refl _
    exact I1.fpOk hle (I1.hok.fresh hle)
def enumD : Nat → List D → List D
  | _, [] => []
  | n, x :: xs => .tup [.int (n : Nat), x] :: enumD (n + 1) xs
theorem enumD_get : ∀ {xs : List D} {n i : Nat} {d : D}, (enumD n xs)[i]? = some d → ∃ x, xs[i]? = some x ∧ d = .tup [.int ((n + i : Nat) : Int), x]
  | [], _, _, _, h => by simp [enumD] at h
  | x :: xs, n, 0, d, h => by
    simp only [enumD, List.getElem?_cons_zero, Option.some.injEq] at h
    exact ⟨x, by simp, by rw [← h]; simp⟩
  | x :: xs, n, i + 1, d, h => by
    simp only [enumD, List.getElem?_cons_succ] at h
    obtain ⟨y, h1, h2⟩ := enumD_get h
    exact ⟨y, by simpa using h1, by rw [h2]; congr 4; omega⟩
theorem enumD_len : ∀ (xs : List D) (n : Nat), (enumD n xs).length = xs.length
  | [], _ => rfl
  | x :: xs, n => by simp [enumD, enumD_len xs]
theorem pair_new {x : D} {w : V} {i : Nat} {T : Addr} {ob : Obj} (s : SR K m H S) (hT : H T = none) (hd : ob.dict = none) (r : VR K m H x w) : Ext m H m (upd H T (.frz ob (.tup [.int (i : Nat), w]))) ∧ SR K m (upd H T (.frz ob (.tup [.int (i : Nat), w]))) S ∧ VR K m (upd H T (.frz ob (.tup [.int (i : Nat), w]))) (.tup [.int (i : Nat), x]) (.ref T) :=
  ⟨Ext.tmp hT, s.tmp hT, VR.tupNew hT hd (.cons (by simp only [VR]) (.cons r .nil))⟩
theorem src_enumT {xs : List D} {a : Addr} (h : ∀ m' H', Ext m H m' H' → ∃ vs, SqT K H' a vs ∧ VRs K m' H' xs vs) : SrcOk K m H ⟨enumD 0 xs, noGd⟩ (ItE K a) := fun m' H' S' E s g i => by
  obtain ⟨vs, h1, h2⟩ := h m' H' E
  refine ⟨fun d hd => ?_, fun hi => ⟨vs, h1, by rw [h2.length, ← enumD_len xs 0]; exact hi⟩⟩
  obtain ⟨x, hx, rfl⟩ := enumD_get hd
  obtain ⟨v, h3, h4⟩ := h2.get hx
  refine ⟨⟨vs, v, h1, h3⟩, fun y H2 hy => ?_⟩
  obtain ⟨T, w, ob, rfl, hT, hdn, rfl, hw⟩ := hy
  have e : w = v := Option.some.inj ((hw vs h1).symm.trans h3)
  subst e
  rw [Nat.zero_add]
  exact pair_new s hT hdn h4
theorem src_enumL {xs : List D} {gd : Sto → Prop} {a : Addr} (h : ∀ m' H' S', Ext m H m' H' → SR K m' H' S' → gd S' → ∃ vs, SqL K H' a vs ∧ VRs K m' H' xs vs) : SrcOk K m H ⟨enumD 0 xs, gd⟩ (IteF K a) := fun m' H' S' E s g i => by
  obtain ⟨vs, h1, h2⟩ := h m' H' S' E s g
  refine ⟨fun d hd => ?_, fun hi => ⟨vs, h1, by rw [h2.length, ← enumD_len xs 0]; exact Nat.le_of_eq hi⟩⟩
  obtain ⟨x, hx, rfl⟩ := enumD_get hd
  obtain ⟨v, h3, h4⟩ := h2.get hx
  refine ⟨⟨vs, v, h1, h3⟩, fun y H2 hy => ?_⟩
  obtain ⟨T, w, ob, rfl, hT, hdn, rfl, hw⟩ := hy
  have e : w = v := Option.some.inj ((hw vs h1).symm.trans h3)
  subst e
  rw [Nat.zero_add]
  exact pair_new s hT hdn h4
def kEn (x : D) (S : Sto) : Out Src := match x with
  | .tup xs => .ok ⟨enumD 0 xs, noGd⟩ S
  | .ref n => match S[n]? with
    | some (.lst xs) => .ok ⟨enumD 0 xs, atGd n xs⟩ S
    | _ => .bad
  | _ => .bad
def iEn (f : FE) : FI := fun l S => (f l S).bind kEn
theorem mi_enum {tpos : Pos} {elts : List Expr} {kk : Nat} (hg : Gl X "enumerate") (hm : X.mg "enumerate" = none) (he : ME X W e f) (s1 : starEach [e] X.env = (false, eval e X.env) :: starEach [] X.env := by rfl) (hs : starEach [e] X.env = [(false, eval e X.env)] := by rfl) :
    MI X W (.Tuple elts kk tpos) (.Call (.Name "enumerate" p) [e] [] pos) (iEn f) := ((pi_enumF hg hm (pa_cons he pa_nil s1) hs).or (pi_enumT hg hm (pa_cons he pa_nil s1) hs)).imp fun σ H Q ⟨l, m, S, R, q⟩ => by
  unfold iEn at q
  cases e1 : f l S with
  | bad => rw [e1] at q; exact q.elim
  | ex C fs S1 =>
    rw [e1] at q
    refine .inl ⟨l, m, S, R, ?_⟩
    rw [e1]; exact q
  | ok d S1 =>
    rw [e1] at q
    have q : post X.K W (pI X.K) σ m H Q (kEn d S1) := q
    cases d with
    | tup xs =>
      refine .inr ⟨l, m, S, R, ?_⟩
      rw [e1]
      intro v H1 m1 E1 R1 V1
      simp only [VR] at V1
      obtain ⟨a, vs, rfl, h1, h2⟩ := V1
      exact ⟨a, vs, rfl, h1, q _ H1 m1 E1 R1 (src_enumT fun m' H' E => ⟨vs, SqT.ext E h1, VRs.ext E _ _ h2⟩)⟩
    | ref n =>
      refine .inl ⟨l, m, S, R, ?_⟩
      rw [e1]
      intro v H1 m1 E1 R1 V1
      simp only [kEn] at q
      cases hn : S1[n]? with
      | none => rw [hn] at q; exact q.elim
      | some ob =>
        cases ob with
        | lst xs =>
          rw [hn] at q
          obtain ⟨a, rfl, h0, _, vs, h1, h2⟩ := R1.ref hn V1
          refine ⟨a, vs, rfl, SqL.of h1, q _ H1 m1 E1 R1 (src_enumL fun m' H' S' E s' g => ?_)⟩
          obtain ⟨b, h3, us, h4, h5⟩ := s'.at n _ g
          rw [E.get h0] at h3; cases h3
          exact ⟨us, SqL.of h4, h5⟩
        | _ => rw [hn] at q; exact q.elim
    | _ => exact q.elim
end
end Pz

set_option Elab.async false
set_option linter.all false
set_option maxRecDepth 100000
set_option maxHeartbeats 4000000
/-! Pz11: list comprehensions. -/
namespace Pz
open PySem PySem.Spec PyProof.Rows L2
section
variable {X : Cx} {W : WX} {a b c e elt tg iter : Expr} {rest es ifs : List Expr} {f g h : FE} {p pos : Pos} {K : PySem.W.Frag} {m m' : List Addr} {H H' : Hp} {S S' : Sto}

abbrev WF : WX := fun _ _ _ _ => False
def noX {α : Type} : Out α → Out α
  | .ex _ _ _ => .bad
  | o => o
theorem noX_post {α β : Type} {PR : PRel α β} {σ : L2.St} {Q : β → Hp → Prop} : ∀ {o : Out α}, post K W PR σ m H Q (noX o) → post K WF PR σ m H Q o
  | .ok _ _, q => q
  | .ex _ _ _, q => q.elim
  | .bad, q => q.elim
abbrev MTs (X : Cx) (W : WX) (ifs : List Expr) (f : FT) : Prop := PTs X ifs (tX X.K W pB f)
theorem _root_.L2.PTs.imp {X : Cx} {es : List Expr} {t t' : TT} (h : PTs X es t) (i : ∀ σ H Q, t' σ H Q → t σ H Q) : PTs X es t' := ⟨fun pins s σ H Q I q => h.run pins s σ H Q I (i _ _ _ q)⟩
def tTrue : FT := fun _ S => .ok true S
theorem mts_nil : MTs X W [] tTrue := pts_nil.imp fun σ H Q ⟨l, m, S, R, q⟩ => q true H m .refl R.sr rfl
theorem mts_one {t : FT} (h : MT X W c t) : MTs X W [c] t := pts_one h
def wipeL (l : Loc) : List Nat → Loc
  | [] => l
  | v :: vs => (wipeL l vs).set v none
theorem Rel.wipe {l : Loc} {σ : L2.St} (R : Rel K l σ m S H) : ∀ vs : List Nat, Rel K (wipeL l vs) (L2.wipe σ vs) m S H
  | [] => R
  | v :: vs => by
    have r := Rel.wipe R vs
    refine ⟨r.sr, by simp only [wipeL, L2.wipe, List.length_set]; exact r.len, fun i d h => ?_⟩
    simp only [wipeL] at h
    by_cases e : i = v
    · subst e
      have hl := (List.getElem?_eq_some_iff.mp h).1
      rw [List.length_set] at hl
      rw [List.getElem?_set_self hl] at h
      cases h
    · rw [List.getElem?_set_ne (Ne.symm e)] at h
      obtain ⟨w, h1, h2⟩ := r.at i d h
      exact ⟨w, by simp only [L2.wipe]; rw [List.getElem?_set_ne (Ne.symm e)]; exact h1, h2⟩
theorem Ext.notin {m m' : List Addr} {H H' : Hp} {a : Addr} (e : Ext m H m' H') (h : a ∉ m) (hs : H a ≠ none) : a ∉ m' := fun hm => by
  obtain ⟨ν, rfl, q⟩ := e.mu
  rcases List.mem_append.mp hm with hm | hm
  · exact h hm
  · exact hs (q a hm)
theorem wipe_get {σ : L2.St} {i : Nat} : ∀ {vs : List Nat}, i ∈ vs → i < σ.length → (L2.wipe σ vs)[i]? = some none
  | v :: vs, h, hl => by
    simp only [L2.wipe]
    by_cases e : i = v
    · subst e
      rw [List.getElem?_set_self (by rw [wipe_length]; exact hl)]
    · rw [List.getElem?_set_ne (Ne.symm e)]
      exact wipe_get ((List.mem_cons.mp h).resolve_left e) hl
theorem wipe_out {σ : L2.St} {i : Nat} : ∀ {vs : List Nat}, i ∉ vs → (L2.wipe σ vs)[i]? = σ[i]?
  | [], _ => rfl
  | v :: vs, h => by
    simp only [L2.wipe]
    rw [List.getElem?_set_ne fun q => h (by rw [q]; exact List.mem_cons_self)]
    exact wipe_out fun q => h (List.mem_cons_of_mem _ q)
theorem wipe_wipe (σ : L2.St) (vs : List Nat) : L2.wipe (L2.wipe σ vs) vs = L2.wipe σ vs := by
  refine List.ext_getElem? fun i => ?_
  by_cases h : i ∈ vs
  · by_cases hl : i < σ.length
    · rw [wipe_get h (by rw [wipe_length]; exact hl), wipe_get h hl]
    · rw [List.getElem?_eq_none (by rw [wipe_length, wipe_length]; omega), List.getElem?_eq_none (by rw [wipe_length]; omega)]
  · rw [wipe_out h]
/-- a list that stands outside the store is written -/
theorem VRs.over {ds : List D} {vs : List V} {q : Addr} {ws us : List V} (hq : H q = some (.lst ws)) (r : VRs K m H ds vs) : VRs K m (upd H q (.lst us)) ds vs :=
  VRs.mono (fun _ _ h => h) (fun a xs h => by rw [upd_ne (ne_of h hq (by intro z; cases z))]; exact h) (fun a o u h => by rw [upd_ne (ne_of h hq (by intro z; cases z))]; exact h) _ _ r
theorem AR.over {κ : Type} {ds : List (κ × D)} {vs : List (κ × V)} {q : Addr} {ws us : List V} (hq : H q = some (.lst ws)) (r : AR K m H ds vs) : AR K m (upd H q (.lst us)) ds vs :=
  AR.mono (fun _ _ h => h) (fun a xs h => by rw [upd_ne (ne_of h hq (by intro z; cases z))]; exact h) (fun a o u h => by rw [upd_ne (ne_of h hq (by intro z; cases z))]; exact h) _ _ r
theorem SR.over {q : Addr} {ws us : List V} (s : SR K m H S) (hq : H q = some (.lst ws)) (hn : q ∉ m) : SR K m (upd H q (.lst us)) S := ⟨s.len, s.nd, fun n o ho => by
  obtain ⟨a, h1, h2⟩ := s.at n o ho
  have ha : a ≠ q := fun e => hn (by rw [← e]; exact List.mem_of_getElem? h1)
  refine ⟨a, h1, ?_⟩
  cases o with
  | lst xs => obtain ⟨vs, h3, h4⟩ := h2; exact ⟨vs, by rw [upd_ne ha]; exact h3, VRs.over hq h4⟩
  | dk xs => obtain ⟨vs, h3, h4⟩ := h2; exact ⟨vs, by rw [upd_ne ha]; exact h3, AR.over hq h4⟩
  | ins C fs => obtain ⟨dx, vs, h3, h4⟩ := h2; exact ⟨dx, vs, by rw [upd_ne ha]; exact h3, AR.over hq h4⟩
  | dn xs => obtain ⟨vs, h3, h4⟩ := h2; exact ⟨vs, by rw [upd_ne ha]; exact h3, AR.over hq h4⟩, by
  obtain ⟨o, u, h⟩ := s.sys
  exact ⟨o, u, by rw [upd_ne (ne_of h hq (by intro z; cases z))]; exact h⟩⟩
theorem Ext.over1 {m m' : List Addr} {H H' : Hp} {q : Addr} {ho : HO} (h0 : H q = none) (e : Ext m H m' H') : Ext m H m' (upd H' q ho) := by
  have ne : ∀ {a o}, H a = some o → a ≠ q := fun {a o} h z => by rw [z, h0] at h; cases h
  refine ⟨e.mu, fun a xs h => by rw [upd_ne (ne h)]; exact e.tup a xs h, fun a o u h => by rw [upd_ne (ne h)]; exact e.frz a o u h, fun a o h hn => by rw [upd_ne (ne h)]; exact e.oth a o h hn, fun a h => ?_⟩
  by_cases z : a = q
  · rw [z]; exact h0
  · rw [upd_ne z] at h; exact e.dom a h
open Classical in
noncomputable def lcL (gd : Sto → Prop) (t : Tg) (tt : FT) (te : FE) (l : Loc) : List D → List D → Sto → Out LV
  | [], acc, S => if gd S then .ok (.tmp acc) S else .bad
  | x :: xs, acc, S => if gd S then match t.put x l with
      | some l1 => (noX (tt l1 S)).bind fun k S1 => if k then (noX (te l1 S1)).bind fun y S2 => lcL gd t tt te l xs (acc ++ [y]) S2 else lcL gd t tt te l xs acc S1
      | none => .bad
    else .bad
noncomputable def lComp (vs : List Nat) (fi : FI) (t : Tg) (tt : FT) (te : FE) : FL := fun l S => (fi l S).bind fun x S1 => if x.its.length ≤ sizeLine then lcL x.gd t tt te (wipeL l vs) x.its [] S1 else .bad
theorem tX_lc {fi : FI} {t : Tg} {tt : FT} {te : FE} {vs : List Nat} (hv : t.slots.all (fun i => vs.contains i) = true) {σ : L2.St} {H : Hp} {Q : VK} (q : tX K W (pL K) (lComp vs fi t tt te) σ H Q) :
    tLc (tX K W (pI K) fi) (tG K t) (tX K WF pB tt) (tX K WF (pD K) te) vs σ H Q := by
  obtain ⟨l, m, S, R, q⟩ := q
  refine ⟨l, m, S, R, post.bind (PR := pI K) anti_L q fun x S1 J H1 m1 E1 R1 V1 q1 D hD => ?_⟩
  split at q1
  · rename_i hz
    have hsl : ∀ i ∈ t.slots, i ∈ vs := fun i hi => by
      have := List.all_eq_true.mp hv i hi
      simpa using this
    have ED : Ext m1 H1 m1 (upd H1 D (.lst [])) := Ext.tmp hD
    have RW : Rel K (wipeL l vs) (L2.wipe σ vs) m1 S1 H1 := (R.ext E1 R1).wipe vs
    refine ⟨fun i k H' => k = x.its.length - i ∧ i ≤ x.its.length ∧ ∃ m' S' acc ws, Ext m1 H1 m' H' ∧ SR K m' H' S' ∧ H' D = some (.lst ws) ∧ D ∉ m' ∧ VRs K m' H' acc ws ∧ acc.length ≤ i ∧ post K W (pL K) σ m1 H1 Q (lcL x.gd t tt te (wipeL l vs) (x.its.drop i) acc S'),
      ⟨_, rfl, Nat.zero_le _, m1, S1, [], [], ED, R1.tmp hD, upd_same, R1.notin hD, .nil, Nat.le_refl _, q1⟩, ?_⟩
    rintro i k H' ⟨rfl, hi, m', S', acc, ws, E', R', hH, hn, hacc, hal, q'⟩
    by_cases hlt : i < x.its.length
    · rw [List.drop_eq_getElem_cons hlt] at q'
      simp only [lcL] at q'
      split at q'
      · rename_i hgd
        obtain ⟨h1, _⟩ := V1 m' H' S' E' R' hgd i
        obtain ⟨h2, h3⟩ := h1 x.its[i] (by simp [hlt])
        refine .inr ⟨h2, fun H2 => ∃ m2 S2 acc ws, Ext m1 H1 m2 H2 ∧ SR K m2 H2 S2 ∧ H2 D = some (.lst ws) ∧ D ∉ m2 ∧ VRs K m2 H2 acc ws ∧ acc.length ≤ i + 1 ∧ post K W (pL K) σ m1 H1 Q (lcL x.gd t tt te (wipeL l vs) (x.its.drop (i + 1)) acc S2),
          fun H2 h => ⟨x.its.length - (i + 1), by omega, rfl, hlt, h⟩, fun y H2 hy => ?_⟩
        obtain ⟨h4, h5, h6⟩ := h3 y H2 hy
        cases e1 : t.put x.its[i] (wipeL l vs) with
        | none => rw [e1] at q'; exact q'.elim
        | some l1 =>
          rw [e1] at q'
          refine ⟨wipeL l vs, m', S', x.its[i], l1, RW.ext (E'.trans h4) h5, h6, e1, fun σ3 R3 w3 => ⟨?_, l1, m', S', R3, ?_⟩⟩
          · have := w3 vs hsl
            rw [this]
            have ww : ∀ us : List Nat, L2.wipe (L2.wipe σ us) us = L2.wipe σ us := wipe_wipe σ
            exact ww vs
          · -- the test
            have q2 : post K W (pL K) σ m1 H1 Q ((noX (tt l1 S')).bind fun k S1 => if k then (noX (te l1 S1)).bind fun y S2 => lcL x.gd t tt te (wipeL l vs) (x.its.drop (i + 1)) (acc ++ [y]) S2 else lcL x.gd t tt te (wipeL l vs) (x.its.drop (i + 1)) acc S1) := q'
            cases e2 : tt l1 S' with
            | bad => rw [e2] at q2; exact q2.elim
            | ex C fs S2 => rw [e2] at q2; exact q2.elim
            | ok kk S2 =>
              rw [e2] at q2
              have q2 : post K W (pL K) σ m1 H1 Q (if kk then (noX (te l1 S2)).bind fun y S2 => lcL x.gd t tt te (wipeL l vs) (x.its.drop (i + 1)) (acc ++ [y]) S2 else lcL x.gd t tt te (wipeL l vs) (x.its.drop (i + 1)) acc S2) := q2
              intro bb H3 m3 E3 R4 eb
              subst eb
              have E13 := E'.trans (h4.trans E3)
              have hH3 : H3 D = some (.lst ws) := E3.oth _ _ (h4.oth _ _ hH hn) hn
              have hn3 : D ∉ m3 := E3.notin hn (by rw [h4.oth _ _ hH hn]; exact fun q => by cases q)
              have hacc3 := VRs.ext (h4.trans E3) _ _ hacc
              cases kk with
              | false =>
                rw [if_neg (by decide)] at q2 ⊢
                exact ⟨m3, S2, acc, ws, E13, R4, hH3, hn3, hacc3, by omega, q2⟩
              | true =>
                rw [if_pos rfl] at q2 ⊢
                refine ⟨l1, m3, S2, R3.ext E3 R4, ?_⟩
                cases e3 : te l1 S2 with
                | bad => rw [e3] at q2; exact q2.elim
                | ex C fs S3 => rw [e3] at q2; exact q2.elim
                | ok d S3 =>
                  rw [e3] at q2
                  intro w H4 m4 E4 R5 V4
                  have hH4 : H4 D = some (.lst ws) := E4.oth _ _ hH3 hn3
                  have hn4 : D ∉ m4 := E4.notin hn3 (by rw [hH3]; exact fun q => by cases q)
                  have hacc4 := VRs.ext E4 _ _ hacc3
                  refine ⟨ws, hH4, by rw [hacc4.length]; omega, m4, S3, acc ++ [d], ws ++ [w], ?_, R5.over hH4 hn4, upd_same, hn4, VRs.over hH4 (hacc4.append (.cons V4 .nil)), by simp; omega, q2⟩
                  exact Ext.over1 hD (E13.trans E4)
      · exact q'.elim
    · have e : i = x.its.length := by omega
      subst e
      rw [List.drop_length] at q'
      simp only [lcL] at q'
      split at q'
      · rename_i hgd
        refine .inl ⟨(V1 m' H' S' E' R' hgd _).2 rfl, q' _ H' m' E' R' ⟨D, ws, rfl, hH, hn, hD, hacc⟩⟩
      · exact q'.elim
  · exact q1.elim

theorem ml_lc {scope : Scope} {own : List (Str × Nat)} {fi : FI} {t : Tg} {tt : FT} {te : FE} (hc : X.calm = true) (hN : X.N.Nodup) (hi : MI X W tg iter fi) (ok : BlkOk X.N X.env.scope scope own)
    (hg : ∀ (s : Shared) (H : Hp) (C : Addr) (cl : List (Str × Addr)) (fp : List Addr), MG (X.blk s H scope (compEnvC scope cl C X.env) fp) tg t) (ht : ∀ (s : Shared) (H : Hp) (C : Addr) (cl : List (Str × Addr)) (fp : List Addr), MTs (X.blk s H scope (compEnvC scope cl C X.env) fp) WF ifs tt)
    (he : ∀ (s : Shared) (H : Hp) (C : Addr) (cl : List (Str × Addr)) (fp : List Addr), ME (X.blk s H scope (compEnvC scope cl C X.env) fp) WF elt te)
    (hv : t.slots.all (fun i => (own.map (·.2)).contains i) = true := by rfl) (hs : ∀ x, foldedSetIterable iter X.env x = pure x := by intro _; rfl) : ML X W (.ListComp elt [⟨tg, iter, ifs, 0⟩] scope pos) (lComp (own.map (·.2)) fi t tt te) :=
  (pe_lc hc hN hi ok hg ht he hs).imp fun σ H Q q => tX_lc hv q
theorem ms_setLc {i : Nat} {y : Str} {py spos : Pos} {scope : Scope} {own : List (Str × Nat)} {fi : FI} {t : Tg} {tt : FT} {te : FE} (hc : X.calm = true) (hN : X.N.Nodup) (hy : X.N[i]? = some y) (hyl : X.env.scope.names.lookup y = some .local)
    (hsw : swapsWith (.ListComp elt [⟨tg, iter, ifs, 0⟩] scope pos) (some (.Name y py)) spos.line X.env = pure true) (hi : MI X W tg iter fi) (ok : BlkOk X.N X.env.scope scope own)
    (hg : ∀ (s : Shared) (H : Hp) (C : Addr) (cl : List (Str × Addr)) (fp : List Addr), MG (X.blk s H scope (compEnvC scope cl C X.env) fp) tg t) (ht : ∀ (s : Shared) (H : Hp) (C : Addr) (cl : List (Str × Addr)) (fp : List Addr), MTs (X.blk s H scope (compEnvC scope cl C X.env) fp) WF ifs tt)
    (he : ∀ (s : Shared) (H : Hp) (C : Addr) (cl : List (Str × Addr)) (fp : List Addr), ME (X.blk s H scope (compEnvC scope cl C X.env) fp) WF elt te)
    (hv : t.slots.all (fun i => (own.map (·.2)).contains i) = true := by rfl) (hs : ∀ x, foldedSetIterable iter X.env x = pure x := by intro _; rfl) : MS X W (.Assign [.Name y py] (.ListComp elt [⟨tg, iter, ifs, 0⟩] scope pos) spos) (sSet (.nm i) (eL (lComp (own.map (·.2)) fi t tt te))) :=
  (ps_setLc hc hN hy hyl hsw hi ok hg ht he hs).imp fun D' σ H ⟨l, m, S, R, q⟩ => tX_lc hv (tX_eL ⟨l, m, S, R, postS.bind (PR := pD X.K) R q fun d S1 w H1 m1 E1 R1 V1 R2 q1 => q1 _ H1 m1 .refl (R2.put V1)⟩)
end
end Pz

set_option Elab.async false
set_option linter.all false
set_option maxRecDepth 100000
set_option maxHeartbeats 4000000
/-! Pz12: == [] and == (), stores by place, repr, sorted, len(set(..)), dicts that are written and asked at once, names of the module. -/
namespace Pz
open PySem PySem.Spec PyProof.Rows L2
section
variable {X : Cx} {W : WX} {a b c e : Expr} {rest es : List Expr} {f g h : FE} {p pos : Pos} {K : PySem.W.Frag} {m m' : List Addr} {H H' : Hp} {S S' : Sto} {q s : FQ}

/-! ### == [], != [], == (), != () -/
def rNilL (K : PySem.W.Frag) (k : Bool → Bool) : R2 := fun x y H Q => ∃ a b xs, x = .ref a ∧ y = .ref b ∧ SqL K H a xs ∧ SqL K H b [] ∧ Q (.bl (k xs.isEmpty)) H
def rNilT (K : PySem.W.Frag) (k : Bool → Bool) : R2 := fun x y H Q => ∃ a b xs, x = .ref a ∧ y = .ref b ∧ SqT K H a xs ∧ SqT K H b [] ∧ Q (.bl (k xs.isEmpty)) H
theorem op_eqNilL (hu : X.A.units < cLine) : OpR X (compareOp .Eq) (rNilL X.K id) := by
  intro pins s σ H x y v u Q I rx ry ⟨a, b, xs, ex, ey, h1, h2, q⟩
  subst ex ey
  cases rx
  cases ry
  obtain ⟨its, r, l1, _⟩ := I.list h1
  obtain ⟨its2, r2, l2, _⟩ := I.list h2
  cases r2
  cases xs with
  | nil =>
    cases r
    exact SeqAt.eq_listAt (e := fun _ => true) l1.isList l2.isList rfl hu (fun j h1 _ => absurd h1 (by simp)) ⟨.bl true, H, I, rfl, q⟩
  | cons z zs =>
    cases r
    exact SeqAt.eq_list_lengthsAt l1.isList l2.isList (by simp) hu ⟨.bl false, H, I, rfl, q⟩
theorem op_neNilL (hu : X.A.units < cLine) : OpR X (compareOp .NotEq) (rNilL X.K not) := by
  intro pins s σ H x y v u Q I rx ry ⟨a, b, xs, ex, ey, h1, h2, q⟩
  subst ex ey
  cases rx
  cases ry
  obtain ⟨its, r, l1, _⟩ := I.list h1
  obtain ⟨its2, r2, l2, _⟩ := I.list h2
  cases r2
  cases xs with
  | nil =>
    cases r
    exact SeqAt.RcNeAt.lists (e := fun _ => true) l1.isList l2.isList rfl hu (fun j h1 _ => absurd h1 (by simp)) _ _ _ _ ⟨.bl false, H, I, rfl, q⟩
  | cons z zs =>
    cases r
    exact SeqAt.RcNeAt.lists_lengths l1.isList l2.isList (by simp) hu _ _ _ _ ⟨.bl true, H, I, rfl, q⟩
theorem op_eqNilT (hu : X.A.units < cLine) : OpR X (compareOp .Eq) (rNilT X.K id) := by
  intro pins s σ H x y v u Q I rx ry ⟨a, b, xs, ex, ey, h1, h2, q⟩
  subst ex ey
  cases rx
  cases ry
  obtain ⟨its, r, l1, _⟩ := I.tuple h1
  obtain ⟨its2, r2, l2, _⟩ := I.tuple h2
  cases r2
  refine SeqAt.eq_tupleAt (e := fun _ => true) (show s.heap.IsTuple a its.toArray from l1) (show s.heap.IsTuple b #[] from l2) hu (fun j _ h2 => absurd h2 (by simp)) ⟨.bl _, H, I, rfl, ?_⟩
  cases r with
  | nil => exact q
  | cons _ _ => exact q
theorem op_neNilT (hu : X.A.units < cLine) : OpR X (compareOp .NotEq) (rNilT X.K not) := by
  intro pins s σ H x y v u Q I rx ry ⟨a, b, xs, ex, ey, h1, h2, q⟩
  subst ex ey
  cases rx
  cases ry
  obtain ⟨its, r, l1, _⟩ := I.tuple h1
  obtain ⟨its2, r2, l2, _⟩ := I.tuple h2
  cases r2
  refine SeqAt.RcNeAt.tuples (e := fun _ => true) (show s.heap.IsTuple a its.toArray from l1) (show s.heap.IsTuple b #[] from l2) hu (fun j _ h2 => absurd h2 (by simp)) _ _ _ _ ⟨.bl _, H, I, rfl, ?_⟩
  cases r with
  | nil => exact q
  | cons _ _ => exact q
def oEmp (k : Bool → Bool) (xs : List D) (S : Sto) : Out D := .ok (.bl (k xs.isEmpty)) S
def eNil (k : Bool → Bool) (s : FQ) : FE := fun l S => (s l S).bind (oEmp k)
theorem empty_vs {xs : List D} {vs : List V} (h : VRs K m H xs vs) : vs.isEmpty = xs.isEmpty := by
  cases xs with
  | nil => simp only [VRs] at h; subst h; rfl
  | cons x xs => simp only [VRs] at h; obtain ⟨v, r, rfl, _⟩ := h; rfl
theorem SqL.tmp {a : Addr} {t : Addr} {ho : HO} {vs : List V} (ht : H t = none) (h : SqL K H a vs) : SqL K (upd H t ho) a vs := by
  have ne : ∀ {o}, H a = some o → a ≠ t := fun {o} h q => by rw [q, ht] at h; cases h
  rcases h with (h | ⟨o, h⟩) | h
  · exact .inl (.inl (by rw [upd_ne (ne h)]; exact h))
  · exact .inl (.inr ⟨o, by rw [upd_ne (ne h)]; exact h⟩)
  · exact .inr h
theorem nilL_tX {k : Bool → Bool} {σ : L2.St} {Q : VK} (q : tX K W (pD K) (eNil k s) σ H Q) : tOp (rNilL K k) (tX K W (pS K) s) (tLst tNil) σ H Q := by
  obtain ⟨l, m, S, R, q⟩ := q
  refine ⟨l, m, S, R, post.bind (PR := pS K) anti_D q fun xs S1 v H1 m1 E1 R1 ⟨p, vs, h1, h2, h3⟩ q1 => ⟨Nat.zero_le _, fun t ht => ⟨p, t, vs, h1, rfl, SqL.tmp ht h2, SqL.of upd_same, ?_⟩⟩⟩
  rw [empty_vs h3]
  exact q1 _ _ m1 (Ext.tmp ht) (R1.tmp ht) (by simp only [VR])
theorem nilT_tX {k : Bool → Bool} {σ : L2.St} {Q : VK} (q : tX K W (pD K) (e1 (fun d S => match d with | .tup xs => oEmp k xs S | _ => .bad) f) σ H Q) : tOp (rNilT K k) (tX K W (pD K) f) (tTup tNil) σ H Q := by
  obtain ⟨l, m, S, R, q⟩ := q
  refine ⟨l, m, S, R, post.bind (PR := pD K) anti_D q fun x S1 v H1 m1 E1 R1 V1 q1 => ⟨Nat.zero_le _, fun t ht => ?_⟩⟩
  cases x with
  | tup xs =>
    simp only [VR] at V1
    obtain ⟨p, vs, rfl, h2, h3⟩ := V1
    refine ⟨p, t, vs, rfl, rfl, SqT.ext (Ext.tmp (m := []) ht) h2, SqT.of upd_same, ?_⟩
    rw [empty_vs h3]
    exact q1 _ _ m1 (Ext.tmp ht) (R1.tmp ht) (by simp only [VR])
  | _ => exact q1.elim
def oEmpT (k : Bool → Bool) (d : D) (S : Sto) : Out D := match d with
  | .tup xs => oEmp k xs S
  | _ => .bad
theorem me_eqNil {p1 : Pos} (hu : X.A.units + 64 < cLine) (ha : MS' X W a s) : ME X W (.Compare a [.Eq] [.List [] p1] pos) (eNil id s) := (pe_cmpR (op_eqNilL (by omega)) ha (pe_lst pa_nil) (nomark _)).imp fun σ H Q q => nilL_tX q
theorem me_neNil {p1 : Pos} (hu : X.A.units + 64 < cLine) (ha : MS' X W a s) : ME X W (.Compare a [.NotEq] [.List [] p1] pos) (eNil not s) := (pe_cmpR (op_neNilL (by omega)) ha (pe_lst pa_nil) (nomark _)).imp fun σ H Q q => nilL_tX q
theorem tst_of {t : TE} {ff : FE} (i : ∀ σ H Q, tX K W (pD K) ff σ H Q → t σ H Q) {σ : L2.St} {Q : Bool → Hp → Prop} (q : tX K W pB (eT ff) σ H Q) : tTest t σ H Q := i _ _ _ (tX_tst q)
theorem mt_eqNil {p1 : Pos} (hu : X.A.units + 64 < cLine) (ha : MS' X W a s) : MT X W (.Compare a [.Eq] [.List [] p1] pos) (eT (eNil id s)) := (pt_cmpR (op_eqNilL (by omega)) ha (pe_lst pa_nil) (nomark _)).imp fun σ H Q q => tst_of (fun _ _ _ q => nilL_tX q) q
theorem mt_neNil {p1 : Pos} (hu : X.A.units + 64 < cLine) (ha : MS' X W a s) : MT X W (.Compare a [.NotEq] [.List [] p1] pos) (eT (eNil not s)) := (pt_cmpR (op_neNilL (by omega)) ha (pe_lst pa_nil) (nomark _)).imp fun σ H Q q => tst_of (fun _ _ _ q => nilL_tX q) q
theorem mt_eqTup0 {x1 : Nat} {p1 : Pos} (hu : X.A.units + 64 < cLine) (ha : ME X W a f) : MT X W (.Compare a [.Eq] [.Tuple [] x1 p1] pos) (eT (e1 (oEmpT id) f)) := (pt_cmpR (op_eqNilT (by omega)) ha (pe_tup pa_nil) (nomark _)).imp fun σ H Q q => tst_of (fun _ _ _ q => nilT_tX q) q
theorem mt_neTup0 {x1 : Nat} {p1 : Pos} (hu : X.A.units + 64 < cLine) (ha : ME X W a f) : MT X W (.Compare a [.NotEq] [.Tuple [] x1 p1] pos) (eT (e1 (oEmpT not) f)) := (pt_cmpR (op_neNilT (by omega)) ha (pe_tup pa_nil) (nomark _)).imp fun σ H Q q => tst_of (fun _ _ _ q => nilT_tX q) q

/-! ### xs[i] = e -/
def oSetIx (v x y : D) (S : Sto) : Option Sto := match x, y with
  | .ref n, .int i => match S[n]? with
    | some (.lst xs) => match ixN xs.length i with
      | some j => some (S.set n (.lst (xs.set j v)))
      | none => none
    | _ => none
  | _, _ => none
def sSetIx (f g h : FE) : FS := fun l S => toS l (f l S) fun v S1 => toS l (g l S1) fun x S2 => toS l (h l S2) fun y S3 => match oSetIx v x y S3 with
  | some S4 => .nx l S4
  | none => .bad
theorem ms_setIx {o i : Expr} {p1 : Pos} (he : ME X W e f) (ho : ME X W o g) (hi : ME X W i h) (hs : swapsWithSole [.Subscript o i p1] e pos.line X.env = pure false := by rfl) (hw : swappedStores [.Subscript o i p1] e X.env = pure none := by rfl)
    (h1 : (assignEach [.Subscript o i p1] X.env).map (·.2) = [assign (.Subscript o i p1) X.env] := by rfl)
    (h2 : ∀ v, assign (.Subscript o i p1) X.env v = (do let ov ← holding [v] (eval o X.env); let iv ← holding [v, ov] (eval i X.env); standAt p1; holding [v, ov, iv] (setItem ov iv v); release [v, ov, iv] []) := by intro _; rfl) : MS X W (.Assign [.Subscript o i p1] e pos) (sSetIx f g h) :=
  (ps_asg he (pg_sub ho hi set_list h2) hs hw h1).imp fun D' σ H ⟨l, m, S, R, q⟩ => ⟨l, m, S, R, postS.bind (PR := pD X.K) R q fun d S1 w H1 m1 E1 R1 V1 R2 q1 => ⟨l, m1, S1, R2, postS.bind (PR := pD X.K) R2 q1 fun x S2 v H2 m2 E2 R3 V2 R4 q2 =>
    ⟨l, m2, S2, R4, postS.bind (PR := pD X.K) R4 q2 fun y S3 u H3 m3 E3 R5 V3 R6 q3 => by
      cases e4 : oSetIx d x y S3 with
      | none => rw [e4] at q3; exact q3.elim
      | some S4 =>
        rw [e4] at q3
        unfold oSetIx at e4
        split at e4
        · rename_i n i
          split at e4
          · rename_i xs hn
            split at e4
            · rename_i j hj
              cases e4
              have V2 := VR.ext E3 _ _ V2
              have V1 := VR.ext (E2.trans E3) _ _ V1
              obtain ⟨p, vs, rfl, h8, h2, h3⟩ := R5.setL (ys := xs.set j d) hn V2
              simp only [VR] at V3
              obtain ⟨e', s'⟩ := h3 (vs.set j w) (h2.set V1 j)
              exact ⟨p, vs, i, j, rfl, V3, h8, by rw [h2.length]; exact hj, q3 σ _ m3 e' (R6.ext e' s')⟩
            · cases e4
          · cases e4
        · cases e4⟩⟩⟩
end
end Pz

set_option Elab.async false
set_option linter.all false
set_option maxRecDepth 100000
set_option maxHeartbeats 4000000
/-! Pz13: repr, t[::-1], {..}.get(k, d), names of the module. -/
namespace Pz
open PySem PySem.Spec PyProof.Rows L2

/-! ### t[::-1] -/
section
variable {prog : Program} {w : World} {A : Around} {E : Value → Shared → Prop} {s : Shared}
theorem fm_map {α β : Type} {F : α → Option β} {g : α → β} : ∀ {l : List α}, (∀ i ∈ l, F i = some (g i)) → l.filterMap F = l.map g
  | [], _ => rfl
  | x :: xs, h => by
    rw [List.filterMap_cons, h x List.mem_cons_self, List.map_cons, fm_map fun i hi => h i (List.mem_cons_of_mem _ hi)]
theorem rev_pick (xs : Array Value) : ((List.range xs.size).filterMap fun (i : Nat) => xs[((xs.size : Int) - 1 + (i : Int) * -1).toNat]?).toArray = xs.toList.reverse.toArray := by
  congr 1
  have h : ∀ i ∈ List.range xs.size, xs[((xs.size : Int) - 1 + (i : Int) * -1).toNat]? = some (xs.toList.reverse.getD i .none) := fun i hi => by
    have hi := List.mem_range.mp hi
    have e : ((xs.size : Int) - 1 + (i : Int) * -1).toNat = xs.size - 1 - i := by omega
    rw [e, List.getD_eq_getElem?_getD, List.getElem?_reverse (by simpa using hi)]
    have hl : xs.size - 1 - i < xs.size := by omega
    simp [hl]
  have e2 : (List.range xs.size).filterMap (fun (i : Nat) => xs[((xs.size : Int) - 1 + (i : Int) * -1).toNat]?) = (List.range xs.size).map fun i => xs.toList.reverse.getD i .none := fm_map h
  rw [e2]
  refine List.ext_getElem? fun i => ?_
  rw [List.getElem?_map]
  by_cases hi : i < xs.size
  · rw [List.getElem?_range hi]
    simp [hi]
  · rw [List.getElem?_eq_none (by simpa using hi), List.getElem?_eq_none (by simpa using hi)]; rfl
theorem getItem_tup_rev {t sl : Addr} {items : Array Value} {vs : Value} {Q : Value → Shared → Prop} (ht : IsTup s.heap t items) (hs : s.heap.IsSliceOf sl .none .none vs) (ps : IsPart vs (some (-1)))
    (h : Q (.ref s.heap.objs.size) { s with heap := s.heap.push { cls := .type "tuple", data := .seq items.toList.reverse.toArray } }) (hsz : items.size ≤ sizeLine) : wpAny (model prog w) A (getItem (.ref t) (.ref sl)) Q E s := by
  have hok : sizeOk (.seq items.toList.reverse.toArray) := by show items.toList.reverse.toArray.size ≤ sizeLine; simpa using hsz
  obtain ⟨os, hos, hcs, hds⟩ := id hs
  have hT : s.TypeIs (.ref sl) "slice" := ⟨os, hos, hcs⟩
  unfold getItem
  try with_reducible refine wpAny_holding ?_
  first | refine wpAny_bind (wpAny_pure ?_) | skip
  refine wpAny_bind (wpAny_sequenceKey ht.typeIs (by decide) ?_)
  refine wpAny_bind (wpAny_callSpecial?_slot (name := Str.ofString "__getitem__") ht.typeIs PyProof.Rows.slot_tuple_getitem (wpAny_call_entry PyProof.Rows.slot_tuple_getitem ht.typeIs entry_tuple_getitem ?_ (args_tuple_getitem _ _)))
  show wpAny _ _ (Builtin.Tuple.tupleItemsOf (.ref t) >>= _) _ _ s
  refine wpAny_bind (tupleItemsOf_ ht (wpAny_bind (wpAny_typeOf hT ?_)))
  rw [if_pos (by decide)]
  refine wpAny_bind ?_
  unfold Builtin.Slice.sliceApplied Builtin.Slice.sliceFields
  refine wpAny_bind (wpAny_bind (wpAny_field hos hds (x := .none) rfl (wpAny_bind (wpAny_field hos hds (x := .none) rfl (wpAny_bind (wpAny_field hos hds (x := vs) rfl (wpAny_pure ?_)))))))
  refine wpAny_bind (HT.slicePart_ ps ?_)
  show wpAny _ _ (if ((-1 : Int) == 0) = true then _ else _) _ _ s
  rw [if_neg (by decide)]
  refine wpAny_bind (slicePart_none (wpAny_bind (slicePart_none (wpAny_bind (wpAny_pure ?_)))))
  have e1 : Builtin.Slice.slicePlaces ((items.size : Int) - 1) (-1) (-1) = items.size := by
    simp only [Builtin.Slice.slicePlaces]
    rw [if_neg (by decide)]
    split
    · have : ((items.size : Int) - 1 - -1 - 1) / (- -1) + 1 = items.size := by
        rw [show (- -1 : Int) = 1 by decide, Int.ediv_one]; omega
      rw [this]; simp
    · simp; omega
  show wpAny _ _ (pure ((items.size : Int) - 1, (-1 : Int), Builtin.Slice.slicePlaces ((items.size : Int) - 1) (-1) (-1))) _ _ s
  rw [e1]
  refine wpAny_pure ?_
  have hno : ¬ ((((items.size : Int) - 1) == 0 && (-1 : Int) == 1 && items.size == items.size) = true) := by simp
  show wpAny _ _ (if ((((items.size : Int) - 1) == 0 && (-1 : Int) == 1 && items.size == items.size) = true) then _ else _) _ _ s
  rw [if_neg hno, rev_pick]
  first
    | exact wpAny_bind (m := Builtin.Tuple.tupleExact _) (wpAny_newObj_type (wpAny_pure ⟨_, rfl, wpAny_pure h⟩) hok)
    | exact wpAny_bind (m := Builtin.Tuple.tupleExact _) (wpAny_newObj_type (wpAny_bind (wpAny_pure (wpAny_pure ⟨_, rfl, wpAny_pure h⟩))) hok)
    | exact wpAny_bind (wpAny_bind (m := Builtin.Tuple.tupleExact _) (wpAny_newObj_type (wpAny_pure (wpAny_pure ⟨_, rfl, wpAny_pure h⟩)) hok))
    | exact wpAny_bind (wpAny_bind (m := Builtin.Tuple.tupleExact _) (wpAny_newObj_type (wpAny_pure ⟨_, rfl, wpAny_pure h⟩) hok))
end
section
variable {X : Cx} {W : WX} {a b c e : Expr} {rest es : List Expr} {f g h : FE} {p pos : Pos} {K : PySem.W.Frag} {m m' : List Addr} {H H' : Hp} {S S' : Sto} {q s : FQ}
def tRevT (K : PySem.W.Frag) (te : TE) : TE := fun σ H Q => te σ H fun x H1 => ∃ a xs, x = .ref a ∧ SqT K H1 a xs ∧ nwT xs.reverse H1 Q
theorem pe_revT {te : TE} {k : Nat} {p1 p2 p3 : Pos} (he : PE X e te) : PE X (.Subscript e (.Slice none none (some (.UnaryOp .USub (.Constant (.int 1) k p1) p2)) p3) pos) (tRevT X.K te) := by
  refine ⟨fun pins s σ H Q I h => Subscript_ (thn (he.run pins s σ H _ I h) fun v s1 ⟨x, H1, I1, r1, q1⟩ => ?_)⟩
  obtain ⟨a, xs, ex, hx, q⟩ := q1
  subst ex
  cases r1
  have hst : PO X (some (.UnaryOp .USub (.Constant (.int 1) k p1) p2)) (tPart (tUn (rU fun i => .int (-i)) (tC (.int 1)))) := po_some (pe_un un_neg pe_int)
  refine wpAny_Slice (thn (po_none.run pins s1 σ H1 (fun o H2 => o = none ∧ H2 = H1) I1 ⟨rfl, rfl⟩) fun vl s2 ⟨l, H2, I2, pl, el, e2⟩ => ?_)
  subst el e2
  refine thn (po_none.run pins s2 σ H2 (fun o H3 => o = none ∧ H3 = H2) I2 ⟨rfl, rfl⟩) fun vu s3 ⟨u, H3, I3, pu, eu, e3⟩ => ?_
  subst eu e3
  refine thn (hst.run pins s3 σ H3 (fun o H4 => o = some (-1) ∧ H4 = H3) I3 ⟨1, rfl, -1, rfl, rfl, rfl⟩) fun vs s4 ⟨o, H4, I4, ps, eo, e4⟩ => ?_
  subst eo e4
  cases pl
  cases pu
  have I5 : Inv X pins σ H4 { s4 with heap := s4.heap.push { cls := .type "slice", data := .fields #[.none, .none, vs] } } := I4.kept (t' := s4.toks) fun b ob q => Heap.get?_push_of_some _ q
  obtain ⟨its, r, ht, hz⟩ := I5.tuple hx
  have hlen := r.length
  show wpAny (model X.prog X.w) X.A (subscriptTail e (.Slice none none (some (.UnaryOp .USub (.Constant (.int 1) k p1) p2)) p3) (.ref a) (.ref s4.heap.objs.size)) (EP X pins σ Q) X.xe { s4 with heap := s4.heap.push { cls := .type "slice", data := .fields #[.none, .none, vs] } }
  refine tail_any (ops := [.ref a, .ref s4.heap.objs.size]) ht.typeIs (PyProof.Rows.slot_tuple_getitem.lookup) ?_ (by with_unfolding_all rfl)
  refine getItem_tup_rev ht (Heap.IsSliceOf.new ..) ps ?_ (by rw [List.size_toArray]; omega)
  exact ⟨.ref _, _, I5.laid (t' := s4.toks) (fun b ob q => Heap.get?_push_of_some _ q) (Nat.le_refl _) (frz_new (by rw [List.length_reverse]; exact hz) r.reverse), rfl, q _ _ (I5.hok.fresh (Nat.le_refl _)) rfl⟩
/-- x[::-1], x a tuple, a list of the store -/
def oRev (x : D) (S : Sto) : Out D := match x with
  | .tup xs => .ok (.tup xs.reverse) S
  | .ref n => match S[n]? with
    | some (.lst xs) => .ok (.ref S.length) (S ++ [.lst xs.reverse])
    | _ => .bad
  | _ => .bad
theorem me_rev {k : Nat} {p1 p2 p3 : Pos} (he : ME X W e f) : ME X W (.Subscript e (.Slice none none (some (.UnaryOp .USub (.Constant (.int 1) k p1) p2)) p3) pos) (e1 oRev f) := by
  have key : PE X (.Subscript e (.Slice none none (some (.UnaryOp .USub (.Constant (.int 1) k p1) p2)) p3) pos) (fun σ H Q => tRevT X.K (tX X.K W (pD X.K) f) σ H Q ∨ tRevL X.K (tX X.K W (pD X.K) f) σ H Q) :=
    ⟨fun pins s σ H Q I q => q.elim ((pe_revT he).run pins s σ H Q I) ((pe_revL he).run pins s σ H Q I)⟩
  refine key.imp fun σ H Q ⟨l, m, S, R, q⟩ => ?_
  unfold e1 at q
  cases e1 : f l S with
  | bad => rw [e1] at q; exact q.elim
  | ex C fs S1 =>
    rw [e1] at q
    refine .inl ⟨l, m, S, R, ?_⟩
    rw [e1]; exact q
  | ok d S1 =>
    rw [e1] at q
    have q : post X.K W (pD X.K) σ m H Q (oRev d S1) := q
    cases d with
    | tup xs =>
      refine .inl ⟨l, m, S, R, ?_⟩
      rw [e1]
      intro v H1 m1 E1 R1 V1
      simp only [VR] at V1
      obtain ⟨a, vs, rfl, h1, h2⟩ := V1
      exact ⟨a, vs, rfl, h1, fun t ob ht hd => q _ _ m1 (E1.trans (Ext.tmp ht)) (R1.tmp ht) (VR.tupNew ht hd h2.reverse)⟩
    | ref n =>
      refine .inr ⟨l, m, S, R, ?_⟩
      rw [e1]
      intro v H1 m1 E1 R1 V1
      simp only [oRev] at q
      cases hn : S1[n]? with
      | none => rw [hn] at q; exact q.elim
      | some ob =>
        cases ob with
        | lst xs =>
          rw [hn] at q
          obtain ⟨a, rfl, _, _, vs, h1, h2⟩ := R1.ref hn V1
          refine ⟨a, vs, rfl, SqL.of h1, fun t ht => ?_⟩
          obtain ⟨s', e', r'⟩ := R1.newList ht h2.reverse
          exact q _ _ _ (E1.trans e') s' r'
        | _ => rw [hn] at q; exact q.elim
    | _ => exact q.elim
end
end Pz

set_option Elab.async false
set_option linter.all false
set_option maxRecDepth 100000
set_option maxHeartbeats 4000000
/-! Pz14: repr, {..}.get(k, d). -/
namespace Pz
open PySem PySem.Spec PyProof.Rows L2

/-! ### repr -/
mutual
inductive Dr (K : PySem.W.Frag) (H : Hp) : V → PyData → Prop
  | non : Dr K H .non .none
  | bl (b : Bool) : Dr K H (.bl b) (.bool b)
  | int (i : Int) : Dr K H (.int i) (.int i)
  | str (x : Str) : Dr K H (.str x) (.str x)
  | lst {a : Addr} {xs : List V} {ds : List PyData} : H a = some (.lst xs) → DrAll K H xs ds → Dr K H (.ref a) (.list ds)
  | tup {a : Addr} {xs : List V} {ds : List PyData} : SqT K H a xs → DrAll K H xs ds → Dr K H (.ref a) (.tuple ds)
  | dic {a : Addr} : H a = some (.dK []) → Dr K H (.ref a) (.dict [])
inductive DrAll (K : PySem.W.Frag) (H : Hp) : List V → List PyData → Prop
  | nil : DrAll K H [] []
  | cons {v : V} {vs : List V} {d : PyData} {ds : List PyData} : Dr K H v d → DrAll K H vs ds → DrAll K H (v :: vs) (d :: ds)
end
section
variable {X : Cx} {pins : List (Addr × Obj)} {σ : L2.St} {H : Hp} {s : Shared}
mutual
theorem Dr.reads (I : Inv X pins σ H s) (hs : ∃ o u, H sysModules = some (.frz o u)) : ∀ (d : PyData) (v : V) (u : Value), Dr X.K H v d → RelV v u → ∃ as, Reads s.heap u d as ∧ sysModules ∉ as
  | .none, _, _, h, r => by cases h; cases r; exact ⟨_, .none, by simp⟩
  | .bool b, _, _, h, r => by cases h; cases r; exact ⟨_, .bool b, by simp⟩
  | .int i, _, _, h, r => by cases h; obtain ⟨t, rfl⟩ := r; exact ⟨_, .int i t, by simp⟩
  | .str x, _, _, h, r => by cases h; obtain ⟨t, rfl⟩ := r; exact ⟨_, .str x t, by simp⟩
  | .list ds, _, _, h, r => by
    cases h with
    | @lst a xs _ ha hd =>
      cases r
      obtain ⟨its, rv, ⟨o, n, ho, hc, _, hdt⟩, _⟩ := I.list (SqL.of ha)
      obtain ⟨as, h1, h2⟩ := Dr.readsAll I hs ds _ its hd rv
      refine ⟨_, .list ho hc hdt h1, fun hm => ?_⟩
      rcases List.mem_cons.mp hm with e | hm
      · obtain ⟨o', u', hs⟩ := hs
        rw [e, ha] at hs
        cases hs
      · exact h2 hm
  | .tuple ds, _, _, h, r => by
    cases h with
    | tup ha hd =>
      cases r
      obtain ⟨its, rv, ⟨o, ho, hc, n, hdt⟩, _⟩ := I.tuple ha
      obtain ⟨as, h1, h2⟩ := Dr.readsAll I hs ds _ its hd rv
      exact ⟨_, .tuple ho hc hdt h1, h2⟩
  | .dict kvs, _, _, h, r => by
    cases h with
    | @dic a ha =>
      cases r
      obtain ⟨_, h1, vs, h2, o, es, ep, h3, h4, h5, _, h6, _⟩ := I.hok a _ ha
      cases h2
      have he : es.toList = [] := by
        generalize es.toList = l at h6
        cases l with
        | nil => rfl
        | cons x xs => cases h6
      refine ⟨_, .dict h3 h4.1 h5 (by rw [he]; exact .nil) (by rw [he]; exact .nil), ?_⟩
      simp only [List.append_nil, List.mem_singleton]
      intro e
      rw [← e] at h1
      simp at h1
theorem Dr.readsAll (I : Inv X pins σ H s) (hs : ∃ o u, H sysModules = some (.frz o u)) : ∀ (ds : List PyData) (vs : List V) (us : List Value), DrAll X.K H vs ds → Vals vs us → ∃ as, ReadsAll s.heap us ds as ∧ sysModules ∉ as
  | [], _, _, h, r => by cases h; cases r; exact ⟨_, .nil, by simp⟩
  | d :: ds, _, _, h, r => by
    cases h with
    | cons h1 h2 =>
      cases r with
      | cons r1 r2 =>
        obtain ⟨as, q1, n1⟩ := Dr.reads I hs d _ _ h1 r1
        obtain ⟨bs, q2, n2⟩ := Dr.readsAll I hs ds _ _ h2 r2
        exact ⟨_, .cons q1 q2, fun hm => (List.mem_append.mp hm).elim n1 n2⟩
end
end
def rRepr (K : PySem.W.Frag) : List V → Hp → VK → Prop := fun xs H Q => ∃ v d, xs = [v] ∧ Dr K H v d ∧ (∃ o u, H sysModules = some (.frz o u)) ∧ d.showable = true ∧ d.depth ≤ 60 ∧ d.shown.length ≤ sizeLine ∧ Q (.str d.shown) H
theorem call_repr {X : Cx} (hg : X.A.guards = some []) (hu : X.A.units + 64 < cLine) : CallR X (.builtin "repr") (rRepr X.K) := by
  intro pins s σ H xs us Q I r ⟨v, d, e, hd, hs, h1, h2, h3, q⟩
  subst e
  obtain ⟨u, rfl, rv⟩ := vals1 r
  obtain ⟨as, hr, hn⟩ := Dr.reads I hs d v u hd rv
  have big : ∀ a, u = .ref a → wpAny (model X.prog X.w) X.A (call (.builtin "repr") [u]) (EP X pins σ Q) X.xe s := fun a e => by
    subst e
    exact repr_of_reads' hr h1 (fun _ => hn) hg (by omega) (fun _ _ e => e) (fun h' u' tk hk => ⟨.str _, H, I.kept (t' := tk) hk, ⟨u', rfl⟩, q⟩) h3
  cases hd with
  | non => cases rv; exact PySem.P.repr_of_none ⟨.str _, H, I.tok _, ⟨_, rfl⟩, q⟩
  | bl b => cases rv; exact PySem.P.repr_of_bool ⟨.str _, H, I.tok _, ⟨_, rfl⟩, q⟩
  | int i =>
    obtain ⟨t, rfl⟩ := rv
    exact PySem.P.repr_of_int (by simpa [PyData.showable] using h1) ⟨.str _, H, I.tok _, ⟨_, rfl⟩, q⟩
  | str x => obtain ⟨t, rfl⟩ := rv; exact PySem.P.repr_of_str ⟨.str _, H, I.tok _, ⟨_, rfl⟩, q⟩ h3
  | lst _ _ => exact big _ rv
  | tup _ _ => exact big _ rv
  | dic _ => exact big _ rv
section
variable {X : Cx} {W : WX} {a b c e : Expr} {rest es : List Expr} {f g h : FE} {p pos : Pos} {K : PySem.W.Frag} {m m' : List Addr} {H H' : Hp} {S S' : Sto} {q s : FQ}
def toPyR : Nat → Sto → D → Option PyData
  | 0, _, _ => none
  | n + 1, S, d => match d with
    | .non => some .none
    | .bl b => some (.bool b)
    | .int i => some (.int i)
    | .str s => some (.str s)
    | .tup xs => (mapO (toPyR n S) xs).map .tuple
    | .ref k => match S[k]? with
      | some (.lst xs) => (mapO (toPyR n S) xs).map .list
      | some (.dk []) => some (.dict [])
      | _ => none
    | _ => none
theorem mapO_dr {f : D → Option PyData} (hf : ∀ d v p, VR K m H d v → f d = some p → Dr K H v p) : ∀ (ds : List D) (vs : List V) (ps : List PyData), VRs K m H ds vs → mapO f ds = some ps → DrAll K H vs ps
  | [], vs, ps, h, e => by
    simp only [VRs] at h
    subst h
    simp only [mapO, Option.some.injEq] at e
    subst e
    exact .nil
  | d :: ds, vs, ps, h, e => by
    simp only [VRs] at h
    obtain ⟨v, r, rfl, h1, h2⟩ := h
    unfold mapO at e
    split at e
    · rename_i y ys e1 e2
      cases e
      exact .cons (hf d v y h1 e1) (mapO_dr hf ds r ys h2 e2)
    · cases e
theorem toPyR_dr (s : SR K m H S) : ∀ (n : Nat) (d : D) (v : V) (p : PyData), VR K m H d v → toPyR n S d = some p → Dr K H v p
  | 0, _, _, _, _, e => by simp only [toPyR] at e; cases e
  | n + 1, d, v, p, r, e => by
    cases d with
    | non => simp only [toPyR, Option.some.injEq] at e; simp only [VR] at r; subst e r; exact .non
    | bl _ => simp only [toPyR, Option.some.injEq] at e; simp only [VR] at r; subst e r; exact .bl _
    | int _ => simp only [toPyR, Option.some.injEq] at e; simp only [VR] at r; subst e r; exact .int _
    | str _ => simp only [toPyR, Option.some.injEq] at e; simp only [VR] at r; subst e r; exact .str _
    | tup xs =>
      simp only [toPyR, Option.map_eq_some_iff] at e
      obtain ⟨ps, e1, rfl⟩ := e
      simp only [VR] at r
      obtain ⟨a, vs, rfl, h1, h2⟩ := r
      exact .tup h1 (mapO_dr (fun d v p => toPyR_dr s n d v p) xs vs ps h2 e1)
    | ref k =>
      simp only [toPyR] at e
      split at e
      · rename_i xs hk
        obtain ⟨ps, e1, rfl⟩ := Option.map_eq_some_iff.mp e
        obtain ⟨a, rfl, _, _, vs, h1, h2⟩ := s.ref hk r
        exact .lst h1 (mapO_dr (fun d v p => toPyR_dr s n d v p) xs vs ps h2 e1)
      · rename_i hk
        cases e
        obtain ⟨a, rfl, _, _, vs, h1, h2⟩ := s.ref hk r
        simp only [AR] at h2
        subst h2
        exact .dic h1
      · cases e
    | fn _ => simp only [toPyR] at e; cases e
    | rl _ => simp only [toPyR] at e; cases e
def reprD (S : Sto) (d : D) : Option Str := match toPyR 40 S d with
  | some q => if q.showable && decide (q.depth ≤ 60) && decide (q.shown.length ≤ sizeLine) then some q.shown else none
  | none => none
def oRepr (d : D) (S : Sto) : Out D := match reprD S d with
  | some t => .ok (.str t) S
  | none => .bad
theorem me_repr (hg' : X.A.guards = some []) (hu : X.A.units + 64 < cLine) (hg : Gl X "repr") (hm : X.mg "repr" = none) (hb : bootBuiltins "repr" = some (.builtin "repr")) (he : ME X W e f) (s1 : starEach [e] X.env = (false, eval e X.env) :: starEach [] X.env := by rfl) (hpl : (backTo pos (starEach [] X.env)).any (·.1) = false := by rfl) : ME X W (.Call (.Name "repr" p) [e] [] pos) (eB1 oRepr f) :=
  call1B (call_repr hg' hu) (fun W σ m H H0 S x v Q R V q => by
    unfold oRepr at q
    split at q
    · rename_i t ht
      unfold reprD at ht
      split at ht
      · rename_i d hd
        split at ht
        · rename_i hc
          cases ht
          simp only [Bool.and_eq_true, decide_eq_true_eq] at hc
          exact ⟨v, d, rfl, toPyR_dr R _ _ _ _ V hd, R.sys, hc.1.1, hc.1.2, hc.2, q _ H m .refl R (by simp only [VR])⟩
        · cases ht
      · cases ht
    · exact q.elim) anti_D hg hm hb he (by decide) (by decide) s1 hpl

/-! ### {'a': e, ..}.get(k, d): the dict is only on its way -/
/-- the pairs, from the left -/
abbrev FP := Loc → Sto → Out (List (Key × D))
def pP (K : PySem.W.Frag) : PRel (List (Key × D)) (List (V × V)) := fun _ m H ds ps => ∃ kvs : List (Key × V), ps = kvs.map (fun kv => (kV kv.1, kv.2)) ∧ AR K m H ds kvs
structure MP (X : Cx) (W : WX) (pos : Pos) (ks : List (Option Expr)) (vs : List Expr) (f : FP) : Prop where
  ex : ∃ trs, PPs X pos ks vs trs ∧ ∀ σ H Q, tX X.K W (pP X.K) f σ H Q → tPairs trs σ H Q
def keyD : D → Option Key
  | .int i => some (.inl i)
  | .str x => some (.inr x)
  | _ => none
theorem keyD_ok {d : D} {v : V} {k : Key} (h : keyD d = some k) (r : VR K m H d v) : v = kV k := by
  cases d with
  | int i => cases h; simp only [VR] at r; subst r; rfl
  | str i => cases h; simp only [VR] at r; subst r; rfl
  | _ => cases h
def pNil : FP := fun _ S => .ok [] S
def pCons (f g : FE) (r : FP) : FP := fun l S => (f l S).bind fun k S1 => (g l S1).bind fun v S2 => (r l S2).bind fun kvs S3 => match keyD k with
  | some k => .ok ((k, v) :: kvs) S3
  | none => .bad
theorem mp_nil : MP X W pos [] [] pNil := ⟨⟨[], pps_nil, fun σ H Q ⟨l, m, S, R, q⟩ => q [] H m .refl R.sr ⟨[], rfl, rfl⟩⟩⟩
theorem anti_P {K : PySem.W.Frag} : Anti (pP K) := fun _ _ _ _ _ _ _ h => h
theorem mp_cons {k v : Expr} {ks : List (Option Expr)} {vs : List Expr} {r : FP} (hk : ME X W k f) (hv : ME X W v g) (hr : MP X W pos ks vs r) : MP X W pos (some k :: ks) (v :: vs) (pCons f g r) := by
  obtain ⟨trs, h1, h2⟩ := hr.ex
  refine ⟨⟨_, pps_cons hk hv h1, fun σ H Q ⟨l, m, S, R, q⟩ => ⟨l, m, S, R, post.bind (PR := pD X.K) anti_P q fun x S1 w H1 m1 E1 R1 V1 q1 => ⟨l, m1, S1, R.ext E1 R1, post.bind (PR := pD X.K) anti_P q1 fun y S2 u H2 m2 E2 R2 V2 q2 =>
    h2 σ H2 _ ⟨l, m2, S2, R.ext (E1.trans E2) R2, post.bind (PR := pP X.K) anti_P q2 fun kvs S3 ps H3 m3 E3 R3 ⟨us, e1, V3⟩ q3 => ?_⟩⟩⟩⟩⟩
  split at q3
  · rename_i kk hkk
    subst e1
    rw [keyD_ok hkk (VR.ext (E2.trans E3) _ _ V1)]
    exact q3 _ H3 m3 .refl R3 ⟨(kk, u) :: us, rfl, ⟨u, us, rfl, VR.ext E3 _ _ V2, V3⟩⟩
  · exact q3.elim
/-- putting by key, over data -/
def putD (kvs : List (Key × D)) (k : Key) (v : D) : List (Key × D) := if (kvs.any fun kv => decide (kv.1 = k)) = true then kvs.map (fun kv => if kv.1 = k then (kv.1, v) else kv) else kvs ++ [(k, v)]
def getD (kvs : List (Key × D)) (k : Key) : Option D := (kvs.find? fun kv => decide (kv.1 = k)).map (·.2)
def mergeD (kvs more : List (Key × D)) : List (Key × D) := more.foldl (fun acc kv => putD acc kv.1 kv.2) kvs
theorem AR.any {k : Key} : ∀ {ds : List (Key × D)} {us : List (Key × V)}, AR K m H ds us → (us.any fun kv => decide (kv.1 = k)) = ds.any fun kv => decide (kv.1 = k)
  | [], _, h => by simp only [AR] at h; subst h; rfl
  | (j, d) :: ds, _, h => by
    obtain ⟨v, q, rfl, h1, h2⟩ := h
    rw [List.any_cons, List.any_cons, AR.any h2]
theorem AR.put {k : Key} {d : D} {v : V} (r : VR K m H d v) {ds : List (Key × D)} {us : List (Key × V)} (h : AR K m H ds us) : AR K m H (putD ds k d) (putK us k v) := by
  unfold putD putK
  rw [h.any]
  split
  · exact go h
  · exact ap h
where
  go : ∀ {ds : List (Key × D)} {us : List (Key × V)}, AR K m H ds us → AR K m H (ds.map fun kv => if kv.1 = k then (kv.1, d) else kv) (us.map fun kv => if kv.1 = k then (kv.1, v) else kv)
    | [], _, h => by simp only [AR] at h; subst h; rfl
    | (j, x) :: ds, _, h => by
      obtain ⟨w, q, rfl, h1, h2⟩ := h
      rw [List.map_cons, List.map_cons]
      by_cases e : j = k
      · simp only [e, if_true]
        exact ⟨v, _, rfl, r, go h2⟩
      · simp only [e, if_false]
        exact ⟨w, _, rfl, h1, go h2⟩
  ap : ∀ {ds : List (Key × D)} {us : List (Key × V)}, AR K m H ds us → AR K m H (ds ++ [(k, d)]) (us ++ [(k, v)])
    | [], _, h => by simp only [AR] at h; subst h; exact ⟨v, [], rfl, r, rfl⟩
    | (j, x) :: ds, _, h => by
      obtain ⟨w, q, rfl, h1, h2⟩ := h
      exact ⟨w, _, rfl, h1, ap h2⟩
theorem AR.merge : ∀ (ds : List (Key × D)) {es : List (Key × D)} {us vs : List (Key × V)}, AR K m H ds us → AR K m H es vs → AR K m H (mergeD es ds) (mergeK vs us) := by
  intro ds
  induction ds with
  | nil => intro es us vs h t; simp only [AR] at h; subst h; exact t
  | cons x ds ih =>
    intro es us vs h t
    obtain ⟨j, x⟩ := x
    obtain ⟨w, q, rfl, h1, h2⟩ := h
    show AR K m H (mergeD (putD es j x) ds) (mergeK (putK vs j w) q)
    exact ih h2 (AR.put h1 t)
theorem AR.get {k : Key} : ∀ {ds : List (Key × D)} {us : List (Key × V)}, AR K m H ds us → (Pz.getD ds k = none ∧ valV us k = none) ∨ ∃ d v, Pz.getD ds k = some d ∧ valV us k = some v ∧ VR K m H d v
  | [], _, h => by simp only [AR] at h; subst h; exact .inl ⟨rfl, rfl⟩
  | (j, x) :: ds, _, h => by
    obtain ⟨w, q, rfl, h1, h2⟩ := h
    by_cases e : j = k
    · refine .inr ⟨x, w, ?_, ?_, h1⟩
      · simp [Pz.getD, List.find?_cons, e]
      · exact valV_pos e
    · have e1 : Pz.getD ((j, x) :: ds) k = Pz.getD ds k := by simp [Pz.getD, List.find?_cons, e]
      rw [e1, valV_neg (p := (j, w)) (r := q) e]
      exact AR.get h2
def oGet (kvs : List (Key × D)) (k d : D) (S : Sto) : Out D := match keyD k with
  | some k => .ok ((Pz.getD (mergeD [] kvs) k).getD d) S
  | none => .bad
def eDispGet (r : FP) (f g : FE) : FE := fun l S => (r l S).bind fun kvs S1 => if kvs.length ≤ 15 then (f l S1).bind fun k S2 => (g l S2).bind fun d S3 => oGet kvs k d S3 else .bad
theorem post.bind0 {α β γ δ : Type} {PR : PRel α β} {PR' : PRel γ δ} {σ : L2.St} {Q : β → Hp → Prop} {Q' : δ → Hp → Prop} {f : α → Sto → Out γ} : ∀ {o : Out α}, post K W PR' σ m H Q' (o.bind f) →
    (∀ a S1 v H1 m1, Ext m H m1 H1 → SR K m1 H1 S1 → PR H m1 H1 a v → post K W PR' σ m H Q' (f a S1) → Q v H1) → post K W PR σ m H Q o
  | .ok a S1, h, k => fun v H1 m1 e s r => k a S1 v H1 m1 e s r h
  | .ex _ _ _, h, _ => h
  | .bad, h, _ => h
theorem post.from {α β : Type} {PR : PRel α β} {σ : L2.St} {Q : β → Hp → Prop} {m0 : List Addr} {H0 : Hp} : ∀ {o : Out α}, post K W PR σ m0 H0 Q o → post K W (fun _ => PR H0) σ m0 H0 Q o
  | .ok _ _, h => h
  | .ex _ _ _, h => h
  | .bad, h => h
/-- a dict outside the store is written -/
theorem SR.overD {t : Addr} {o o' : HO} (s : SR K m H S) (ht : H t = some o) (ho : Mu (some o)) (hn : t ∉ m) : SR K m (upd H t o') S := by
  have nt : ∀ {a xs}, H a = some (.tup xs) → a ≠ t := fun {a xs} h z => ho.1 xs (by rw [← ht, ← z]; exact h)
  have nf : ∀ {a ob u}, H a = some (.frz ob u) → a ≠ t := fun {a ob u} h z => ho.2 ob u (by rw [← ht, ← z]; exact h)
  refine ⟨s.len, s.nd, fun n ob hob => ?_, ?_⟩
  · obtain ⟨a, h1, h2⟩ := s.at n ob hob
    have ha : a ≠ t := fun e => hn (by rw [← e]; exact List.mem_of_getElem? h1)
    refine ⟨a, h1, ?_⟩
    have kt : ∀ a xs, H a = some (.tup xs) → (upd H t o') a = some (.tup xs) := fun a xs h => by rw [upd_ne (nt h)]; exact h
    have kf : ∀ a ob u, H a = some (.frz ob u) → (upd H t o') a = some (.frz ob u) := fun a ob u h => by rw [upd_ne (nf h)]; exact h
    cases ob with
    | lst xs => obtain ⟨vs, h3, h4⟩ := h2; exact ⟨vs, by rw [upd_ne ha]; exact h3, VRs.mono (fun _ _ h => h) kt kf _ _ h4⟩
    | dk xs => obtain ⟨vs, h3, h4⟩ := h2; exact ⟨vs, by rw [upd_ne ha]; exact h3, AR.mono (fun _ _ h => h) kt kf _ _ h4⟩
    | ins C fs => obtain ⟨dx, vs, h3, h4⟩ := h2; exact ⟨dx, vs, by rw [upd_ne ha]; exact h3, AR.mono (fun _ _ h => h) kt kf _ _ h4⟩
    | dn xs => obtain ⟨vs, h3, h4⟩ := h2; exact ⟨vs, by rw [upd_ne ha]; exact h3, AR.mono (fun _ _ h => h) kt kf _ _ h4⟩
  · obtain ⟨ob, u, h⟩ := s.sys
    exact ⟨ob, u, by rw [upd_ne (nf h)]; exact h⟩
theorem AR.overD {κ : Type} {t : Addr} {o o' : HO} (ht : H t = some o) (ho : Mu (some o)) {ds : List (κ × D)} {us : List (κ × V)} (h : AR K m H ds us) : AR K m (upd H t o') ds us :=
  AR.mono (fun _ _ h => h) (fun a xs h => by rw [upd_ne (fun z => ho.1 xs (by rw [← ht, ← z]; exact h))]; exact h) (fun a ob u h => by rw [upd_ne (fun z => ho.2 ob u (by rw [← ht, ← z]; exact h))]; exact h) _ _ h
theorem me_dispGet {ks : List (Option Expr)} {vs : List Expr} {p1 apos cpos : Pos} {r : FP} (hu : X.A.units + 64 < cLine) (hr : MP X W p1 ks vs r) (ha : ME X W a f) (hb : ME X W b g) (mm : M2 X (.Dict ks vs p1) "get" apos a b cpos) (hall : ks.all (·.isSome) = true := by rfl) (hl : ks.length = vs.length := by rfl) (h0 : ks ≠ [] := by simp) (h15 : ks.length ≤ 15 := by decide) :
    ME X W (.Call (.Attribute (.Dict ks vs p1) "get" apos) [a, b] [] cpos) (eDispGet r f g) := by
  obtain ⟨trs, h1, h2⟩ := hr.ex
  refine (pe_dget2 (by omega) (pe_disp h1 hall hl h0 h15) ha hb mm).imp fun σ H Q ⟨l, m, S, R, q⟩ t ht => ?_
  have Et : Ext m H m (upd H t (.dK [])) := Ext.tmp ht
  have hnt0 : t ∉ m := R.sr.notin ht
  refine h2 σ _ _ ⟨l, m, S, R.ext Et (R.sr.tmp ht), ?_⟩
  unfold eDispGet at q
  cases e0 : r l S with
  | bad => rw [e0] at q; exact q.elim
  | ex C fs S1 => rw [e0] at q; exact post.mono (PR := pD X.K) anti_D Et (o := .ex C fs S1) q
  | ok kvs S1 =>
    rw [e0] at q
    intro ps H1 m1 E1 R1 ⟨us, e1, V1⟩
    subst e1
    have hnt : t ∉ m1 := E1.notin hnt0 (by rw [upd_same]; exact fun z => by cases z)
    have ht1 : H1 t = some (.dK []) := E1.oth _ _ upd_same hnt0
    have q : post X.K W (pD X.K) σ m H Q (if kvs.length ≤ 15 then (f l S1).bind fun k S2 => (g l S2).bind fun d S3 => oGet kvs k d S3 else .bad) := q
    split at q
    · rename_i hz
      have mu : Mu (some (HO.dK [])) := ⟨fun _ z => (by cases z), fun _ _ z => (by cases z)⟩
      have E2 : Ext m H m1 (upd H1 t (.dK (mergeK [] us))) := Ext.over1 ht (Et.trans E1)
      have R2 : SR X.K m1 (upd H1 t (.dK (mergeK [] us))) S1 := SR.overD R1 ht1 mu hnt
      have V2 : AR X.K m1 (upd H1 t (.dK (mergeK [] us))) (mergeD [] kvs) (mergeK [] us) := AR.overD ht1 mu (AR.merge _ V1 rfl)
      refine ⟨ht1, us, rfl, by rw [V1.length]; exact hz, t, rfl, .inl ⟨_, .inl upd_same⟩, l, m1, S1, R.ext E2 R2, post.bind (PR := pD X.K) anti_D (post.mono anti_D E2 q) fun k S2 kv H2 m2 E3 R3 V3 q2 =>
        ⟨l, m2, S2, R.ext (E2.trans E3) R3, post.bind (PR := pD X.K) anti_D q2 fun d S3 dv H3 m3 E4 R4 V4 q3 => ?_⟩⟩
      unfold oGet at q3
      split at q3
      · rename_i kk hkk
        have hd3 : H3 t = some (.dK (mergeK [] us)) := (E3.trans E4).oth _ _ upd_same hnt
        have V5 := AR.ext (E3.trans E4) _ _ V2
        rw [keyD_ok hkk V3]
        refine ⟨_, DGet.k hd3, ?_⟩
        rcases AR.get (k := kk) V5 with ⟨g1, g2⟩ | ⟨x, w, g1, g2, g3⟩
        · rw [g1] at q3; rw [g2]; exact q3 _ H3 m3 .refl R4 V4
        · rw [g1] at q3; rw [g2]; exact q3 _ H3 m3 .refl R4 g3
      · exact q3.elim
    · exact q.elim
end
end Pz

set_option Elab.async false
set_option linter.all false
set_option maxRecDepth 100000
set_option maxHeartbeats 4000000
/-! Pz15: the law itself, called where nothing shows itself (so repr may be asked), and the end. -/
namespace Pz
open PySem PySem.Spec PyProof.Rows L2
/-- a def that may ask repr: it is called where no repr is under way -/
structure FnG (P : Program) (w : World) (K : PySem.W.Frag) (mg : Str → Option Value) (base : Heap) (k : Nat) (f : Addr) (fd : FuncData) (ps : List Str) (sp : Sp) : Prop where
  len : ∀ vs H Q E, sp vs H Q E → vs.length = ps.length
  run : ∀ (A : Around) (outer : List Env) (s : Shared) (H : Hp) (args : Args) (us : List Value) (vs : List V) (Q : VK) (E : XK), Room k A → A.guards = some [] → Env0 P w K mg base A outer s H → BindsTo s fd args (ps.zip us) → Vals vs us → sp vs H Q E →
    codeAny (model P w) A (.call (.ref f) args) (CR (L2.CX P w) outer P w H s Q E) s
section
variable {P : Program} {w : World} {K : PySem.W.Frag} {mg : Str → Option Value} {base : Heap}
theorem fnG_ok {x qual : Str} {st : Stmt} {f : Addr} {fd : FuncData} {N ps : List Str} {k : Nat} {b : FS} (F : Fun K x qual st f fd) (sc : FnScope N ps (defScope st))
    (hbody : ∀ (cdv : Value) (A : Around) (outer : List Env) (s : Shared) (H : Hp) (E : XK), Room k (cxB P w K mg base N qual st f cdv A outer s H E).A → (cxB P w K mg base N qual st f cdv A outer s H E).A.guards = some [] → MSs (cxB P w K mg base N qual st f cdv A outer s H E) (wE E) (defBody st) b) : FnG P w K mg base (k + 1) f fd ps (spF K (runF ps.length N.length b)) := by
  obtain ⟨oc, od, kV, doc, pm, an, cdv, ct, osl, rfl, lk, hcd⟩ := F.ex
  refine ⟨fun vs H Q E h => spF_len h, fun A outer s H args us vs Q E hr hga e0 hb r hsp => ?_⟩
  have hlen : vs.length = ps.length := spF_len hsp
  have kin : K.In s.heap := e0.mod.kin.keeps fun b o q => (e0.bs b o q).1
  have nol : s.heap.NoLimit := e0.mod.nolimit.keeps fun b o q => (e0.bs b o q).1
  refine codeAny_call_function hr.depth (kin _ _ lk) rfl sc.co sc.gen rfl (PySem.W.codeRec_of kin hcd) (hb _ _ _ _ ?_)
  refine wpAny_newFunctionEnv_cells sc.kind (fun y hy => ?_) fun env he s1 x => ?_
  · rcases sc.par y.1 (List.of_mem_zip hy).1 with q | q
    · exact .inl q
    · exact .inr ⟨q, PySem.W.cellsFrom_some _ _ _ (.inl q)⟩
  subst he
  refine ⟨nol.keeps x.toInCall.keep, codeAny_func ?_⟩
  obtain ⟨ds, m, S, h1, h2, h3⟩ := hsp
  have I : Inv (cxB P w K mg base N qual st f cdv A outer s H E) [] (L2.start N vs) H s1 := inv_start sc hr.hd e0 hlen r x
  unfold runF at h3
  split at h3
  · rename_i hl
    rw [← hl] at h3
    have goal : tS K (wE E) b { nx := fun _ H' => Q .non H', rt := Q } (L2.start N vs) H := by
      refine ⟨_, m, S, Rel.start h2 h1, ?_⟩
      split at h3
      · rename_i d S' e
        rw [e]
        exact fun v H' m' e1 s1 r1 => gc_ok h2 h3 e1 s1 r1
      · rename_i l S' e
        rw [e]
        exact fun σ' H' m' e1 r1 => gc_ok h2 h3 e1 r1.sr (by simp only [VR])
      · rename_i l C fs S' e
        rw [e]
        exact fun cls dd σ' H' m' e1 r1 x1 => gcX_ok (W := wE E) (σ := []) h2 h3 e1 r1.sr x1
      · exact h3.elim
    refine wpAny_mono ((hbody cdv A outer s H E (hr.deeper _) hga).run [] s1 _ H _ I goal) (fun fl s2 hs => ?_) fun e s2 hs => hs
    cases fl with
    | ret u =>
      obtain ⟨v, σ2, H2, J, rv, q⟩ := hs
      exact ⟨v, H2, J.os, J.bare, J.base, J.hok, rv, q⟩
    | next =>
      obtain ⟨σ2, H2, J, q⟩ := hs
      exact ⟨V.non, H2, J.os, J.bare, J.base, J.hok, rfl, q⟩
    | brk => obtain ⟨_, _, _, q⟩ := hs; exact q.elim
    | cont => obtain ⟨_, _, _, q⟩ := hs; exact q.elim
  · exact h3.elim
/-- THE END: the law's call over the heap that the top leaves -/
theorem law_run {mb : Str → Option Value} {s₁ : Shared} {a fa : Addr} {fd : FuncData} {x : Str} {k : Nat} {vs : List Value} {ns : List Int} {F : List D → Sto → Out D}
    (KX : K.In s₁.heap) (hns : s₁.heap.Ns mainGlobals mg) (hb : s₁.heap.Ns builtinsNs mb) (hbb : ∀ x : Str, x ≠ "__name__" → mb x = bootBuiltins x) (hlim : s₁.heap.NoLimit) (hsys : ∃ mm, s₁.heap.Ns sysModules mm) (hk1 : K.lookup sysModules = none) (hg : s₁.gens = #[])
    (ha : s₁.heap.get? a = some { cls := .type "list", data := .seq vs.toArray }) (hi : IntsAre vs ns) (hl : ns.length ≤ sizeLine) (hr : Room k callerA)
    (G : ∀ base : Heap, K.In base → base.Ns mainGlobals mg → FnG P w K mg base k fa fd [x] (spF K F)) (hbind : ∀ (s : Shared) (u : Value), BindsTo s fd ⟨[u], []⟩ [(x, u)])
    (hF : ∃ S, F [.rl (ns.map D.int)] [] = .ok (.bl true) S) :
    codeAny (model P w) callerA (.call (.ref fa) ⟨[.ref a], []⟩) (fun r s' => r = .ok (.ret (.bool true)) ∧ OldK s₁.heap s'.heap ∧ s'.os = s₁.os ∧ AllBare s'.gens) s₁ := by
  have rv := vals_ints hi
  have lv := hi.length
  obtain ⟨mm, o1, es1, ep1, g1, d1, _⟩ := hsys
  have ha1 : a ≠ sysModules := fun q => by
    rw [q, g1] at ha
    cases ha
    have z : Data.seq vs.toArray _ = Data.dict es1 ep1 := d1
    cases z
  have core : ∀ H : Hp, (∀ b, H b = none ∨ ∃ o u, H b = some (.frz o u)) → (∃ u, H sysModules = some (.frz o1 u)) → SqF K H a (ns.map V.int) → HOk P w H s₁.heap → (∀ b, H b ≠ none → b = a ∨ b = sysModules) → (H a ≠ none → K.lookup a = none) →
      codeAny (model P w) callerA (.call (.ref fa) ⟨[.ref a], []⟩) (fun r s' => r = .ok (.ret (.bool true)) ∧ OldK s₁.heap s'.heap ∧ s'.os = s₁.os ∧ AllBare s'.gens) s₁ := by
    intro H hO hH1 hS hok hA hK
    have noH : ∀ {b : Addr} {m : Str → Option Value}, b ≠ sysModules → s₁.heap.Ns b m → H b = none := fun {b m} hb1 ⟨o, es, ep, e, d, _⟩ => by
      cases q : H b with
      | none => rfl
      | some u =>
        rcases hA b (by rw [q]; exact fun z => by cases z) with z | z
        · rw [z, ha] at e
          cases e
          have z : Data.seq vs.toArray _ = Data.dict es ep := d
          cases z
        · exact absurd z hb1
    have nsK : ∀ {b : Addr} {m : Str → Option Value}, b ≠ sysModules → s₁.heap.Ns b m → (hidT s₁.heap H).Ns b m := fun {b m} hb1 hn => by
      have := noH hb1 hn
      obtain ⟨o, es, ep, e, d, r⟩ := hn
      exact ⟨o, es, ep, hidT_get e this, d, r⟩
    have hKb : K.In (hidT s₁.heap H) := fun b o e => hidT_get (KX b o e) (by
      cases q : H b with
      | none => rfl
      | some u =>
        rcases hA b (by rw [q]; exact fun z => by cases z) with z | z
        · rw [z] at e q
          rw [hK (by rw [q]; exact fun z => by cases z)] at e
          cases e
        · rw [z, hk1] at e
          cases e)
    have hM : Mod K mg (hidT s₁.heap H) := ⟨hKb, nsK (by decide) hns, ⟨mb, nsK (by decide) hb, hbb⟩, let ⟨mc, h1, h2⟩ := hlim; ⟨mc, nsK (by decide) h1, h2⟩⟩
    have e0 : Env0 P w K mg (hidT s₁.heap H) callerA [] s₁ H := ⟨rfl, hM, fun b o e => of_hidT e, Nat.le_of_eq (hidT_size _ _), trivial, fun b hb => (nomatch hb), hok, .of_eq hg⟩
    obtain ⟨S, hFS⟩ := hF
    have hsp : spF K F [.ref a] H (fun v _ => v = .bl true) (fun _ _ _ => False) :=
      ⟨[.rl (ns.map D.int)], [], [], .cons (by simp only [VR]; exact ⟨a, _, rfl, hS, VRs.of_ints ns⟩) .nil, ⟨rfl, List.nodup_nil, fun n o h => (by simp at h), let ⟨u, h⟩ := hH1; ⟨o1, u, h⟩⟩, by
        rw [hFS]
        exact fun v H' m' _ _ r => by simpa only [VR] using r⟩
    refine codeAny_mono ((G _ hKb (nsK (by decide) hns)).run callerA [] s₁ H ⟨[.ref a], []⟩ [.ref a] [.ref a] _ _ hr rfl e0 (hbind s₁ (.ref a)) (.cons rfl .nil) hsp) fun r s' h => ?_
    cases r with
    | error e =>
      obtain ⟨_, _, _, _, _, _, _, _, _, _, _, _, z⟩ := h
      exact z.elim
    | ok fl =>
      cases fl with
      | next => exact False.elim h
      | brk => exact False.elim h
      | cont => exact False.elim h
      | ret u =>
        obtain ⟨v, H', os, bare, un, hok', r', q⟩ := h
        subst q
        obtain rfl : u = Value.bool true := r'
        refine ⟨rfl, OldK.of_keep fun b o e => ?_, os, bare⟩
        rcases hO b with z | ⟨ob, u, z⟩
        · exact un.keep b o e z (fun q => nomatch q) (fun q => nomatch q)
        · obtain ⟨e1, _⟩ := hok b _ z
          obtain ⟨e2, _⟩ := hok' b _ (un.frzs b ob _ z)
          rw [e] at e1; cases e1
          exact e2
  have ok1 : ∀ H : Hp, ObjOk P w H s₁.heap sysModules (.frz o1 (.ext fun _ => True)) := fun H => ⟨g1, trivial, ⟨o1, g1⟩, fun _ _ _ _ => trivial⟩
  cases hk : K.lookup a with
  | some o =>
    have e := KX a o hk
    rw [ha] at e
    cases e
    refine core (fun b => if b = sysModules then some (.frz o1 (.ext fun _ => True)) else none) (fun b => ?_) ⟨_, if_pos rfl⟩ (.inr ⟨_, vs.toArray, _, hk, rfl, rfl, rfl, by rw [List.size_toArray, lv]; exact hl, by simpa using rv⟩) (fun b u z => ?_) (fun b z => ?_) fun z => absurd (if_neg ha1) z
    · by_cases q : b = sysModules
      · exact .inr ⟨_, _, if_pos q⟩
      · exact .inl (if_neg q)
    · by_cases q : b = sysModules
      · have z : some (HO.frz o1 (.ext fun _ => True)) = some u := (if_pos q).symm.trans z
        cases z
        rw [q]
        exact ok1 _
      · exact absurd ((if_neg q).symm.trans z) (fun z => by cases z)
    · by_cases q : b = sysModules
      · exact .inr q
      · exact absurd (if_neg q) z
  | none =>
    refine core (fun b => if b = sysModules then some (.frz o1 (.ext fun _ => True)) else if b = a then some (.frz { cls := .type "list", data := .seq vs.toArray } (.lst (ns.map V.int))) else none) (fun b => ?_) ⟨_, if_pos rfl⟩
      (.inl ⟨{ cls := .type "list", data := .seq vs.toArray }, by show (if a = sysModules then _ else _) = _; rw [if_neg ha1, if_pos rfl]⟩) (fun b u z => ?_) (fun b z => ?_) fun _ => hk
    · by_cases q : b = sysModules
      · exact .inr ⟨_, _, if_pos q⟩
      · by_cases q2 : b = a
        · exact .inr ⟨_, _, (if_neg q).trans (if_pos q2)⟩
        · exact .inl ((if_neg q).trans (if_neg q2))
    · by_cases q : b = sysModules
      · have z : some (HO.frz o1 (.ext fun _ => True)) = some u := (if_pos q).symm.trans z
        cases z
        rw [q]
        exact ok1 _
      · by_cases q2 : b = a
        · have z : some (HO.frz { cls := .type "list", data := .seq vs.toArray } (.lst (ns.map V.int))) = some u := ((if_neg q).trans (if_pos q2)).symm.trans z
          cases z
          subst q2
          exact ⟨ha, by rw [List.length_map]; exact hl, vs, _, rv, ha⟩
        · exact absurd (((if_neg q).trans (if_neg q2)).symm.trans z) (fun z => by cases z)
    · by_cases q : b = sysModules
      · exact .inr q
      · by_cases q2 : b = a
        · exact .inl q2
        · exact absurd ((if_neg q).trans (if_neg q2)) z
end
/-- the goal that the head leaves -/
theorem law_walk {l : PySem.W.OpenLaw} {n k : Nat} {q : Program} {loose : List Str} {XP : (Str → Option Value) → Heap → Prop} {YP : World → Heap → Prop} {d : DefRec} {K : Params → PySem.W.Frag} {x : Str} {F : List D → Sto → Out D}
    (hn : l.most = some n) (hn2 : n ≤ sizeLine) (hdf : d.params.defaults = []) (hr : Room k callerA) (hq : importsNone q = true)
    (hY : ∀ (w : World) (h : Heap), YP w h → (K w.params).In h) (hk1 : ∀ w : World, (K w.params).lookup sysModules = none)
    (G : ∀ (w : World) (mg : Str → Option Value) (fa : Addr) (h : Heap), (K w.params).In h → h.Ns mainGlobals mg → mg d.name = some (.ref fa) →
      ∃ fd : FuncData, (∀ (s : Shared) (u : Value), BindsTo s fd ⟨[u], []⟩ [(x, u)]) ∧ ∀ base : Heap, (K w.params).In base → base.Ns mainGlobals mg → FnG l.prog w (K w.params) mg base k fa fd [x] (spF (K w.params) F))
    (hF : ∀ ns : List Int, ns.length ≤ n → ∃ S, F [.rl (ns.map D.int)] [] = .ok (.bl true) S) :
    PySem.W.WalkO q loose XP YP l.row.toRowW d [] (fun f vs => PySem.call f vs) := by
  refine Att.attach_call hn hdf fun w s₀ s₁ mg mb fa o pm cd doc a vs ns Gr Y ho hd hcd hmg hobj hints hlen hg => ?_
  have KX := hY w _ Y
  obtain ⟨fd, hb, hG⟩ := G w mg fa _ KX Gr.T.g hmg
  obtain ⟨mm, hmm, _⟩ := (Gr.T.seer hq).mods
  exact law_run KX Gr.T.g Gr.T.b Gr.T.builtins Gr.T.nolimit ⟨mm, hmm⟩ (hk1 w) hg hobj hints (Nat.le_trans hlen hn2) hr hG hb (hF ns hlen)
end Pz

set_option Elab.async false
set_option linter.all false
set_option maxRecDepth 100000
set_option maxHeartbeats 4000000
/-! Pz16: what a law's text tells: constants, defs by name; the empty dict; the law at the end. -/
namespace Pz
open PySem PySem.Spec PyProof.Rows L2
theorem bt_int : bootBuiltins "int" = some (.type "int") := PyProof.Rows.boot_int
theorem bt_bool : bootBuiltins "bool" = some (.type "bool") := PyProof.Rows.boot_bool
theorem bt_str : bootBuiltins "str" = some (.type "str") := PyProof.Rows.boot_str
theorem bt_tuple : bootBuiltins "tuple" = some (.type "tuple") := PyProof.Rows.boot_tuple
theorem bt_list : bootBuiltins "list" = some (.type "list") := PyProof.Rows.boot_list
theorem bt_range : bootBuiltins "range" = some (.type "range") := PyProof.Rows.boot_range
theorem bt_enumerate : bootBuiltins "enumerate" = some (.type "enumerate") := PyProof.Rows.boot_enumerate
theorem bt_set : bootBuiltins "set" = some (.type "set") := PyProof.Rows.boot_set
theorem bt_zip : bootBuiltins "zip" = some (.type "zip") := PyProof.Rows.boot_zip
theorem bt_dict : bootBuiltins "dict" = some (.type "dict") := PyProof.Rows.boot_dict
theorem bt_len : bootBuiltins "len" = some (.builtin "len") := PySem.boot_len
theorem bt_isinstance : bootBuiltins "isinstance" = some (.builtin "isinstance") := PyProof.Rows.boot_isinstance
theorem bt_sum : bootBuiltins "sum" = some (.builtin "sum") := PyProof.Rows.boot_sum
theorem bt_any : bootBuiltins "any" = some (.builtin "any") := PyProof.Rows.boot_any
theorem bt_all : bootBuiltins "all" = some (.builtin "all") := PyProof.Rows.boot_all
theorem bt_max : bootBuiltins "max" = some (.builtin "max") := PyProof.Rows.boot_max
theorem bt_min : bootBuiltins "min" = some (.builtin "min") := PyProof.Rows.boot_min
theorem bt_abs : bootBuiltins "abs" = some (.builtin "abs") := PyProof.Rows.boot_abs
theorem bt_repr : bootBuiltins "repr" = some (.builtin "repr") := PyProof.Rows.boot_repr
theorem bt_sorted : bootBuiltins "sorted" = some (.builtin "sorted") := PyProof.Rows.boot_sorted
theorem bt_iter : bootBuiltins "iter" = some (.builtin "iter") := PyProof.Rows.boot_iter
theorem bt_next : bootBuiltins "next" = some (.builtin "next") := PyProof.Rows.boot_next
structure Cst (K : PySem.W.Frag) (mg : Str → Option Value) (x : Str) (d : D) : Prop where
  ex : ∃ (v : V) (u : Value), mg x = some u ∧ RelV v u ∧ ∀ m H, VR K m H d v
theorem me_cst {X : Cx} {W : WX} {x : Str} {d : D} {pos : Pos} (hg : Gl X x) (c : Cst X.K X.mg x d) (hd : (x == ("__debug__" : Str)) = false := by decide) : ME X W (.Name x pos) (eC d) := by
  obtain ⟨v, u, h1, h2, h3⟩ := c.ex
  exact me_glob hg h1 h2 h3 hd
structure Tx (K : PySem.W.Frag) (mg : Str → Option Value) (x : Str) (st : Stmt) (ps : List Str) : Prop where
  ex : ∃ f fd, Fun K x x st f fd ∧ Binds K fd ps [] ∧ mg x = some (.ref f)
section
variable {P : Program} {w : World} {K : PySem.W.Frag} {mg : Str → Option Value} {base h : Heap} {x : Str} {st : Stmt} {ps N : List Str} {k : Nat} {b : FS}
theorem Tx.fn0 (t : Tx K mg x st ps) : Fn P w K mg base k x (fun _ _ => .bad) := by
  obtain ⟨f, fd, h1, h2, h3⟩ := t.ex
  exact ⟨f, fd, ps, ⟨fun vs H Q E ⟨_, _, _, _, _, q⟩ => q.elim, fun _ _ _ _ _ _ vs Q E _ _ _ _ ⟨_, _, _, _, _, q⟩ => q.elim⟩, h3, h1.kp, h2⟩
theorem fn_of {F : List D → Sto → Out D} {n m : Nat} (hF : F = runF n m b) (t : Tx K mg x st ps) (hn : ps.length = n) (hm : N.length = m) (sc : FnScope N ps (defScope st))
    (hbody : ∀ (f : Addr) (cdv : Value) (A : Around) (outer : List Env) (s : Shared) (H : Hp) (E : XK), Room k (cxB P w K mg base N x st f cdv A outer s H E).A → MSs (cxB P w K mg base N x st f cdv A outer s H E) (wE E) (defBody st) b) :
    Fn P w K mg base (k + 1) x F := by
  subst hF hn hm
  obtain ⟨f, fd, h1, h2, h3⟩ := t.ex
  exact ⟨f, fd, ps, fn_ok h1 sc (hbody f), h3, h1.kp, h2⟩
theorem tx_mk {f : Addr} {oc : Value} {od an : Option Addr} {osl : Array (Option Value)} {kV doc pm cdv ct : Value} (X : K.In h) (G : h.Ns mainGlobals mg)
    (bd : ∀ (kV doc pm : Value) (an : Option Addr) (cdv ct : Value) (us : List Value), us.length = ps.length → bindArgs (PySem.W.fnOf x x (defArgs st) (defBody st) (defScope st) .none kV doc pm an cdv ct) ⟨us, []⟩ = pure (ps.zip us))
    (a : PySem.W.nsIn K mainGlobals x = some (some (.ref f)))
    (l : K.lookup f = some ⟨oc, od, .func (PySem.W.fnOf x x (defArgs st) (defBody st) (defScope st) .none kV doc pm an cdv ct), osl⟩) (c : PySem.W.codeIn K cdv x = true) (k : PySem.W.keepIn K (.ref f) = true) : Tx K mg x st ps :=
  ⟨f, _, fun_mk l c k, (fun_mk (st := st) l c k).binds bd, PySem.W.mg_of X G a⟩
theorem cst_int {i : Int} {t} (X : K.In h) (G : h.Ns mainGlobals mg) (a : PySem.W.nsIn K mainGlobals x = some (some (.int i t))) : Cst K mg x (.int i) := ⟨.int i, _, PySem.W.mg_of X G a, ⟨_, rfl⟩, fun _ _ => by simp only [VR]⟩
theorem cst_str {i : Str} {t} (X : K.In h) (G : h.Ns mainGlobals mg) (a : PySem.W.nsIn K mainGlobals x = some (some (.str i t))) : Cst K mg x (.str i) := ⟨.str i, _, PySem.W.mg_of X G a, ⟨_, rfl⟩, fun _ _ => by simp only [VR]⟩
theorem cst_tup {p : Addr} {its : Array Value} {n : Nat} {osl : Array (Option Value)} {ds : List D} (X : K.In h) (G : h.Ns mainGlobals mg) (a : PySem.W.nsIn K mainGlobals x = some (some (.ref p)))
    (l : K.lookup p = some ⟨.type "tuple", none, .seq its n, osl⟩) (z : its.size ≤ sizeLine) (v : ∃ vs, Vals vs its.toList ∧ ∀ m H, VRs K m H ds vs) : Cst K mg x (.tup ds) := by
  obtain ⟨vs, h1, h2⟩ := v
  refine ⟨.ref p, _, PySem.W.mg_of X G a, rfl, fun m H => ?_⟩
  simp only [VR]
  exact ⟨p, vs, rfl, .inr ⟨_, its, n, l, rfl, rfl, rfl, z, h1⟩, h2 m H⟩
theorem fnG_of {F : List D → Sto → Out D} {n m : Nat} {f : Addr} {fd : FuncData} (hF : F = runF n m b) (F' : Fun K x x st f fd) (hn : ps.length = n) (hm : N.length = m) (sc : FnScope N ps (defScope st))
    (hbody : ∀ (cdv : Value) (A : Around) (outer : List Env) (s : Shared) (H : Hp) (E : XK), Room k (cxB P w K mg base N x st f cdv A outer s H E).A → (cxB P w K mg base N x st f cdv A outer s H E).A.guards = some [] → MSs (cxB P w K mg base N x st f cdv A outer s H E) (wE E) (defBody st) b) : FnG P w K mg base (k + 1) f fd ps (spF K F) := by
  subst hF hn hm
  exact fnG_ok F' sc hbody
theorem law_fn {f : Addr} {oc : Value} {od an : Option Addr} {osl : Array (Option Value)} {kV doc pm cdv ct : Value} {F : List D → Sto → Out D} {fa : Addr} {y : Str} (X : K.In h) (G : h.Ns mainGlobals mg) (hmg : mg x = some (.ref fa))
    (bd : ∀ (kV doc pm : Value) (an : Option Addr) (cdv ct : Value) (s : Shared) (u : Value), BindsTo s (PySem.W.fnOf x x (defArgs st) (defBody st) (defScope st) .none kV doc pm an cdv ct) ⟨[u], []⟩ [(y, u)])
    (hf : ∀ {f : Addr} {fd : FuncData} (F' : Fun K x x st f fd) (base : Heap), K.In base → base.Ns mainGlobals mg → FnG P w K mg base k f fd [y] (spF K F))
    (a : PySem.W.nsIn K mainGlobals x = some (some (.ref f)))
    (l : K.lookup f = some ⟨oc, od, .func (PySem.W.fnOf x x (defArgs st) (defBody st) (defScope st) .none kV doc pm an cdv ct), osl⟩) (c : PySem.W.codeIn K cdv x = true) (kp : PySem.W.keepIn K (.ref f) = true) :
    ∃ fd : FuncData, (∀ (s : Shared) (u : Value), BindsTo s fd ⟨[u], []⟩ [(y, u)]) ∧ ∀ base : Heap, K.In base → base.Ns mainGlobals mg → FnG P w K mg base k fa fd [y] (spF K F) := by
  have e := hmg.symm.trans (PySem.W.mg_of X G a)
  cases e
  exact ⟨_, bd kV doc pm an cdv ct, fun base hK hG => hf (fun_mk (st := st) l c kp) base hK hG⟩
end
section
variable {X : Cx} {W : WX} {pos : Pos}
def eDk0 : FE := fun _ S => .ok (.ref S.length) (S ++ [.dk []])
theorem me_dk0 : ME X W (.Dict [] [] pos) eDk0 := pe_dnewK.imp fun σ H Q ⟨l, m, S, R, q⟩ t ht => by
  have hn : t ∉ m := R.sr.notin ht
  refine q _ _ (m ++ [t]) ((Ext.tmp ht).into ht) ((R.sr.tmp ht).grow hn ⟨[], upd_same, rfl⟩) ?_
  simp only [VR]
  exact ⟨t, by rw [← R.sr.len, List.getElem?_concat_length], rfl⟩
end
end Pz

set_option Elab.async false
set_option linter.all false
set_option maxRecDepth 100000
set_option maxHeartbeats 4000000
/-! Pz17: sorted of ints and of tuples of ints; sets of ints. -/
namespace Pz
open PySem PySem.Spec PyProof.Rows L2

/-! ### tuples of ints by their order -/
def ltL : List Int → List Int → Bool
  | [], [] => false
  | [], _ :: _ => true
  | _ :: _, [] => false
  | x :: xs, y :: ys => if x = y then ltL xs ys else decide (x < y)
theorem ltL_asym : ∀ x y : List Int, ltL x y = true → ltL y x = false
  | [], [], h => by cases h
  | [], _ :: _, _ => rfl
  | _ :: _, [], h => by cases h
  | x :: xs, y :: ys, h => by
    unfold ltL at h ⊢
    by_cases e : x = y
    · rw [if_pos e] at h
      rw [if_pos e.symm]
      exact ltL_asym xs ys h
    · rw [if_neg e, decide_eq_true_eq] at h
      rw [if_neg (Ne.symm e), decide_eq_false_iff_not]; omega
theorem ltL_nil : ∀ z : List Int, ltL z [] = false
  | [] => rfl
  | _ :: _ => rfl
theorem ltL_tr : ∀ x y z : List Int, ltL y x = false → ltL z y = false → ltL z x = false
  | [], _, z, _, _ => ltL_nil z
  | _ :: _, [], _, h, _ => by cases h
  | _ :: _, _ :: _, [], _, h => by cases h
  | x :: xs, y :: ys, z :: zs, h, h' => by
    unfold ltL at h h' ⊢
    by_cases e : y = x
    · subst e
      rw [if_pos rfl] at h
      by_cases e2 : z = y
      · subst e2
        rw [if_pos rfl] at h' ⊢
        exact ltL_tr xs ys zs h h'
      · rw [if_neg e2] at h' ⊢; exact h'
    · rw [if_neg e, decide_eq_false_iff_not] at h
      by_cases e2 : z = y
      · subst e2
        rw [if_neg e, decide_eq_false_iff_not]; exact h
      · rw [if_neg e2, decide_eq_false_iff_not] at h'
        rw [if_neg (by omega), decide_eq_false_iff_not]; omega
theorem ltL_eq : ∀ x y : List Int, ltL x y = false → ltL y x = false → x = y
  | [], [], _, _ => rfl
  | [], _ :: _, h, _ => by cases h
  | _ :: _, [], _, h => by cases h
  | x :: xs, y :: ys, h, h' => by
    unfold ltL at h h'
    by_cases e : x = y
    · subst e
      rw [if_pos rfl] at h h'
      rw [ltL_eq xs ys h h']
    · rw [if_neg e, decide_eq_false_iff_not] at h
      rw [if_neg (Ne.symm e), decide_eq_false_iff_not] at h'
      omega
theorem swo_ltL {α : Type} (k : α → List Int) : SrtO.Swo fun v u => ltL (k v) (k u) := ⟨fun x y h => ltL_asym _ _ h, fun x y z h1 h2 => ltL_tr _ _ _ h1 h2⟩
def IsIT (h : Heap) (v : Value) (ns : List Int) : Prop := ∃ a o us n, v = .ref a ∧ h.get? a = some o ∧ o.cls = .type "tuple" ∧ o.data = .seq us n ∧ IntsAre us.toList ns ∧ ns ≠ []
theorem IsIT.keeps {h h' : Heap} {v : Value} {ns : List Int} (p : IsIT h v ns) (k : ∀ b o, h.get? b = some o → o.cls = .type "tuple" → h'.get? b = some o) : IsIT h' v ns :=
  let ⟨a, o, us, n, e, ho, hc, r⟩ := p
  ⟨a, o, us, n, e, k _ _ ho hc, hc, r⟩
section
variable {prog : Program} {w : World} {A : Around} {s : Shared} {E : Value → Shared → Prop}
theorem katL {Q : Bool → Shared → Prop} : ∀ (us vs : List Value) (ns ms : List Int) (i : Nat), IntsAre us ns → IntsAre vs ms → Q (ltL ns ms) s → PySem.W.KatLex prog w A true (decide (us.length < vs.length)) Q (us.zip vs) i s
  | _, _, _, _, i, .nil, .nil, q => PySem.W.kat_nil q
  | _, _, _, _, i, .nil, .cons _ _ _, q => PySem.W.kat_nil (by simpa [ltL] using q)
  | _, _, _, _, i, .cons _ _ _, .nil, q => PySem.W.kat_nil (by simpa [ltL] using q)
  | _ :: us, _ :: vs, _ :: ns, _ :: ms, i, .cons x t r, .cons y u r2, q => by
    rw [List.zip_cons_cons]
    refine PySem.W.kat_cons (SeqAt.EqAt.int_int x t y u prog w _ _ ?_)
    refine PySem.W.kat_go (fun e1 => ?_) (fun e1 => ?_)
    · have ex : x = y := by simpa using e1
      refine PySem.W.kat_yes ?_
      have := katL us vs ns ms (i + 1) r r2 (Q := Q) (by unfold ltL at q; rw [if_pos ex] at q; exact q)
      simpa using this
    · have ex : ¬ x = y := by simpa using e1
      have q' : Q (decide (x < y)) s := by unfold ltL at q; rw [if_neg ex] at q; exact q
      refine PySem.W.kat_no ?_
      by_cases hi : i = 0
      · subst hi
        exact oneLt_int q'
      · have e0 : (true && i == 0) = false := by simp [hi]
        rw [e0]
        exact PySem.W.kat_one _ _ (PyProof.Rows.lt_int q')
theorem it_cmp {vs : List Value} {k : Value → List Int} (hp : ∀ v ∈ vs, IsIT s.heap v (k v)) : SrtO.Cmp prog w A s (tuples' true) (fun p => p.1 ∈ vs) (SrtO.lt2 fun v u => ltL (k v) (k u)) := by
  intro p q hm hm'
  obtain ⟨a, o, us, n, e, ho, hc, hd, hi, _⟩ := hp _ hm
  obtain ⟨a', o', us', n', e', ho', hc', hd', hi', _⟩ := hp _ hm'
  show wpAny (model prog w) A (keyLt' (tuples' true) p.1 q.1) (fun r s' => s' = s ∧ r = ltL (k p.1) (k q.1)) (fun _ _ => False) s
  rw [e] at hi ⊢
  rw [e'] at hi' ⊢
  refine PySem.W.kat_lt ho hd ho' hd' ?_
  have := katL (prog := prog) (w := w) (A := A) (s := s) (Q := fun r s' => s' = s ∧ r = ltL (k (.ref a)) (k (.ref a'))) us.toList us'.toList _ _ 0 hi hi' ⟨rfl, rfl⟩
  simpa using this
theorem it_firsts {h : Heap} {k : Value → List Int} : ∀ {vs : List Value}, (∀ v ∈ vs, IsIT h v (k v)) → ∃ fs : List Value, PySem.W.KatTups h vs fs ∧ fs.length = vs.length ∧ ∀ f ∈ fs, ∃ x t, f = Value.int x t
  | [], _ => ⟨[], .nil, rfl, fun _ hm => nomatch hm⟩
  | v :: vs, hp => by
    obtain ⟨fs, h1, h2, h3⟩ := it_firsts (vs := vs) fun v' hm => hp v' (List.mem_cons_of_mem _ hm)
    obtain ⟨a, o, us, n, e, ho, hc, hd, hi, hne⟩ := hp v List.mem_cons_self
    cases hk : k v with
    | nil => exact absurd hk hne
    | cons x r =>
      rw [hk] at hi
      subst e
      have hus : ∃ t ul, us.toList = Value.int x t :: ul := by
        generalize us.toList = ul at hi
        cases hi with
        | cons _ t r => exact ⟨t, _, rfl⟩
      obtain ⟨t, ul, hul⟩ := hus
      refine ⟨.int x t :: fs, .cons ho hc hd (by rw [← Array.getElem?_toList, hul]; rfl) h1, by simp [h2], fun f hm => ?_⟩
      rcases List.mem_cons.mp hm with q | q
      · exact ⟨x, t, q⟩
      · exact h3 f q
theorem it_sortable {a : Addr} {vs : List Value} {k : Value → List Int} (h0 : 0 < vs.length) (hp : ∀ v ∈ vs, IsIT s.heap v (k v)) (ha : ∀ o, s.heap.get? a = some o → o.cls ≠ .type "tuple") : SrtO.SortableO prog w A s a vs fun v u => ltL (k v) (k u) := by
  intro h' keep
  have hp' : ∀ v ∈ vs, IsIT h' v (k v) := fun v hm => (hp v hm).keeps fun b o e c => keep b o (fun z => ha o (z ▸ e) c) e
  obtain ⟨fs, h1, h2, h3⟩ := it_firsts hp'
  refine ⟨tuples' true, fun Q E hq => ?_, it_cmp hp'⟩
  refine PySem.W.kat_kind (T := .type "int") h1 (by omega) (fun f hm => ?_) rfl ?_
  · obtain ⟨x, t, rfl⟩ := h3 f hm
    exact PySem.W.Looks.now
  · have e : (Value.type "int" != Value.type "tuple") = true := by decide +kernel
    rw [e]; exact hq
end
/-- the items of a list or tuple, gathered -/
theorem collect_tup {prog : Program} {w : World} {A : Around} {s : Shared} {E : Value → Shared → Prop} {l : Addr} {vs : List Value} {Q : List Value → Shared → Prop} (hl : s.heap.IsTuple l vs.toArray) (hz : vs.length ≤ sizeLine)
    (h : Q vs { s with heap := (s.heap.push (seqObj "list" #[] 0)).update s.heap.objs.size (Obj.mapSeq (· ++ vs.toArray)) }) : wpAny (model prog w) A (collect (.ref l)) Q E s := by
  obtain ⟨o, ho, hc, n, hd⟩ := id hl
  have ho' : (s.heap.push (seqObj "list" #[] 0)).get? l = some o := Heap.get?_push_of_some _ ho
  have hS : (s.heap.push (seqObj "list" #[] 0)).get? s.heap.objs.size = some (seqObj "list" #[] 0) := Heap.get?_push_size _ rfl
  unfold collect
  refine wpAny_bind (wpAny_runValue (codeAny_builtin entry_proto_collect' ?_))
  show wpAny _ _ (do again (.builtin "list.__iadd__" ⟨[← newList [], .ref l], []⟩)) _ _ s
  refine wpAny_bind (wpAny_newList (wpAny_pure ⟨Code.quiet_builtin _ (by decide +kernel), codeAny_builtin entry_list_iadd' ?_⟩))
  show wpAny _ _ (Builtin.List.listExtendWith (.ref s.heap.objs.size) (.ref l) (.ref s.heap.objs.size)) _ _ { s with heap := s.heap.push (seqObj "list" #[] 0) }
  unfold Builtin.List.listExtendWith
  refine wpAny_bind (wpAny_typeOf (T := "tuple") ⟨o, ho', hc⟩ ?_)
  have ht : (Value.type "tuple" == Value.type "tuple") = true := rfl
  rw [if_pos (by rw [ht]; simp)]
  refine wpAny_bind (listItems_at ho' hd (wpAny_bind (listItems_at (xs := #[]) (n := 0) hS rfl ?_)))
  rw [if_neg (by simp)]
  refine wpAny_bind (listUpdate_at (xs := #[]) (n := 0) hS rfl ?_ (Nat.zero_le _) (by show (#[] ++ vs.toArray).size ≤ sizeLine + 1; simp; omega))
  refine wpAny_pure ?_
  show wpAny (model prog w) A (do
      let o ← load s.heap.objs.size
      match o.data with
      | .seq xs _ => pure xs.toList
      | _ => unsupported "internal:collect") Q E { s with heap := (s.heap.push (seqObj "list" #[] 0)).update s.heap.objs.size (Obj.mapSeq (· ++ vs.toArray)) }
  refine wpAny_bind (wpAny_load (get?_update_seq hS _) ?_)
  show wpAny _ _ (pure ((#[] : Array Value) ++ vs.toArray).toList) Q E _
  rw [show ((#[] : Array Value) ++ vs.toArray).toList = vs by simp]
  exact wpAny_pure h
section
variable {prog : Program} {w : World} {A : Around} {s : Shared} {E : Value → Shared → Prop}
theorem sorted_any {l : Addr} {vs : List Value} {ltv : Value → Value → Bool} {Q : Value → Shared → Prop} (O : SrtO.Swo ltv) (hl : s.heap.IsList l vs.toArray ∨ s.heap.IsTuple l vs.toArray) (hz : vs.length ≤ sizeLine)
    (hS : 2 ≤ vs.length → ∀ (h₁ : Heap) (a : Addr), h₁.get? a = some (seqObj "list" vs.toArray 0) → (∀ b o, s.heap.get? b = some o → b ≠ a ∧ h₁.get? b = some o) → SrtO.SortableO prog w A.in1.in1 { s with heap := h₁ } a vs ltv)
    (h : ∀ out : List Value, SrtO.Srtd ltv out → SrtO.Stb ltv out vs → Q (.ref (s.heap.objs.size + 1)) { s with heap := sortedAll s.heap vs out.toArray }) : wpAny (model prog w) A (call (.builtin "sorted") [.ref l]) Q E s := by
  rcases hl with hl | hl
  · exact SrtO.sorted_ord O hl hz hS h
  · refine Calls.call_function_entry kind_sorted plain_sorted entry_sorted (args_sorted1 _) ?_
    unfold Builtin.«sorted»
    refine wpAny_bind (m := checkCount "sorted" 1 1 _) (wpAny_pure (wpAny_bind (collect_tup hl hz (wpAny_bind (wpAny_newList ?_ hz)))))
    obtain ⟨g, hg⟩ : ∃ g, g = (s.heap.push (seqObj "list" #[] 0)).update s.heap.objs.size (Obj.mapSeq (· ++ vs.toArray)) := ⟨_, rfl⟩
    have gz : g.objs.size = s.heap.objs.size + 1 := by rw [hg, Heap.size_update, size_push']
    have gL : (g.push (seqObj "list" vs.toArray 0)).get? (s.heap.objs.size + 1) = some (seqObj "list" vs.toArray 0) := by rw [← gz]; exact Heap.get?_push_size _ rfl
    have gk : ∀ b o, s.heap.get? b = some o → b ≠ s.heap.objs.size + 1 ∧ (g.push (seqObj "list" vs.toArray 0)).get? b = some o := fun b o q => by
      have lt := Heap.lt_size q
      refine ⟨Nat.ne_of_lt (Nat.lt_succ_of_lt lt), Heap.get?_push_of_some _ ?_⟩
      rw [hg, Heap.get?_update_ne _ _ _ _ (Nat.ne_of_lt lt)]; exact Heap.get?_push_of_some _ q
    have hQ : ∀ out : List Value, SrtO.Srtd ltv out → SrtO.Stb ltv out vs → Q (.ref (s.heap.objs.size + 1)) { s with heap := sortedHeap (g.push (seqObj "list" vs.toArray 0)) (s.heap.objs.size + 1) vs out.toArray } := fun out a b => by
      have := h out a b
      rw [hg]; exact this
    rw [← hg]
    show wpAny _ _ _ _ _ { s with heap := g.push (seqObj "list" vs.toArray 0) }
    rw [gz]
    exact wpAny_bind (wpAny_holding (wpAny_call_entry slot_list_sort ⟨_, gL, rfl⟩ entry_list_sort (SrtO.list_sort_ord O gL hz (fun h2 => hS h2 _ _ gL gk) fun out a b => ⟨_, rfl, wpAny_pure ⟨_, rfl, hQ out a b⟩⟩) (args_list_sort _)))
end
/-- sorted of ints, of tuples of ints, in a list or tuple -/
def rSoI (K : PySem.W.Frag) : List V → Hp → VK → Prop := fun vs H Q => ∃ (a : Addr) (ns : List Int), vs = [V.ref a] ∧ (SqL K H a (ns.map V.int) ∨ SqT K H a (ns.map V.int)) ∧ ∀ (ns' : List Int) (p : Addr), ns'.Perm ns → ns'.Pairwise (· ≤ ·) → H p = none → Q (.ref p) (upd H p (.lst (ns'.map V.int)))
def PT (K : PySem.W.Frag) (H : Hp) : List V → List (List Int) → Prop
  | [], [] => True
  | x :: xs, l :: ls => (∃ t, x = V.ref t ∧ SqN K H t (l.map V.int) ∧ l ≠ []) ∧ PT K H xs ls
  | _, _ => False
theorem PT.mem {K : PySem.W.Frag} {H : Hp} : ∀ {xs : List V} {ls : List (List Int)}, PT K H xs ls → ∀ x ∈ xs, ∃ t l, x = V.ref t ∧ SqN K H t (l.map V.int) ∧ l ≠ []
  | [], [], _, _, h => nomatch h
  | y :: xs, l :: ls, ⟨⟨t, e, h1, h2⟩, p⟩, x, h => by
    rcases List.mem_cons.mp h with q | q
    · exact ⟨t, l, q.trans e, h1, h2⟩
    · exact PT.mem p x q
def rSoT (K : PySem.W.Frag) : List V → Hp → VK → Prop := fun vs H Q => ∃ (a : Addr) (xs : List V) (ls : List (List Int)), vs = [V.ref a] ∧ (SqL K H a xs ∨ SqT K H a xs) ∧ PT K H xs ls ∧
  ∀ ys ls' p, PT K H ys ls' → ls'.Perm ls → ls'.Pairwise (fun x y => ltL y x = false) → H p = none → Q (.ref p) (upd H p (.lst ys))
theorem intsAre_fun : ∀ {us : List Value} {ns ms : List Int}, IntsAre us ns → IntsAre us ms → ns = ms
  | _, _, _, .nil, .nil => rfl
  | _, _, _, .cons _ _ h, .cons _ _ h' => by rw [intsAre_fun h h']
theorem IsIT.fun {h : Heap} {v : Value} {l l' : List Int} (p : IsIT h v l) (q : IsIT h v l') : l = l' := by
  obtain ⟨a, o, us, n, e, ho, hc, hd, hi, _⟩ := p
  obtain ⟨a', o', us', n', e', ho', hc', hd', hi', _⟩ := q
  subst e
  cases e'
  rw [ho] at ho'
  cases ho'
  rw [hd] at hd'
  cases hd'
  exact intsAre_fun hi hi'
open Classical in
noncomputable def keyIT (h : Heap) (v : Value) : List Int := if q : ∃ l, IsIT h v l then q.choose else []
theorem keyIT_eq {h : Heap} {v : Value} {l : List Int} (p : IsIT h v l) : keyIT h v = l := by
  have q : ∃ l, IsIT h v l := ⟨l, p⟩
  unfold keyIT
  rw [dif_pos q]
  exact q.choose_spec.fun p
section
variable {X : Cx}
theorem inv_seq {pins : List (Addr × Obj)} {s : Shared} {σ : L2.St} {H : Hp} {a : Addr} {xs : List V} (I : Inv X pins σ H s) (h : SqL X.K H a xs ∨ SqT X.K H a xs) : ∃ its : List Value, Vals xs its ∧ (s.heap.IsList a its.toArray ∨ s.heap.IsTuple a its.toArray) ∧ xs.length ≤ sizeLine := by
  rcases h with h | h
  · obtain ⟨its, rv, hl, hz⟩ := I.list h
    exact ⟨its, rv, .inl hl.isList, hz⟩
  · obtain ⟨its, rv, hl, hz⟩ := I.tuple h
    exact ⟨its, rv, .inr hl, hz⟩
theorem cr_soI : CallR X (.builtin "sorted") (rSoI X.K) := by
  intro pins s σ H vs us Q I r h
  obtain ⟨a, ns, rfl, hs, q⟩ := h
  obtain ⟨its, rv, hl, hz⟩ := inv_seq I hs
  rw [Vals.ref1 r]
  have hi := rv.ints
  refine sorted_any SrtO.swo_int hl (by rw [← rv.length]; exact hz) (fun h2 h₁ a' _ _ => SrtO.ints_sortable hi h2) fun out h1 h2 => ?_
  obtain ⟨k1, k2, k3⟩ := SrtO.ints_out hi h1 h2
  obtain ⟨n, e⟩ := PyProof.Rows.sortedAll_at s.heap its out.toArray
  refine ⟨.ref _, upd H (s.heap.objs.size + 1) (.lst ((out.map SrtO.iv).map V.int)), I.laid (t' := s.toks) (fun _ _ => PyProof.Rows.sortedAll_old) (Nat.le_succ _) ⟨?_, out, n, vals_of_ints k1, e⟩, rfl, q _ _ k2 k3 (I.hok.fresh (Nat.le_succ _))⟩
  rw [List.length_map, k2.length_eq]; simpa using hz
theorem cr_soT : CallR X (.builtin "sorted") (rSoT X.K) := by
  intro pins s σ H vs us Q I r h
  obtain ⟨a, xs, ls, rfl, hs, hx, q⟩ := h
  obtain ⟨its, rv, hl, hz⟩ := inv_seq I hs
  rw [Vals.ref1 r]
  obtain ⟨e1, e2⟩ := refs_back rv fun x m => let ⟨t, _, e, _⟩ := hx.mem x m; ⟨t, e⟩
  have one : ∀ (t : Addr) (l : List Int), SqT X.K H t (l.map V.int) → l ≠ [] → IsIT s.heap (.ref t) l := fun t l ht hne => by
    obtain ⟨us, r2, ⟨o, ho, hc, n, hd⟩, _⟩ := I.tuple ht
    exact ⟨t, o, us.toArray, n, rfl, ho, hc, hd, by simpa using r2.ints, hne⟩
  have al : ∀ (us : List Value) (ls : List (List Int)), PT X.K H (us.map backV) ls → (∀ u ∈ us, ∃ a, u = Value.ref a) → us.map (keyIT s.heap) = ls ∧ ∀ u ∈ us, ∃ t, u = .ref t ∧ SqN X.K H t ((keyIT s.heap u).map V.int) ∧ keyIT s.heap u ≠ [] := by
    intro us
    induction us with
    | nil =>
      intro ls p _
      cases ls with
      | nil => exact ⟨rfl, fun _ h => nomatch h⟩
      | cons => exact p.elim
    | cons u us ih =>
      intro ls p hu
      cases ls with
      | nil => exact p.elim
      | cons l ls =>
        obtain ⟨⟨t, e, h1, h2⟩, p⟩ := p
        obtain ⟨b, rfl⟩ := hu u List.mem_cons_self
        cases e
        obtain ⟨i1, i2⟩ := ih ls p fun u hm => hu u (List.mem_cons_of_mem _ hm)
        have k := keyIT_eq (one _ l h1.t h2)
        refine ⟨by rw [List.map_cons, i1, k], fun u hm => ?_⟩
        rcases List.mem_cons.mp hm with z | z
        · subst z
          rw [k]; exact ⟨_, rfl, h1, h2⟩
        · exact i2 u z
  rw [e1] at hx
  obtain ⟨a1, a2⟩ := al its ls hx e2
  have hit : ∀ v ∈ its, IsIT s.heap v (keyIT s.heap v) := fun v hv => by
    obtain ⟨t, e, h1, h2⟩ := a2 v hv
    generalize keyIT s.heap v = l at h1 h2 ⊢
    rw [e]; exact one t l h1.t h2
  refine sorted_any (swo_ltL (keyIT s.heap)) hl (by rw [← rv.length]; exact hz) (fun h2 h₁ b hb kk => ?_) fun out hs hb => ?_
  · refine it_sortable (s := { s with heap := h₁ }) (by omega) (fun v hm => (hit v hm).keeps fun b o e _ => (kk b o e).2) fun o e c => ?_
    have e' : some o = some (seqObj "list" its.toArray 0) := e.symm.trans hb
    cases e'
    exact absurd (Value.type.inj c) (by decide)
  · have h3 : ∀ u ∈ out, u ∈ its := fun u hu => hb.perm.mem_iff.mp hu
    obtain ⟨n, e⟩ := PyProof.Rows.sortedAll_at s.heap its out.toArray
    have hp : (out.map backV).Perm xs := by rw [e1]; exact hb.perm.map _
    have pt : ∀ us : List Value, (∀ u ∈ us, u ∈ its) → PT X.K H (us.map backV) (us.map (keyIT s.heap)) := by
      intro us
      induction us with
      | nil => exact fun _ => trivial
      | cons u us ih =>
        intro hu
        obtain ⟨t, e, h1, h2⟩ := a2 u (hu u List.mem_cons_self)
        exact ⟨⟨t, by rw [e]; rfl, h1, h2⟩, ih fun v hv => hu v (List.mem_cons_of_mem _ hv)⟩
    refine ⟨.ref _, upd H (s.heap.objs.size + 1) (.lst (out.map backV)), I.laid (t' := s.toks) (fun _ _ => PyProof.Rows.sortedAll_old) (Nat.le_succ _) ⟨?_, out, n, vals_back fun u hu => e2 u (h3 u hu), e⟩, rfl, q _ (out.map (keyIT s.heap)) _ (pt out h3) (a1 ▸ hb.perm.map _) (List.pairwise_map.mpr hs) (I.hok.fresh (Nat.le_succ _))⟩
    rw [hp.length_eq]; exact hz
end
/-! sorted, as a function on lists of data -/
def leL (a b : List Int) : Bool := !ltL b a
def tupI (d : D) : Option (List Int) := match d with
  | .tup xs => match intsD xs with
    | some (n :: ns) => some (n :: ns)
    | _ => none
  | _ => none
def encT (l : List Int) : D := .tup (l.map .int)
def sortQ (xs : List D) : Option (List D) := match intsD xs with
  | some ns => some ((ns.mergeSort fun a b => decide (a ≤ b)).map .int)
  | none => (mapO tupI xs).map fun ls => (ls.mergeSort leL).map encT
def oSorted (xs : List D) (S : Sto) : Out LV := match sortQ xs with
  | some ys => .ok (.tmp ys) S
  | none => .bad
theorem tupI_ok {d : D} {l : List Int} (h : tupI d = some l) : d = encT l ∧ l ≠ [] := by
  unfold tupI at h
  split at h
  · split at h
    · rename_i e
      cases h
      exact ⟨by rw [intsD_ok e]; rfl, by simp⟩
    · cases h
  · cases h
theorem tupI_enc {l : List Int} (h : l ≠ []) : tupI (encT l) = some l := by
  cases l with
  | nil => exact absurd rfl h
  | cons n ns =>
    unfold tupI encT
    simp only [intsD_map]
theorem mapO_tupI {ls : List (List Int)} (h : ∀ l ∈ ls, l ≠ []) : mapO tupI (ls.map encT) = some ls := by
  induction ls with
  | nil => rfl
  | cons l ls ih =>
    rw [List.map_cons, mapO, tupI_enc (h l List.mem_cons_self), ih fun x hx => h x (List.mem_cons_of_mem _ hx)]
theorem CallR.or2 {X : Cx} {f : Value} {r r' : List V → Hp → VK → Prop} (h : CallR X f r) (h' : CallR X f r') : CallR X f fun vs H Q => r vs H Q ∨ r' vs H Q := fun pins s σ H vs us Q I rv q => by
  rcases q with q | q
  · exact h pins s σ H vs us Q I rv q
  · exact h' pins s σ H vs us Q I rv q
section
variable {X : Cx} {W : WX} {e : Expr} {p pos : Pos} {q : FQ} {K : PySem.W.Frag} {m : List Addr} {H : Hp}
theorem PT.of : ∀ {ds : List D} {ls : List (List Int)} {vs : List V}, mapO tupI ds = some ls → VRs K m H ds vs → PT K H vs ls
  | [], ls, vs, h, r => by
    cases h
    simp only [VRs] at r
    subst r
    trivial
  | d :: ds, ls, vs, h, r => by
    unfold mapO at h
    split at h
    · rename_i l ls' h1 h2
      cases h
      simp only [VRs] at r
      obtain ⟨v, us, rfl, r1, r2⟩ := r
      obtain ⟨e1, e2⟩ := tupI_ok h1
      subst e1
      simp only [encT, VR] at r1
      obtain ⟨t, ws, rfl, r3, r4⟩ := r1
      rw [VRs.ints r4] at r3
      exact ⟨⟨t, rfl, r3, e2⟩, PT.of h2 r2⟩
    · cases h
theorem PT.back : ∀ {ls : List (List Int)} {vs : List V}, PT K H vs ls → VRs K m H (ls.map encT) vs
  | [], [], _ => .nil
  | l :: ls, v :: vs, ⟨⟨t, e, h1, _⟩, h⟩ => by
    subst e
    refine VRs.cons ?_ (PT.back h)
    simp only [encT, VR]
    exact ⟨t, _, rfl, h1, VRs.of_ints l⟩
theorem leL_total (a b : List Int) : (leL a b || leL b a) = true := by
  unfold leL
  cases h : ltL b a with
  | false => rfl
  | true => rw [ltL_asym _ _ h]; rfl
theorem leL_trans (a b c : List Int) (h : leL a b = true) (h' : leL b c = true) : leL a c = true := by
  simp only [leL, Bool.not_eq_true'] at *
  exact ltL_tr a b c h h'
theorem sort_uniqI {ns ms : List Int} (p : ms.Perm ns) (s : ms.Pairwise (· ≤ ·)) : ms = ns.mergeSort fun a b => decide (a ≤ b) := by
  refine List.Perm.eq_of_pairwise (le := fun a b => a ≤ b) (fun a b _ _ => Int.le_antisymm) s ?_ (p.trans (List.mergeSort_perm _ _).symm)
  have := List.pairwise_mergeSort (le := fun a b : Int => decide (a ≤ b)) (fun a b c h h' => by simp only [decide_eq_true_eq] at *; omega) (fun a b => by simp only [Bool.or_eq_true, decide_eq_true_eq]; omega) ns
  exact this.imp fun h => by simpa using h
theorem sort_uniqL {ns ms : List (List Int)} (p : ms.Perm ns) (s : ms.Pairwise fun x y => ltL y x = false) : ms = ns.mergeSort leL := by
  refine List.Perm.eq_of_pairwise (le := fun x y => ltL y x = false) (fun a b _ _ h h' => ltL_eq a b h' h) s ?_ (p.trans (List.mergeSort_perm _ _).symm)
  exact (List.pairwise_mergeSort leL_trans leL_total ns).imp fun h => by simpa [leL] using h
theorem ml_sorted (hg : Gl X "sorted") (hm : X.mg "sorted" = none) (hb : bootBuiltins "sorted" = some (.builtin "sorted")) (he : MQ X W e q) (s1 : starEach [e] X.env = (false, eval e X.env) :: starEach [] X.env := by rfl) (hpl : (backTo pos (starEach [] X.env)).any (·.1) = false := by rfl) : ML X W (.Call (.Name "sorted" p) [e] [] pos) (eB1 oSorted q) :=
  call1B (CallR.or2 cr_soI cr_soT) (fun W σ m H H0 S x v Q R ⟨p, vs, h1, h2, h3⟩ q => by
    subst h1
    unfold oSorted sortQ at q
    cases hi : intsD x with
    | some ns =>
      rw [hi] at q
      have e := intsD_ok hi
      subst e
      rw [VRs.ints h3] at h2
      refine .inl ⟨p, ns, rfl, h2.imp id SqN.t, fun ms t pm so ht => ?_⟩
      rw [sort_uniqI pm so]
      exact q _ _ m (Ext.tmp ht) (R.tmp ht) (pL.new .refl R ht (VRs.of_ints _))
    | none =>
      rw [hi] at q
      cases hl : mapO tupI x with
      | none => rw [hl] at q; exact q.elim
      | some ls =>
        rw [hl] at q
        refine .inr ⟨p, vs, ls, rfl, h2.imp id SqN.t, PT.of hl h3, fun ys ms t py pm so ht => ?_⟩
        have e := sort_uniqL pm so
        subst e
        exact q _ _ m (Ext.tmp ht) (R.tmp ht) (pL.new .refl R ht (PT.back py))) anti_L hg hm hb he (by decide) (by decide) s1 hpl
end
end Pz

set_option Elab.async false
set_option linter.all false
set_option maxRecDepth 100000
set_option maxHeartbeats 4000000
/-! Pz18: len(set(..)), sorted(set(..)) of ints. -/
namespace Pz
open PySem PySem.Spec PyProof.Rows L2
section
variable {P : Program} {w : World} {A : Around} {s : Shared} {E : Value → Shared → Prop}
abbrev fsO (w : World) : Obj := { cls := .type "set", dict := none, data := .set #[] 0 (.fresh 0 0 (!w.params.followText "set-order")) }
/-- set(l) of a list of ints -/
theorem set_lstI {l : Addr} {items : Array Value} (ns : List Int) {Q : Value → Shared → Prop} (hh : A.handled = none) (hl : s.heap.IsList l items) (hit : IntsAre items.toList ns) (hb : ns.length + 1 < scanBound)
    (h : ∀ (h' : Heap) (tk c : Nat), SetR w h' s.heap.objs.size (fun j => decide (j ∈ ns)) c → c ≤ ns.length → (∀ b o, s.heap.get? b = some o → h'.get? b = some o) → Q (.ref s.heap.objs.size) { s with heap := h', toks := tk }) :
    wpAny (model P w) A (call (.type "set") [.ref l]) Q E s := by
  have zs : items.size = ns.length := by have q := IntsAre.length hit; rwa [Array.length_toList] at q
  obtain ⟨lo, lh, lc, ln, ld⟩ := id hl
  have ll : l < s.heap.objs.size := Heap.lt_size lh
  obtain ⟨c, tl, c1⟩ := F.called_set.mro
  have c2 := F.called_set.made
  have c3 := F.called_set.sub
  refine wpAny_call (codeAny_of_tree ?_)
  show wpAny _ _ (callAny (.type "set") _) _ _ _
  refine wpAny_pure ⟨Code.quiet_builtin _ (by decide +kernel), codeAny_builtin F.entry_type_call ?_⟩
  rw [Around.under_plain (weight_type_call_type "set" [.ref l] []) rfl]
  have d1 := F.called_set.notType
  have d2 := F.called_set.canCreate
  have d3 := F.typeCall_set_1 (.ref l)
  repeat (any_goals (first | assumption | wp_step))
  refine codeAny_mono (code_set_led1 (.ref l) (E := E) (Q₁ := fun x t => x = .ref s.heap.objs.size ∧ t = { s with heap := s.heap.push (fsO w) }) ⟨rfl, rfl⟩) fun r t hr => ?_
  match r, hr with
  | .error e, hr => exact hr
  | .ok (.ret x), hr =>
    obtain ⟨rfl, rfl⟩ := hr
    have gS : (s.heap.push (fsO w)).get? s.heap.objs.size = some (fsO w) := Heap.get?_push_size _ rfl
    have gT : Shared.TypeIs { s with heap := s.heap.push (fsO w) } (.ref s.heap.objs.size) "set" := ⟨_, gS, rfl⟩
    have e1 := F.called_set.init.lookup
    have e2 := F.called_set.init.bind (.ref s.heap.objs.size)
    repeat (any_goals (first | assumption | wp_step))
    refine codeAny_mono (codeAny_call_builtin (R := wants (fun r t => r = .none ∧ ∃ h' tk c, t = { s with heap := h', toks := tk } ∧ SetR w h' s.heap.objs.size (fun j => decide (j ∈ ns)) c ∧ c ≤ ns.length ∧ ∀ b o, s.heap.get? b = some o → h'.get? b = some o) E)
      F.called_set.init.plain F.entry_set_init (check_set_init_1 gT ?_)) fun r₂ s₂ hr₂ => ?_
    · obtain ⟨oc, od, oa, os⟩ := lo
      simp only at lc ld
      subst lc
      subst ld
      have lh' : (s.heap.push (fsO w)).get? l = some { cls := .type "list", dict := od, data := .seq items ln, slots := os } := Heap.get?_push_of_some _ lh
      have f1 := F.sub_list_set
      have f2 := F.sub_list_frozenset
      have f3 : (Value.type "list" == Value.type "dict") = false := by decide
      have f4 : (s.heap.push (fsO w)).IsList l items := ⟨_, lh', rfl, ln, rfl⟩
      unfold Builtin.«set.__init__» noKeywords Builtin.Frozenset.updateFrom
      generalize hPI : pyIter = PI
      wp_walk
      subst hPI
      refine wpAny_pyIter_list f4 (wpAny_bind (wpAny_runValue ?_))
      have g0 : (s.heap.push (fsO w)).objs.size = s.heap.objs.size + 1 := Heap.size_push ..
      have g1 : l ≠ (s.heap.push (fsO w)).objs.size := by rw [g0]; exact Nat.ne_of_lt (Nat.lt_succ_of_lt ll)
      have g2 : s.heap.objs.size ∉ [(s.heap.push (fsO w)).objs.size, l] := by
        rw [g0]
        intro z
        rcases List.mem_cons.mp z with z | z
        · exact absurd z (Nat.ne_of_lt (Nat.lt_succ_self _))
        · exact absurd (List.mem_singleton.mp z) (Nat.ne_of_gt ll)
      have g3 : ∀ (i : Nat) (v : Value), items[i]? = some v → ∃ k t, ns[i]? = some k ∧ v = .int k t := fun i v hv => by
        have hi : i < ns.length := by rw [← zs]; exact (Array.getElem?_eq_some_iff.mp hv).1
        obtain ⟨t, e⟩ := PyProof.Rows.IntsAre.int_at hit i v (by rw [Array.getElem?_toList]; exact hv)
        rw [List.getD_eq_getElem?_getD, List.getElem?_eq_getElem hi] at e
        exact ⟨ns[i], t, List.getElem?_eq_getElem hi, e⟩
      refine set_update_ints ((Walks.list (by simp [hh]) _ l g1 items).toS) s.heap.objs.size g2 ns zs hb g3 (items.size - 0) 0 _ (by omega) (Nat.zero_le _) ⟨⟨_, Heap.get?_push_size _ rfl, rfl, rfl⟩, f4.push _⟩ ?_ fun s' c' hm hc' hS' => ?_
      · exact ⟨0, Nat.le_refl 0, setR_new_at (Heap.get?_push_of_some _ gS)⟩
      · obtain ⟨h', gg, dd, tk', oo⟩ := s'
        obtain rfl : gg = s.gens := hm.gens
        obtain rfl : dd = s.drawn := hm.drawn
        obtain rfl : oo = s.os := hm.os
        show wpAny _ _ _ _ _ _
        refine wpAny_pure ?_
        show wpAny _ _ (ret Value.none) _ _ _
        refine wpAny_pure ⟨rfl, h', tk', c', rfl, hS', zs ▸ hc', fun b o e => hm.heap b o ?_ (Heap.get?_push_of_some _ (Heap.get?_push_of_some _ e))⟩
        have bl : b < s.heap.objs.size := Heap.lt_size e
        intro z
        rcases List.mem_cons.mp z with z | z
        · exact absurd z (Nat.ne_of_lt bl)
        · have z := List.mem_singleton.mp z
          rw [g0] at z
          exact absurd z (Nat.ne_of_lt (Nat.lt_succ_of_lt bl))
    · match r₂, hr₂ with
      | .error e, hr₂ => exact hr₂
      | .ok (.ret r), hr₂ =>
        obtain ⟨rfl, h', tk, c', rfl, hS', hc', hk'⟩ := hr₂
        repeat (any_goals (first | assumption | wp_step))
        exact h _ _ _ hS' hc' hk'
theorem set_seqI {l : Addr} {its : List Value} (ns : List Int) {Q : Value → Shared → Prop} (hh : A.handled = none) (hl : s.heap.IsList l its.toArray ∨ s.heap.IsTuple l its.toArray) (hit : IntsAre its ns) (hb : ns.length + 1 < scanBound)
    (h : ∀ (h' : Heap) (tk c : Nat), SetR w h' s.heap.objs.size (fun j => decide (j ∈ ns)) c → c ≤ ns.length → (∀ b o, s.heap.get? b = some o → h'.get? b = some o) → Q (.ref s.heap.objs.size) { s with heap := h', toks := tk }) :
    wpAny (model P w) A (call (.type "set") [.ref l]) Q E s := by
  rcases hl with hl | hl
  · exact set_lstI ns hh hl (by simpa using hit) hb h
  · exact call_set_tupI ns hh hl (by simpa using hit) hb h
end
/-! ### sets of ints on their way -/
def uniqI : List Int → List Int
  | [] => []
  | x :: xs => if x ∈ uniqI xs then uniqI xs else x :: uniqI xs
theorem uniqI_mem {k : Int} : ∀ xs : List Int, k ∈ uniqI xs ↔ k ∈ xs
  | [] => Iff.rfl
  | x :: xs => by
    unfold uniqI
    split
    · rename_i h
      rw [uniqI_mem xs, List.mem_cons]
      refine ⟨.inr, fun q => q.elim (fun e => ?_) id⟩
      subst e
      exact (uniqI_mem xs).mp h
    · rw [List.mem_cons, List.mem_cons, uniqI_mem xs]
theorem uniqI_nodup : ∀ xs : List Int, (uniqI xs).Nodup
  | [] => .nil
  | x :: xs => by
    unfold uniqI
    split
    · exact uniqI_nodup xs
    · rename_i h
      exact List.nodup_cons.mpr ⟨h, uniqI_nodup xs⟩
theorem uniqI_le (xs : List Int) : (uniqI xs).length ≤ xs.length := by
  induction xs with
  | nil => exact Nat.le_refl _
  | cons x xs ih =>
    unfold uniqI
    split <;> simp <;> omega
theorem nodup_same {α : Type} {l m : List α} (hl : l.Nodup) (hm : m.Nodup) (h : ∀ k, k ∈ l ↔ k ∈ m) : l.Perm m := (List.perm_ext_iff_of_nodup hl hm).mpr h
def rSetI (K : PySem.W.Frag) (w : World) : List V → Hp → VK → Prop := fun vs H Q => ∃ (l : Addr) (ns : List Int), vs = [V.ref l] ∧ (SqL K H l (ns.map V.int) ∨ SqT K H l (ns.map V.int)) ∧ ns.length ≤ 4000 ∧
  ∀ p c, H p = none → Q (.ref p) (upd H p (SetO w p (fun j => decide (j ∈ ns)) c))
section
variable {X : Cx}
theorem cr_setI (hc : X.calm = true) : CallR X (.type "set") (rSetI X.K X.w) := by
  intro pins s σ H vs us Q I r h
  obtain ⟨l, ns, rfl, hs, hz, q⟩ := h
  obtain ⟨its, rv, hl, _⟩ := inv_seq I hs
  rw [Vals.ref1 r]
  refine set_seqI ns (I.ok.hd hc) hl rv.ints (by unfold scanBound; omega) fun h' tk c R _ k => ?_
  have hn : H s.heap.objs.size = none := I.hok.fresh (Nat.le_refl _)
  have J : Inv X pins σ (upd H s.heap.objs.size (SetO X.w s.heap.objs.size (fun j => decide (j ∈ ns)) c)) { s with heap := h', gens := s.gens, drawn := s.drawn, toks := tk } :=
    I.call (ch := []) (Un.laid k (Nat.le_refl _) hn) (I.hok.laid k (Nat.le_refl _) (setO_new R)) I.bare (fun _ z => nomatch z)
  exact ⟨.ref _, _, J, rfl, q _ c hn⟩
def rLenS (w : World) : List V → Hp → VK → Prop := fun vs H Q => ∃ (a : Addr) (ns : List Int) (n : Nat), vs = [V.ref a] ∧ H a = some (SetO w a (fun j => decide (j ∈ ns)) n) ∧ ns.length ≤ 4000 ∧ Q (.int ((uniqI ns).length : Nat)) H
theorem setR_card {w : World} {h : Heap} {a : Addr} {ns : List Int} {n : Nat} (R : SetR w h a (fun j => decide (j ∈ ns)) n) : n = (uniqI ns).length := by
  obtain ⟨o, es, ep, t, ho, hex, hd, g, nd, hm, hb, hf, hn, hr, hl⟩ := R
  have := (nodup_same nd (uniqI_nodup ns) fun k => by rw [← hm k, uniqI_mem, decide_eq_true_eq]).length_eq
  rw [← hn, ← this, List.length_map, Array.length_toList]
theorem cr_lenS : CallR X (.builtin "len") (rLenS X.w) := by
  intro pins s σ H vs us Q I r h
  obtain ⟨a, ns, n, rfl, ha, hz, q⟩ := h
  have R := setO_get I ha
  have hc := setR_card R
  rw [Vals.ref1 r]
  obtain ⟨o, es, ep, t, ho, hex, hd, g, nd, hm, hb, hf, hn, hr, hl⟩ := R
  have := uniqI_le ns
  exact call_len_set ho hex hd hf (by omega) ⟨.int es.size, H, I.tok _, ⟨_, rfl⟩, by rw [hn, hc]; exact q⟩
def pSt (w : World) : PRel (List Int) V := fun _ m H ns v => ns.length ≤ 4000 ∧ ∃ p c, v = .ref p ∧ H p = some (SetO w p (fun j => decide (j ∈ ns)) c)
theorem anti_St {w : World} : Anti (pSt w) := fun _ _ _ _ _ _ _ h => h
abbrev FSt := Loc → Sto → Out (List Int)
abbrev MSt (X : Cx) (W : WX) (e : Expr) (f : FSt) : Prop := PE X e (tX X.K W (pSt X.w) f)
def oSetI (xs : List D) (S : Sto) : Out (List Int) := match intsD xs with
  | some ns => if ns.length ≤ 4000 then .ok ns S else .bad
  | none => .bad
variable {W : WX} {e : Expr} {p pos : Pos} {q : FQ} {f : FSt}
theorem mst_set (hc : X.calm = true) (hg : Gl X "set") (hm : X.mg "set" = none) (hb : bootBuiltins "set" = some (.type "set")) (he : MQ X W e q) (s1 : starEach [e] X.env = (false, eval e X.env) :: starEach [] X.env := by rfl) (hpl : (backTo pos (starEach [] X.env)).any (·.1) = false := by rfl) : MSt X W (.Call (.Name "set" p) [e] [] pos) (eB1 oSetI q) :=
  call1T (cr_setI hc) (fun W σ m H H0 S x v Q R ⟨p, vs, h1, h2, h3⟩ q => by
    subst h1
    unfold oSetI at q
    split at q
    · rename_i ns e
      split at q
      · rename_i hz
        rw [intsD_ok e] at h3
        rw [VRs.ints h3] at h2
        exact ⟨p, ns, rfl, h2.imp id SqN.t, hz, fun t c ht => q _ _ m (Ext.tmp ht) (R.tmp ht) ⟨hz, t, c, rfl, upd_same⟩⟩
      · exact q.elim
    · exact q.elim) anti_St hg hm hb he (by decide) (by decide) s1 hpl
def oLenSt (ns : List Int) (S : Sto) : Out D := .ok (.int ((uniqI ns).length : Nat)) S
theorem me_lenSt (hg : Gl X "len") (hm : X.mg "len" = none) (he : MSt X W e f) (s1 : starEach [e] X.env = (false, eval e X.env) :: starEach [] X.env := by rfl) (hpl : (backTo pos (starEach [] X.env)).any (·.1) = false := by rfl) : ME X W (.Call (.Name "len" p) [e] [] pos) (eB1 oLenSt f) :=
  call1B cr_lenS (fun W σ m H H0 S ns v Q R ⟨hz, p, c, h1, h2⟩ q => ⟨p, ns, c, by rw [h1], h2, hz, q _ H m .refl R (by simp only [VR])⟩) anti_D hg hm PySem.boot_len he (by decide) (by decide) s1 hpl
def oSortSt (ns : List Int) (S : Sto) : Out LV := if ns.length < 64 then .ok (.tmp (((uniqI ns).mergeSort fun a b => decide (a ≤ b)).map .int)) S else .bad
theorem rSortedSt (hc : X.calm = true) : CallR X (.builtin "sorted") (fun vs H Q => ∃ (a : Addr) (ns : List Int) (n : Nat), vs = [V.ref a] ∧ H a = some (SetO X.w a (fun j => decide (j ∈ ns)) n) ∧ ns.length < 64 ∧
    ∀ p, H p = none → Q (.ref p) (upd H p (.lst (((uniqI ns).mergeSort fun a b => decide (a ≤ b)).map V.int)))) := by
  intro pins s σ H vs us Q I r ⟨a, ns, n, e, ha, hz, q⟩
  have hn := setR_card (setO_get I ha)
  have := uniqI_le ns
  refine cr_sortedSet hc pins s σ H vs us Q I r ⟨a, _, n, e, ha, by omega, fun ms p so hm hl hp => ?_⟩
  have pm : ms.Perm (uniqI ns) := nodup_same (so.imp fun h => by omega) (uniqI_nodup ns) fun k => by rw [hm, uniqI_mem, decide_eq_true_eq]
  rw [sort_uniqI pm (so.imp fun h => by omega)]
  exact q p hp
theorem ml_sortSt (hc : X.calm = true) (hg : Gl X "sorted") (hm : X.mg "sorted" = none) (hb : bootBuiltins "sorted" = some (.builtin "sorted")) (he : MSt X W e f) (s1 : starEach [e] X.env = (false, eval e X.env) :: starEach [] X.env := by rfl) (hpl : (backTo pos (starEach [] X.env)).any (·.1) = false := by rfl) : ML X W (.Call (.Name "sorted" p) [e] [] pos) (eB1 oSortSt f) :=
  call1B (rSortedSt hc) (fun W σ m H H0 S ns v Q R ⟨hz, p, c, h1, h2⟩ q => by
    unfold oSortSt at q
    split at q
    · rename_i h64
      exact ⟨p, ns, c, by rw [h1], h2, h64, fun t ht => q _ _ m (Ext.tmp ht) (R.tmp ht) (pL.new .refl R ht (VRs.of_ints _))⟩
    · exact q.elim) anti_L hg hm hb he (by decide) (by decide) s1 hpl
end
end Pz

set_option Elab.async false
set_option linter.all false
set_option maxRecDepth 100000
set_option maxHeartbeats 4000000
/-! Pz19: a, b, c = x, y, z; .. -/
namespace Pz
open PySem PySem.Spec PyProof.Rows L2
section
variable {X : Cx} {W : WX} {pos : Pos}
def sPar3 (i j k : Nat) (f : FA) : FS := fun l S => toS l (f l S) fun ds S1 => match ds with
  | [x, y, z] => .nx (((l.set i (some x)).set j (some y)).set k (some z)) S1
  | _ => .bad
theorem ms_par3 {i j l : Nat} {x y z : Str} {a b c : Expr} {fa : FA} {px py pz pt : Pos} {kt k2 pt2} (hc : X.calm = true) (hN : X.N.Nodup) (ha : MA X W [a, b, c] fa) (hi : X.N[i]? = some x := by rfl) (hj : X.N[j]? = some y := by rfl) (hl : X.N[l]? = some z := by rfl) (hij : i ≠ j := by decide) (hil : i ≠ l := by decide) (hjl : j ≠ l := by decide)
    (hx : X.env.scope.names.lookup x = some .local := by rfl) (hy : X.env.scope.names.lookup y = some .local := by rfl) (hz : X.env.scope.names.lookup z = some .local := by rfl)
    (hw : swappedStores [.Tuple [.Name x px, .Name y py, .Name z pz] kt pt] (.Tuple [a, b, c] k2 pt2) X.env = pure (some [x, y, z]) := by rfl)
    (hs : swapsWithSole [.Tuple [.Name x px, .Name y py, .Name z pz] kt pt] (.Tuple [a, b, c] k2 pt2) pos.line X.env = pure false := by rfl) : MS X W (.Assign [.Tuple [.Name x px, .Name y py, .Name z pz] kt pt] (.Tuple [a, b, c] k2 pt2) pos) (sPar3 i j l fa) :=
  (ps_par3 hc hN hi hj hl hij hil hjl hx hy hz ha hw hs).imp fun D' σ H ⟨l, m, S, R, q⟩ => ⟨l, m, S, R, postS.bind (PR := pA X.K) R q fun ds S1 ws H1 m1 E1 R1 V1 R2 q1 => by
    split at q1
    · simp only [VRs] at V1
      obtain ⟨v, _, rfl, h1, w, _, rfl, h2, u, _, rfl, h3, rfl⟩ := V1
      exact ⟨v, w, u, rfl, q1 _ H1 m1 .refl (((R2.put h1).put h2).put h3)⟩
    · exact q1.elim⟩
end
end Pz

set_option Elab.async false
set_option linter.all false
set_option maxRecDepth 100000
set_option maxHeartbeats 4000000
/-! Pz20: texts: join, split, str, int of a text, a sign in a text, walks over texts; what is never reached. -/
namespace Pz
open PySem PySem.Spec PyProof.Rows L2
section
variable {X : Cx} {W : WX} {a b c e o tg : Expr} {f g : FE} {q : FQ} {p pos apos : Pos} {K : PySem.W.Frag} {m : List Addr} {H : Hp} {S : Sto} {st : Stmt}
def strsD : List D → Option (List Str) := mapO fun d => match d with
  | .str i => some i
  | _ => none
theorem strsD_ok : ∀ {ds : List D} {ns : List Str}, strsD ds = some ns → ds = ns.map D.str
  | [], ns, h => by cases h; rfl
  | d :: ds, ns, h => by
    unfold strsD mapO at h
    split at h
    · rename_i y ys h1 h2
      cases h
      split at h1
      · cases h1
        rw [strsD_ok (ds := ds) h2]; rfl
      · cases h1
    · cases h
theorem strsD_map (ns : List Str) : strsD (ns.map D.str) = some ns := by
  induction ns with
  | nil => rfl
  | cons n ns ih =>
    unfold strsD at ih ⊢
    rw [List.map_cons, mapO, ih]
/-- the receiver is a text -/
def asS (x : D) (S : Sto) : Out D := match x with
  | .str a => .ok (.str a) S
  | _ => .bad
theorem asS_bind {α β : Type} {PR : PRel α β} {σ : L2.St} {Q : β → Hp → Prop} {k : D → Sto → Out α} {x : D} (h : post K W PR σ m H Q ((asS x S).bind k)) : ∃ a, x = .str a ∧ post K W PR σ m H Q (k (.str a) S) := by
  cases x with
  | str a => exact ⟨a, rfl, h⟩
  | _ => exact h.elim
def oJoin (x : D) (xs : List D) (S : Sto) : Out D := match x, strsD xs with
  | .str a, some ys => if (ys.map (·.length)).sum + ys.length * a.length ≤ 16777216 then .ok (.str (Txt.join a ys)) S else .bad
  | _, _ => .bad
def eJoin (f : FE) (q : FQ) : FE := fun l S => (f l S).bind fun x S1 => (asS x S1).bind fun x S1 => (q l S1).bind fun xs S2 => oJoin x xs S2
theorem me_join (ho : ME X W o f) (he : MQ X W e q) (hs : starEach [e] X.env = [(false, eval e X.env)] := by rfl) (hbase : attributeBase o "join" X.env (eval o X.env) = eval o X.env := by rfl) (hline : (apos.endLine == pos.line) = true := by rfl) :
    ME X W (.Call (.Attribute o "join" apos) [e] [] pos) (eJoin f q) :=
  (pe_join ho he hs hbase hline).imp fun σ H Q ⟨l, m, S, R, z⟩ => ⟨l, m, S, R, post.bind (PR := pD X.K) anti_D z fun x S1 v H1 m1 E1 R1 V1 z1 => by
    obtain ⟨a, rfl, z1⟩ := asS_bind z1
    simp only [VR] at V1
    subst V1
    refine ⟨⟨a, rfl⟩, l, m1, S1, R.ext E1 R1, post.bind (PR := pQ X.K) anti_D z1 fun xs S2 u H2 m2 E2 R2 V2 z2 => ?_⟩
    obtain ⟨p, vs, rfl, h2, h3⟩ := V2
    cases hy : strsD xs with
    | none => simp only [oJoin, hy] at z2; exact z2.elim
    | some ys =>
      simp only [oJoin, hy] at z2
      split at z2
      · rename_i hz
        rw [strsD_ok hy] at h3
        rw [h3.strs] at h2
        exact ⟨a, p, ys, rfl, rfl, h2.imp id SqN.t, hz, z2 _ H2 m2 .refl R2 (by simp only [VR])⟩
      · exact z2.elim⟩
theorem VRs.of_strs : ∀ (ns : List Str), VRs K m H (ns.map D.str) (ns.map V.str)
  | [] => .nil
  | n :: ns => .cons (by simp only [VR]) (VRs.of_strs ns)
def oSplit (x y : D) (S : Sto) : Out LV := match x, y with
  | .str a, .str b => if b.length != 0 && decide (a.length + 2 ≤ sizeLine) then .ok (.tmp ((Txt.split a b).map .str)) S else .bad
  | _, _ => .bad
def lSplit (f g : FE) : FL := fun l S => (f l S).bind fun x S1 => (asS x S1).bind fun x S1 => (g l S1).bind fun y S2 => oSplit x y S2
theorem ml_split (ho : ME X W o f) (he : ME X W e g) (hs : starEach [e] X.env = [(false, eval e X.env)] := by rfl) (hbase : attributeBase o "split" X.env (eval o X.env) = eval o X.env := by rfl) (hline : (apos.endLine == pos.line) = true := by rfl) :
    ML X W (.Call (.Attribute o "split" apos) [e] [] pos) (lSplit f g) :=
  (pe_split ho he hs hbase hline).imp fun σ H Q ⟨l, m, S, R, z⟩ => ⟨l, m, S, R, post.bind (PR := pD X.K) anti_L z fun x S1 v H1 m1 E1 R1 V1 z1 => by
    obtain ⟨a, rfl, z1⟩ := asS_bind z1
    simp only [VR] at V1
    subst V1
    refine ⟨⟨a, rfl⟩, l, m1, S1, R.ext E1 R1, post.bind (PR := pD X.K) anti_L z1 fun y S2 u H2 m2 E2 R2 V2 z2 => ?_⟩
    cases y with
    | str b =>
      simp only [VR] at V2
      subst V2
      simp only [oSplit] at z2
      split at z2
      · rename_i hz
        simp only [Bool.and_eq_true, bne_iff_ne, decide_eq_true_eq] at hz
        exact ⟨a, b, rfl, rfl, by simpa using hz.1, hz.2, fun t ht => z2 _ _ m2 (Ext.tmp ht) (R2.tmp ht) (pL.new .refl R2 ht (VRs.of_strs _))⟩
      · exact z2.elim
    | _ => exact z2.elim⟩
/-! str(x), int(text) -/
def oStrOf (x : D) (S : Sto) : Out D := match x with
  | .str a => .ok (.str a) S
  | .int i => if i.natAbs.log2 < 1920 then .ok (.str (toString i)) S else .bad
  | _ => .bad
theorem me_strOf (hg : Gl X "str") (hm : X.mg "str" = none) (hb : bootBuiltins "str" = some (.type "str")) (he : ME X W e f) (s1 : starEach [e] X.env = (false, eval e X.env) :: starEach [] X.env := by rfl) (hpl : (backTo pos (starEach [] X.env)).any (·.1) = false := by rfl) : ME X W (.Call (.Name "str" p) [e] [] pos) (eB1 oStrOf f) :=
  call1T (CallR.or2 SkE.call_str_str call_str_int) (fun W σ m H H0 S x v Q R V q => by
    cases x with
    | str a =>
      simp only [VR] at V
      subst V
      exact .inl ⟨a, rfl, q _ H m .refl R (by simp only [VR])⟩
    | int i =>
      simp only [VR] at V
      subst V
      simp only [oStrOf] at q
      split at q
      · rename_i hz
        exact .inr ⟨i, rfl, hz, q _ H m .refl R (by simp only [VR])⟩
      · exact q.elim
    | _ => exact q.elim) anti_D hg hm hb he (by decide) (by decide) s1 hpl
def oIntS (x : D) (S : Sto) : Out D := match x with
  | .str a => match PySem.intText? a with
    | some n => if a.length ≤ 640 then .ok (.int n) S else .bad
    | none => .bad
  | _ => .bad
theorem me_intS (hg : Gl X "int") (hm : X.mg "int" = none) (hb : bootBuiltins "int" = some (.type "int")) (he : ME X W e f) (s1 : starEach [e] X.env = (false, eval e X.env) :: starEach [] X.env := by rfl) (hpl : (backTo pos (starEach [] X.env)).any (·.1) = false := by rfl) : ME X W (.Call (.Name "int" p) [e] [] pos) (eB1 oIntS f) :=
  call1T call_int_str (fun W σ m H H0 S x v Q R V q => by
    cases x with
    | str a =>
      simp only [VR] at V
      subst V
      simp only [oIntS] at q
      split at q
      · rename_i n hn
        split at q
        · rename_i hz
          exact ⟨a, n, rfl, hn, hz, q _ H m .refl R (by simp only [VR])⟩
        · exact q.elim
      · exact q.elim
    | _ => exact q.elim) anti_D hg hm hb he (by decide) (by decide) s1 hpl
/-! one sign in a text -/
def dInS (x y : D) : Option Bool := match x, y with
  | .str a, .str z => match a.cps.toList with
    | [c] => some (decide (c ∈ z.cps.toList))
    | _ => none
  | _, _ => none
theorem dInS_ok {x y : D} {v u : V} {k : Bool} (h : dInS x y = some k) (rx : VR K m H x v) (ry : VR K m H y u) : ∃ c z, v = .str ⟨#[c]⟩ ∧ u = .str z ∧ decide (c ∈ z.cps.toList) = k := by
  unfold dInS at h
  split at h
  · rename_i a z
    split at h
    · rename_i c hc
      cases h
      simp only [VR] at rx ry
      have e : a = ⟨#[c]⟩ := by
        obtain ⟨cps⟩ := a
        have : cps = #[c] := by simpa using congrArg List.toArray hc
        rw [this]
      exact ⟨c, z, by rw [rx, e], ry, rfl⟩
    · cases h
  · cases h
def oInS (x y : D) (S : Sto) : Out D := match dInS x y with
  | some b => .ok (.bl b) S
  | none => .bad
def oNinS (x y : D) (S : Sto) : Out D := match dInS x y with
  | some b => .ok (.bl (!b)) S
  | none => .bad
theorem o2_inS : O2 K (fun x y H Q => ∃ (c : Nat) (z : Str), x = .str ⟨#[c]⟩ ∧ y = .str z ∧ Q (.bl (decide (c ∈ z.cps.toList))) H) oInS := fun W σ m H S x y v u Q s rx ry q => by
  unfold oInS at q
  split at q
  · rename_i k hk
    obtain ⟨c, z, h1, h2, h3⟩ := dInS_ok hk rx ry
    exact ⟨c, z, h1, h2, by rw [h3]; exact q _ H m .refl s (by simp only [VR])⟩
  · exact q.elim
theorem o2_ninS : O2 K (fun x y H Q => ∃ (c : Nat) (z : Str), x = .str ⟨#[c]⟩ ∧ y = .str z ∧ Q (.bl (!decide (c ∈ z.cps.toList))) H) oNinS := fun W σ m H S x y v u Q s rx ry q => by
  unfold oNinS at q
  split at q
  · rename_i k hk
    obtain ⟨c, z, h1, h2, h3⟩ := dInS_ok hk rx ry
    exact ⟨c, z, h1, h2, by rw [h3]; exact q _ H m .refl s (by simp only [VR])⟩
  · exact q.elim
theorem me_inS (ha : ME X W a f) (hb : ME X W b g) (hm : behindInMarks .In b = false := by rfl) : ME X W (.Compare a [.In] [b] pos) (e2 oInS f g) := me_cmp op_in_sign o2_inS ha hb hm
theorem me_ninS (ha : ME X W a f) (hb : ME X W b g) (hm : behindInMarks .NotIn b = false := by rfl) : ME X W (.Compare a [.NotIn] [b] pos) (e2 oNinS f g) := me_cmp op_notIn_sign o2_ninS ha hb hm
theorem mt_inS (ha : ME X W a f) (hb : ME X W b g) (hm : behindInMarks .In b = false := by rfl) : MT X W (.Compare a [.In] [b] pos) (eT (e2 oInS f g)) := mt_cmp op_in_sign o2_inS ha hb hm
theorem mt_ninS (ha : ME X W a f) (hb : ME X W b g) (hm : behindInMarks .NotIn b = false := by rfl) : MT X W (.Compare a [.NotIn] [b] pos) (eT (e2 oNinS f g)) := mt_cmp op_notIn_sign o2_ninS ha hb hm
/-! a text, sign by sign -/
def signs (x : Str) : List D := x.cps.toList.map fun c => .str ⟨#[c]⟩
def kStr (x : D) (S : Sto) : Out Src := match x with
  | .str z => .ok ⟨signs z, noGd⟩ S
  | _ => .bad
def iStrD (f : FE) : FI := fun l S => (f l S).bind kStr
theorem mi_str (h : ME X W e f) : MI X W tg e (iStrD f) := (pi_str h).imp fun σ H Q ⟨l, m, S, R, q⟩ => ⟨l, m, S, R, post.bind (PR := pD X.K) anti_I q fun x S1 v H1 m1 E1 R1 V1 q1 => by
  cases x with
  | str z =>
    simp only [VR] at V1
    subst V1
    refine ⟨z, rfl, q1 _ H1 m1 .refl R1 fun m' H' S' E s' _ i => ⟨fun d hd => ?_, fun hi => ?_⟩⟩
    · simp only [signs, List.getElem?_map, Option.map_eq_some_iff, Array.getElem?_toList] at hd
      obtain ⟨c, hc, rfl⟩ := hd
      refine ⟨(Array.getElem?_eq_some_iff.mp hc).1, fun y H2 ⟨e, c', hc', hy⟩ => ?_⟩
      rw [hc] at hc'
      cases hc'
      subst e hy
      exact ⟨.refl, s', by simp only [VR]⟩
    · show z.cps.size ≤ i
      rw [← hi]; simp [signs]
  | _ => exact q1.elim⟩
/-! what is never reached -/
def sNever : FS := fun _ _ => .bad
theorem ms_never : MS X W st sNever := ps_never.imp fun D' σ H ⟨l, m, S, R, q⟩ => q.elim
end
end Pz

set_option Elab.async false
set_option linter.all false
set_option maxRecDepth 100000
set_option maxHeartbeats 4000000
/-! Pz21: calls of own defs by keywords alone. -/
namespace Pz
open PySem PySem.Spec PyProof.Rows L2
def permL {α : Type} (perm : List Nat) (xs : List α) : List α := perm.filterMap fun i => xs[i]?
/-- a def that is called by keywords alone -/
structure FnK (P : Program) (w : World) (K : PySem.W.Frag) (mg : Str → Option Value) (base : Heap) (k : Nat) (x : Str) (ks : List Str) (perm : List Nat) (F : List D → Sto → Out D) : Prop where
  ex : ∃ f fd ps, FnOk P w K mg base (L2.CX P w) k f fd ps (spF K F) ∧ mg x = some (.ref f) ∧ PySem.W.keepIn K (.ref f) = true ∧
    ∀ (s : Shared) (ws : List Value), ws.length = ks.length → BindsTo s fd ⟨[], ks.zip ws⟩ (ps.zip (permL perm ws))
structure TxK (K : PySem.W.Frag) (mg : Str → Option Value) (x : Str) (st : Stmt) (ps ks : List Str) (perm : List Nat) : Prop where
  ex : ∃ f fd, Fun K x x st f fd ∧ mg x = some (.ref f) ∧ ∀ (s : Shared) (ws : List Value), ws.length = ks.length → BindsTo s fd ⟨[], ks.zip ws⟩ (ps.zip (permL perm ws))
section
variable {P : Program} {w : World} {K : PySem.W.Frag} {mg : Str → Option Value} {base h : Heap} {x : Str} {st : Stmt} {ps ks N : List Str} {perm : List Nat} {k : Nat} {b : FS}
theorem fnK_of {F : List D → Sto → Out D} {n m : Nat} (hF : F = runF n m b) (t : TxK K mg x st ps ks perm) (hn : ps.length = n) (hm : N.length = m) (sc : FnScope N ps (defScope st))
    (hbody : ∀ (f : Addr) (cdv : Value) (A : Around) (outer : List Env) (s : Shared) (H : Hp) (E : XK), Room k (cxB P w K mg base N x st f cdv A outer s H E).A → MSs (cxB P w K mg base N x st f cdv A outer s H E) (wE E) (defBody st) b) :
    FnK P w K mg base (k + 1) x ks perm F := by
  subst hF hn hm
  obtain ⟨f, fd, h1, h2, h3⟩ := t.ex
  exact ⟨f, fd, ps, fn_ok h1 sc (hbody f), h2, h1.kp, h3⟩
theorem txk_mk {f : Addr} {oc : Value} {od an : Option Addr} {osl : Array (Option Value)} {kV doc pm cdv ct : Value} (X : K.In h) (G : h.Ns mainGlobals mg)
    (bd : ∀ (kV doc pm : Value) (an : Option Addr) (cdv ct : Value) (ws : List Value), ws.length = ks.length → bindArgs (PySem.W.fnOf x x (defArgs st) (defBody st) (defScope st) .none kV doc pm an cdv ct) ⟨[], ks.zip ws⟩ = pure (ps.zip (permL perm ws)))
    (a : PySem.W.nsIn K mainGlobals x = some (some (.ref f)))
    (l : K.lookup f = some ⟨oc, od, .func (PySem.W.fnOf x x (defArgs st) (defBody st) (defScope st) .none kV doc pm an cdv ct), osl⟩) (c : PySem.W.codeIn K cdv x = true) (k : PySem.W.keepIn K (.ref f) = true) : TxK K mg x st ps ks perm :=
  ⟨f, _, fun_mk l c k, PySem.W.mg_of X G a, fun s ws hl => .of_eq (bd kV doc pm an cdv ct ws hl)⟩
end
section
variable {X : Cx} {W : WX} {k : Nat} {x : Str} {e : Expr} {kws : List Keyword} {p pos kpos : Pos} {F : List D → Sto → Out D} {fa : FA} {f : FE} {nm : Option Str} {ks : List Str} {perm : List Nat}
abbrev MK (X : Cx) (W : WX) (kws : List Keyword) (f : FA) : Prop := PK X kws (tX X.K W (pA X.K) f)
theorem _root_.L2.PK.imp {X : Cx} {e : List Keyword} {t t' : TA} (h : PK X e t) (i : ∀ σ H Q, t' σ H Q → t σ H Q) : PK X e t' := ⟨fun pos pins s σ H Q I q => h.run pos pins s σ H Q I (i _ _ _ q)⟩
theorem mk_nil : MK X W [] aN := pk_nil.imp fun σ H Q ⟨l, m, S, R, q⟩ => q [] H m .refl R.sr .nil
theorem mk_cons {g : FA} (ha : ME X W e f) (hr : MK X W kws g) : MK X W (⟨nm, e, kpos⟩ :: kws) (aC f g) :=
  (pk_cons ha hr).imp fun σ H Q ⟨l, m, S, R, q⟩ => ⟨l, m, S, R, post.bind (PR := pD X.K) anti_A q fun x S1 v H1 m1 E1 R1 V1 q1 => ⟨l, m1, S1, R.ext E1 R1, post.bind (PR := pA X.K) anti_A q1 fun xs S2 vs H2 m2 E2 R2 V2 q2 =>
    q2 _ H2 m2 .refl R2 (.cons (VR.ext E2 x v V1) V2)⟩⟩
def oPerm (n : Nat) (perm : List Nat) (F : List D → Sto → Out D) (ds : List D) (S : Sto) : Out D := if ds.length = n then F (permL perm ds) S else .bad
def eCallK (n : Nat) (perm : List Nat) (F : List D → Sto → Out D) (fa : FA) : FE := fun l S => (fa l S).bind (oPerm n perm F)
theorem permL_get {α : Type} (perm : List Nat) (xs : List α) (i : Nat) : permL (i :: perm) xs = match xs[i]? with
    | some x => x :: permL perm xs
    | none => permL perm xs := by
  simp only [permL, List.filterMap_cons]
  cases xs[i]? <;> rfl
theorem VRs.permL {K : PySem.W.Frag} {m : List Addr} {H : Hp} {ds : List D} {vs : List V} (h : VRs K m H ds vs) : ∀ perm : List Nat, VRs K m H (permL perm ds) (permL perm vs)
  | [] => .nil
  | i :: perm => by
    rw [permL_get, permL_get]
    cases hd : ds[i]? with
    | some d =>
      obtain ⟨v, h1, h2⟩ := h.get hd
      rw [h1]
      exact .cons h2 (VRs.permL h perm)
    | none =>
      have : vs[i]? = none := by
        rw [List.getElem?_eq_none_iff] at hd ⊢
        rw [h.length]; exact hd
      rw [this]
      exact VRs.permL h perm
theorem Vals.permL {vs : List V} {us : List Value} (h : Vals vs us) : ∀ perm : List Nat, Vals (Pz.permL perm vs) (Pz.permL perm us)
  | [] => .nil
  | i :: perm => by
    have key : ∀ {vs : List V} {us : List Value} (i : Nat), Vals vs us → (∃ v u, vs[i]? = some v ∧ us[i]? = some u ∧ RelV v u) ∨ (vs[i]? = none ∧ us[i]? = none) := by
      intro vs us i h
      induction h generalizing i with
      | nil => exact .inr ⟨by simp, by simp⟩
      | cons r h ih =>
        cases i with
        | zero => exact .inl ⟨_, _, rfl, rfl, r⟩
        | succ i => simpa using ih i
    rw [permL_get, permL_get]
    rcases key i h with ⟨v, u, h1, h2, h3⟩ | ⟨h1, h2⟩
    · rw [h1, h2]; exact .cons h3 (Vals.permL h perm)
    · rw [h1, h2]; exact Vals.permL h perm
theorem vals_rep : ∀ n : Nat, Vals (List.replicate n V.non) (List.replicate n Value.none)
  | 0 => .nil
  | n + 1 => .cons rfl (vals_rep n)
theorem run_fnkD {CX : CXT} {pins : List (Addr × Obj)} {σ : L2.St} {H : Hp} {s : Shared} {Q : VK} {f : Addr} {fd : FuncData} {ps : List Str} {sp : Sp} {E : XK} {g : List Value → List Value → List Value} {gV : List V → List V → List V} {us ws : List Value} {vs zs : List V} (F : FnOk X.prog X.w X.K X.mg X.base CX k f fd ps sp) (hr : Room k X.A) (hb : KBinds X.K fd ps ks g gV)
    (hx : PassesAt CX X σ E) (I : Inv X pins σ H s) (r : Vals vs us) (rz : Vals zs ws) (h : sp (gV vs zs) H Q E) : wpAny (model X.prog X.w) X.A (call (.ref f) us (ks.zip ws)) (EP X pins σ Q) X.xe s := by
  have l2 : (g us ws).length = ps.length := by rw [← (hb.rel r rz).length]; exact F.len _ _ _ _ h
  refine wpAny_call (codeAny_mono (F.run X.A X.stack s H ⟨us, ks.zip ws⟩ _ _ Q E hr I.env0 (hb.to s us ws I.kIn l2) (hb.rel r rz) h) fun r s' z => ?_)
  match r, z with
  | .error e, z => exact hx pins H s e s' I z
  | .ok (.ret u), z => exact I.after z
theorem me_callK {n : Nat} (h : FnK X.prog X.w X.K X.mg X.base k x ks perm F) (hr : Room k X.A) (tk : Takes X W) (hg : Gl X x) (ha : MK X W kws fa) (hn : ks.length = n) (hdb : (x == ("__debug__" : Str)) = false := by decide)
    (hall : (backToKw pos (keywordEach kws X.env)).all (·.1.isSome) = true := by rfl) (hks : (backToKw pos (keywordEach kws X.env)).filterMap (·.1) = ks := by rfl)
    (hpl : ((backTo pos (starEach [] X.env)).any (·.1) || (backToKw pos (keywordEach kws X.env)).any (·.1.isNone)) = false := by rfl) : ME X W (.Call (.Name x p) [] kws pos) (eCallK n perm F fa) := by
  obtain ⟨f, fd, ps, h1, h2, h3, h4⟩ := h.ex
  have kb : KBinds X.K fd ps ks (fun us ws => if us.length = 0 ∧ ws.length = n then permL perm ws else List.replicate (ps.length + 1) .none) (fun vs zs => if vs.length = 0 ∧ zs.length = n then permL perm zs else List.replicate (ps.length + 1) .non) := by
    refine ⟨fun s us ws _ hl => ?_, fun r rz => ?_⟩
    · by_cases q : us.length = 0 ∧ ws.length = n
      · rw [if_pos q]
        obtain ⟨q1, q2⟩ := q
        have : us = [] := List.eq_nil_of_length_eq_zero q1
        subst this
        exact h4 s ws (by omega)
      · rw [if_neg q] at hl
        simp at hl
    · rw [r.length, rz.length]
      split
      · exact Vals.permL rz perm
      · exact vals_rep _
  refine ⟨fun pins s σ H Q I ⟨l, m, S, R, q⟩ => ?_⟩
  refine wpAny_Call_Name_kw (ld_glob I hg h2 ?_ hdb)
  refine PySem.W.callWith_KW0 (h₀ := X.base) I.ok.mod.kin h3 hall (thn (ha.run pos pins s σ H (fun vs H1 => spF X.K F (if vs.length = n then permL perm vs else List.replicate (ps.length + 1) .non) H1 Q (fun cls d H => W cls d σ H)) I ⟨l, m, S, R, post.bind (PR := pA X.K) anti_D q fun ds S1 vs H1 m1 E1 R1 V1 q1 => ?_⟩) fun ws s2 ⟨zs, H2, I2, rz, q2⟩ => ⟨I2.kIn, ?_⟩) hpl
  · unfold oPerm at q1
    split at q1
    · rename_i hl
      rw [if_pos (by rw [V1.length]; exact hl)]
      exact ⟨_, m1, S1, V1.permL perm, R1, post.wE q1⟩
    · exact q1.elim
  · rw [hks]
    refine run_fnkD h1 hr kb (passAt tk σ) I2 .nil rz ?_
    show spF X.K F (if ([] : List V).length = 0 ∧ zs.length = n then permL perm zs else List.replicate (ps.length + 1) .non) H2 Q _
    have e : (([] : List V).length = 0 ∧ zs.length = n) ↔ zs.length = n := by simp
    simp only [e]
    exact q2
end
end Pz

set_option Elab.async false
set_option linter.all false
set_option maxRecDepth 100000
set_option maxHeartbeats 4000000
/-! Pz22: instances of own classes: made, their fields, their methods. -/
namespace Pz
open PySem PySem.Spec PyProof.Rows L2

/-! ### fields -/
def putFD (f : Str) (d : D) : List (Str × D) → List (Str × D)
  | [] => [(f, d)]
  | (g, x) :: r => if g = f then (g, d) :: r else (g, x) :: putFD f d r
section
variable {K : PySem.W.Frag} {m : List Addr} {H : Hp} {S : Sto}
theorem AR.putF {f : Str} {d : D} {v : V} (r : VR K m H d v) : ∀ {ds : List (Str × D)} {us : List (Str × V)}, AR K m H ds us → AR K m H (putFD f d ds) (L2.putF f v us)
  | [], us, h => by
    simp only [AR] at h
    subst h
    exact ⟨v, [], rfl, r, rfl⟩
  | (g, x) :: ds, us, h => by
    obtain ⟨w, q, rfl, h1, h2⟩ := h
    simp only [putFD, L2.putF]
    split
    · exact ⟨v, q, rfl, r, h2⟩
    · exact ⟨w, _, rfl, h1, AR.putF r h2⟩
theorem AR.lookF {f : Str} {d : D} {ds : List (Str × D)} {us : List (Str × V)} (h : AR K m H ds us) (e : ds.lookup f = some d) : ∃ v, us.lookup f = some v ∧ VR K m H d v := by
  have := AR.lookup (k := f) h
  rw [e] at this
  exact this
theorem AR.lookN {f : Str} {ds : List (Str × D)} {us : List (Str × V)} (h : AR K m H ds us) (e : ds.lookup f = none) : us.lookup f = none := by
  have := AR.lookup (k := f) h
  rw [e] at this
  exact this
end
def oFld (Cs : List Str) (f : Str) (x : D) (S : Sto) : Out D := match x with
  | .ref n => match S[n]? with
    | some (.ins C fs) => if C ∈ Cs then match fs.lookup f with
      | some d => .ok d S
      | none => .bad else .bad
    | _ => .bad
  | _ => .bad
/-- what a class must say, so that a field of its instances may be read and stored -/
structure FldC (K : PySem.W.Frag) (C f : Str) : Prop where
  cl : Cls K (clsA K C)
  no : NoAttr K (clsA K C) f
section
variable {X : Cx} {W : WX} {a b c e o : Expr} {rest es : List Expr} {f g h : FE} {pos p apos : Pos} {K : PySem.W.Frag} {m : List Addr} {H : Hp} {S : Sto} {C : Str} {Cs : List Str} {nm : Str} {k : Nat} {F : List D → Sto → Out D} {fa : FA}
theorem me_fld (hc : ∀ C ∈ Cs, FldC X.K C nm) (ho : ME X W o f) (hb : attributeBase o nm X.env (eval o X.env) = eval o X.env := by rfl) : ME X W (.Attribute o nm pos) (e1 (oFld Cs nm) f) :=
  (pe_fld ho hb).imp fun σ H Q ⟨l, m, S, R, q⟩ => ⟨l, m, S, R, post.bind (PR := pD X.K) anti_D q fun x S1 v H1 m1 E1 R1 V1 q1 => by
    cases x with
    | ref n =>
      simp only [oFld] at q1
      split at q1
      · rename_i C fs hn
        split at q1
        · rename_i hC
          split at q1
          · rename_i d hd
            obtain ⟨a, rfl, h1, h2, dx, us, h3, h4⟩ := R1.ref hn V1
            obtain ⟨w, h5, h6⟩ := AR.lookF h4 hd
            exact ⟨a, clsA X.K C, dx, us, w, rfl, h3, (hc C hC).cl, (hc C hC).no, h5, q1 w H1 m1 .refl R1 h6⟩
          · exact q1.elim
        · exact q1.elim
      · exact q1.elim
    | _ => exact q1.elim⟩
def oSetF (Cs : List Str) (f : Str) (d x : D) (S : Sto) : Option Sto := match x with
  | .ref n => match S[n]? with
    | some (.ins C fs) => if C ∈ Cs ∧ fs.length < 1000 then some (S.set n (.ins C (putFD f d fs))) else none
    | _ => none
  | _ => none
def sSetF (Cs : List Str) (nm : Str) (f g : FE) : FS := fun l S => toS l (f l S) fun d S1 => toS l (g l S1) fun x S2 => match oSetF Cs nm d x S2 with
  | some S3 => .nx l S3
  | none => .bad
theorem ms_setF {p1 : Pos} (hc : ∀ C ∈ Cs, FldC X.K C nm) (he : ME X W e f) (ho : ME X W o g) (hs : swapsWith e (some (.Attribute o nm p1)) pos.line X.env = pure false := by rfl) : MS X W (.Assign [.Attribute o nm p1] e pos) (sSetF Cs nm f g) :=
  (ps_fld ho he hs).imp fun D' σ H ⟨l, m, S, R, q⟩ => ⟨l, m, S, R, postS.bind (PR := pD X.K) R q fun d S1 v H1 m1 E1 R1 V1 R2 q1 => ⟨l, m1, S1, R2, postS.bind (PR := pD X.K) R2 q1 fun x S2 u H2 m2 E2 R3 V2 R4 q2 => by
    cases x with
    | ref n =>
      simp only [oSetF] at q2
      cases hn : S2[n]? with
      | none => rw [hn] at q2; exact q2.elim
      | some o =>
        rw [hn] at q2
        cases o with
        | ins C fs =>
          by_cases hC : C ∈ Cs ∧ fs.length < 1000
          · simp only [if_pos hC] at q2
            obtain ⟨a, rfl, h1, h2, dx, us, h3, h4⟩ := R3.ref hn V2
            have mu : Mu (H2 a) := OR.mu (K := X.K) (m := m2) (o := .ins C fs) ⟨dx, us, h3, h4⟩
            have E3 : Ext m2 H2 m2 (upd H2 a (.ins (clsA X.K C) dx (L2.putF nm v us))) := Ext.wr h2 mu
            have new : OR X.K m2 (upd H2 a (.ins (clsA X.K C) dx (L2.putF nm v us))) (.ins C (putFD nm d fs)) a := ⟨dx, _, upd_same, AR.ext E3 _ _ (AR.putF (VR.ext E2 _ _ V1) h4)⟩
            exact ⟨a, clsA X.K C, dx, us, rfl, h3, (hc C hC.1).cl, (hc C hC.1).no, by rw [AR.length h4]; exact hC.2, q2 σ _ m2 E3 (R4.ext E3 (R3.wr h1 mu new))⟩
          · simp only [if_neg hC] at q2
            exact q2.elim
        | lst xs => exact q2.elim
        | dk xs => exact q2.elim
        | dn xs => exact q2.elim
    | _ => exact q2.elim⟩⟩
/-! ### methods -/
def isIns (C : Str) (nm : Str) (x : D) (S : Sto) : Out D := match x with
  | .ref n => match S[n]? with
    | some (.ins C' fs) => if C' = C ∧ fs.lookup nm = none then .ok x S else .bad
    | _ => .bad
  | _ => .bad
def eMeth (C : Str) (nm : Str) (F : List D → Sto → Out D) (f : FE) (fa : FA) : FE := fun l S => (f l S).bind fun x S1 => (isIns C nm x S1).bind fun _ _ => (fa l S1).bind fun ds S2 => F (x :: ds) S2
structure FnM (P : Program) (w : World) (K : PySem.W.Frag) (mg : Str → Option Value) (base : Heap) (k : Nat) (C x : Str) (F : List D → Sto → Out D) : Prop where
  ex : ∃ f fd ps, FnOk P w K mg base (L2.CX P w) k f fd ps (spF K F) ∧ Meth K (clsA K C) x f ∧ Binds K fd ps [] ∧ Cls K (clsA K C)
theorem isIns_ok {x : D} {v : V} {α : Type} {kk : Out α} {PR : PRel α V} {σ : L2.St} {Q : VK} (s : SR K m H S) (rx : VR K m H x v) (q : post K W PR σ m H Q ((isIns C nm x S).bind fun _ _ => kk)) :
    ∃ a dx us, v = .ref a ∧ H a = some (.ins (clsA K C) dx us) ∧ us.lookup nm = none ∧ post K W PR σ m H Q kk := by
  cases x with
  | ref n =>
    simp only [isIns] at q
    cases hn : S[n]? with
    | none => rw [hn] at q; exact q.elim
    | some o =>
      rw [hn] at q
      cases o with
      | ins C' fs =>
        simp only at q
        by_cases h : C' = C ∧ fs.lookup nm = none
        · rw [if_pos h] at q
          obtain ⟨rfl, h⟩ := h
          obtain ⟨a, rfl, h1, h2, dx, us, h3, h4⟩ := s.ref hn rx
          exact ⟨a, dx, us, rfl, h3, AR.lookN h4 h, q⟩
        · rw [if_neg h] at q; exact q.elim
      | lst xs => exact q.elim
      | dk xs => exact q.elim
      | dn xs => exact q.elim
  | _ => exact q.elim
def tMethS (C : Addr) (m : Str) (sp : Sp) (E : L2.St → XK) (ta : TE) (t : TA) : TE := fun σ H Q => ta σ H fun x H1 => ∃ a dx fs, x = .ref a ∧ H1 a = some (.ins C dx fs) ∧ fs.lookup m = none ∧ t σ H1 fun vs H2 => sp (x :: vs) H2 Q (E σ)
theorem pe_methS {ta : TE} {t : TA} {fm : Addr} {fd : FuncData} {ps : List Str} {sp : Sp} {E : L2.St → XK} {pl : Sem Bool} {C : Addr} (he : PE X o ta) (c : Cls X.K C) (hm : Meth X.K C nm fm) (F : FnOk X.prog X.w X.K X.mg X.base (L2.CX X.prog X.w) k fm fd ps sp) (hr : Room k X.A) (hb : Binds X.K fd ps []) (hx : ∀ σ, PassesAt (L2.CX X.prog X.w) X σ (E σ)) (ha : PA X (e :: es) t)
    (hst : starEach (e :: es) X.env = (false, eval e X.env) :: starEach es X.env := by rfl) (hpl : (backTo pos (starEach es X.env)).any (·.1) = false := by rfl)
    (ht : eval (.Call (.Attribute o nm apos) (e :: es) [] pos) X.env = (do
      let ov ← eval o X.env
      standAt apos.atName
      let (f, first) ← holding [ov] (getMethod ov nm pl)
      callWith pos f first (backTo pos (starEach (e :: es) X.env)) (backToKw pos (keywordEach [] X.env))) := by rfl) : PE X (.Call (.Attribute o nm apos) (e :: es) [] pos) (tMethS C nm sp E ta t) := by
  refine ⟨fun pins s σ H Q I h => PySem.W.methodCall_KW (pl := pl) (thn (he.run pins s σ H _ I h) fun u s1 ⟨x, H1, I1, rx, a, dx, fs, ex, ea, l, q⟩ => ?_) ht⟩
  subst ex
  obtain rfl : u = Value.ref a := rx
  exact getmeth_ok I1 ea c hm l (PySem.W.callWith_K (first := [.ref a]) (h₀ := X.base) I.ok.mod.kin hm.kp (thn (ha.run pos pins s1 σ H1 _ I1 q) fun us s2 ⟨vs, H2, I2, r, q2⟩ => ⟨I2.kIn, run_fnS (us := .ref a :: us) (vs := .ref a :: vs) F hr hb (hx σ) I2 (.cons rfl r) q2⟩) hst hpl)
theorem pe_methS0 {ta : TE} {fm : Addr} {fd : FuncData} {ps : List Str} {sp : Sp} {E : L2.St → XK} {pl : Sem Bool} {C : Addr} (he : PE X o ta) (c : Cls X.K C) (hm : Meth X.K C nm fm) (F : FnOk X.prog X.w X.K X.mg X.base (L2.CX X.prog X.w) k fm fd ps sp) (hr : Room k X.A) (hb : Binds X.K fd ps []) (hx : ∀ σ, PassesAt (L2.CX X.prog X.w) X σ (E σ))
    (ht : eval (.Call (.Attribute o nm apos) [] [] pos) X.env = (do
      let ov ← eval o X.env
      standAt apos.atName
      let (f, first) ← holding [ov] (getMethod ov nm pl)
      callWith pos f first (backTo pos (starEach [] X.env)) (backToKw pos (keywordEach [] X.env))) := by rfl) : PE X (.Call (.Attribute o nm apos) [] [] pos) (tMethS C nm sp E ta tNil) := by
  refine ⟨fun pins s σ H Q I h => PySem.W.methodCall_KW (pl := pl) (thn (he.run pins s σ H _ I h) fun u s1 ⟨x, H1, I1, rx, a, dx, fs, ex, ea, l, q⟩ => ?_) ht⟩
  subst ex
  obtain rfl : u = Value.ref a := rx
  exact getmeth_ok I1 ea c hm l (PySem.W.callWith_K0 (first := [.ref a]) I1.kIn hm.kp (run_fnS (us := [.ref a]) (vs := [.ref a]) F hr hb (hx σ) I1 (.cons rfl .nil) q))
theorem me_meth {pl : Sem Bool} (h : FnM X.prog X.w X.K X.mg X.base k C nm F) (hr : Room k X.A) (tk : Takes X W) (ho : ME X W o f) (ha : MA X W (e :: es) fa)
    (hst : starEach (e :: es) X.env = (false, eval e X.env) :: starEach es X.env := by rfl) (hpl : (backTo pos (starEach es X.env)).any (·.1) = false := by rfl)
    (ht : eval (.Call (.Attribute o nm apos) (e :: es) [] pos) X.env = (do
      let ov ← eval o X.env
      standAt apos.atName
      let (f, first) ← holding [ov] (getMethod ov nm pl)
      callWith pos f first (backTo pos (starEach (e :: es) X.env)) (backToKw pos (keywordEach [] X.env))) := by rfl) : ME X W (.Call (.Attribute o nm apos) (e :: es) [] pos) (eMeth C nm F f fa) := by
  obtain ⟨fm, fd, ps, h1, h2, h3, h4⟩ := h.ex
  refine (pe_methS (pl := pl) (E := fun σ cls d H => W cls d σ H) ho h4 h2 h1 hr h3 (fun σ => passAt tk σ) ha hst hpl ht).imp fun σ H Q ⟨l, m, S, R, q⟩ => ⟨l, m, S, R, post.bind (PR := pD X.K) anti_D q fun x S1 v H1 m1 E1 R1 V1 q1 => ?_⟩
  obtain ⟨a, dx, us, rfl, h5, h6, q1⟩ := isIns_ok R1 V1 q1
  refine ⟨a, dx, us, rfl, h5, h6, l, m1, S1, R.ext E1 R1, post.bind (PR := pA X.K) anti_D q1 fun ds S2 vs H2 m2 E2 R2 V2 q2 => ?_⟩
  exact ⟨x :: ds, m2, S2, .cons (VR.ext E2 _ _ V1) V2, R2, post.wE q2⟩
theorem me_meth0 {pl : Sem Bool} (h : FnM X.prog X.w X.K X.mg X.base k C nm F) (hr : Room k X.A) (tk : Takes X W) (ho : ME X W o f)
    (ht : eval (.Call (.Attribute o nm apos) [] [] pos) X.env = (do
      let ov ← eval o X.env
      standAt apos.atName
      let (f, first) ← holding [ov] (getMethod ov nm pl)
      callWith pos f first (backTo pos (starEach [] X.env)) (backToKw pos (keywordEach [] X.env))) := by rfl) : ME X W (.Call (.Attribute o nm apos) [] [] pos) (eMeth C nm F f aN) := by
  obtain ⟨fm, fd, ps, h1, h2, h3, h4⟩ := h.ex
  refine (pe_methS0 (pl := pl) (E := fun σ cls d H => W cls d σ H) ho h4 h2 h1 hr h3 (fun σ => passAt tk σ) ht).imp fun σ H Q ⟨l, m, S, R, q⟩ => ⟨l, m, S, R, post.bind (PR := pD X.K) anti_D q fun x S1 v H1 m1 E1 R1 V1 q1 => ?_⟩
  obtain ⟨a, dx, us, rfl, h5, h6, q1⟩ := isIns_ok R1 V1 q1
  refine ⟨a, dx, us, rfl, h5, h6, ?_⟩
  show spF X.K F [.ref a] H1 Q _
  exact ⟨[x], m1, S1, .cons V1 .nil, R1, post.wE q1⟩

/-! ### defs of classes -/
/-- a def of a class, as the module holds it -/
structure TxM (K : PySem.W.Frag) (C x qual : Str) (st : Stmt) (ps : List Str) : Prop where
  ex : ∃ f fd, Fun K x qual st f fd ∧ Binds K fd ps [] ∧ Meth K (clsA K C) x f ∧ Cls K (clsA K C)
structure FnI (P : Program) (w : World) (K : PySem.W.Frag) (mg : Str → Option Value) (base : Heap) (k : Nat) (C : Str) (F : List D → Sto → Out D) : Prop where
  ex : ∃ f fd ps, FnOk P w K mg base (L2.CX P w) k f fd ps (spF K F) ∧ Mk K (clsA K C) f ∧ mg C = some (.ref (clsA K C)) ∧ Binds K fd ps []
structure TxI (K : PySem.W.Frag) (mg : Str → Option Value) (C x qual : Str) (st : Stmt) (ps : List Str) : Prop where
  ex : ∃ f fd, Fun K x qual st f fd ∧ Binds K fd ps [] ∧ Mk K (clsA K C) f ∧ mg C = some (.ref (clsA K C))
section
variable {P : Program} {w : World} {K : PySem.W.Frag} {mg : Str → Option Value} {base h : Heap} {C x qual : Str} {st : Stmt} {ps N : List Str} {k : Nat} {b : FS}
theorem fnM_of {F : List D → Sto → Out D} {n m : Nat} (hF : F = runF n m b) (t : TxM K C x qual st ps) (hn : ps.length = n) (hm : N.length = m) (sc : FnScope N ps (defScope st))
    (hbody : ∀ (f : Addr) (cdv : Value) (A : Around) (outer : List Env) (s : Shared) (H : Hp) (E : XK), Room k (cxB P w K mg base N qual st f cdv A outer s H E).A → MSs (cxB P w K mg base N qual st f cdv A outer s H E) (wE E) (defBody st) b) :
    FnM P w K mg base (k + 1) C x F := by
  subst hF hn hm
  obtain ⟨f, fd, h1, h2, h3, h4⟩ := t.ex
  exact ⟨f, fd, ps, fn_ok h1 sc (hbody f), h3, h2, h4⟩
theorem fnI_of {F : List D → Sto → Out D} {n m : Nat} (hF : F = runF n m b) (t : TxI K mg C x qual st ps) (hn : ps.length = n) (hm : N.length = m) (sc : FnScope N ps (defScope st))
    (hbody : ∀ (f : Addr) (cdv : Value) (A : Around) (outer : List Env) (s : Shared) (H : Hp) (E : XK), Room k (cxB P w K mg base N qual st f cdv A outer s H E).A → MSs (cxB P w K mg base N qual st f cdv A outer s H E) (wE E) (defBody st) b) :
    FnI P w K mg base (k + 1) C F := by
  subst hF hn hm
  obtain ⟨f, fd, h1, h2, h3, h4⟩ := t.ex
  exact ⟨f, fd, ps, fn_ok h1 sc (hbody f), h3, h4, h2⟩
/-- at depth 0 nothing runs -/
theorem TxM.fn0 (t : TxM K C x qual st ps) : FnM P w K mg base 0 C x (fun _ _ => .bad) := by
  obtain ⟨f, fd, h1, h2, h3, h4⟩ := t.ex
  exact ⟨f, fd, ps, ⟨fun vs H Q E h => by obtain ⟨_, _, _, _, _, q⟩ := h; exact q.elim, fun A st s H args us vs Q E _ _ _ _ h => by obtain ⟨_, _, _, _, _, q⟩ := h; exact q.elim⟩, h3, h2, h4⟩
theorem clsA_of {Cd : Addr} (e : PySem.W.nsIn K mainGlobals C = some (some (.ref Cd))) : clsA K C = Cd := by
  unfold clsA; rw [e]
end
end
/-! ### instances are made -/
section
variable {X : Cx} {W : WX} {a b c e o : Expr} {rest es : List Expr} {f g h : FE} {pos p apos : Pos} {K : PySem.W.Frag} {m : List Addr} {H : Hp} {S : Sto} {C : Str} {k : Nat} {F : List D → Sto → Out D} {fa : FA}
/-- a new object, its __init__; it gives nothing else than None -/
def oMk (C : Str) (F : List D → Sto → Out D) (ds : List D) (S : Sto) : Out D :=
  (F (.ref S.length :: ds) (S ++ [.ins C []])).bind fun d S1 => match d with
    | .non => .ok (.ref S.length) S1
    | _ => .bad
def eMk (C : Str) (F : List D → Sto → Out D) (fa : FA) : FE := fun l S => (fa l S).bind (oMk C F)
theorem run_makeS {CX : CXT} {f C : Addr} {fd : FuncData} {ps : List Str} {sp : Sp} {E : XK} {pins : List (Addr × Obj)} {σ : L2.St} {H : Hp} {s : Shared} {Q : VK} {us : List Value} {vs : List V} (M : Mk X.K C f) (F : FnOk X.prog X.w X.K X.mg X.base CX k f fd ps sp) (hr : Room (k + 1) X.A) (hb : Binds X.K fd ps [])
    (hx : PassesAt CX X σ E) (I : Inv X pins σ H s) (r : Vals vs us)
    (h : ∀ x dx, H x = none → H dx = none → dx ≠ x → sp (.ref x :: vs) (upd (upd H dx (.own x)) x (.ins C dx [])) (fun v H2 => v = .non ∧ Q (.ref x) H2) E) :
    wpAny (model X.prog X.w) X.A (call (.ref C) us) (EP X pins σ Q) X.xe s := by
  have hq := h (s.heap.objs.size + 1) s.heap.objs.size (I.hok.fresh (Nat.le_succ _)) (I.hok.fresh (Nat.le_refl _)) (Nat.ne_of_lt (Nat.lt_succ_self _))
  have I2 := Inv.made (C := C) I
  have r2 : Vals (V.ref (s.heap.objs.size + 1) :: vs) (Value.ref (s.heap.objs.size + 1) :: us) := .cons rfl r
  have hl : ((Value.ref (s.heap.objs.size + 1) :: us) ++ ([] : List Value)).length = ps.length := by
    rw [List.append_nil]
    have e := r2.length
    rw [F.len _ _ _ _ hq] at e
    exact e.symm
  have hb' := hb _ (Value.ref (s.heap.objs.size + 1) :: us) I2.kIn hl
  rw [List.append_nil] at hb'
  refine wpAny_call (make_map (f := f) I.kIn M.makes M.init (beq_iff_eq.mp M.fn) (codeAny_mono (F.run _ X.stack _ _ ⟨Value.ref (s.heap.objs.size + 1) :: us, []⟩ (Value.ref (s.heap.objs.size + 1) :: us) _ _ E (hr.make C us [])
    (I2.env0.make C us []) hb' r2 hq) fun r s' hq' => ?_))
  match r, hq' with
  | .error e, hq' => exact hx pins _ _ e s' I2 hq'
  | .ok (.ret u), hq' =>
    obtain ⟨v, H', I3, rv, ev, q3⟩ := I2.after hq'
    subst ev
    exact ⟨rv, ⟨V.ref (s.heap.objs.size + 1), H', I3, rfl, q3⟩⟩
theorem mk_run {f : Addr} {fd : FuncData} {ps : List Str} {pins : List (Addr × Obj)} {σ : L2.St} {H : Hp} {s : Shared} {Q : VK} {us : List Value} {vs : List V} {ds : List D} (M : Mk X.K (clsA X.K C) f) (hF : FnOk X.prog X.w X.K X.mg X.base (L2.CX X.prog X.w) k f fd ps (spF X.K F)) (hr : Room (k + 1) X.A) (hb : Binds X.K fd ps [])
    (tk : Takes X W) (I : Inv X pins σ H s) (r : Vals vs us) (R : SR X.K m H S) (V : VRs X.K m H ds vs) (q : post X.K W (pD X.K) σ m H Q (oMk C F ds S)) :
    wpAny (model X.prog X.w) X.A (call (.ref (clsA X.K C)) us) (EP X pins σ Q) X.xe s := by
  refine run_makeS M hF hr hb (passAt tk σ) I r fun x dx hx hdx hne => ?_
  have E1 : Ext m H m (upd H dx (.own x)) := Ext.tmp hdx
  have hx1 : (upd H dx (.own x)) x = none := by rw [upd_ne hne.symm]; exact hx
  have E2 : Ext m (upd H dx (.own x)) m (upd (upd H dx (.own x)) x (.ins (clsA X.K C) dx [])) := Ext.tmp hx1
  have E3 : Ext m H (m ++ [x]) (upd (upd H dx (.own x)) x (.ins (clsA X.K C) dx [])) := Ext.into hx (E1.trans E2)
  have hxm : x ∉ m := R.notin hx
  have R2 : SR X.K (m ++ [x]) (upd (upd H dx (.own x)) x (.ins (clsA X.K C) dx [])) (S ++ [.ins C []]) := SR.grow ((R.tmp hdx).tmp hx1) hxm ⟨dx, [], upd_same, rfl⟩
  have hrx : VR X.K (m ++ [x]) (upd (upd H dx (.own x)) x (.ins (clsA X.K C) dx [])) (.ref S.length) (.ref x) := ⟨x, by rw [← R.len, List.getElem?_concat_length], rfl⟩
  refine ⟨.ref S.length :: ds, m ++ [x], S ++ [.ins C []], .cons hrx (VRs.ext E3 _ _ V), R2, ?_⟩
  have q2 := post.mono (PR := pD X.K) anti_D E3 q
  unfold oMk at q2
  refine post.wE (W := W) (σ := σ) ?_
  refine post.bind (PR := pD X.K) anti_D q2 fun d S1 v H1 m1 E4 R4 V4 q3 => ?_
  cases d with
  | non =>
    simp only [VR] at V4
    exact ⟨V4, q3 _ H1 m1 .refl R4 ⟨x, by
      obtain ⟨ν, rfl, _⟩ := E4.mu
      rw [List.getElem?_append_left (by simp [R.len]), ← R.len, List.getElem?_concat_length], rfl⟩⟩
  | _ => exact q3.elim
theorem me_mk (h : FnI X.prog X.w X.K X.mg X.base k C F) (hr : Room (k + 1) X.A) (tk : Takes X W) (hg : Gl X C) (ha : MA X W (e :: es) fa) (hdb : (C == ("__debug__" : Str)) = false := by decide)
    (he : starEach (e :: es) X.env = (false, eval e X.env) :: starEach es X.env := by rfl) (hpl : (backTo pos (starEach es X.env)).any (·.1) = false := by rfl) : ME X W (.Call (.Name C p) (e :: es) [] pos) (eMk C F fa) := by
  obtain ⟨f, fd, ps, h1, h2, h3, h4⟩ := h.ex
  refine ⟨fun pins s σ H Q I ⟨l, m, S, R, q⟩ => ?_⟩
  refine wpAny_Call_Name_kw (ld_glob I hg h3 ?_ hdb)
  refine PySem.W.callWith_K (h₀ := X.base) I.ok.mod.kin h2.kp (thn (ha.run pos pins s σ H (fun vs H1 => ∃ ds m1 S1, VRs X.K m1 H1 ds vs ∧ SR X.K m1 H1 S1 ∧ post X.K W (pD X.K) σ m1 H1 Q (oMk C F ds S1)) I ⟨l, m, S, R, post.bind (PR := pA X.K) anti_D q fun ds S1 vs H1 m1 E1 R1 V1 q1 => ⟨ds, m1, S1, V1, R1, q1⟩⟩) fun us s1 ⟨vs, H1, I1, r, ds, m1, S1, V1, R1, q1⟩ => ⟨I1.kIn, ?_⟩) he hpl
  exact mk_run h2 h1 hr h4 tk I1 r R1 V1 q1
theorem me_mk0 (h : FnI X.prog X.w X.K X.mg X.base k C F) (hr : Room (k + 1) X.A) (tk : Takes X W) (hg : Gl X C) (hdb : (C == ("__debug__" : Str)) = false := by decide) : ME X W (.Call (.Name C p) [] [] pos) (eMk C F aN) := by
  obtain ⟨f, fd, ps, h1, h2, h3, h4⟩ := h.ex
  refine ⟨fun pins s σ H Q I ⟨l, m, S, R, q⟩ => ?_⟩
  refine wpAny_Call_Name_kw (ld_glob I hg h3 ?_ hdb)
  exact PySem.W.callWith_K0 I.kIn h2.kp (mk_run (us := []) (vs := []) h2 h1 hr h4 tk I .nil R.sr .nil q)
end
end Pz

set_option Elab.async false
set_option linter.all false
set_option maxRecDepth 100000
set_option maxHeartbeats 4000000
/-! Pz23: own exceptions with one field: their __init__, raise. -/
namespace Pz
open PySem PySem.Spec PyProof.Rows L2
section
variable {X : Cx} {e : Expr} {es : List Expr} {ta : TA} {p1 p2 pos : Pos} {x : Str} {B : Addr}
/-- the class whose __init__ is ValueError's -/
structure BaseX (K : PySem.W.Frag) (mg : Str → Option Value) (x : Str) : Prop where
  mg : mg x = some (.ref (clsA K x))
  rd : PySem.W.readsIn K (clsA K x) (.type "type") = true
  ga : PySem.W.specialIn K (.ref (clsA K x)) "__getattribute__" = some (some (.builtin "type.__getattribute__"))
  ini : PySem.W.findCls K (.ref (clsA K x)) (.type "type") "__init__" = some (.val (.builtin "ValueError.__init__"))
/-- Base.__init__(self, ..) -/
theorem pe_binit {pl : Sem Bool} (T : BaseX X.K X.mg x) (hg : Gl X x) (ha : PA X (e :: es) ta) (hdb : (x == ("__debug__" : Str)) = false := by decide)
    (hc : eval (.Call (.Attribute (.Name x p1) "__init__" p2) (e :: es) [] pos) X.env = (do
      let ov ← eval (.Name x p1) X.env
      standAt p2.atName
      let (f, first) ← holding [ov] (getMethod ov "__init__" pl)
      callWith pos f first (backTo pos (starEach (e :: es) X.env)) (backToKw pos (keywordEach [] X.env))) := by rfl)
    (he : starEach (e :: es) X.env = (false, eval e X.env) :: starEach es X.env := by rfl) (hpl : (backTo pos (starEach es X.env)).any (·.1) = false := by rfl) :
    PE X (.Call (.Attribute (.Name x p1) "__init__" p2) (e :: es) [] pos) (tVeI X.K ta) := by
  refine ⟨fun pins s σ H Q I h => ?_⟩
  refine PySem.W.methodCall_KW (ld_glob I hg T.mg ?_ hdb) hc
  refine PySem.W.method_cls I.kIn T.ga (PySem.W.cls_value I.kIn T.rd T.ini rfl ?_)
  refine callWith_method1 (thn (ha.run pos pins _ σ H _ (I.tok _) h) fun us s1 ⟨vs, H1, I1, r1, a, C, ws, ev, hl, Tc, ea, q⟩ => ?_) he hpl
  subst ev
  cases r1 with
  | @cons _ u0 _ ur ra rw' =>
    obtain rfl : u0 = Value.ref a := ra
    have hlen : ur.length ≤ sizeLine := by
      rw [← Paired.length rw', sizeLine_eq]
      omega
    exact oinit_ok Tc I1 ea hlen fun s' J => ⟨.non, H1, J, rfl, q⟩
end
/-- what the __init__ of an own exception with one field does: a further field of a new exception -/
def spEx (C : Addr) (f : Str) : Sp := fun vs H Q _ => ∃ a x, vs = [.ref a, x] ∧ H a = some (exo a C none) ∧ ∀ dx, H dx = none → dx ≠ a → Q .non (upd (upd H dx (exd dx [(f, x)])) a (exo a C (some dx)))
/-- the text of such an __init__, read -/
abbrev tExI (K : PySem.W.Frag) (t f : Str) : TS := tSeq (tDrop (tVeI K (tCons (tVar 0) (tCons (tC (.str t)) tNil)))) (tOst K f (tVar 0) (tVar 1))
structure ExT (K : PySem.W.Frag) (mg : Str → Option Value) (C f : Str) (fI : Addr) (fd : FuncData) : Prop where
  o : OexC K (clsA K C)
  gl : mg C = some (.ref (clsA K C))
  ini : PySem.W.findIn K (.ref (clsA K C)) "__init__" = some (some (.ref fI))
  ty : PySem.W.typeIn K (.ref fI) = some (.type "function")
  bd : Binds K fd ["self", f] []
  no : PySem.W.findIn K (.ref (clsA K C)) f = some none
/-- an own exception that may be raised -/
structure FnX (P : Program) (w : World) (K : PySem.W.Frag) (mg : Str → Option Value) (base : Heap) (C f : Str) : Prop where
  ex : ∃ fI fd, ExT K mg C f fI fd ∧ FnOk P w K mg base CX0 1 fI fd ["self", f] (spEx (clsA K C) f)
structure TxX (K : PySem.W.Frag) (mg : Str → Option Value) (C f qual : Str) (st : Stmt) : Prop where
  ex : ∃ fI fd, ExT K mg C f fI fd ∧ Fun K "__init__" qual st fI fd
section
variable {P : Program} {w : World} {K : PySem.W.Frag} {mg : Str → Option Value} {base : Heap} {C f qual t : Str} {st : Stmt}
theorem fnX_of (T : TxX K mg C f qual st) (sc : FnScope ["self", f] ["self", f] (defScope st))
    (hbody : ∀ (fI : Addr) (cdv : Value) (A : Around) (outer : List Env) (s : Shared) (H : Hp) (E : XK), PSs (cxOf CX0 P w K mg base ["self", f] qual (defScope st) fI cdv A outer s H E).nox (defBody st) (tExI K t f)) : FnX P w K mg base C f := by
  obtain ⟨fI, fd, h1, h2⟩ := T.ex
  refine ⟨fI, fd, h1, h2.ok sc (fun vs H Q E h => ?_) fun cdv A outer s H vs Q E hr h => ?_⟩
  · obtain ⟨a, x, rfl, _⟩ := h; rfl
  · obtain ⟨a, x, rfl, ha, k⟩ := h
    refine ⟨_, hbody fI cdv A outer s H E, ?_⟩
    refine ⟨.ref a, rfl, a, clsA K C, [.str t], rfl, (by show 1 ≤ 1000; decide), h1.o, ha, ?_⟩
    exact ⟨x, rfl, .ref a, rfl, a, clsA K C, rfl, h1.o, h1.no, .inl ⟨ha, k⟩⟩
end
section
variable {X : Cx} {W : WX} {e : Expr} {g : FE} {C f : Str} {p pos rpos : Pos}
/-- raise C(e) -/
def sRaise (C f : Str) (g : FE) : FS := fun l S => toS l (g l S) fun d S1 => .ex l C (some [(f, d)]) S1
theorem ms_raise (h : FnX X.prog X.w X.K X.mg X.base C f) (hc : X.calm = true) (hr : Room 2 X.A) (tk : Takes X W) (hg : Gl X C) (he : ME X W e g) (hdb : (C == ("__debug__" : Str)) = false := by decide)
    (h1 : starEach (e :: []) X.env = (false, eval e X.env) :: starEach [] X.env := by rfl) (hpl : (backTo pos (starEach [] X.env)).any (·.1) = false := by rfl) :
    MS X W (.Raise (some (.Call (.Name C p) [e] [] pos)) none rpos) (sRaise C f g) := by
  obtain ⟨fI, fd, T, F⟩ := h.ex
  refine (ps_raise hc tk (pmk_oex T.o T.ini T.ty F hr T.bd .nil pass0 hg T.gl (pa_cons (hs := h1) he pa_nil) hdb h1 hpl)).imp fun D' σ H ⟨l, m, S, R, q⟩ => ⟨l, m, S, R, postS.bind (PR := pD X.K) R q fun d S1 v H1 m1 E1 R1 V1 R2 q1 => ?_⟩
  refine ⟨(by show 1 ≤ 1000; decide), fun a ha => ⟨a, v, rfl, upd_same, fun dx hdx hne => ⟨rfl, dx, [(f, v)], upd_same, by rw [upd_ne hne, upd_same], ?_, ?_⟩⟩⟩
  · rw [upd_ne hne] at hdx; exact hdx
  · have hdx1 : H1 dx = none := by rw [upd_ne hne] at hdx; exact hdx
    have e1 : upd (del (upd (upd (upd H1 a (exo a (clsA X.K C) none)) dx (exd dx [(f, v)])) a (exo a (clsA X.K C) (some dx))) a) dx (.xd [(f, v)]) = upd H1 dx (.xd [(f, v)]) := by
      funext b
      by_cases hb : b = dx
      · rw [hb, upd_same, upd_same]
      · rw [upd_ne hb, upd_ne hb]
        by_cases hba : b = a
        · rw [hba, del_same, ha]
        · rw [del_ne hba, upd_ne hba, upd_ne hb, upd_ne hba]
    rw [e1]
    exact q1 _ _ _ _ m1 (Ext.tmp hdx1) (R2.ext (Ext.tmp hdx1) (R1.tmp hdx1)) ⟨rfl, dx, [(f, v)], rfl, upd_same, v, [], rfl, VR.ext (Ext.tmp hdx1) _ _ V1, rfl⟩
end
end Pz

set_option Elab.async false
set_option linter.all false
set_option maxRecDepth 100000
set_option maxHeartbeats 4000000
/-! Pz24: try .. except, with and without a name. -/
namespace PySem.W
open PySem PySem.Spec PySem.Calls PyProof.Rows
section
variable {prog : Program} {w : World} {A : Around} {E : Value → Shared → Prop} {s : Shared} {K : Frag} {x D : Addr} {ox od : Obj}
/-- the class that an own exception with a dict tells (HandS.ExcIs' walk, turned to one with a dict) -/
theorem pz_class {Q : Option Value → Shared → Prop} (C : L2.ExcC K D) (X : K.In s.heap) (I : InstAt s.heap x ox D (some od)) (h : Q (some (.ref D)) { s with toks := s.toks + 1 }) : wpAny (model prog w) A (getAttr? (.ref x) "__class__") Q E s := by
  have hf : findObj K D (some od) "__class__" = some (.bind (.builtin "getset_descriptor.__get__") (.builtin "object.__class__")) := findObj_data (by obtain ⟨cd, hc, _⟩ := any_some C.hd; rw [hc]; rfl) C.ha C.hn C.ht
  obtain ⟨hp, g, d, t, os⟩ := s
  have L0 := I.type (M := model prog w)
  have L3 := looks_find (M := model prog w) X I hf
  have hx2 : (Value.builtin "BaseException.__getattribute__" == Value.builtin "object.__getattribute__") = false := by decide +kernel
  have hx1 : (onTheHeap (Value.ref D) && Value.builtin "BaseException.__getattribute__" == Value.builtin "object.__getattribute__") = false := by rw [hx2]; rfl
  unfold getAttr? getAttrBy? getAttrBy
  refine wpAny_bind (wpAny_mkText (wpAny_bind (wpAny_attempt (wpAny_holding (wpAny_bind (L0.at (wpAny_bind ((looks_findIn (M := model prog w) X C.hg).at ?_))))))))
  show wpAny _ _ (if (onTheHeap (Value.ref D) && Value.builtin "BaseException.__getattribute__" == Value.builtin "object.__getattribute__") = true then _ else _) _ _ _
  rw [hx1, if_neg Bool.false_ne_true]
  unfold getAttrByItsOwn hookBefore
  refine wpAny_bind ?_
  rw [if_pos (show onTheHeap (Value.ref D) = true from rfl)]
  refine (looks_findIn (M := model prog w) X C.hk).at ?_
  refine wpAny_bind (wpAny_attempt (wpAny_holding ?_))
  unfold callGetattribute
  rw [show (false && onTheHeap (Value.builtin "BaseException.__getattribute__")) = false from rfl, if_neg Bool.false_ne_true]
  unfold boundAndCalled
  rw [PySem.F.excAttr_ValueError.ga.bind (.ref x)]
  refine wpAny_bind (wpAny_pure ?_)
  show wpAny _ _ (call (.builtin "BaseException.__getattribute__") [.ref x, .str "__class__" t]) _ _ _
  refine wpAny_call (codeAny_call_builtin PySem.F.excAttr_ValueError.ga.plain PySem.F.entry_bexc_ga ?_)
  refine @check_slot (model prog w) _ _ ⟨hp, g, d, t + 1, os⟩ "BaseException.__getattribute__" "BaseException" "__getattribute__" (.ref x) [.str "__class__" t] [] _ (by decide +kernel) (by decide +kernel) (L0.andThen (looks_subIn X C.hs)) (PySem.F.args_bexc_ga (.ref x) (.str "__class__" t)) ?_
  unfold Builtin.«object.__getattribute__»
  refine wpAny_bind (wpAny_of_eq (a := ((Value.ref x : Value), [Value.str "__class__" t])) (by first | rfl | (simp only [slotArgs]; rfl)) ?_)
  refine wpAny_bind (wpAny_pure (wpAny_bind (L0.at (wpAny_bind (L3.at ?_)))))
  show wpAny _ _ (holding [Value.builtin "object.__class__"] (call (.builtin "getset_descriptor.__get__") [.builtin "object.__class__", .ref x, .ref D]) >>= ret) _ _ _
  refine wpAny_bind (wpAny_holding (wpAny_call (class_get (s := ⟨hp, g, d, t + 1, os⟩) (ox := ox) (od := some od) X I C.hm ?_)))
  refine wpAny_pure ?_
  show wpAny _ _ (handedOut (.ref D)) _ _ _
  rw [handedOut_of (v := .ref D) rfl]
  first
    | exact wpAny_pure (wpAny_pure h)
    | exact wpAny_pure h
    | exact wpAny_pure (wpAny_bind (wpAny_pure (wpAny_pure h)))
theorem pz_kitx (C : L2.ExcC K D) : KitX K (.ref x) (.ref D) (fun h => ∃ od, InstAt h x ox D (some od)) where
  ty := fun _ _ _ ⟨_, I⟩ => I.type
  it := fun _ _ X _ => by
    obtain ⟨cdD, hcD, _⟩ := any_some C.hd
    unfold clsIn at hcD
    split at hcD
    · rename_i c' d' cd' sl' ho
      intro A' Q' E' s' k q
      unfold isType loadHead
      exact wpAny_bind (wpAny_loadPart (k _ _ (X _ _ ho)) (wpAny_pure q))
    · cases hcD
  ne := fun h tp dd its n sl X htp => by
    obtain ⟨cdD, hcD, _⟩ := any_some C.hd
    refine Bool.eq_false_iff.mpr fun q => ?_
    have e : D = tp := Value.ref.inj (beq_iff_eq.mp q)
    subst e
    unfold clsIn at hcD
    split at hcD
    · rename_i c' d' cd' sl' ho
      have z := (X _ _ ho).symm.trans htp
      cases z
    · cases hcD
  ca := fun X ⟨_, I⟩ k => pz_class C X I k
end
end PySem.W
namespace Pz
open PySem PySem.Spec PyProof.Rows L2
/-! ### several clauses 'except x as n' (HandS.Exc's and HandS.TryMany's walks put together) -/
def wAsMany (K : PySem.W.Frag) (i : Nat) (Wout : WX) (D : Ends) : List (Value × (Addr → Value → Option Addr → TS)) → WX
  | [] => Wout
  | (c, ts) :: r => fun cls d σ H => ∃ b, PySem.W.exmOne K cls c = some b ∧
      (b = true → ∀ a, H a = none → ts a cls d { nx := fun σ' H' => D.nx (σ'.set i none) H', rt := D.rt, bk := fun σ' H' => D.bk (σ'.set i none) H', ct := fun σ' H' => D.ct (σ'.set i none) H' } (σ.set i (some (.ref a))) H) ∧
      (b = false → wAsMany K i Wout D r cls d σ H)
inductive HdsA (X : Cx) (n : Str) : List ExceptHandler → List (Value × (Addr → Value → Option Addr → TS)) → Prop
  | nil : HdsA X n [] []
  | cons {x : Str} {c : Value} {ts : Addr → Value → Option Addr → TS} {b₀ : Stmt} {suite : List Stmt} {np pos' : Pos} {hds : List ExceptHandler} {l : List (Value × (Addr → Value → Option Addr → TS))} (hc : Names X x c)
      (hsu : ∀ (a : Addr) (oe : Obj) (cls : Value) (d : Option Addr) (pn : List (Addr × Obj)), Zc cls d oe → (∃ vs, oe.data = .fields vs) → PSs (X.suite a ((a, oe) :: pn)) (b₀ :: suite) (ts a cls d)) (r : HdsA X n hds l) :
      HdsA X n (.ExceptHandler (some (.Name x np)) (some n) (b₀ :: suite) pos' :: hds) ((c, ts) :: l)
section
variable {X : Cx} {body : List Stmt} {h₀ : ExceptHandler} {hds : List ExceptHandler} {l : List (Value × (Addr → Value → Option Addr → TS))} {pos : Pos} {tb : WX → TS} {Wout : WX} {n : Str} {i : Nat}
theorem ps_try_asMany (hs : X.stack = X.env :: X.outer) (hf : X.env.frame = some X.env.locals) (hN : X.N.Nodup) (hi : X.N[i]? = some n) (hln : X.env.kindOf n = some .local) (tk : Takes X Wout)
    (hb : ∀ (W : WX) (pn : List (Addr × Obj)) (xe : Value → Shared → Prop), Takes (X.tr pn xe) W → PassesOwn (model X.prog X.w) X.A X.env xe → PSs (X.tr pn xe) body (tb W))
    (hh : HdsA X n (h₀ :: hds) l) : PS X (.Try body (h₀ :: hds) [] [] pos) (fun D σ H => tb (wAsMany X.K i Wout D l) D σ H) := by
  refine ⟨fun pins s σ H D I h => ?_⟩
  have ok := I.ok
  have hfr : X.A.frames = some (X.env :: X.outer) := by rw [ok.frames, hs]
  have hloc : L2.Loc X.env.scope n := .inl hln
  refine wpAny_Try_except ?_
  refine wpAny_mono ((hb (wAsMany X.K i Wout D l) (X.pn ++ pins) (fun e s₁ => wpAny (model X.prog X.w) X.A (noteFrame e X.env) (fun _ s₂ => wpAny (model X.prog X.w) X.A (setFlight e none) (fun _ s₃ =>
    wpAny (model X.prog X.w) X.A (handleBy e X.env (h₀ :: hds)) (SP X pins D) X.xe s₃) X.xe s₂) X.xe s₁) (fun u s' xx => ?_) PassesOwn.looking).run [] s σ H D (I.toTry _) h) (fun f s1 hsp => ?_) (fun e s1 he => he)
  · obtain ⟨a, B, sI, pins', σ', H', cls, d, rfl, J', nb, up, sky, na, os, ag, w⟩ := xx
    have J : Inv X pins σ' H' sI := J'.ofTry ok
    have sky' : Sky B (X.env :: X.outer) a (Zc cls d) X.env.locals s'.heap := by rw [← hs]; exact sky
    show wpAny (model X.prog X.w) X.A (noteFrame (.ref a) X.env) _ _ _
    refine Sky.land Zc.steady hfr hf sky' fun h3 fl3 up3 => ?_
    have J3 : Inv X pins σ' H' { s' with heap := h3 } := J.landed nb fl3.1 (up.trans up3) os ag
    obtain ⟨oe3, vs3, he3, hz3, hd3⟩ := fl3.there
    have nfr : a ∉ frs (X.env :: X.outer) := fun hm => by
      obtain ⟨_, o', e', hnf⟩ := fl3.2.2.1.mem hm
      rw [he3] at e'; cases e'
      exact hnf _ hd3
    have nL : a ≠ X.env.locals := fun z => nfr (List.mem_filterMap.mpr ⟨X.env, List.mem_cons_self, by rw [hf, z]⟩)
    have nF : a ∉ X.fs := fun hm => by
      obtain ⟨e, he, q⟩ := List.mem_filterMap.mp hm
      exact nfr (List.mem_filterMap.mpr ⟨e, List.mem_cons_of_mem _ he, q⟩)
    have S3 := J3.suite he3 hd3 na nL nF
    have go : ∀ {hds' : List ExceptHandler} {l' : List (Value × (Addr → Value → Option Addr → TS))}, HdsA X n hds' l' → wAsMany X.K i Wout D l' cls d σ' H' →
        wpAny (model X.prog X.w) X.A (handleBy (.ref a) X.env hds') (SP X pins D) X.xe { s' with heap := h3 } := by
      intro hds' l' hk
      induction hk with
      | nil =>
        intro w
        refine wpAny_handleBy_nil ?_
        obtain ⟨k1, k2, k3, oe, vs, T, oT, ts', he, hz, hd, h1, hr⟩ := id fl3
        unfold PySem.passOn
        refine wpAny_bind (wpAny_field he hd h1 ?_)
        rw [if_neg (show ¬ ((Value.ref T == Value.none) = true) from by simp)]
        have fin : wpAny (model X.prog X.w) X.A (setFlight (.ref a) X.env.frame) (fun _ s4 => wpAny (model X.prog X.w) X.A (throw (.ref a) : Sem Flow) (SP X pins D) X.xe s4) X.xe { s' with heap := h3 } := by
          rw [hf]
          refine HandSPX.setFlight_upZ fl3 fun h4 hh4 up4 => wpAny_throw (tk _ _ ?_)
          exact ⟨a, B, sI, pins, σ', H', cls, d, rfl, J, nb, (up.trans up3).trans up4, .inr (.inr (by rw [hs]; exact hh4)), na, os, ag, w⟩
        first
          | exact wpAny_bind (wpAny_pure (wpAny_bind fin))
          | exact wpAny_bind fin
      | @cons x c ts b₀ suite np pos' hds2 l2 hc hsu r ih =>
        intro w
        obtain ⟨b, hb1, hyes, hno⟩ := w
        refine wpAny_handleBy_cons (codeAny_handlers_test ?_) (by intro q; cases q)
        have LT : PySem.W.Looks (model X.prog X.w) h3 (typeOf (.ref a)) cls := fun A Q E s k q => wpAny_typeOf_ref (k _ _ he3) (by rw [hz3.1]; exact q)
        have LM := PySem.W.exm_one (M := model X.prog X.w) (J3.kIn) LT hb1
        have test : ∀ {Q : Value → Shared → Prop} {E : Value → Shared → Prop}, Q c { s' with heap := h3 } → wpAny (model X.prog X.w) (X.A.mark (some (.ref a))) (eval (.Name x np) X.env) Q E { s' with heap := h3 } := fun {Q E} q => by
          obtain ⟨hg, hdbg, hm | ⟨hm, hv, hnn⟩⟩ := hc
          · exact ld_glob (X := X.suite a ((a, oe3) :: (X.pn ++ pins))) S3 hg hm q hdbg
          · exact ld_blt (X := X.suite a ((a, oe3) :: (X.pn ++ pins))) S3 hg hm hv q hnn hdbg
        refine test (LM.here ?_)
        cases b with
        | true =>
          refine codeAny_handlers_suite_as ?_
          refine HandSPX.lands_againZ fl3 fun h4 fl4 up4 => ?_
          have J4 : Inv X pins σ' H' { s' with heap := h4 } := J.landed nb fl4.1 ((up.trans up3).trans up4) os ag
          obtain ⟨oe4, vs4, he4, hz4, hd4⟩ := fl4.there
          have S4 := J4.suite he4 hd4 na nL nF
          refine store_ok (X := X.suite a ((a, oe4) :: (X.pn ++ pins))) (v := .ref a) S4 hN hi hloc rfl (fun s5 S5 => ?_) (.inr hln)
          refine wpAny_mono ((hsu a oe4 cls d (X.pn ++ pins) hz4 ⟨_, hd4⟩).run [] s5 _ H' _ S5 (hyes rfl a na)) (fun f s6 hsp => ?_) (fun _ _ z => False.elim z)
          have end_ : ∀ {σ6 : L2.St} {H6 : Hp} {Q : Shared → Prop}, Inv (X.suite a ((a, oe4) :: (X.pn ++ pins))) [] σ6 H6 s6 → (∀ s7, Inv X pins (σ6.set i none) H6 s7 → Q s7) →
              wpAny (model X.prog X.w) X.A (do bindName X.env n .none; unbindBehindTheSuite X.env n pos') (fun _ s7 => Q s7) X.xe s6 := fun {σ6 H6 Q} S6 hq => gone_ok (S6.unsuite ok) hN hi hln hq
          cases f with
          | next =>
            obtain ⟨σ6, H6, S6, q6⟩ := hsp
            exact end_ S6 fun s7 J7 => ⟨_, _, J7, q6⟩
          | brk =>
            obtain ⟨σ6, H6, S6, q6⟩ := hsp
            exact end_ S6 fun s7 J7 => ⟨_, _, J7, q6⟩
          | cont =>
            obtain ⟨σ6, H6, S6, q6⟩ := hsp
            exact end_ S6 fun s7 J7 => ⟨_, _, J7, q6⟩
          | ret u =>
            obtain ⟨v6, σ6, H6, S6, r6, q6⟩ := hsp
            exact end_ S6 fun s7 J7 => ⟨_, _, _, J7, r6, q6⟩
        | false =>
          show wpAny _ X.A (handleBy (.ref a) X.env hds2) _ _ _
          exact ih (hno rfl)
    exact go hh w
  · cases f with
    | next =>
      obtain ⟨σ', H', J', q⟩ := hsp
      exact wpAny_execs_nil ⟨σ', H', J'.ofTry ok, q⟩
    | brk =>
      obtain ⟨σ', H', J', q⟩ := hsp
      exact ⟨σ', H', J'.ofTry ok, q⟩
    | cont =>
      obtain ⟨σ', H', J', q⟩ := hsp
      exact ⟨σ', H', J'.ofTry ok, q⟩
    | ret u =>
      obtain ⟨v, σ', H', J', r, q⟩ := hsp
      exact ⟨v, σ', H', J'.ofTry ok, r, q⟩
end
/-! ### own errors in an except suite -/
/-- what is asked of a class whose instances a suite looks at; B: the class that isinstance names -/
structure ErrT (K : PySem.W.Frag) (C f : Str) (cv : Value) : Prop where
  ec : ExcC K (clsA K C)
  no : PySem.W.findIn K (.ref (clsA K C)) f = some none
  kit : PySem.W.kitOne K (.ref (clsA K C)) cv = some true
theorem _root_.L2.ExcC.xf {K : PySem.W.Frag} {D : Addr} (C : ExcC K D) : XfC K D := ⟨C.hg, C.hk, C.hs, C.hd⟩
def rIsO (K : PySem.W.Frag) (D a : Addr) (d : Option Addr) : List V → Hp → VK → Prop := fun xs H Q => ∃ (c : V) (cv : Value) (b : Bool) (dd : Addr) (us : List (Str × V)), xs = [.ref a, c] ∧ (∀ u, RelV c u → u = cv) ∧ PySem.W.kitOne K (.ref D) cv = some b ∧ d = some dd ∧ H dd = some (.xd us) ∧ Q (.bl b) H
theorem call_isO {X : Cx} {a D : Addr} {d : Option Addr} {oe : Obj} {pn : List (Addr × Obj)} (C : ExcC X.K D) (hz : Zc (.ref D) d oe) (hf : ∃ vs, oe.data = .fields vs) : CallR (X.suite a ((a, oe) :: pn)) (.builtin "isinstance") (rIsO X.K D a d) := by
  intro pins s σ H xs us Q I r h
  obtain ⟨c, cv, b, dd, fs, rfl, hcv, e, rfl, hd, q⟩ := h
  cases r with
  | cons rx rr =>
    cases rr with
    | cons rt rr =>
      cases rr
      cases rx
      have ec := hcv _ rt
      subst ec
      obtain ⟨hget, _⟩ := I.pin (a, oe) (List.mem_append.mpr (.inl List.mem_cons_self))
      obtain ⟨vs, hv⟩ := hf
      have hx : ObjOk X.prog X.w H s.heap dd (.xd fs) := I.hok dd _ hd
      obtain ⟨mA, hns, _⟩ := hx
      obtain ⟨od, ho, _⟩ := lookIn_ns hns
      have J : PySem.W.InstAt s.heap a oe D (some od) := ⟨hget, hz.1, by unfold PySem.W.notCls; rw [hv] <;> rfl, by rw [hz.2]; exact ho⟩
      exact PySem.W.kia_one (PySem.W.pz_kitx C) I.kIn ⟨od, J⟩ e (fun z => nomatch z) fun tk => ⟨.bl b, H, I.kept (t' := tk) fun _ _ z => z, rfl, q⟩
structure ErrH where
  C : Str
  f : Str
  c : Str
  b : Bool
def ErrH.tl (h : ErrH) : List V := if h.b = true then [.bl true] else []
def ErrH.tlD (h : ErrH) : List D := if h.b = true then [.bl true] else []
def tsErr (K : PySem.W.Frag) (i j : Nat) (h : ErrH) : Addr → Value → Option Addr → TS := fun a cls d D σ H => ∃ dd us v, cls = .ref (clsA K h.C) ∧ d = some dd ∧ H dd = some (.xd us) ∧ us.lookup h.f = some v ∧ σ[i]? = some (some (.ref a)) ∧
  ∀ t, H t = none → D.nx (σ.set j (some (.ref t))) (upd H t (.lst (.str h.c :: v :: h.tl)))
abbrev tErrIs (K : PySem.W.Frag) (C : Str) (a : Addr) (d : Option Addr) (i : Nat) (cv : V) : TE := tCB (rIsO K (clsA K C) a d) (tCons (tVar i) (tCons (tC cv) tNil))
abbrev tErrF (K : PySem.W.Frag) (C f : Str) (a : Addr) (d : Option Addr) (i : Nat) : TE := tXf a (.ref (clsA K C)) d (clsA K C) f (tVar i)
/-- found = [c, n.f] if isinstance(n, B) else [c2] -/
abbrev tErrA (K : PySem.W.Frag) (C f c c2 : Str) (i j : Nat) (cv : V) (a : Addr) (d : Option Addr) : TS :=
  tAsg (tIf (tB (tErrIs K C a d i cv)) (tLst (tCons (tC (.str c)) (tCons (tErrF K C f a d i) tNil))) (tLst (tCons (tC (.str c2)) tNil))) (gName j)
/-- found = [c, n.f, isinstance(n, B)] -/
abbrev tErrB (K : PySem.W.Frag) (C f c : Str) (i j : Nat) (cv : V) (a : Addr) (d : Option Addr) : TS :=
  tAsg (tLst (tCons (tC (.str c)) (tCons (tErrF K C f a d i) (tCons (tErrIs K C a d i cv) tNil)))) (gName j)
section
variable {X : Cx} {i j : Nat} {n C f c c2 : Str} {cv : V} {cu : Value} {np pos' : Pos} {hds : List ExceptHandler} {l : List ErrH} {b₀ : Stmt} {suite : List Stmt}
abbrev MHs (X : Cx) (n : Str) (i j : Nat) (hds : List ExceptHandler) (l : List ErrH) : Prop := HdsA X n hds (l.map fun h => (.ref (clsA X.K h.C), tsErr X.K i j h))
theorem mh_nil : MHs X n i j [] [] := .nil
theorem mh_cons {t : Addr → Option Addr → TS} {h : ErrH} (hC : Names X h.C (.ref (clsA X.K h.C)))
    (hi : ∀ a d D σ H dd us v, d = some dd → H dd = some (.xd us) → us.lookup h.f = some v → σ[i]? = some (some (.ref a)) → (∀ t, H t = none → D.nx (σ.set j (some (.ref t))) (upd H t (.lst (.str h.c :: v :: h.tl)))) → t a d D σ H)
    (hsu : ∀ (a : Addr) (oe : Obj) (d : Option Addr) (pn : List (Addr × Obj)), Zc (.ref (clsA X.K h.C)) d oe → (∃ vs, oe.data = .fields vs) → PSs (X.suite a ((a, oe) :: pn)) (b₀ :: suite) (t a d)) (r : MHs X n i j hds l) :
    MHs X n i j (.ExceptHandler (some (.Name h.C np)) (some n) (b₀ :: suite) pos' :: hds) (h :: l) := by
  refine .cons hC (fun a oe cls d pn hz hf => ⟨fun pins s σ H D I ⟨dd, us, v, h1, h2, h3, h4, h5, h6⟩ => ?_⟩) r
  subst h1
  exact (hsu a oe d pn hz hf).run pins s σ H D I (hi a d D σ H dd us v h2 h3 h4 h5 h6)
theorem mh_consA (T : ErrT X.K C f cu) (hcv : ∀ u, RelV cv u → u = cu) (hC : Names X C (.ref (clsA X.K C)))
    (hsu : ∀ (a : Addr) (oe : Obj) (d : Option Addr) (pn : List (Addr × Obj)), Zc (.ref (clsA X.K C)) d oe → (∃ vs, oe.data = .fields vs) → PSs (X.suite a ((a, oe) :: pn)) (b₀ :: suite) (tErrA X.K C f c c2 i j cv a d)) (r : MHs X n i j hds l) :
    MHs X n i j (.ExceptHandler (some (.Name C np)) (some n) (b₀ :: suite) pos' :: hds) (⟨C, f, c, false⟩ :: l) := by
  refine mh_cons (h := ⟨C, f, c, false⟩) hC (fun a d D σ H dd us v h2 h3 h4 h5 h6 => ?_) hsu r
  refine ⟨_, h5, cv, cu, true, dd, us, rfl, hcv, T.kit, h2, h3, true, rfl, iteT ?_⟩
  exact ⟨_, h5, rfl, rfl, dd, us, v, h2, h3, h4, (show 2 ≤ sizeLine from by decide), fun p hp => h6 p hp⟩
theorem mh_consB (T : ErrT X.K C f cu) (hcv : ∀ u, RelV cv u → u = cu) (hC : Names X C (.ref (clsA X.K C)))
    (hsu : ∀ (a : Addr) (oe : Obj) (d : Option Addr) (pn : List (Addr × Obj)), Zc (.ref (clsA X.K C)) d oe → (∃ vs, oe.data = .fields vs) → PSs (X.suite a ((a, oe) :: pn)) (b₀ :: suite) (tErrB X.K C f c i j cv a d)) (r : MHs X n i j hds l) :
    MHs X n i j (.ExceptHandler (some (.Name C np)) (some n) (b₀ :: suite) pos' :: hds) (⟨C, f, c, true⟩ :: l) := by
  refine mh_cons (h := ⟨C, f, c, true⟩) hC (fun a d D σ H dd us v h2 h3 h4 h5 h6 => ?_) hsu r
  exact ⟨_, h5, rfl, rfl, dd, us, v, h2, h3, h4, _, h5, cv, cu, true, dd, us, rfl, hcv, T.kit, h2, h3, (show 3 ≤ sizeLine from by decide), fun p hp => h6 p hp⟩
end
/-- of these classes each is caught by itself alone -/
def XmL (K : PySem.W.Frag) (l : List Str) : Prop := ∀ C ∈ l, ∀ B ∈ l, PySem.W.exmOne K (.ref (clsA K C)) (.ref (clsA K B)) = some (decide (C = B))
def errL (h : ErrH) (fs : List (Str × D)) : Option (List D) := (fs.lookup h.f).map fun d => .str h.c :: d :: h.tlD
def sTryAs (i j : Nat) (body : FS) (hs : List ErrH) : FS := fun l S => match body l S with
  | .ex l1 C (some fs) S1 => match hs.find? fun h => h.C == C with
    | some h => match errL h fs with
      | some ds => if i < l1.length then .nx ((l1.set j (some (.ref S1.length))).set i none) (S1 ++ [.lst ds]) else .bad
      | none => .bad
    | none => .bad
  | .ex _ _ none _ => .bad
  | o => o
section
variable {X : Cx} {W : WX} {i j : Nat} {n C f c : Str} {pos : Pos} {hds : List ExceptHandler} {l : List ErrH} {body : List Stmt} {h₀ : ExceptHandler} {fb : FS} {K : PySem.W.Frag} {D' : Ends}
theorem Rel.slot {lc : Loc} {σ : L2.St} {m : List Addr} {S : Sto} {H : Hp} (r : Rel K lc σ m S H) (k : Nat) {d : Option D} {v : Option V} (h : ∀ x, d = some x → ∃ y, v = some y ∧ VR K m H x y) : Rel K (lc.set k d) (σ.set k v) m S H := by
  refine ⟨r.sr, by simp [r.len], fun q x hq => ?_⟩
  by_cases e : q = k
  · subst e
    by_cases hl : q < lc.length
    · rw [List.getElem?_set_self hl] at hq
      obtain ⟨y, h1, h2⟩ := h x (Option.some.inj hq)
      exact ⟨y, by rw [List.getElem?_set_self (by rw [r.len]; exact hl), h1], h2⟩
    · rw [List.getElem?_eq_none (by simpa using hl)] at hq; cases hq
  · rw [List.getElem?_set_ne (Ne.symm e)] at hq ⊢
    exact r.at q x hq
theorem wAs_ok {L1 : Loc} {C : Str} {fs : List (Str × D)} {S1 : Sto} {cls : Value} {dd : Option Addr} {σ : L2.St} {m0 m : List Addr} {H0 H : Hp} (hij : i ≠ j) (E0 : Ext m0 H0 m H) (R : Rel K L1 σ m S1 H) (x : XR K m H C (some fs) cls dd) :
    ∀ hs : List ErrH, (∀ h ∈ hs, PySem.W.exmOne K (.ref (clsA K C)) (.ref (clsA K h.C)) = some (decide (C = h.C))) →
      postS K W m0 H0 D' (match hs.find? fun h => h.C == C with
        | some h => match errL h fs with
          | some ds => if i < L1.length then .nx ((L1.set j (some (.ref S1.length))).set i none) (S1 ++ [.lst ds]) else .bad
          | none => .bad
        | none => .bad) → wAsMany K i W D' (hs.map fun h => (.ref (clsA K h.C), tsErr K i j h)) cls dd σ H
  | [], _, q => q.elim
  | h :: hs, hx, q => by
    obtain ⟨rfl, a', us, rfl, h3, h4⟩ := x
    have h1 := hx h List.mem_cons_self
    by_cases e : C = h.C
    · refine ⟨true, by rw [h1, decide_eq_true e], fun _ a ha => ?_, fun z => nomatch z⟩
      rw [List.find?_cons_of_pos (by simp [e])] at q
      unfold errL at q
      cases hl : fs.lookup h.f with
      | none => simp only [hl, Option.map_none] at q; exact q.elim
      | some d =>
        simp only [hl, Option.map_some] at q
        by_cases hN : i < L1.length
        case neg => rw [if_neg hN] at q; exact q.elim
        rw [if_pos hN] at q
        obtain ⟨v, h5, h6⟩ := AR.lookF h4 hl
        have hi : i < σ.length := by rw [R.len]; exact hN
        refine ⟨a', us, v, by rw [e], rfl, h3, h5, by rw [List.getElem?_set_self hi], fun t ht => ?_⟩
        have Et : Ext m H m (upd H t (.lst (.str h.c :: v :: h.tl))) := Ext.tmp ht
        have tl : VRs K m (upd H t (.lst (.str h.c :: v :: h.tl))) h.tlD h.tl := by
          unfold ErrH.tlD ErrH.tl
          split
          · exact .cons (by simp only [VR]) .nil
          · exact .nil
        have vs : VRs K m (upd H t (.lst (.str h.c :: v :: h.tl))) (.str h.c :: d :: h.tlD) (.str h.c :: v :: h.tl) := .cons (by simp only [VR]) (.cons (VR.ext Et _ _ h6) tl)
        have key : ∀ (n : Nat) (b : Addr), m[n]? = some b → (m ++ [t])[n]? = some b := fun n b h => by
          rw [List.getElem?_append_left (List.getElem?_eq_some_iff.mp h).1]; exact h
        have R2 : Rel K L1 σ (m ++ [t]) (S1 ++ [.lst (.str h.c :: d :: h.tlD)]) (upd H t (.lst (.str h.c :: v :: h.tl))) :=
          R.ext (Ext.into ht Et) (SR.grow (R.sr.tmp ht) (R.sr.notin ht) ⟨_, upd_same, vs⟩)
        have hm : (m ++ [t])[S1.length]? = some t := by rw [← R.sr.len, List.getElem?_concat_length]
        have e2 : (((σ.set i (some (.ref a))).set j (some (.ref t))).set i none : L2.St) = ((σ.set j (some (.ref t))).set i none : L2.St) := by
          rw [List.set_comm _ _ hij, List.set_set]
        show D'.nx (((σ.set i (some (.ref a))).set j (some (.ref t))).set i none) _
        rw [e2]
        exact q _ _ (m ++ [t]) (E0.trans (Ext.into ht Et)) ((R2.slot j (fun x hx => ⟨.ref t, rfl, by cases hx; exact ⟨t, hm, rfl⟩⟩)).slot i (fun x hx => nomatch hx))
    · refine ⟨false, by rw [h1, decide_eq_false e], fun z => (nomatch z), fun _ => ?_⟩
      rw [List.find?_cons_of_neg (by simpa using fun z => e z.symm)] at q
      exact wAs_ok hij E0 R ⟨rfl, a', us, rfl, h3, h4⟩ hs (fun h' hh => hx h' (List.mem_cons_of_mem _ hh)) q
/-- try: body / except C as n: found = [c, n.f] .. / .. -/
theorem ms_tryAs (hs : X.stack = X.env :: X.outer) (hf : X.env.frame = some X.env.locals) (hN : X.N.Nodup) (hi : X.N[i]? = some n) (hln : X.env.kindOf n = some .local) (hij : i ≠ j) (tk : Takes X W)
    (hb : ∀ (W' : WX) (pn : List (Addr × Obj)) (xe : Value → Shared → Prop), Takes (X.tr pn xe) W' → PassesOwn (model X.prog X.w) X.A X.env xe → MSs (X.tr pn xe) W' body fb)
    (hh : MHs X n i j (h₀ :: hds) l) (hx : XmL X.K (l.map (·.C))) : MS X W (.Try body (h₀ :: hds) [] [] pos) (sTryAs i j fb l) := by
  refine (ps_try_asMany (Wout := W) (tb := fun W' => tS X.K W' fb) hs hf hN hi hln tk hb hh).imp fun D' σ H ⟨lc, m, S, R, q⟩ => ⟨lc, m, S, R, ?_⟩
  unfold sTryAs at q
  cases e : fb lc S with
  | nx l1 S1 => rw [e] at q; exact q
  | rt d S1 => rw [e] at q; exact q
  | bk l1 S1 => rw [e] at q; exact q
  | ct l1 S1 => rw [e] at q; exact q
  | bad => rw [e] at q; exact q
  | ex l1 C fs S1 =>
    rw [e] at q
    cases fs with
    | none => exact q.elim
    | some fs =>
      intro cls dd σ1 H1 m1 E1 R1 x1
      by_cases hC : C ∈ l.map (·.C)
      · exact wAs_ok hij E1 R1 x1 l (fun h hh => hx C hC h.C (List.mem_map_of_mem hh)) q
      · have e1 : (l.find? fun h => h.C == C) = none := List.find?_eq_none.mpr fun h hh z => hC (by rw [← (beq_iff_eq.mp z)]; exact List.mem_map_of_mem hh)
        simp only [e1] at q
        exact q.elim
/-! ### try without a name: one clause that hands back -/
def sTry1 (C0 : Str) (body g : FS) : FS := fun l S => match body l S with
  | .ex l1 C _ S1 => if C = C0 then g l1 S1 else .bad
  | o => o
theorem ms_try1 {b₀ : Stmt} {suite : List Stmt} {np pos' : Pos} {g : FS} (hs : X.stack = X.env :: X.outer) (hf : X.env.frame = some X.env.locals) (tk : Takes X W) (hC : Names X C (.ref (clsA X.K C))) (hx : XmL X.K [C])
    (hb : ∀ (W' : WX) (pn : List (Addr × Obj)) (xe : Value → Shared → Prop), Takes (X.tr pn xe) W' → PassesOwn (model X.prog X.w) X.A X.env xe → MSs (X.tr pn xe) W' body fb)
    (hsu : ∀ (a : Addr) (oe : Obj) (cls : Value) (d : Option Addr) (pn : List (Addr × Obj)), Zc cls d oe → (∃ vs, oe.data = .fields vs) → MSs (X.suite a ((a, oe) :: pn)) W (b₀ :: suite) g) :
    MS X W (.Try body [.ExceptHandler (some (.Name C np)) none (b₀ :: suite) pos'] [] [] pos) (sTry1 C fb g) := by
  refine (ps_try_many (l := [(.ref (clsA X.K C), fun _ _ _ => tS X.K W g)]) (Wout := W) (tb := fun W' => tS X.K W' fb) hs hf tk hb (.cons hC (fun a oe cls d pn hz hv => hsu a oe cls d pn hz hv) .nil)).imp fun D' σ H ⟨lc, m, S, R, q⟩ => ⟨lc, m, S, R, ?_⟩
  unfold sTry1 at q
  cases e : fb lc S with
  | nx l1 S1 => rw [e] at q; exact q
  | rt d S1 => rw [e] at q; exact q
  | bk l1 S1 => rw [e] at q; exact q
  | ct l1 S1 => rw [e] at q; exact q
  | bad => rw [e] at q; exact q
  | ex l1 B fs S1 =>
    rw [e] at q
    simp only at q
    intro cls dd σ1 H1 m1 E1 R1 x1
    by_cases hB : B = C
    · rw [if_pos hB] at q
      obtain ⟨rfl, _⟩ := x1
      subst hB
      refine ⟨true, by rw [hx B (by simp) B (by simp)]; simp, fun _ a ha => ⟨l1, m1, S1, R1, postS.mono E1 q⟩, fun z => nomatch z⟩
    · rw [if_neg hB] at q; exact q.elim
end
end Pz

set_option Elab.async false
set_option linter.all false
set_option maxRecDepth 100000
set_option maxHeartbeats 4000000
/-! Pz25: what the top has written of classes: each fact from what k_is finds. -/
namespace Pz
open PySem PySem.Spec PyProof.Rows L2
section
variable {K : PySem.W.Frag} {h : Heap} {mg : Str → Option Value} {C x f qual : Str} {st : Stmt} {ps : List Str} {Cd fm : Addr} {oc : Value} {od an : Option Addr} {osl : Array (Option Value)} {kV doc pm cdv ct : Value}
theorem clsF_mk (pg : PySem.W.plainGet K Cd Str.empty = true) (hd : PySem.W.hasDictIn K Cd = true) (po : PySem.W.plainOver K Cd = true) (sa : PySem.W.findIn K (.ref Cd) "__setattr__" = some (some (.builtin "object.__setattr__"))) : Cls K Cd := ⟨pg, hd, po, sa⟩
theorem txm_mk (aC : PySem.W.nsIn K mainGlobals C = some (some (.ref Cd)))
    (bd : ∀ (kV doc pm : Value) (an : Option Addr) (cdv ct : Value) (us : List Value), us.length = ps.length → bindArgs (PySem.W.fnOf x qual (defArgs st) (defBody st) (defScope st) .none kV doc pm an cdv ct) ⟨us, []⟩ = pure (ps.zip us))
    (a : PySem.W.findIn K (.ref Cd) x = some (some (.ref fm))) (i : PySem.W.isFn K (.ref fm) = true)
    (l : K.lookup fm = some ⟨oc, od, .func (PySem.W.fnOf x qual (defArgs st) (defBody st) (defScope st) .none kV doc pm an cdv ct), osl⟩) (c : PySem.W.codeIn K cdv qual = true) (k : PySem.W.keepIn K (.ref fm) = true) (cl : Cls K Cd) : TxM K C x qual st ps := by
  have F := fun_mk (st := st) l c k
  refine ⟨fm, _, F, F.binds fun kV doc pm an cdv ct us hl => bd kV doc pm an cdv ct us hl, ?_, ?_⟩
  · rw [clsA_of aC]; exact ⟨a, i, k⟩
  · rw [clsA_of aC]; exact cl
theorem txi_mk (X : K.In h) (G : h.Ns mainGlobals mg) (aC : PySem.W.nsIn K mainGlobals C = some (some (.ref Cd)))
    (bd : ∀ (kV doc pm : Value) (an : Option Addr) (cdv ct : Value) (us : List Value), us.length = ps.length → bindArgs (PySem.W.fnOf x qual (defArgs st) (defBody st) (defScope st) .none kV doc pm an cdv ct) ⟨us, []⟩ = pure (ps.zip us))
    (a : PySem.W.findIn K (.ref Cd) "__init__" = some (some (.ref fm))) (i : PySem.W.isFn K (.ref fm) = true)
    (l : K.lookup fm = some ⟨oc, od, .func (PySem.W.fnOf x qual (defArgs st) (defBody st) (defScope st) .none kV doc pm an cdv ct), osl⟩) (c : PySem.W.codeIn K cdv qual = true) (k : PySem.W.keepIn K (.ref fm) = true)
    (mk : PySem.W.makesIn K Cd = true) (kc : PySem.W.keepIn K (.ref Cd) = true) : TxI K mg C x qual st ps := by
  have F := fun_mk (st := st) l c k
  refine ⟨fm, _, F, F.binds fun kV doc pm an cdv ct us hl => bd kV doc pm an cdv ct us hl, ?_, ?_⟩
  · rw [clsA_of aC]; exact ⟨mk, a, i, kc⟩
  · rw [clsA_of aC]; exact PySem.W.mg_of X G aC
theorem fldC_mk (aC : PySem.W.nsIn K mainGlobals C = some (some (.ref Cd))) (cl : Cls K Cd) (no : PySem.W.findIn K (.ref Cd) f = some none) : FldC K C f := by
  refine ⟨?_, ?_⟩ <;> rw [clsA_of aC]
  · exact cl
  · exact no
theorem mgC_mk (X : K.In h) (G : h.Ns mainGlobals mg) (aC : PySem.W.nsIn K mainGlobals C = some (some (.ref Cd))) : mg C = some (.ref (clsA K C)) := by
  rw [clsA_of aC]; exact PySem.W.mg_of X G aC
theorem baseX_mk (X : K.In h) (G : h.Ns mainGlobals mg) (aC : PySem.W.nsIn K mainGlobals C = some (some (.ref Cd))) (rd : PySem.W.readsIn K Cd (.type "type") = true) (ga : PySem.W.specialIn K (.ref Cd) "__getattribute__" = some (some (.builtin "type.__getattribute__")))
    (ini : PySem.W.findCls K (.ref Cd) (.type "type") "__init__" = some (.val (.builtin "ValueError.__init__"))) : BaseX K mg C := by
  have e := clsA_of aC
  exact ⟨by rw [e]; exact PySem.W.mg_of X G aC, by rw [e]; exact rd, by rw [e]; exact ga, by rw [e]; exact ini⟩
theorem txx_mk {nm q : Str} {N Wd : Addr} {bs : List Value} {sn : List Str} {sub : List Value} {ab : Bool} {col : Option Bool} {dd : Option Addr} {m0 m1 m2 m3 m5 : Option Value} (X : K.In h) (G : h.Ns mainGlobals mg) (aC : PySem.W.nsIn K mainGlobals C = some (some (.ref Cd)))
    (bd : ∀ (kV doc pm : Value) (an : Option Addr) (cdv ct : Value) (us : List Value), us.length = (["self", f] : List Str).length → bindArgs (PySem.W.fnOf "__init__" qual (defArgs st) (defBody st) (defScope st) .none kV doc pm an cdv ct) ⟨us, []⟩ = pure ((["self", f] : List Str).zip us))
    (xL : K.lookup Cd = some (excClassObj nm q Cd N bs [.ref Wd, .type "ValueError", .type "Exception", .type "BaseException", .type "object"] true sn sub ab col dd m0 m1 m2 m3 m5 "ValueError.__new__"))
    (sa : PySem.W.findIn K (.ref Cd) "__setattr__" = some (some (.builtin "object.__setattr__"))) (eC : PySem.W.subIn K (.ref Cd) (.type "BaseException") = some true) (tC : PySem.W.typeIn K (.ref Cd) = some (.type "type")) (kC : PySem.W.keepIn K (.ref Cd) = true)
    (a1 : PySem.W.findIn K (.ref Cd) "__init__" = some (some (.ref fm))) (t1 : PySem.W.typeIn K (.ref fm) = some (.type "function"))
    (l : K.lookup fm = some ⟨oc, od, .func (PySem.W.fnOf "__init__" qual (defArgs st) (defBody st) (defScope st) .none kV doc pm an cdv ct), osl⟩) (c : PySem.W.codeIn K cdv qual = true) (k : PySem.W.keepIn K (.ref fm) = true) (no : PySem.W.findIn K (.ref Cd) f = some none) : TxX K mg C f qual st := by
  have F := fun_mk (st := st) l c k
  have e := clsA_of aC
  refine ⟨fm, _, ⟨?_, ?_, ?_, t1, F.binds fun kV doc pm an cdv ct us hl => bd kV doc pm an cdv ct us hl, ?_⟩, F⟩
  · rw [e]; exact ⟨⟨nm, q, N, bs, _, sn, sub, ab, col, dd, m0, m1, m2, m3, m5, xL, by show PySem.HandSPX.refsVE PySem.HandSPX.veTail = true; decide +kernel⟩, sa, eC, tC, kC⟩
  · rw [e]; exact PySem.W.mg_of X G aC
  · rw [e]; exact a1
  · rw [e]; exact no
theorem errT_mk {cv : Value} (aC : PySem.W.nsIn K mainGlobals C = some (some (.ref Cd))) (hg : PySem.W.findIn K (.ref Cd) "__getattribute__" = some (some (.builtin "BaseException.__getattribute__"))) (hk : PySem.W.findIn K (.ref Cd) "__getattr__" = some none)
    (hs : PySem.W.subIn K (.ref Cd) (.type "BaseException") = some true) (hd : PySem.W.hasDictIn K Cd = true) (ha : PySem.W.findIn K (.ref Cd) "__class__" = some (some (.builtin "object.__class__")))
    (hn : PySem.W.specialIn K (.builtin "object.__class__") "__get__" = some (some (.builtin "getset_descriptor.__get__"))) (ht : PySem.W.takesIn K (.builtin "object.__class__") = some true) (hm : PySem.W.mroIn K Cd (.type "object") = some true)
    (no : PySem.W.findIn K (.ref Cd) f = some none) (kit : PySem.W.kitOne K (.ref Cd) cv = some true) : ErrT K C f cv := by
  have e := clsA_of aC
  exact ⟨by rw [e]; exact ⟨hg, hk, hs, hd, ha, hn, ht, hm⟩, by rw [e]; exact no, by rw [e]; exact kit⟩
theorem exm_mk {B : Str} {Bd : Addr} {b : Bool} (aC : PySem.W.nsIn K mainGlobals C = some (some (.ref Cd))) (aB : PySem.W.nsIn K mainGlobals B = some (some (.ref Bd))) (h1 : PySem.W.subIn K (.ref Bd) (.type "BaseException") = some true) (hd : PySem.W.hasDictIn K Bd = true)
    (ht : PySem.W.typeIn K (.ref Bd) = some (.type "type")) (h4 : PySem.W.subIn K (.ref Cd) (.ref Bd) = some b) (hb : b = decide (C = B)) : PySem.W.exmOne K (.ref (clsA K C)) (.ref (clsA K B)) = some (decide (C = B)) := by
  rw [clsA_of aC, clsA_of aB, ← hb]
  exact PySem.W.exm_ref h1 hd ht h4
theorem xmL_1 {A : Str} (h : PySem.W.exmOne K (.ref (clsA K A)) (.ref (clsA K A)) = some (decide (A = A))) : XmL K [A] := by
  intro C hC B hB
  obtain rfl := List.mem_singleton.mp hC
  obtain rfl := List.mem_singleton.mp hB
  exact h
theorem xmL_2 {A B : Str} (h1 : PySem.W.exmOne K (.ref (clsA K A)) (.ref (clsA K A)) = some (decide (A = A))) (h2 : PySem.W.exmOne K (.ref (clsA K A)) (.ref (clsA K B)) = some (decide (A = B)))
    (h3 : PySem.W.exmOne K (.ref (clsA K B)) (.ref (clsA K A)) = some (decide (B = A))) (h4 : PySem.W.exmOne K (.ref (clsA K B)) (.ref (clsA K B)) = some (decide (B = B))) : XmL K [A, B] := by
  intro C hC D hD
  simp only [List.mem_cons, List.not_mem_nil, or_false] at hC hD
  rcases hC with rfl | rfl <;> rcases hD with rfl | rfl <;> assumption
theorem fld1 (h : FldC K C f) : ∀ D ∈ [C], FldC K D f := fun D hD => by
  obtain rfl := List.mem_singleton.mp hD
  exact h
end
end Pz

set_option Elab.async false
set_option linter.all false
set_option maxRecDepth 100000
set_option maxHeartbeats 4000000
/-! Pz26: x.index(y), x a tuple of numbers or a list. -/
namespace Pz
open PySem PySem.Spec PyProof.Rows L2
def rIndexT (K : PySem.W.Frag) : V → List V → Hp → VK → Prop := fun x xs H Q => ∃ p, ∃ ns : List Int, ∃ k, x = .ref p ∧ xs = [.int k] ∧ SqT K H p (ns.map V.int) ∧ k ∈ ns ∧ Q (.int (ns.idxOf k : Nat)) H
section
variable {X : Cx} {W : WX} {e o : Expr} {f g : FE} {apos cpos : Pos} {K : PySem.W.Frag} {m : List Addr} {H : Hp} {S : Sto}
theorem mt_indexT : MtR X "tuple.index" (rIndexT X.K) := by
  intro pins s σ H x xs v us Q I rx rs h
  obtain ⟨p, ns, k, rfl, rfl, hq, hk, q⟩ := h
  cases rx
  obtain ⟨u, rfl, t, rfl⟩ := vals1 rs
  obtain ⟨its, r, hl, hz⟩ := I.tuple hq
  exact PySem.SeqAt.tuple_index_ints hl (intsAre_of r) hk ⟨.int (ns.idxOf k : Nat), H, I.tok _, ⟨_, rfl⟩, q⟩
/-- the method of a tuple that has no dict -/
def tTI (K : PySem.W.Frag) (to : TE) (t : TA) : TE := fun σ H Q => to σ H fun x H1 => ∃ a vs, x = .ref a ∧ SqN K H1 a vs ∧ t σ H1 fun xs H2 => rIndexT K x xs H2 Q
theorem pe_tindex {to : TE} {t : TA} (ho : PE X o to) (ha : PA X [e] t)
    (hbase : attributeBase o "index" X.env (eval o X.env) = eval o X.env := by rfl)
    (hfew : ((backTo cpos (starEach [e] X.env)).all (fun x => !x.1) && (backToKw cpos (keywordEach [] X.env)).all (fun x => x.1.isSome) && decide ([e].length + ([] : List Keyword).length + (if ([] : List Keyword).isEmpty then 0 else 1) < 30)) = true := by rfl)
    (hline : (apos.endLine == cpos.line) = true := by rfl) (hs : starEach [e] X.env = (false, eval e X.env) :: starEach [] X.env := by rfl) (hplain : (backTo cpos (starEach [] X.env)).any (·.1) = false := by rfl) :
    PE X (.Call (.Attribute o "index" apos) [e] [] cpos) (tTI X.K to t) := by
  refine ⟨fun pins s σ H Q I h => ?_⟩
  refine wpAny_Call_method_late hbase hfew hline rfl (thn (ho.run pins s σ H _ I h) fun v s1 ⟨x, H1, I1, r1, a, vs, ex, hn, q1⟩ => ?_)
  subst ex
  cases r1
  have tn : s1.TypeIs (.ref a) "tuple" ∧ ∀ b, Value.ref a = .ref b → ∃ ob, s1.heap.get? b = some ob ∧ ob.dict = none := by
    rcases hn with ⟨ob, hd, hf⟩ | ⟨ob, its, n, hl, hc, hd, _⟩
    · obtain ⟨h1, _, _, _, o2, h2, h3, _⟩ := I1.hok a _ hf
      have e : ob = o2 := Option.some.inj (h1.symm.trans h2)
      subst e
      exact ⟨⟨ob, h1, h3⟩, fun b z => by cases z; exact ⟨ob, h1, hd⟩⟩
    · have h1 := I1.kIn _ _ hl
      exact ⟨⟨ob, h1, hc⟩, fun b z => by cases z; exact ⟨ob, h1, hd⟩⟩
  refine ⟨"tuple", "tuple.index", PySem.F.plainAttrs_tuple, PySem.F.slot_tuple_index, PySem.F.type_tuple_index, tn.1, tn.2, ?_⟩
  have hA := ha.run cpos pins s1 σ H1 _ I1 q1
  rw [hs] at hA ⊢
  refine Calls.callWith_builtin (by show (false || (backTo cpos (starEach [] X.env)).any (·.1)) = false; rw [hplain] <;> rfl) (Calls.evalArgs_plain ?_)
  exact thn hA fun us s2 ⟨vs, H2, I2, r2, q2⟩ => mt_indexT pins s2 σ H2 (.ref a) vs (.ref a) us Q I2 rfl r2 q2
/-- x.index(y) -/
def oIndexT (x y : D) (S : Sto) : Out D := match x, y with
  | .tup xs, .int k => match intsD xs with
    | some ns => if k ∈ ns then .ok (.int (ns.idxOf k : Nat)) S else .bad
    | none => .bad
  | _, _ => .bad
def eIxB (g : FE) (l : Loc) (x : D) (S1 : Sto) : Out D := match x with
  | .tup xs => (g l S1).bind fun y S2 => oIndexT (.tup xs) y S2
  | x => (isL x S1).bind fun _ _ => (g l S1).bind fun y S2 => oIndex x y S2
def eIx (f g : FE) : FE := fun l S => (f l S).bind fun x S1 => eIxB g l x S1
theorem me_index (ho : ME X W o f) (he : ME X W e g)
    (hbase : attributeBase o "index" X.env (eval o X.env) = eval o X.env := by rfl) (hfew : ((backTo cpos (starEach [e] X.env)).all (fun x => !x.1) && (backToKw cpos (keywordEach [] X.env)).all (fun x => x.1.isSome) && decide ([e].length + ([] : List Keyword).length + (if ([] : List Keyword).isEmpty then 0 else 1) < 30)) = true := by rfl) (hline : (apos.endLine == cpos.line) = true := by rfl) (hs : starEach [e] X.env = (false, eval e X.env) :: starEach [] X.env := by rfl)
    (hplain : (backTo cpos (starEach [] X.env)).any (·.1) = false := by rfl) : ME X W (.Call (.Attribute o "index" apos) [e] [] cpos) (eIx f g) := by
  have h1 := pe_tindex (X := X) ho (pa_cons he pa_nil hs) hbase hfew hline hs hplain
  have h2 := pe_bm (X := X) PySem.F.plainAttrs_list PySem.F.slot_list_index PySem.F.type_list_index mt_index ho (pa_cons he pa_nil hs) hbase hfew hline hs hplain
  have key : PE X (.Call (.Attribute o "index" apos) [e] [] cpos) (fun σ H Q => tTI X.K (tX X.K W (pD X.K) f) (tCons (tX X.K W (pD X.K) g) tNil) σ H Q ∨ tBM X.K "list" (rIndex X.K) (tX X.K W (pD X.K) f) (tCons (tX X.K W (pD X.K) g) tNil) σ H Q) :=
    ⟨fun pins s σ H Q I q => q.elim (h1.run pins s σ H Q I) (h2.run pins s σ H Q I)⟩
  refine key.imp fun σ H Q ⟨l, m, S, R, q⟩ => ?_
  unfold eIx at q
  cases e1 : f l S with
  | bad => rw [e1] at q; exact q.elim
  | ex C fs S1 =>
    rw [e1] at q
    exact .inl ⟨l, m, S, R, by rw [e1]; exact q⟩
  | ok d S1 =>
    rw [e1] at q
    have q : post X.K W (pD X.K) σ m H Q (eIxB g l d S1) := q
    by_cases hd : ∃ xs, d = .tup xs
    · obtain ⟨xs, rfl⟩ := hd
      refine .inl ⟨l, m, S, R, ?_⟩
      rw [e1]
      intro v H1 m1 E1 R1 V1
      have V1' := V1
      simp only [VR] at V1
      obtain ⟨a, vs, rfl, h3, h4⟩ := V1
      refine ⟨a, vs, rfl, h3, l, m1, S1, R.ext E1 R1, post.bind (PR := pD X.K) anti_D (post.mono (PR := pD X.K) anti_D E1 q) fun y S2 u H2 m2 E2 R2 V2 q2 => ?_⟩
      cases y with
      | int k =>
        simp only [oIndexT] at q2
        split at q2
        · rename_i ns hns
          split at q2
          · rename_i hk
            obtain rfl := intsD_ok hns
            simp only [VR] at V2
            have h5 : VRs X.K m1 H1 (ns.map D.int) vs := h4
            obtain rfl := h5.ints
            exact ⟨a, ns, k, rfl, by rw [V2], (h3.ext E2).t, hk, q2 _ H2 m2 .refl R2 (by simp only [VR])⟩
          · exact q2.elim
        · exact q2.elim
      | _ => exact q2.elim
    · refine .inr ⟨l, m, S, R, ?_⟩
      rw [e1]
      intro v H1 m1 E1 R1 V1
      have q : post X.K W (pD X.K) σ m H Q ((isL d S1).bind fun _ _ => (g l S1).bind fun y S2 => oIndex d y S2) := by
        cases d <;> first | exact q | exact absurd ⟨_, rfl⟩ hd
      obtain ⟨h1, q2⟩ := isL_ok R1 V1 (post.mono (PR := pD X.K) anti_D E1 q)
      exact ⟨h1, l, m1, S1, R.ext E1 R1, post.bind (PR := pD X.K) anti_D q2 fun y S2 u H2 m2 E2 R2 V2 q3 => o2_index W σ m2 H2 S2 d y v u Q R2 (VR.ext E2 d v V1) V2 q3⟩
end
end Pz

set_option Elab.async false
set_option linter.all false
set_option maxRecDepth 100000
set_option maxHeartbeats 4000000
/-! Pz27: dicts: d[k], d[k] = v, k in d, d.get, d.pop, sorted(d). -/
namespace Pz
open PySem PySem.Spec PyProof.Rows L2
section
variable {X : Cx} {W : WX} {a b c e o i : Expr} {f g h : FE} {pos p p' : Pos} {K : PySem.W.Frag} {m : List Addr} {H : Hp} {S : Sto}
def dkD (x : D) (S : Sto) : Option (List (Key × D)) := match x with
  | .ref n => match S[n]? with
    | some (.dk kvs) => some kvs
    | _ => none
  | _ => none
theorem dkD_ok (s : SR K m H S) {x : D} {v : V} {kvs : List (Key × D)} (h : dkD x S = some kvs) (r : VR K m H x v) : ∃ n q us, x = .ref n ∧ S[n]? = some (.dk kvs) ∧ v = .ref q ∧ m[n]? = some q ∧ H q = some (.dK us) ∧ AR K m H kvs us := by
  cases x with
  | ref n =>
    simp only [dkD] at h
    split at h
    · rename_i xs hn
      cases h
      obtain ⟨q, rfl, h1, _, us, h2, h3⟩ := s.ref hn r
      exact ⟨n, q, us, rfl, hn, rfl, h1, h2, h3⟩
    · cases h
  | _ => cases h
def oDGet (x y : D) (S : Sto) : Out D := match dkD x S, keyD y with
  | some kvs, some k => match Pz.getD kvs k with
    | some d => .ok d S
    | none => .bad
  | _, _ => .bad
theorem me_dget (hu : X.A.units + 64 < cLine) (ho : ME X W o f) (hi : ME X W i g) (hs : NoSl i := by exact fun _ _ => rfl) : ME X W (.Subscript o i pos) (e2 oDGet f g) :=
  (pe_dget (by omega) ho hi hs).imp fun σ H Q q => by
    obtain ⟨l, m, S, R, q⟩ := q
    refine ⟨l, m, S, R, post.bind (PR := pD X.K) anti_D q fun x S1 v H1 m1 E1 R1 V1 q1 => ⟨l, m1, S1, R.ext E1 R1, post.bind (PR := pD X.K) anti_D q1 fun y S2 u H2 m2 E2 R2 V2 q2 => ?_⟩⟩
    unfold oDGet at q2
    split at q2
    · rename_i kvs k hx hk
      split at q2
      · rename_i d hd
        obtain ⟨n, a, us, rfl, hn, rfl, h1, h2, h3⟩ := dkD_ok R2 hx (VR.ext E2 _ _ V1)
        have ek := keyD_ok hk V2
        rcases h3.get (k := k) with ⟨h4, _⟩ | ⟨d', w, h4, h5, h6⟩
        · rw [hd] at h4; cases h4
        · rw [hd] at h4
          cases h4
          exact ⟨a, w, rfl, by rw [ek, ← h5]; exact DGet.k h2, q2 w H2 m2 .refl R2 h6⟩
      · exact q2.elim
    · exact q2.elim
theorem dkD_at (s : SR K m H S) {n : Nat} {kvs : List (Key × D)} (h : S[n]? = some (.dk kvs)) : dkD (.ref n) S = some kvs := by simp only [dkD, h]
/-! y in d -/
def oDIn (y x : D) (S : Sto) : Out D := match dkD x S, keyD y with
  | some kvs, some k => .ok (.bl (Pz.getD kvs k).isSome) S
  | _, _ => .bad
def oDNin (y x : D) (S : Sto) : Out D := match dkD x S, keyD y with
  | some kvs, some k => .ok (.bl (!(Pz.getD kvs k).isSome)) S
  | _, _ => .bad
theorem dGet_ok {kvs : List (Key × D)} {us : List (Key × V)} (h : AR K m H kvs us) (k : Key) : (valV us k).isSome = (Pz.getD kvs k).isSome := by
  rcases h.get (k := k) with ⟨h1, h2⟩ | ⟨d, v, h1, h2, _⟩ <;> rw [h1, h2] <;> rfl
theorem tX_din {Q : VK} {σ : L2.St} (q : tX K W (pD K) (e2 oDIn g f) σ H Q) : tDIn (tX K W (pD K) g) (tX K W (pD K) f) σ H Q := by
  obtain ⟨l, m, S, R, q⟩ := q
  refine ⟨l, m, S, R, post.bind (PR := pD K) anti_D q fun y S1 v H1 m1 E1 R1 V1 q1 => ⟨l, m1, S1, R.ext E1 R1, post.bind (PR := pD K) anti_D q1 fun x S2 u H2 m2 E2 R2 V2 q2 => ?_⟩⟩
  unfold oDIn at q2
  split at q2
  · rename_i kvs k hx hk
    obtain ⟨n, a, us, rfl, hn, rfl, h1, h2, h3⟩ := dkD_ok R2 hx V2
    have ek := keyD_ok hk (VR.ext E2 _ _ V1)
    refine ⟨a, _, rfl, by rw [ek]; exact DGet.k h2, ?_⟩
    rw [dGet_ok h3]
    exact q2 _ H2 m2 .refl R2 (by simp only [VR])
  · exact q2.elim
theorem tX_dnin {Q : VK} {σ : L2.St} (q : tX K W (pD K) (e2 oDNin g f) σ H Q) : tDNotIn (tX K W (pD K) g) (tX K W (pD K) f) σ H Q := by
  obtain ⟨l, m, S, R, q⟩ := q
  refine ⟨l, m, S, R, post.bind (PR := pD K) anti_D q fun y S1 v H1 m1 E1 R1 V1 q1 => ⟨l, m1, S1, R.ext E1 R1, post.bind (PR := pD K) anti_D q1 fun x S2 u H2 m2 E2 R2 V2 q2 => ?_⟩⟩
  unfold oDNin at q2
  split at q2
  · rename_i kvs k hx hk
    obtain ⟨n, a, us, rfl, hn, rfl, h1, h2, h3⟩ := dkD_ok R2 hx V2
    have ek := keyD_ok hk (VR.ext E2 _ _ V1)
    refine ⟨a, _, rfl, by rw [ek]; exact DGet.k h2, ?_⟩
    rw [dGet_ok h3]
    exact q2 _ H2 m2 .refl R2 (by simp only [VR])
  · exact q2.elim
theorem me_din (hu : X.A.units + 64 < cLine) (hi : ME X W i g) (ho : ME X W o f) (h1 : behindInMarks .In o = false := by first | exact nobehind _ (by decide) (by decide) | rfl) : ME X W (.Compare i [.In] [o] pos) (e2 oDIn g f) := (pe_cmp (pc_din (by omega) hi ho) h1).imp fun σ H Q q => tX_din q
theorem me_dnin (hu : X.A.units + 64 < cLine) (hi : ME X W i g) (ho : ME X W o f) (h1 : behindInMarks .NotIn o = false := by first | exact nobehind _ (by decide) (by decide) | rfl) : ME X W (.Compare i [.NotIn] [o] pos) (e2 oDNin g f) := (pe_cmp (pc_dnotin (by omega) hi ho) h1).imp fun σ H Q q => tX_dnin q
theorem tB_of {t : TE} {ff : FE} (i : ∀ σ H Q, tX K W (pD K) ff σ H Q → t σ H Q) {σ : L2.St} {Q : Bool → Hp → Prop} (q : tX K W pB (eT ff) σ H Q) : tB t σ H Q := i _ _ _ (tX_tst q)
theorem mt_din (hu : X.A.units + 64 < cLine) (hi : ME X W i g) (ho : ME X W o f) (h1 : behindInMarks .In o = false := by first | exact nobehind _ (by decide) (by decide) | rfl) : MT X W (.Compare i [.In] [o] pos) (eT (e2 oDIn g f)) := (pt_cmp (pc_din (by omega) hi ho) h1).imp fun σ H Q q => tB_of (fun _ _ _ q => tX_din q) q
theorem mt_dnin (hu : X.A.units + 64 < cLine) (hi : ME X W i g) (ho : ME X W o f) (h1 : behindInMarks .NotIn o = false := by first | exact nobehind _ (by decide) (by decide) | rfl) : MT X W (.Compare i [.NotIn] [o] pos) (eT (e2 oDNin g f)) := (pt_cmp (pc_dnotin (by omega) hi ho) h1).imp fun σ H Q q => tB_of (fun _ _ _ q => tX_dnin q) q
/-! d[y] = v -/
def oDPut (v x y : D) (S : Sto) : Option Sto := match x, keyD y with
  | .ref n, some k => match S[n]? with
    | some (.dk kvs) => if kvs.length < sizeLine then some (S.set n (.dk (putD kvs k v))) else none
    | _ => none
  | _, _ => none
def sDPutF (f g h : FE) : FS := fun l S => toS l (f l S) fun v S1 => toS l (g l S1) fun x S2 => toS l (h l S2) fun y S3 => match oDPut v x y S3 with
  | some S4 => .nx l S4
  | none => .bad
theorem ms_dput {p1 : Pos} (hu : X.A.units + 64 < cLine) (he : ME X W e f) (ho : ME X W o g) (hi : ME X W i h) (hs : swapsWith e (some (.Subscript o i p1)) pos.line X.env = pure false := by rfl) : MS X W (.Assign [.Subscript o i p1] e pos) (sDPutF f g h) :=
  (ps_dput (by omega) ho hi he hs).imp fun D' σ H ⟨l, m, S, R, q⟩ => ⟨l, m, S, R, postS.bind (PR := pD X.K) R q fun d S1 w H1 m1 E1 R1 V1 R2 q1 => ⟨l, m1, S1, R2, postS.bind (PR := pD X.K) R2 q1 fun x S2 v H2 m2 E2 R3 V2 R4 q2 =>
    ⟨l, m2, S2, R4, postS.bind (PR := pD X.K) R4 q2 fun y S3 u H3 m3 E3 R5 V3 R6 q3 => by
      cases e4 : oDPut d x y S3 with
      | none => rw [e4] at q3; exact q3.elim
      | some S4 =>
        rw [e4] at q3
        unfold oDPut at e4
        split at e4
        · rename_i n k hk
          split at e4
          · rename_i kvs hn
            split at e4
            · rename_i hl
              cases e4
              have V2 := VR.ext E3 _ _ V2
              have V1 := VR.ext (E2.trans E3) _ _ V1
              obtain ⟨a, rfl, h1, hmem, us, h2, h3⟩ := R5.ref hn V2
              have ek := keyD_ok hk V3
              have mu : Mu (H3 a) := OR.mu (K := X.K) (m := m3) (o := .dk kvs) ⟨us, h2, h3⟩
              have E4 : Ext m3 H3 m3 (upd H3 a (.dK (putK us k w))) := Ext.wr hmem mu
              have new : OR X.K m3 (upd H3 a (.dK (putK us k w))) (.dk (putD kvs k d)) a := ⟨_, upd_same, AR.ext E4 _ _ (AR.put V1 h3)⟩
              exact ⟨a, _, rfl, by rw [ek]; exact DPut.k h2 (by rw [AR.length h3]; exact hl), q3 σ _ m3 E4 (R6.ext E4 (R5.wr h1 mu new))⟩
            · cases e4
          · cases e4
        · cases e4⟩⟩⟩
/-! {k: v, ..}[x] -/
def oIxD (kvs : List (Key × D)) (k : D) (S : Sto) : Out D := match keyD k with
  | some k => match Pz.getD (mergeD [] kvs) k with
    | some d => .ok d S
    | none => .bad
  | none => .bad
def eDispIx (r : FP) (f : FE) : FE := fun l S => (r l S).bind fun kvs S1 => if kvs.length ≤ 15 then (f l S1).bind fun k S2 => oIxD kvs k S2 else .bad
theorem me_dispIx {ks : List (Option Expr)} {vs : List Expr} {p1 : Pos} {r : FP} (hu : X.A.units + 64 < cLine) (hr : MP X W p1 ks vs r) (ha : ME X W a f) (hs : NoSl a := by exact fun _ _ => rfl) (hall : ks.all (·.isSome) = true := by rfl) (hl : ks.length = vs.length := by rfl) (h0 : ks ≠ [] := by simp) (h15 : ks.length ≤ 15 := by decide) :
    ME X W (.Subscript (.Dict ks vs p1) a pos) (eDispIx r f) := by
  obtain ⟨trs, h1, h2⟩ := hr.ex
  refine (pe_dget (by omega) (pe_disp h1 hall hl h0 h15) ha hs).imp fun σ H Q ⟨l, m, S, R, q⟩ t ht => ?_
  have Et : Ext m H m (upd H t (.dK [])) := Ext.tmp ht
  have hnt0 : t ∉ m := R.sr.notin ht
  refine h2 σ _ _ ⟨l, m, S, R.ext Et (R.sr.tmp ht), ?_⟩
  unfold eDispIx at q
  cases e0 : r l S with
  | bad => rw [e0] at q; exact q.elim
  | ex C fs S1 => rw [e0] at q; exact post.mono (PR := pD X.K) anti_D Et (o := .ex C fs S1) q
  | ok kvs S1 =>
    rw [e0] at q
    intro ps H1 m1 E1 R1 ⟨us, e1, V1⟩
    subst e1
    have hnt : t ∉ m1 := E1.notin hnt0 (by rw [upd_same]; exact fun z => by cases z)
    have ht1 : H1 t = some (.dK []) := E1.oth _ _ upd_same hnt0
    have q : post X.K W (pD X.K) σ m H Q (if kvs.length ≤ 15 then (f l S1).bind fun k S2 => oIxD kvs k S2 else .bad) := q
    split at q
    · rename_i hz
      have mu : Mu (some (HO.dK [])) := ⟨fun _ z => (by cases z), fun _ _ z => (by cases z)⟩
      have E2 : Ext m H m1 (upd H1 t (.dK (mergeK [] us))) := Ext.over1 ht (Et.trans E1)
      have R2 : SR X.K m1 (upd H1 t (.dK (mergeK [] us))) S1 := SR.overD R1 ht1 mu hnt
      have V2 : AR X.K m1 (upd H1 t (.dK (mergeK [] us))) (mergeD [] kvs) (mergeK [] us) := AR.overD ht1 mu (AR.merge _ V1 rfl)
      refine ⟨ht1, us, rfl, by rw [V1.length]; exact hz, l, m1, S1, R.ext E2 R2, post.bind (PR := pD X.K) anti_D (post.mono anti_D E2 q) fun k S2 kv H2 m2 E3 R3 V3 q2 => ?_⟩
      unfold oIxD at q2
      split at q2
      · rename_i kk hkk
        have hd3 : H2 t = some (.dK (mergeK [] us)) := E3.oth _ _ upd_same hnt
        have V5 := AR.ext E3 _ _ V2
        rw [keyD_ok hkk V3]
        rcases AR.get (k := kk) V5 with ⟨g1, g2⟩ | ⟨x, w, g1, g2, g3⟩
        · rw [g1] at q2; exact q2.elim
        · rw [g1] at q2; exact ⟨t, w, rfl, by rw [← g2]; exact DGet.k hd3, q2 _ H2 m2 .refl R3 g3⟩
      · exact q2.elim
    · exact q.elim
/-! sorted(d), int keys -/
def intK : List (Key × D) → Option (List Int)
  | [] => some []
  | (.inl k, _) :: r => (intK r).map (k :: ·)
  | _ :: _ => none
theorem intK_ok : ∀ {kvs : List (Key × D)} {us : List (Key × V)} {ks : List Int}, AR K m H kvs us → intK kvs = some ks → us.map (·.1) = ks.map Sum.inl
  | [], _, _, h, e => by simp only [AR] at h; subst h; cases e; rfl
  | (.inl k, d) :: r, _, _, h, e => by
    obtain ⟨w, q, rfl, h1, h2⟩ := h
    simp only [intK, Option.map_eq_some_iff] at e
    obtain ⟨t, e, rfl⟩ := e
    rw [List.map_cons, List.map_cons, intK_ok h2 e]
  | (.inr k, d) :: r, _, _, _, e => by cases e
def oSortD (x : D) (S : Sto) : Out LV := match dkD x S with
  | some kvs => match intK kvs with
    | some ks => if ks.length < 64 then .ok (.tmp ((ks.mergeSort fun a b => decide (a ≤ b)).map .int)) S else .bad
    | none => .bad
  | none => .bad
theorem ml_sortD (hc : X.calm = true) (hg : Gl X "sorted") (hm : X.mg "sorted" = none) (hb : bootBuiltins "sorted" = some (.builtin "sorted")) (he : ME X W e f) (s1 : starEach [e] X.env = (false, eval e X.env) :: starEach [] X.env := by rfl) (hpl : (backTo pos (starEach [] X.env)).any (·.1) = false := by rfl) : ML X W (.Call (.Name "sorted" p) [e] [] pos) (eB1 oSortD f) :=
  call1B (PR := pD X.K) (call_sortedDI hc) (fun W σ m H H0 S x v Q R V1 q => by
    unfold oSortD at q
    split at q
    · rename_i kvs hx
      split at q
      · rename_i ks hk
        split at q
        · rename_i hl
          obtain ⟨n, a, us, rfl, hn, rfl, h1, h2, h3⟩ := dkD_ok R hx V1
          refine ⟨a, us, ks, rfl, .inl h2, intK_ok h3 hk, hl, fun ms t pm so ht => ?_⟩
          rw [sort_uniqI pm so]
          exact q _ _ m (Ext.tmp ht) (R.tmp ht) (pL.new .refl R ht (VRs.of_ints _))
        · exact q.elim
      · exact q.elim
    · exact q.elim) anti_L hg hm hb he (by decide) (by decide) s1 hpl
/-! d.get(k, x) -/
def oDGet2 (x y z : D) (S : Sto) : Out D := match dkD x S, keyD y with
  | some kvs, some k => .ok ((Pz.getD kvs k).getD z) S
  | _, _ => .bad
def eDGet2 (f g h : FE) : FE := fun l S => (f l S).bind fun x S1 => match dkD x S1 with
  | some _ => (g l S1).bind fun y S2 => (h l S2).bind fun z S3 => oDGet2 x y z S3
  | none => .bad
theorem me_dget2 {apos cpos : Pos} (hu : X.A.units + 64 < cLine) (ho : ME X W o f) (ha : ME X W a g) (hb : ME X W b h) (mm : M2 X o "get" apos a b cpos := by exact ⟨rfl, rfl, rfl, rfl⟩) : ME X W (.Call (.Attribute o "get" apos) [a, b] [] cpos) (eDGet2 f g h) :=
  (pe_dget2 (by omega) ho ha hb mm).imp fun σ H Q q => by
    obtain ⟨l, m, S, R, q⟩ := q
    refine ⟨l, m, S, R, post.bind (PR := pD X.K) anti_D q fun x S1 v H1 m1 E1 R1 V1 q1 => ?_⟩
    split at q1
    · rename_i kvs0 hx0
      obtain ⟨n0, a0, us0, rfl, hn0, rfl, g1, g2, g3⟩ := dkD_ok R1 hx0 V1
      refine ⟨a0, rfl, .inl ⟨us0, .inl g2⟩, l, m1, S1, R.ext E1 R1, post.bind (PR := pD X.K) anti_D q1 fun y S2 u H2 m2 E2 R2 V2 q2 => ⟨l, m2, S2, R.ext (E1.trans E2) R2, post.bind (PR := pD X.K) anti_D q2 fun z S3 w H3 m3 E3 R3 V3 q3 => ?_⟩⟩
      unfold oDGet2 at q3
      split at q3
      · rename_i kvs k hx hk
        obtain ⟨n, a1, us, hr, hn, hr2, h1, h2, h3⟩ := dkD_ok R3 hx (VR.ext (E2.trans E3) _ _ V1)
        cases hr
        cases hr2
        rw [keyD_ok hk (VR.ext E3 _ _ V2)]
        refine ⟨_, DGet.k h2, ?_⟩
        rcases h3.get (k := k) with ⟨h4, h5⟩ | ⟨d, w', h4, h5, h6⟩
        · rw [h4] at q3; rw [h5]; exact q3 _ H3 m3 .refl R3 V3
        · rw [h4] at q3; rw [h5]; exact q3 _ H3 m3 .refl R3 h6
      · exact q3.elim
    · exact q1.elim
end
end Pz

set_option Elab.async false
set_option linter.all false
set_option maxRecDepth 100000
set_option maxHeartbeats 4000000
/-! Pz28: in, index, of nested data. -/
namespace Pz
open PySem PySem.Spec PyProof.Rows L2
section
variable {X : Cx} {W : WX} {K : PySem.W.Frag} {a b : Expr} {f g : FE} {pos : Pos}
def oInP (x y : D) (S : Sto) : Out D := match toPy 40 S x, toPy 40 S y with
  | some d, some (.list ds) => if SeqAt.shaped d && SeqAt.shaped (.list ds) then .ok (.bl (ds.any fun z => PyData.eqv z d)) S else .bad
  | _, _ => .bad
theorem o2_inP : O2 K (rInD K) oInP := fun W σ m H S x y v u Q s rx ry q => by
  unfold oInP at q
  split at q
  · rename_i d ds h1 h2
    split at q
    · rename_i hs
      rw [Bool.and_eq_true] at hs
      exact ⟨d, ds, toPy_dp s _ _ _ _ rx h1, toPy_dp s _ _ _ _ ry h2, hs.1, hs.2, q _ H m .refl s (by simp only [VR])⟩
    · exact q.elim
  · exact q.elim
theorem me_inP (hu : X.A.units + 150 < cLine) (ha : ME X W a f) (hb : ME X W b g) (hm : behindInMarks .In b = false := by rfl) : ME X W (.Compare a [.In] [b] pos) (e2 oInP f g) := me_cmp (op_inD (by omega)) o2_inP ha hb hm
theorem mt_inP (hu : X.A.units + 150 < cLine) (ha : ME X W a f) (hb : ME X W b g) (hm : behindInMarks .In b = false := by rfl) : MT X W (.Compare a [.In] [b] pos) (eT (e2 oInP f g)) := mt_cmp (op_inD (by omega)) o2_inP ha hb hm
def oIndexP (x y : D) (S : Sto) : Out D := match x with
  | .ref n => match S[n]? with
    | some (.lst _) => match toPy 40 S (.ref n), toPy 40 S y with
      | some (.list ds), some d => if SeqAt.shaped (.list ds) && SeqAt.shaped d then match ds.findIdx? fun z => PyData.eqv z d with
        | some j => .ok (.int (j : Nat)) S
        | none => .bad else .bad
      | _, _ => .bad
    | _ => .bad
  | _ => .bad
theorem o2_indexP : O2 K (fun x y H Q => rIndexD K x [y] H Q) oIndexP := fun W σ m H S x y v u Q s rx ry q => by
  cases x with
  | ref n =>
    simp only [oIndexP] at q
    split at q
    · rename_i xs hn
      obtain ⟨p, rfl, _⟩ := s.ref hn rx
      split at q
      · rename_i ds d h1 h2
        split at q
        · rename_i hs
          rw [Bool.and_eq_true] at hs
          split at q
          · rename_i j hj
            rw [List.findIdx?_eq_some_iff_getElem] at hj
            obtain ⟨hl, h3, h4⟩ := hj
            refine ⟨p, u, d, ds, j, ds[j], rfl, rfl, toPy_dp s _ _ _ _ rx h1, toPy_dp s _ _ _ _ ry h2, hs.1, hs.2, List.getElem?_eq_getElem hl, h3, fun k z hk hz => ?_, q _ H m .refl s (by simp only [VR])⟩
            obtain ⟨hk2, rfl⟩ := List.getElem?_eq_some_iff.mp hz
            have := h4 k hk
            simpa using this
          · exact q.elim
        · exact q.elim
      · exact q.elim
    · exact q.elim
  | _ => exact q.elim
theorem mt_indexP (hu : X.A.units + 150 < cLine) : MtR X "list.index" (rIndexD X.K) := mt_indexD (by omega)
end
end Pz

set_option Elab.async false
set_option linter.all false
set_option maxRecDepth 100000
set_option maxHeartbeats 4000000
/-! The walk of pilepass_k46_texts_that_are_wrong: printed by gen.py -/
namespace Pz
open PySem PySem.Spec PyProof.Rows L2
def tp (i : Nat) : Stmt := PySem.Challenge.pw_pilepass_k46_texts_that_are_wrong.main.body.getD i (.Pass ⟨0, 0, 0, 0⟩)
abbrev s__law_deck : Stmt := tp 25
abbrev s__law_text : Stmt := tp 39
abbrev s__law_draw : Stmt := tp 26
abbrev s__law_one : Stmt := tp 27
abbrev s__law_renumbered : Stmt := tp 31
abbrev s__law_mixed : Stmt := tp 28
abbrev s__law_kind : Stmt := tp 29
abbrev s__law_web : Stmt := tp 33
abbrev s__law_woven : Stmt := tp 32
abbrev s__law_some_web : Stmt := tp 34
abbrev s__law_other : Stmt := tp 44
abbrev s_is_integer : Stmt := tp 11
abbrev s_inputs_of : Stmt := tp 12
abbrev s_step_word : Stmt := tp 13
abbrev s_reached_from : Stmt := tp 14
abbrev s_web_error : Stmt := tp 15
abbrev s_number_of : Stmt := tp 20
abbrev s_kind_of : Stmt := tp 21
abbrev s_step_of : Stmt := tp 22
abbrev s_read_web : Stmt := tp 23
abbrev s__law_told : Stmt := tp 43
abbrev s__law_whole : Stmt := tp 35
abbrev s__law_is_kind : Stmt := tp 36
abbrev s__law_many : Stmt := tp 30
abbrev s__law_fault : Stmt := tp 37
abbrev s__law_web_error : Stmt := tp 38
abbrev s__law_number : Stmt := tp 40
abbrev s__law_step : Stmt := tp 41
abbrev s__law_due : Stmt := tp 42
abbrev s_law : Stmt := tp 45
abbrev s_BadText_init : Stmt := inClass (tp 3) 0
abbrev s_BadWeb_init : Stmt := inClass (tp 2) 0
structure Txt (K : PySem.W.Frag) (mg : Str → Option Value) : Prop where
  g_abs : mg "abs" = none
  g_all : mg "all" = none
  g_any : mg "any" = none
  g_bool : mg "bool" = none
  g_enumerate : mg "enumerate" = none
  g_int : mg "int" = none
  g_isinstance : mg "isinstance" = none
  g_len : mg "len" = none
  g_list : mg "list" = none
  g_min : mg "min" = none
  g_range : mg "range" = none
  g_repr : mg "repr" = none
  g_str : mg "str" = none
  g_tuple : mg "tuple" = none
  c_BREAK : Cst K mg "BREAK" (.str "\n")
  c_DIGITS : Cst K mg "DIGITS" (.str "0123456789")
  c_IN : Cst K mg "IN" (.str "in")
  c_MAX_STEPS : Cst K mg "MAX_STEPS" (.int 10)
  c_MOST_CONSTANT : Cst K mg "MOST_CONSTANT" (.int 99)
  c_MOST_DIGITS : Cst K mg "MOST_DIGITS" (.int 2)
  c_NEG : Cst K mg "NEG" (.str "neg")
  c_PICK : Cst K mg "PICK" (.str "pick")
  c_SIGNS : Cst K mg "SIGNS" (.tup [.str "+", .str "-", .str "*"])
  t__law_deck : Tx K mg "_law_deck" s__law_deck ["script"]
  t__law_text : Tx K mg "_law_text" s__law_text ["web"]
  t__law_draw : Tx K mg "_law_draw" s__law_draw ["deck", "many"]
  t__law_one : Tx K mg "_law_one" s__law_one ["deck", "items"]
  t__law_renumbered : Tx K mg "_law_renumbered" s__law_renumbered ["web", "order"]
  t__law_mixed : Tx K mg "_law_mixed" s__law_mixed ["deck", "items"]
  t__law_kind : Tx K mg "_law_kind" s__law_kind ["deck", "many"]
  t__law_web : Tx K mg "_law_web" s__law_web ["deck", "most"]
  t__law_woven : Tx K mg "_law_woven" s__law_woven ["deck", "most", "is_queue"]
  t__law_some_web : Tx K mg "_law_some_web" s__law_some_web ["deck", "most"]
  t__law_other : Tx K mg "_law_other" s__law_other ["deck", "text"]
  t_is_integer : Tx K mg "is_integer" s_is_integer ["value", "least", "most"]
  t_inputs_of : Tx K mg "inputs_of" s_inputs_of ["kind"]
  t_step_word : Tx K mg "step_word" s_step_word ["many", "value"]
  t_reached_from : Tx K mg "reached_from" s_reached_from ["web", "step"]
  t_web_error : Tx K mg "web_error" s_web_error ["value"]
  t_number_of : Tx K mg "number_of" s_number_of ["word"]
  t_kind_of : Tx K mg "kind_of" s_kind_of ["word"]
  t_step_of : Tx K mg "step_of" s_step_of ["line"]
  t_read_web : Tx K mg "read_web" s_read_web ["value"]
  t__law_told : Tx K mg "_law_told" s__law_told ["thing"]
  t__law_whole : Tx K mg "_law_whole" s__law_whole ["value", "least", "most"]
  t__law_is_kind : Tx K mg "_law_is_kind" s__law_is_kind ["value"]
  t__law_many : Tx K mg "_law_many" s__law_many ["kind"]
  t__law_fault : Tx K mg "_law_fault" s__law_fault ["web", "index"]
  t__law_web_error : Tx K mg "_law_web_error" s__law_web_error ["value"]
  t__law_number : Tx K mg "_law_number" s__law_number ["word"]
  t__law_step : Tx K mg "_law_step" s__law_step ["line"]
  t__law_due : Tx K mg "_law_due" s__law_due ["thing"]
  x_BadText : TxX K mg "BadText" "line" "BadText.__init__" s_BadText_init
  x_BadWeb : TxX K mg "BadWeb" "error" "BadWeb.__init__" s_BadWeb_init
  w_WebError : BaseX K mg "WebError"
  n_BadText : mg "BadText" = some (.ref (clsA K "BadText"))
  n_BadWeb : mg "BadWeb" = some (.ref (clsA K "BadWeb"))
  n_WebError : mg "WebError" = some (.ref (clsA K "WebError"))
  e_BadWeb : ErrT K "BadWeb" "error" (.ref (clsA K "WebError"))
  e_BadText : ErrT K "BadText" "line" (.ref (clsA K "WebError"))
  xm_BadText_BadWeb : XmL K ["BadText", "BadWeb"]
abbrev TxtAt {K : PySem.W.Frag} {h : Heap} (_ : K.In h) (mg : Str → Option Value) : Prop := Txt K mg
section
variable {P : Program} {w : World} {K : PySem.W.Frag} {mg : Str → Option Value} {base : Heap}
theorem sc_BadText_init : FnScope ["self", "line"] ["self", "line"] (defScope s_BadText_init) := ⟨rfl, rfl, rfl, by decide +kernel, rfl, by decide +kernel, by decide +kernel⟩
theorem fx_BadText (T : Txt K mg) : FnX P w K mg base "BadText" "line" := fnX_of (t := "BadText") T.x_BadText sc_BadText_init fun _ cdv A outer s H E =>
  pss_cons (ps_expr (pe_binit T.w_WebError rfl (pa_cons (pv 0) (pa_cons pe_str pa_nil)))) (pss_one (ps_ost (pv 0) (pv 1)))
theorem sc_BadWeb_init : FnScope ["self", "error"] ["self", "error"] (defScope s_BadWeb_init) := ⟨rfl, rfl, rfl, by decide +kernel, rfl, by decide +kernel, by decide +kernel⟩
theorem fx_BadWeb (T : Txt K mg) : FnX P w K mg base "BadWeb" "error" := fnX_of (t := "BadWeb") T.x_BadWeb sc_BadWeb_init fun _ cdv A outer s H E =>
  pss_cons (ps_expr (pe_binit T.w_WebError rfl (pa_cons (pv 0) (pa_cons pe_str pa_nil)))) (pss_one (ps_ost (pv 0) (pv 1)))
/-! ### _law_deck: slots 0 script, 1 cell -/
theorem sc__law_deck : FnScope ["script", "cell"] ["script"] (defScope s__law_deck) := ⟨rfl, rfl, rfl, by decide +kernel, rfl, by decide +kernel, by decide +kernel⟩
noncomputable def b__law_deck_0 : FS := sRet (eL (lLst (aC (eL (lComp [1] (iE (eSl (eV 0) (pN) (pS1 (eC (.int 63))))) (.nm 1) (tTrue) (eB1 oAbs (eV 1)))) (aC (eC (.int 0)) (aN)))))
noncomputable def b__law_deck : FS := b__law_deck_0
noncomputable def F__law_deck : List D → Sto → Out D := runF 1 2 b__law_deck
theorem fn__law_deck (T : Txt K mg) : Fn P w K mg base 1 "_law_deck" F__law_deck :=
  fn_of (b := b__law_deck) rfl T.t__law_deck rfl rfl sc__law_deck fun _ cdv A outer s H E hr =>
      ms_one (ms_ret (me_l (ml_lst (ma_cons (me_l (ml_lc (own := [("cell", 1)]) rfl sc__law_deck.nd (mi_e (me_sl (mv 0) (mo_none) (mo_some (me_int)))) (blkOk_by (by kernel_rfl)) (fun _ _ _ _ _ => mg_nm 1 sc__law_deck.nd) (fun _ _ _ _ _ => mts_nil) (fun _ _ _ _ _ => me_abs rfl T.g_abs bt_abs (mv 1)))) (ma_cons (me_int) (ma_nil))) (len_cons (len_cons len_nil)))))
/-! ### _law_text: slots 0 web, 1 kind, 2 inputs, 3 one -/
theorem sc__law_text : FnScope ["web", "kind", "inputs", "one"] ["web"] (defScope s__law_text) := ⟨rfl, rfl, rfl, by decide +kernel, rfl, by decide +kernel, by decide +kernel⟩
noncomputable def b__law_text_0 : FS := sRet (eJoin (eC (.str "\n")) (lQ (lComp [1, 2] (iE (eV 0)) (.tp [.nm 1, .nm 2]) (tTrue) (eJoin (eC (.str " ")) (lQ (lCat (lLst (aC (eB1 oStrOf (eV 1)) (aN))) (lComp [3] (iE (eV 2)) (.nm 3) (tTrue) (eB1 oStrOf (eV 3)))))))))
noncomputable def b__law_text : FS := b__law_text_0
noncomputable def F__law_text : List D → Sto → Out D := runF 1 4 b__law_text
theorem fn__law_text (T : Txt K mg) : Fn P w K mg base 1 "_law_text" F__law_text :=
  fn_of (b := b__law_text) rfl T.t__law_text rfl rfl sc__law_text fun _ cdv A outer s H E hr =>
      ms_one (ms_ret (me_join (me_str) (mq_l (ml_lc (own := [("kind", 1), ("inputs", 2)]) rfl sc__law_text.nd (mi_e (mv 0)) (blkOk_by (by kernel_rfl)) (fun _ _ _ _ _ => mg_tp rfl (mgs_cons (mg_nm 1 sc__law_text.nd) (mgs_cons (mg_nm 2 sc__law_text.nd) (mgs_nil)))) (fun _ _ _ _ _ => mts_nil) (fun _ _ _ _ _ => me_join (me_str) (mq_l (ml_cat (ml_lst (ma_cons (me_strOf rfl T.g_str bt_str (mv 1)) (ma_nil)) (len_cons len_nil)) (ml_lc (own := [("one", 3)]) rfl sc__law_text.nd (mi_e (mv 2)) (blkOk_by (by kernel_rfl)) (fun _ _ _ _ _ => mg_nm 3 sc__law_text.nd) (fun _ _ _ _ _ => mts_nil) (fun _ _ _ _ _ => me_strOf rfl T.g_str bt_str (mv 3))))))))))
/-! ### _law_draw: slots 0 deck, 1 many, 2 cell, 3 at, 4 mixed -/
theorem sc__law_draw : FnScope ["deck", "many", "cell", "at", "mixed"] ["deck", "many"] (defScope s__law_draw) := ⟨rfl, rfl, rfl, by decide +kernel, rfl, by decide +kernel, by decide +kernel⟩
noncomputable def b__law_draw_0 : FS := sSetIx (e2 oAdd (e2 oIx (eV 0) (eC (.int 1))) (eC (.int 1))) (eV 0) (eC (.int 1))
noncomputable def b__law_draw_1 : FS := sSet (.tp [.nm 2, .nm 3]) (eTup (aC (eC (.int 0)) (aC (e1 oNeg (eC (.int 1))) (aN))))
noncomputable def b__law_draw_2_0 : FS := sSet (.nm 3) (e2 oMod (eB1 oInt (e2 oIx (eV 0) (eC (.int 1)))) (eB1 oLenQ (eQ (e2 oIx (eV 0) (eC (.int 0))))))
noncomputable def b__law_draw_2_1 : FS := sSet (.nm 2) (e2 oIx (e2 oIx (eV 0) (eC (.int 0))) (eV 3))
noncomputable def b__law_draw_2 : FS := sIf (eT (e2 oGt (eB1 oLenQ (eQ (e2 oIx (eV 0) (eC (.int 0))))) (eC (.int 0)))) (sSeq (b__law_draw_2_0) (b__law_draw_2_1)) (sNx)
noncomputable def b__law_draw_3_0 : FS := sSetIx (e2 oDiv (eB1 oInt (eV 2)) (eV 1)) (e2 oIx (eV 0) (eC (.int 0))) (eV 3)
noncomputable def b__law_draw_3_1 : FS := sRet (e2 oMod (eB1 oInt (eV 2)) (eV 1))
noncomputable def b__law_draw_3 : FS := sIf (eT (e2 oGe (eV 2) (e2 oPow (eC (.int 10)) (eC (.int 18))))) (sSeq (b__law_draw_3_0) (b__law_draw_3_1)) (sNx)
noncomputable def b__law_draw_4 : FS := sSet (.nm 4) (e2 oAdd (e2 oAdd (e2 oMod (eB1 oInt (eV 2)) (eC (.int 2147483477))) (e2 oMul (eC (.int 11213)) (e2 oIx (eV 0) (eC (.int 1))))) (eC (.int 7)))
noncomputable def b__law_draw_5 : FS := sRet (e2 oMod (eB1 oInt (e2 oMod (eB1 oInt (e2 oPow (eV 4) (eC (.int 5)))) (eC (.int 2147483543)))) (eV 1))
noncomputable def b__law_draw : FS := sSeq (b__law_draw_0) (sSeq (b__law_draw_1) (sSeq (b__law_draw_2) (sSeq (b__law_draw_3) (sSeq (b__law_draw_4) (b__law_draw_5)))))
noncomputable def F__law_draw : List D → Sto → Out D := runF 2 5 b__law_draw
theorem fn__law_draw (T : Txt K mg) : Fn P w K mg base 1 "_law_draw" F__law_draw :=
  fn_of (b := b__law_draw) rfl T.t__law_draw rfl rfl sc__law_draw fun _ cdv A outer s H E hr =>
      ms_cons (ms_setIx (me_add (me_ix (mv 0) (me_int)) (me_int)) (mv 0) (me_int))
      (ms_cons (ms_set (me_tup (ma_cons (me_int) (ma_cons (me_neg (me_int)) (ma_nil))) (len_cons (len_cons len_nil))) (mg_tp rfl (mgs_cons (mg_nm 2 sc__law_draw.nd) (mgs_cons (mg_nm 3 sc__law_draw.nd) (mgs_nil)))))
      (ms_cons (ms_if (mt_gt (me_len rfl T.g_len (mq_e (me_ix (mv 0) (me_int)))) (me_int)) (ms_cons (ms_set (me_mod (me_intOf rfl T.g_int bt_int (me_ix (mv 0) (me_int))) (me_len rfl T.g_len (mq_e (me_ix (mv 0) (me_int))))) (mg_nm 3 sc__law_draw.nd)) (ms_one (ms_set (me_ix (me_ix (mv 0) (me_int)) (mv 3)) (mg_nm 2 sc__law_draw.nd)))) (ms_nil))
      (ms_cons (ms_if (mt_ge (mv 2) (me_pow (me_int) (me_int))) (ms_cons (ms_setIx (me_div (me_intOf rfl T.g_int bt_int (mv 2)) (mv 1)) (me_ix (mv 0) (me_int)) (mv 3)) (ms_one (ms_ret (me_mod (me_intOf rfl T.g_int bt_int (mv 2)) (mv 1))))) (ms_nil))
      (ms_cons (ms_set (me_add (me_add (me_mod (me_intOf rfl T.g_int bt_int (mv 2)) (me_int)) (me_mul (me_int) (me_ix (mv 0) (me_int)))) (me_int)) (mg_nm 4 sc__law_draw.nd))
      (ms_one (ms_ret (me_mod (me_intOf rfl T.g_int bt_int (me_mod (me_intOf rfl T.g_int bt_int (me_pow (mv 4) (me_int))) (me_int))) (mv 1))))))))
/-! ### _law_one: slots 0 deck, 1 items -/
theorem sc__law_one : FnScope ["deck", "items"] ["deck", "items"] (defScope s__law_one) := ⟨rfl, rfl, rfl, by decide +kernel, rfl, by decide +kernel, by decide +kernel⟩
noncomputable def b__law_one_0 : FS := sRet (e2 oIx (eV 1) (eCall F__law_draw (aC (eV 0) (aC (eB1 oLenQ (eQ (eV 1))) (aN)))))
noncomputable def b__law_one : FS := b__law_one_0
noncomputable def F__law_one : List D → Sto → Out D := runF 2 2 b__law_one
theorem fn__law_one (T : Txt K mg) : Fn P w K mg base 2 "_law_one" F__law_one :=
  fn_of (b := b__law_one) rfl T.t__law_one rfl rfl sc__law_one fun _ cdv A outer s H E hr =>
      ms_one (ms_ret (me_ix (mv 1) (me_call (fn__law_draw T) (hr.mono (by decide)) (takes_of rfl rfl rfl rfl) rfl (ma_cons (mv 0) (ma_cons (me_len rfl T.g_len (mq_e (mv 1))) (ma_nil))))))
/-! ### _law_renumbered: slots 0 web, 1 order, 2 old, 3 one -/
theorem sc__law_renumbered : FnScope ["web", "order", "old", "one"] ["web", "order"] (defScope s__law_renumbered) := ⟨rfl, rfl, rfl, by decide +kernel, rfl, by decide +kernel, by decide +kernel⟩
noncomputable def b__law_renumbered_0 : FS := sRet (eB1 oTup (lQ (lComp [2] (iE (eV 1)) (.nm 2) (tTrue) (eTup (aC (e2 oIx (e2 oIx (eV 0) (eV 2)) (eC (.int 0))) (aC (eB1 oTup (lQ (lComp [3] (iE (e2 oIx (e2 oIx (eV 0) (eV 2)) (eC (.int 1)))) (.nm 3) (tTrue) (eM1 oIndex (eV 1) (eV 3))))) (aN)))))))
noncomputable def b__law_renumbered : FS := b__law_renumbered_0
noncomputable def F__law_renumbered : List D → Sto → Out D := runF 2 4 b__law_renumbered
theorem fn__law_renumbered (T : Txt K mg) : Fn P w K mg base 1 "_law_renumbered" F__law_renumbered :=
  fn_of (b := b__law_renumbered) rfl T.t__law_renumbered rfl rfl sc__law_renumbered fun _ cdv A outer s H E hr =>
      ms_one (ms_ret (me_tupOf rfl T.g_tuple bt_tuple (mq_l (ml_lc (own := [("old", 2)]) rfl sc__law_renumbered.nd (mi_e (mv 1)) (blkOk_by (by kernel_rfl)) (fun _ _ _ _ _ => mg_nm 2 sc__law_renumbered.nd) (fun _ _ _ _ _ => mts_nil) (fun _ _ _ _ _ => me_tup (ma_cons (me_ix (me_ix (mv 0) (mv 2)) (me_int)) (ma_cons (me_tupOf rfl T.g_tuple bt_tuple (mq_l (ml_lc (own := [("one", 3)]) rfl sc__law_renumbered.nd (mi_e (me_ix (me_ix (mv 0) (mv 2)) (me_int))) (blkOk_by (by kernel_rfl)) (fun _ _ _ _ _ => mg_nm 3 sc__law_renumbered.nd) (fun _ _ _ _ _ => mts_nil) (fun _ _ _ _ _ => me_lm1 PySem.F.slot_list_index PySem.F.type_list_index mt_index o2_index (mv 1) (mv 3))))) (ma_nil))) (len_cons (len_cons len_nil)))))))
/-! ### _law_mixed: slots 0 deck, 1 items, 2 left, 3 found, 4 k -/
theorem sc__law_mixed : FnScope ["deck", "items", "left", "found", "k"] ["deck", "items"] (defScope s__law_mixed) := ⟨rfl, rfl, rfl, by decide +kernel, rfl, by decide +kernel, by decide +kernel⟩
noncomputable def b__law_mixed_0 : FS := sPar 2 3 (aC (eL (eB1 oLst (eQ (eV 1)))) (aC (eL (lLst (aN))) (aN)))
noncomputable def b__law_mixed_1 : FS := sFor (iRg1 (eB1 oLenQ (eQ (eV 1)))) (.nm 4) (sExp (eM1 oApp (eV 3) (eM1 oPopAt (eV 2) (eCall F__law_draw (aC (eV 0) (aC (eB1 oLenQ (eQ (eV 2))) (aN)))))))
noncomputable def b__law_mixed_2 : FS := sRet (eV 3)
noncomputable def b__law_mixed : FS := sSeq (b__law_mixed_0) (sSeq (b__law_mixed_1) (b__law_mixed_2))
noncomputable def F__law_mixed : List D → Sto → Out D := runF 2 5 b__law_mixed
theorem fn__law_mixed (T : Txt K mg) : Fn P w K mg base 2 "_law_mixed" F__law_mixed :=
  fn_of (b := b__law_mixed) rfl T.t__law_mixed rfl rfl sc__law_mixed fun _ cdv A outer s H E hr =>
      ms_cons (ms_par (i := 2) (j := 3) rfl sc__law_mixed.nd (ma_cons (me_l (ml_listOf rfl T.g_list bt_list (mq_e (mv 1)))) (ma_cons (me_l (ml_lst (ma_nil) len_nil)) (ma_nil))))
      (ms_cons (ms_for (passes_of rfl) rfl (mi_range1 rfl T.g_range (me_len rfl T.g_len (mq_e (mv 1)))) (mg_nm 4 sc__law_mixed.nd) (ms_one (ms_exp (me_lm1 PySem.F.slot_list_append PySem.F.type_list_append mt_append o2_app (mv 3) (me_lm1 PySem.F.slot_list_pop PySem.F.type_list_pop mt_popAt o2_popAt (mv 2) (me_call (fn__law_draw T) (hr.mono (by decide)) (takes_of rfl rfl rfl rfl) rfl (ma_cons (mv 0) (ma_cons (me_len rfl T.g_len (mq_e (mv 2))) (ma_nil)))))))))
      (ms_one (ms_ret (mv 3))))
/-! ### _law_kind: slots 0 deck, 1 many, 2 kinds -/
theorem sc__law_kind : FnScope ["deck", "many", "kinds"] ["deck", "many"] (defScope s__law_kind) := ⟨rfl, rfl, rfl, by decide +kernel, rfl, by decide +kernel, by decide +kernel⟩
noncomputable def b__law_kind_0 : FS := sSet (.nm 2) (eL (lLst (aC (eL (lLst (aC (eC (.str "in")) (aC (eC (.str "in")) (aC (eC (.str "in")) (aC (e2 oSub (eCall F__law_draw (aC (eV 0) (aC (eC (.int 199)) (aN)))) (eC (.int 99))) (aC (eC (.int 0)) (aC (eC (.int 7)) (aN))))))))) (aC (eL (lLst (aC (eC (.str "neg")) (aN)))) (aC (eL (lLst (aC (eC (.str "+")) (aC (eC (.str "-")) (aC (eC (.str "*")) (aN)))))) (aC (eL (lLst (aC (eC (.str "pick")) (aN)))) (aN)))))))
noncomputable def b__law_kind_1 : FS := sRet (eCall F__law_one (aC (eV 0) (aC (e2 oIx (eV 2) (eV 1)) (aN))))
noncomputable def b__law_kind : FS := sSeq (b__law_kind_0) (b__law_kind_1)
noncomputable def F__law_kind : List D → Sto → Out D := runF 2 3 b__law_kind
theorem fn__law_kind (T : Txt K mg) : Fn P w K mg base 3 "_law_kind" F__law_kind :=
  fn_of (b := b__law_kind) rfl T.t__law_kind rfl rfl sc__law_kind fun _ cdv A outer s H E hr =>
      ms_cons (ms_set (me_l (ml_lst (ma_cons (me_l (ml_lst (ma_cons (me_str) (ma_cons (me_str) (ma_cons (me_str) (ma_cons (me_sub (me_call (fn__law_draw T) (hr.mono (by decide)) (takes_of rfl rfl rfl rfl) rfl (ma_cons (mv 0) (ma_cons (me_int) (ma_nil)))) (me_int)) (ma_cons (me_int) (ma_cons (me_int) (ma_nil))))))) (len_cons (len_cons (len_cons (len_cons (len_cons (len_cons len_nil)))))))) (ma_cons (me_l (ml_lst (ma_cons (me_str) (ma_nil)) (len_cons len_nil))) (ma_cons (me_l (ml_lst (ma_cons (me_str) (ma_cons (me_str) (ma_cons (me_str) (ma_nil)))) (len_cons (len_cons (len_cons len_nil))))) (ma_cons (me_l (ml_lst (ma_cons (me_str) (ma_nil)) (len_cons len_nil))) (ma_nil))))) (len_cons (len_cons (len_cons (len_cons len_nil)))))) (mg_nm 2 sc__law_kind.nd))
      (ms_one (ms_ret (me_call (fn__law_one T) (hr.mono (by decide)) (takes_of rfl rfl rfl rfl) rfl (ma_cons (mv 0) (ma_cons (me_ix (mv 2) (mv 1)) (ma_nil))))))
/-! ### _law_web: slots 0 deck, 1 most, 2 steps, 3 k, 4 many, 5 place -/
theorem sc__law_web : FnScope ["deck", "most", "steps", "k", "many", "place"] ["deck", "most"] (defScope s__law_web) := ⟨rfl, rfl, rfl, by decide +kernel, rfl, by decide +kernel, by decide +kernel⟩
noncomputable def b__law_web_0 : FS := sSet (.nm 2) (eL (lLst (aN)))
noncomputable def b__law_web_1_0 : FS := sSet (.nm 4) (eIf (eT (e2 oGt (eV 3) (eC (.int 0)))) (eCall F__law_one (aC (eV 0) (aC (eL (lLst (aC (eC (.int 0)) (aC (eC (.int 0)) (aC (eC (.int 1)) (aC (eC (.int 2)) (aC (eC (.int 2)) (aC (eC (.int 3)) (aN))))))))) (aN)))) (eC (.int 0)))
noncomputable def b__law_web_1_1 : FS := sExp (eM1 oApp (eV 2) (eTup (aC (eCall F__law_kind (aC (eV 0) (aC (eV 4) (aN)))) (aC (eB1 oTup (lQ (lComp [5] (iRg1 (eV 4)) (.nm 5) (tTrue) (eCall F__law_draw (aC (eV 0) (aC (eV 3) (aN))))))) (aN)))))
noncomputable def b__law_web_1 : FS := sFor (iRg1 (e2 oAdd (eC (.int 1)) (eCall F__law_draw (aC (eV 0) (aC (eV 1) (aN)))))) (.nm 3) (sSeq (b__law_web_1_0) (b__law_web_1_1))
noncomputable def b__law_web_2 : FS := sRet (eCall F__law_renumbered (aC (eV 2) (aC (eCall F__law_mixed (aC (eV 0) (aC (eL (lRg1 (eB1 oLenQ (eQ (eV 2))))) (aN)))) (aN))))
noncomputable def b__law_web : FS := sSeq (b__law_web_0) (sSeq (b__law_web_1) (b__law_web_2))
noncomputable def F__law_web : List D → Sto → Out D := runF 2 6 b__law_web
theorem fn__law_web (T : Txt K mg) : Fn P w K mg base 4 "_law_web" F__law_web :=
  fn_of (b := b__law_web) rfl T.t__law_web rfl rfl sc__law_web fun _ cdv A outer s H E hr =>
      ms_cons (ms_set (me_l (ml_lst (ma_nil) len_nil)) (mg_nm 2 sc__law_web.nd))
      (ms_cons (ms_for (passes_of rfl) rfl (mi_range1 rfl T.g_range (me_add (me_int) (me_call (fn__law_draw T) (hr.mono (by decide)) (takes_of rfl rfl rfl rfl) rfl (ma_cons (mv 0) (ma_cons (mv 1) (ma_nil)))))) (mg_nm 3 sc__law_web.nd) (ms_cons (ms_set (me_if (mt_gt (mv 3) (me_int)) (me_call (fn__law_one T) (hr.mono (by decide)) (takes_of rfl rfl rfl rfl) rfl (ma_cons (mv 0) (ma_cons (me_l (ml_lst (ma_cons (me_int) (ma_cons (me_int) (ma_cons (me_int) (ma_cons (me_int) (ma_cons (me_int) (ma_cons (me_int) (ma_nil))))))) (len_cons (len_cons (len_cons (len_cons (len_cons (len_cons len_nil)))))))) (ma_nil)))) (me_int)) (mg_nm 4 sc__law_web.nd)) (ms_one (ms_exp (me_lm1 PySem.F.slot_list_append PySem.F.type_list_append mt_append o2_app (mv 2) (me_tup (ma_cons (me_call (fn__law_kind T) (hr.mono (by decide)) (takes_of rfl rfl rfl rfl) rfl (ma_cons (mv 0) (ma_cons (mv 4) (ma_nil)))) (ma_cons (me_tupOf rfl T.g_tuple bt_tuple (mq_l (ml_lc (own := [("place", 5)]) rfl sc__law_web.nd (mi_range1 rfl T.g_range (mv 4)) (blkOk_by (by kernel_rfl)) (fun _ _ _ _ _ => mg_nm 5 sc__law_web.nd) (fun _ _ _ _ _ => mts_nil) (fun _ _ _ _ _ => me_call (fn__law_draw T) (hr.mono (by decide)) takes0 rfl (ma_cons (mv 0) (ma_cons (mv 3) (ma_nil))))))) (ma_nil))) (len_cons (len_cons len_nil))))))))
      (ms_one (ms_ret (me_call (fn__law_renumbered T) (hr.mono (by decide)) (takes_of rfl rfl rfl rfl) rfl (ma_cons (mv 2) (ma_cons (me_call (fn__law_mixed T) (hr.mono (by decide)) (takes_of rfl rfl rfl rfl) rfl (ma_cons (mv 0) (ma_cons (me_l (ml_range1 rfl rfl T.g_list rfl T.g_range (me_len rfl T.g_len (mq_e (mv 2))))) (ma_nil)))) (ma_nil)))))))
/-! ### _law_woven: slots 0 deck, 1 most, 2 is_queue, 3 cells, 4 steps, 5 k, 6 many, 7 taken, 8 mixed -/
theorem sc__law_woven : FnScope ["deck", "most", "is_queue", "cells", "steps", "k", "many", "taken", "mixed"] ["deck", "most", "is_queue"] (defScope s__law_woven) := ⟨rfl, rfl, rfl, by decide +kernel, rfl, by decide +kernel, by decide +kernel⟩
noncomputable def b__law_woven_0 : FS := sPar 3 4 (aC (eL (lLst (aN))) (aC (eL (lLst (aN))) (aN)))
noncomputable def b__law_woven_1_0 : FS := sSet (.nm 6) (eB2 oMin2 (eCall F__law_one (aC (eV 0) (aC (eL (lLst (aC (eC (.int 0)) (aC (eC (.int 0)) (aC (eC (.int 1)) (aC (eC (.int 2)) (aC (eC (.int 2)) (aC (eC (.int 3)) (aN))))))))) (aN)))) (eB1 oLenQ (eQ (eV 3))))
noncomputable def b__law_woven_1_1 : FS := sSet (.nm 7) (eIf (eT (eV 2)) (eSl (eV 3) (pN) (pS1 (eV 6))) (eSl (eV 3) (pS1 (e2 oSub (eB1 oLenQ (eQ (eV 3))) (eV 6))) (pN)))
noncomputable def b__law_woven_1_2 : FS := sSet (.nm 3) (eIf (eT (eV 2)) (eSl (eV 3) (pS1 (eV 6)) (pN)) (eSl (eV 3) (pN) (pS1 (e2 oSub (eB1 oLenQ (eQ (eV 3))) (eV 6)))))
noncomputable def b__law_woven_1_3 : FS := sExp (eM1 oApp (eV 4) (eTup (aC (eCall F__law_kind (aC (eV 0) (aC (eV 6) (aN)))) (aC (eB1 oTup (eQ (eCall F__law_mixed (aC (eV 0) (aC (eV 7) (aN)))))) (aN)))))
noncomputable def b__law_woven_1_4 : FS := sSet (.nm 3) (eL (lCat (lE (eV 3)) (lRep (lLst (aC (eV 5) (aN))) (eCall F__law_draw (aC (eV 0) (aC (eC (.int 4)) (aN)))))))
noncomputable def b__law_woven_1 : FS := sFor (iRg1 (e2 oAdd (eC (.int 1)) (eCall F__law_draw (aC (eV 0) (aC (eV 1) (aN)))))) (.nm 5) (sSeq (b__law_woven_1_0) (sSeq (b__law_woven_1_1) (sSeq (b__law_woven_1_2) (sSeq (b__law_woven_1_3) (b__law_woven_1_4)))))
noncomputable def b__law_woven_2 : FS := sSet (.nm 8) (eCall F__law_mixed (aC (eV 0) (aC (eL (lRg1 (eB1 oLenQ (eQ (eV 4))))) (aN))))
noncomputable def b__law_woven_3 : FS := sRet (eTup (aC (eCall F__law_renumbered (aC (eV 4) (aC (eV 8) (aN)))) (aC (eB1 oTup (lQ (lComp [5] (iRg1 (eB1 oLenQ (eQ (eV 4)))) (.nm 5) (tTrue) (eM1 oIndex (eV 8) (eV 5))))) (aN))))
noncomputable def b__law_woven : FS := sSeq (b__law_woven_0) (sSeq (b__law_woven_1) (sSeq (b__law_woven_2) (b__law_woven_3)))
noncomputable def F__law_woven : List D → Sto → Out D := runF 3 9 b__law_woven
theorem fn__law_woven (T : Txt K mg) : Fn P w K mg base 4 "_law_woven" F__law_woven :=
  fn_of (b := b__law_woven) rfl T.t__law_woven rfl rfl sc__law_woven fun _ cdv A outer s H E hr =>
      ms_cons (ms_par (i := 3) (j := 4) rfl sc__law_woven.nd (ma_cons (me_l (ml_lst (ma_nil) len_nil)) (ma_cons (me_l (ml_lst (ma_nil) len_nil)) (ma_nil))))
      (ms_cons (ms_for (passes_of rfl) rfl (mi_range1 rfl T.g_range (me_add (me_int) (me_call (fn__law_draw T) (hr.mono (by decide)) (takes_of rfl rfl rfl rfl) rfl (ma_cons (mv 0) (ma_cons (mv 1) (ma_nil)))))) (mg_nm 5 sc__law_woven.nd) (ms_cons (ms_set (me_min2 rfl rfl T.g_min bt_min (me_call (fn__law_one T) (hr.mono (by decide)) (takes_of rfl rfl rfl rfl) rfl (ma_cons (mv 0) (ma_cons (me_l (ml_lst (ma_cons (me_int) (ma_cons (me_int) (ma_cons (me_int) (ma_cons (me_int) (ma_cons (me_int) (ma_cons (me_int) (ma_nil))))))) (len_cons (len_cons (len_cons (len_cons (len_cons (len_cons len_nil)))))))) (ma_nil)))) (me_len rfl T.g_len (mq_e (mv 3)))) (mg_nm 6 sc__law_woven.nd)) (ms_cons (ms_set (me_if (mt_val (mv 2)) (me_sl (mv 3) (mo_none) (mo_some (mv 6))) (me_sl (mv 3) (mo_some (me_sub (me_len rfl T.g_len (mq_e (mv 3))) (mv 6))) (mo_none))) (mg_nm 7 sc__law_woven.nd)) (ms_cons (ms_set (me_if (mt_val (mv 2)) (me_sl (mv 3) (mo_some (mv 6)) (mo_none)) (me_sl (mv 3) (mo_none) (mo_some (me_sub (me_len rfl T.g_len (mq_e (mv 3))) (mv 6))))) (mg_nm 3 sc__law_woven.nd)) (ms_cons (ms_exp (me_lm1 PySem.F.slot_list_append PySem.F.type_list_append mt_append o2_app (mv 4) (me_tup (ma_cons (me_call (fn__law_kind T) (hr.mono (by decide)) (takes_of rfl rfl rfl rfl) rfl (ma_cons (mv 0) (ma_cons (mv 6) (ma_nil)))) (ma_cons (me_tupOf rfl T.g_tuple bt_tuple (mq_e (me_call (fn__law_mixed T) (hr.mono (by decide)) (takes_of rfl rfl rfl rfl) rfl (ma_cons (mv 0) (ma_cons (mv 7) (ma_nil)))))) (ma_nil))) (len_cons (len_cons len_nil))))) (ms_one (ms_set (me_l (ml_cat (ml_e (mv 3)) (ml_rep (ml_lst (ma_cons (mv 5) (ma_nil)) (len_cons len_nil)) (me_call (fn__law_draw T) (hr.mono (by decide)) (takes_of rfl rfl rfl rfl) rfl (ma_cons (mv 0) (ma_cons (me_int) (ma_nil))))))) (mg_nm 3 sc__law_woven.nd))))))))
      (ms_cons (ms_set (me_call (fn__law_mixed T) (hr.mono (by decide)) (takes_of rfl rfl rfl rfl) rfl (ma_cons (mv 0) (ma_cons (me_l (ml_range1 rfl rfl T.g_list rfl T.g_range (me_len rfl T.g_len (mq_e (mv 4))))) (ma_nil)))) (mg_nm 8 sc__law_woven.nd))
      (ms_one (ms_ret (me_tup (ma_cons (me_call (fn__law_renumbered T) (hr.mono (by decide)) (takes_of rfl rfl rfl rfl) rfl (ma_cons (mv 4) (ma_cons (mv 8) (ma_nil)))) (ma_cons (me_tupOf rfl T.g_tuple bt_tuple (mq_l (ml_lc (own := [("k", 5)]) rfl sc__law_woven.nd (mi_range1 rfl T.g_range (me_len rfl T.g_len (mq_e (mv 4)))) (blkOk_by (by kernel_rfl)) (fun _ _ _ _ _ => mg_nm 5 sc__law_woven.nd) (fun _ _ _ _ _ => mts_nil) (fun _ _ _ _ _ => me_lm1 PySem.F.slot_list_index PySem.F.type_list_index mt_index o2_index (mv 8) (mv 5))))) (ma_nil))) (len_cons (len_cons len_nil)))))))
/-! ### _law_some_web: slots 0 deck, 1 most -/
theorem sc__law_some_web : FnScope ["deck", "most"] ["deck", "most"] (defScope s__law_some_web) := ⟨rfl, rfl, rfl, by decide +kernel, rfl, by decide +kernel, by decide +kernel⟩
noncomputable def b__law_some_web_0 : FS := sIf (eT (e2 oEq (eCall F__law_draw (aC (eV 0) (aC (eC (.int 4)) (aN)))) (eC (.int 0)))) (sRet (eCall F__law_web (aC (eV 0) (aC (eV 1) (aN))))) (sNx)
noncomputable def b__law_some_web_1 : FS := sRet (e2 oIx (eCall F__law_woven (aC (eV 0) (aC (eV 1) (aC (e2 oEq (eCall F__law_draw (aC (eV 0) (aC (eC (.int 5)) (aN)))) (eC (.int 0))) (aN))))) (eC (.int 0)))
noncomputable def b__law_some_web : FS := sSeq (b__law_some_web_0) (b__law_some_web_1)
noncomputable def F__law_some_web : List D → Sto → Out D := runF 2 2 b__law_some_web
theorem fn__law_some_web (T : Txt K mg) : Fn P w K mg base 5 "_law_some_web" F__law_some_web :=
  fn_of (b := b__law_some_web) rfl T.t__law_some_web rfl rfl sc__law_some_web fun _ cdv A outer s H E hr =>
      ms_cons (ms_if (mt_eq hr.units (me_call (fn__law_draw T) (hr.mono (by decide)) (takes_of rfl rfl rfl rfl) rfl (ma_cons (mv 0) (ma_cons (me_int) (ma_nil)))) (me_int)) (ms_one (ms_ret (me_call (fn__law_web T) (hr.mono (by decide)) (takes_of rfl rfl rfl rfl) rfl (ma_cons (mv 0) (ma_cons (mv 1) (ma_nil)))))) (ms_nil))
      (ms_one (ms_ret (me_ix (me_call (fn__law_woven T) (hr.mono (by decide)) (takes_of rfl rfl rfl rfl) rfl (ma_cons (mv 0) (ma_cons (mv 1) (ma_cons (me_eq hr.units (me_call (fn__law_draw T) (hr.mono (by decide)) (takes_of rfl rfl rfl rfl) rfl (ma_cons (mv 0) (ma_cons (me_int) (ma_nil)))) (me_int)) (ma_nil))))) (me_int))))
/-! ### _law_other: slots 0 deck, 1 text, 2 at, 3 way, 4 sign, 5 lines, 6 k, 7 some -/
theorem sc__law_other : FnScope ["deck", "text", "at", "way", "sign", "lines", "k", "some"] ["deck", "text"] (defScope s__law_other) := ⟨rfl, rfl, rfl, by decide +kernel, rfl, by decide +kernel, by decide +kernel⟩
noncomputable def b__law_other_0 : FS := sPar 2 3 (aC (eCall F__law_draw (aC (eV 0) (aC (e2 oAdd (eB1 oLenS (eV 1)) (eC (.int 1))) (aN)))) (aC (eCall F__law_draw (aC (eV 0) (aC (eC (.int 6)) (aN)))) (aN)))
noncomputable def b__law_other_1 : FS := sSet (.nm 4) (eCall F__law_one (aC (eV 0) (aC (eL (lLst (aC (eC (.str "0")) (aC (eC (.str "1")) (aC (eC (.str "9")) (aC (eC (.str "-")) (aC (eC (.str " ")) (aC (eC (.str "\n")) (aC (eC (.str "i")) (aC (eC (.str "n")) (aC (eC (.str "+")) (aC (eC (.str "*")) (aC (eC (.str "  ")) (aC (eC (.str "00")) (aC (eC (.str "\n\n")) (aN)))))))))))))))) (aN))))
noncomputable def b__law_other_2 : FS := sIf (eT (e2 oLt (eV 3) (eC (.int 2)))) (sRet (e2 oAdd (e2 oAdd (eSl (eV 1) (pN) (pS1 (eV 2))) (eV 4)) (eSl (eV 1) (pS1 (eV 2)) (pN)))) (sNx)
noncomputable def b__law_other_3 : FS := sIf (eT (e2 oLt (eV 3) (eC (.int 4)))) (sRet (eIf (eT (e2 oEq (eV 3) (eC (.int 2)))) (e2 oAdd (eSl (eV 1) (pN) (pS1 (eV 2))) (eSl (eV 1) (pS1 (e2 oAdd (eV 2) (eC (.int 1)))) (pN))) (e2 oAdd (e2 oAdd (eSl (eV 1) (pN) (pS1 (eV 2))) (eV 4)) (eSl (eV 1) (pS1 (e2 oAdd (eV 2) (eC (.int 1)))) (pN))))) (sNx)
noncomputable def b__law_other_4 : FS := sSet (.nm 5) (eL (lSplit (eV 1) (eC (.str "\n"))))
noncomputable def b__law_other_5 : FS := sSet (.nm 6) (eCall F__law_draw (aC (eV 0) (aC (eB1 oLenQ (eQ (eV 5))) (aN))))
noncomputable def b__law_other_6 : FS := sSet (.nm 7) (eL (lLst (aC (eC (.str "in")) (aC (eC (.str "")) (aC (eC (.str "0")) (aC (eC (.str "-0")) (aC (eC (.str "00")) (aC (eC (.str "-99")) (aC (eC (.str "100")) (aC (eC (.str "+ 0 0")) (aC (eC (.str "neg 12")) (aC (eC (.str "pick 0 0 0")) (aC (eC (.str "neg")) (aC (eC (.str "in 0")) (aC (eC (.str "- 1")) (aC (eC (.str "-")) (aN)))))))))))))))))
noncomputable def b__law_other_7 : FS := sSet (.nm 7) (eL (lCat (lE (eV 7)) (lLst (aC (eC (.str "neg 00")) (aC (eC (.str "IN")) (aC (eC (.str "Neg 0")) (aC (eC (.str "PICK 0 0 0")) (aC (eC (.str "** 0 0")) (aC (eC (.str "neg 1_0")) (aC (eC (.str "1_0")) (aC (eC (.str "neg .")) (aC (eC (.str "+5")) (aC (eC (.str "neg +1")) (aN))))))))))))))
noncomputable def b__law_other_8 : FS := sRet (eJoin (eC (.str "\n")) (lQ (lCat (lCat (lSlR (eV 5) (pN) (pS1 (eV 6))) (lLst (aC (eCall F__law_one (aC (eV 0) (aC (eV 7) (aN)))) (aN)))) (lSlR (eV 5) (pS1 (e2 oAdd (eV 6) (eB1 oInt (e2 oEq (eV 3) (eC (.int 4)))))) (pN)))))
noncomputable def b__law_other : FS := sSeq (b__law_other_0) (sSeq (b__law_other_1) (sSeq (b__law_other_2) (sSeq (b__law_other_3) (sSeq (b__law_other_4) (sSeq (b__law_other_5) (sSeq (b__law_other_6) (sSeq (b__law_other_7) (b__law_other_8))))))))
noncomputable def F__law_other : List D → Sto → Out D := runF 2 8 b__law_other
theorem fn__law_other (T : Txt K mg) : Fn P w K mg base 3 "_law_other" F__law_other :=
  fn_of (b := b__law_other) rfl T.t__law_other rfl rfl sc__law_other fun _ cdv A outer s H E hr =>
      ms_cons (ms_par (i := 2) (j := 3) rfl sc__law_other.nd (ma_cons (me_call (fn__law_draw T) (hr.mono (by decide)) (takes_of rfl rfl rfl rfl) rfl (ma_cons (mv 0) (ma_cons (me_add (me_lenS rfl T.g_len (mv 1)) (me_int)) (ma_nil)))) (ma_cons (me_call (fn__law_draw T) (hr.mono (by decide)) (takes_of rfl rfl rfl rfl) rfl (ma_cons (mv 0) (ma_cons (me_int) (ma_nil)))) (ma_nil))))
      (ms_cons (ms_set (me_call (fn__law_one T) (hr.mono (by decide)) (takes_of rfl rfl rfl rfl) rfl (ma_cons (mv 0) (ma_cons (me_l (ml_lst (ma_cons (me_str) (ma_cons (me_str) (ma_cons (me_str) (ma_cons (me_str) (ma_cons (me_str) (ma_cons (me_str) (ma_cons (me_str) (ma_cons (me_str) (ma_cons (me_str) (ma_cons (me_str) (ma_cons (me_str) (ma_cons (me_str) (ma_cons (me_str) (ma_nil)))))))))))))) (len_cons (len_cons (len_cons (len_cons (len_cons (len_cons (len_cons (len_cons (len_cons (len_cons (len_cons (len_cons (len_cons len_nil))))))))))))))) (ma_nil)))) (mg_nm 4 sc__law_other.nd))
      (ms_cons (ms_if (mt_lt (mv 3) (me_int)) (ms_one (ms_ret (me_add (me_add (me_sl (mv 1) (mo_none) (mo_some (mv 2))) (mv 4)) (me_sl (mv 1) (mo_some (mv 2)) (mo_none))))) (ms_nil))
      (ms_cons (ms_if (mt_lt (mv 3) (me_int)) (ms_one (ms_ret (me_if (mt_eq hr.units (mv 3) (me_int)) (me_add (me_sl (mv 1) (mo_none) (mo_some (mv 2))) (me_sl (mv 1) (mo_some (me_add (mv 2) (me_int))) (mo_none))) (me_add (me_add (me_sl (mv 1) (mo_none) (mo_some (mv 2))) (mv 4)) (me_sl (mv 1) (mo_some (me_add (mv 2) (me_int))) (mo_none)))))) (ms_nil))
      (ms_cons (ms_set (me_l (ml_split (mv 1) (me_str))) (mg_nm 5 sc__law_other.nd))
      (ms_cons (ms_set (me_call (fn__law_draw T) (hr.mono (by decide)) (takes_of rfl rfl rfl rfl) rfl (ma_cons (mv 0) (ma_cons (me_len rfl T.g_len (mq_e (mv 5))) (ma_nil)))) (mg_nm 6 sc__law_other.nd))
      (ms_cons (ms_set (me_l (ml_lst (ma_cons (me_str) (ma_cons (me_str) (ma_cons (me_str) (ma_cons (me_str) (ma_cons (me_str) (ma_cons (me_str) (ma_cons (me_str) (ma_cons (me_str) (ma_cons (me_str) (ma_cons (me_str) (ma_cons (me_str) (ma_cons (me_str) (ma_cons (me_str) (ma_cons (me_str) (ma_nil))))))))))))))) (len_cons (len_cons (len_cons (len_cons (len_cons (len_cons (len_cons (len_cons (len_cons (len_cons (len_cons (len_cons (len_cons (len_cons len_nil)))))))))))))))) (mg_nm 7 sc__law_other.nd))
      (ms_cons (ms_set (me_l (ml_cat (ml_e (mv 7)) (ml_lst (ma_cons (me_str) (ma_cons (me_str) (ma_cons (me_str) (ma_cons (me_str) (ma_cons (me_str) (ma_cons (me_str) (ma_cons (me_str) (ma_cons (me_str) (ma_cons (me_str) (ma_cons (me_str) (ma_nil))))))))))) (len_cons (len_cons (len_cons (len_cons (len_cons (len_cons (len_cons (len_cons (len_cons (len_cons len_nil))))))))))))) (mg_nm 7 sc__law_other.nd))
      (ms_one (ms_ret (me_join (me_str) (mq_l (ml_cat (ml_cat (ml_slR (mv 5) (mo_none) (mo_some (mv 6))) (ml_lst (ma_cons (me_call (fn__law_one T) (hr.mono (by decide)) (takes_of rfl rfl rfl rfl) rfl (ma_cons (mv 0) (ma_cons (mv 7) (ma_nil)))) (ma_nil)) (len_cons len_nil))) (ml_slR (mv 5) (mo_some (me_add (mv 6) (me_intOf rfl T.g_int bt_int (me_eq hr.units (mv 3) (me_int))))) (mo_none))))))))))))))
/-! ### is_integer: slots 0 value, 1 least, 2 most -/
theorem sc_is_integer : FnScope ["value", "least", "most"] ["value", "least", "most"] (defScope s_is_integer) := ⟨rfl, rfl, rfl, by decide +kernel, rfl, by decide +kernel, by decide +kernel⟩
noncomputable def b_is_integer_0 : FS := sRet (eAnd (e1 (oIsi "int") (eV 0)) (eAnd (eNot (e1 (oIsi "bool") (eV 0))) (eCh oLe oLe (eV 1) (eV 0) (eV 2))))
noncomputable def b_is_integer : FS := b_is_integer_0
noncomputable def F_is_integer : List D → Sto → Out D := runF 3 3 b_is_integer
theorem fn_is_integer (T : Txt K mg) : Fn P w K mg base 1 "is_integer" F_is_integer :=
  fn_of (b := b_is_integer) rfl T.t_is_integer rfl rfl sc_is_integer fun _ cdv A outer s H E hr =>
      ms_one (ms_ret (me_and (me_isi bt_int (by decide) rfl T.g_isinstance bt_isinstance rfl T.g_int (mv 0)) (me_and (me_not (me_isi bt_bool (by decide) rfl T.g_isinstance bt_isinstance rfl T.g_bool (mv 0))) (me_one (me_cle2 (mv 1) (mv 0) (mv 2))))))
/-! ### inputs_of: slots 0 kind -/
theorem sc_inputs_of : FnScope ["kind"] ["kind"] (defScope s_inputs_of) := ⟨rfl, rfl, rfl, by decide +kernel, rfl, by decide +kernel, by decide +kernel⟩
noncomputable def b_inputs_of_0 : FS := sIf (eT (eCall F_is_integer (aC (eV 0) (aC (e2 oSub (eC (.int 0)) (eC (.int 99))) (aC (eC (.int 99)) (aN)))))) (sRet (eC (.int 0))) (sNx)
noncomputable def b_inputs_of_1 : FS := sIf (tNotF (eT (e1 (oIsi "str") (eV 0)))) (sRet (eC .non)) (sNx)
noncomputable def b_inputs_of_2 : FS := sIf (eT (e2 oIn (eV 0) (eC (.tup [.str "+", .str "-", .str "*"])))) (sRet (eC (.int 2))) (sNx)
noncomputable def b_inputs_of_3 : FS := sRet (eDispGet (pCons (eC (.str "in")) (eC (.int 0)) (pCons (eC (.str "neg")) (eC (.int 1)) (pCons (eC (.str "pick")) (eC (.int 3)) (pNil)))) (eV 0) (eC .non))
noncomputable def b_inputs_of : FS := sSeq (b_inputs_of_0) (sSeq (b_inputs_of_1) (sSeq (b_inputs_of_2) (b_inputs_of_3)))
noncomputable def F_inputs_of : List D → Sto → Out D := runF 1 1 b_inputs_of
theorem fn_inputs_of (T : Txt K mg) : Fn P w K mg base 2 "inputs_of" F_inputs_of :=
  fn_of (b := b_inputs_of) rfl T.t_inputs_of rfl rfl sc_inputs_of fun _ cdv A outer s H E hr =>
      ms_cons (ms_if (mt_val (me_call (fn_is_integer T) (hr.mono (by decide)) (takes_of rfl rfl rfl rfl) rfl (ma_cons (mv 0) (ma_cons (me_sub (me_int) (me_cst rfl T.c_MOST_CONSTANT)) (ma_cons (me_cst rfl T.c_MOST_CONSTANT) (ma_nil)))))) (ms_one (ms_ret (me_int))) (ms_nil))
      (ms_cons (ms_if (mt_not (mt_val (me_isi bt_str (by decide) rfl T.g_isinstance bt_isinstance rfl T.g_str (mv 0)))) (ms_one (ms_ret (me_non))) (ms_nil))
      (ms_cons (ms_if (mt_in (mv 0) (me_cst rfl T.c_SIGNS)) (ms_one (ms_ret (me_int))) (ms_nil))
      (ms_one (ms_ret (me_dispGet hr.units (mp_cons (me_cst rfl T.c_IN) (me_int) (mp_cons (me_cst rfl T.c_NEG) (me_int) (mp_cons (me_cst rfl T.c_PICK) (me_int) (mp_nil)))) (mv 0) (me_non) ⟨rfl, rfl, rfl, rfl⟩)))))
/-! ### step_word: slots 0 many, 1 value, 2 kind, 3 inputs, 4 size, 5 one -/
theorem sc_step_word : FnScope ["many", "value", "kind", "inputs", "size", "one"] ["many", "value"] (defScope s_step_word) := ⟨rfl, rfl, rfl, by decide +kernel, rfl, by decide +kernel, by decide +kernel⟩
noncomputable def b_step_word_0 : FS := sIf (tOrF (tNotF (eT (e1 (oIsi "tuple") (eV 1)))) (tOrF (eT (e2 oNe (eB1 oLenQ (eQ (eV 1))) (eC (.int 2)))) (tNotF (eT (e1 (oIsi "tuple") (e2 oIx (eV 1) (eC (.int 1)))))))) (sRet (eC (.str "step"))) (sNx)
noncomputable def b_step_word_1 : FS := sSet (.tp [.nm 2, .nm 3]) (eV 1)
noncomputable def b_step_word_2 : FS := sSet (.nm 4) (eCall F_inputs_of (aC (eV 2) (aN)))
noncomputable def b_step_word_3 : FS := sIf (eT (e2 oIs (eV 4) (eC .non))) (sRet (eC (.str "kind"))) (sNx)
noncomputable def b_step_word_4 : FS := sIf (eT (e2 oNe (eB1 oLenQ (eQ (eV 3))) (eV 4))) (sRet (eC (.str "many"))) (sNx)
noncomputable def b_step_word_5 : FS := sRet (eIf (eT (eB1 oAll (lQ (lComp [5] (iE (eV 3)) (.nm 5) (tTrue) (eCall F_is_integer (aC (eV 5) (aC (eC (.int 0)) (aC (e2 oSub (eV 0) (eC (.int 1))) (aN))))))))) (eC .non) (eC (.str "input")))
noncomputable def b_step_word : FS := sSeq (b_step_word_0) (sSeq (b_step_word_1) (sSeq (b_step_word_2) (sSeq (b_step_word_3) (sSeq (b_step_word_4) (b_step_word_5)))))
noncomputable def F_step_word : List D → Sto → Out D := runF 2 6 b_step_word
theorem fn_step_word (T : Txt K mg) : Fn P w K mg base 3 "step_word" F_step_word :=
  fn_of (b := b_step_word) rfl T.t_step_word rfl rfl sc_step_word fun _ cdv A outer s H E hr =>
      ms_cons (ms_if (mt_w (mw_or (mt_not (mt_val (me_isi bt_tuple (by decide) rfl T.g_isinstance bt_isinstance rfl T.g_tuple (mv 1)))) (mw_or (mt_ne hr.units (me_len rfl T.g_len (mq_e (mv 1))) (me_int)) (mw_or1 (mt_not (mt_val (me_isi bt_tuple (by decide) rfl T.g_isinstance bt_isinstance rfl T.g_tuple (me_ix (mv 1) (me_int))))))))) (ms_one (ms_ret (me_str))) (ms_nil))
      (ms_cons (ms_set (mv 1) (mg_tp rfl (mgs_cons (mg_nm 2 sc_step_word.nd) (mgs_cons (mg_nm 3 sc_step_word.nd) (mgs_nil)))))
      (ms_cons (ms_set (me_call (fn_inputs_of T) (hr.mono (by decide)) (takes_of rfl rfl rfl rfl) rfl (ma_cons (mv 2) (ma_nil))) (mg_nm 4 sc_step_word.nd))
      (ms_cons (ms_if (mt_is (mv 4) (me_non)) (ms_one (ms_ret (me_str))) (ms_nil))
      (ms_cons (ms_if (mt_ne hr.units (me_len rfl T.g_len (mq_e (mv 3))) (mv 4)) (ms_one (ms_ret (me_str))) (ms_nil))
      (ms_one (ms_ret (me_if (mt_val (me_all rfl rfl T.g_all bt_all (ms_l (ml_lc (own := [("one", 5)]) rfl sc_step_word.nd (mi_e (mv 3)) (blkOk_by (by kernel_rfl)) (fun _ _ _ _ _ => mg_nm 5 sc_step_word.nd) (fun _ _ _ _ _ => mts_nil) (fun _ _ _ _ _ => me_call (fn_is_integer T) (hr.mono (by decide)) takes0 rfl (ma_cons (mv 5) (ma_cons (me_int) (ma_cons (me_sub (mv 0) (me_int)) (ma_nil))))))))) (me_non) (me_str))))))))
/-! ### reached_from: slots 0 web, 1 step, 2 found, 3 waiting, 4 here, 5 taker, 6 kind, 7 inputs -/
theorem sc_reached_from : FnScope ["web", "step", "found", "waiting", "here", "taker", "kind", "inputs"] ["web", "step"] (defScope s_reached_from) := ⟨rfl, rfl, rfl, by decide +kernel, rfl, by decide +kernel, by decide +kernel⟩
noncomputable def b_reached_from_0 : FS := sPar 2 3 (aC (eL (lLst (aN))) (aC (eL (lLst (aC (eV 1) (aN)))) (aN)))
noncomputable def b_reached_from_1_0 : FS := sSet (.nm 4) (eM0 oPop (eV 3))
noncomputable def b_reached_from_1_1_0_0 : FS := sExp (eM1 oApp (eV 2) (eV 5))
noncomputable def b_reached_from_1_1_0_1 : FS := sExp (eM1 oApp (eV 3) (eV 5))
noncomputable def b_reached_from_1_1 : FS := sFor (iEn (eV 0)) (.tp [.nm 5, .tp [.nm 6, .nm 7]]) (sIf (tAndF (eT (e2 oIn (eV 4) (eV 7))) (eT (e2 oNin (eV 5) (eV 2)))) (sSeq (b_reached_from_1_1_0_0) (b_reached_from_1_1_0_1)) (sNx))
noncomputable def b_reached_from_1 : FS := sWhile (eT (eNil not (eS (eV 3)))) (sSeq (b_reached_from_1_0) (b_reached_from_1_1))
noncomputable def b_reached_from_2 : FS := sRet (eV 2)
noncomputable def b_reached_from : FS := sSeq (b_reached_from_0) (sSeq (b_reached_from_1) (b_reached_from_2))
noncomputable def F_reached_from : List D → Sto → Out D := runF 2 8 b_reached_from
theorem fn_reached_from (T : Txt K mg) : Fn P w K mg base 1 "reached_from" F_reached_from :=
  fn_of (b := b_reached_from) rfl T.t_reached_from rfl rfl sc_reached_from fun _ cdv A outer s H E hr =>
      ms_cons (ms_par (i := 2) (j := 3) rfl sc_reached_from.nd (ma_cons (me_l (ml_lst (ma_nil) len_nil)) (ma_cons (me_l (ml_lst (ma_cons (mv 1) (ma_nil)) (len_cons len_nil))) (ma_nil))))
      (ms_cons (ms_while (passes_of rfl) (mt_neNil hr.units (ms_e (mv 3))) (ms_cons (ms_set (me_lm0 PySem.F.slot_list_pop PySem.F.type_list_pop mt_pop o1_pop (mv 3)) (mg_nm 4 sc_reached_from.nd)) (ms_one (ms_for (passes_of rfl) rfl (mi_enum rfl T.g_enumerate (mv 0)) (mg_tp rfl (mgs_cons (mg_nm 5 sc_reached_from.nd) (mgs_cons (mg_tp rfl (mgs_cons (mg_nm 6 sc_reached_from.nd) (mgs_cons (mg_nm 7 sc_reached_from.nd) (mgs_nil)))) (mgs_nil)))) (ms_one (ms_if (mt_w (mw_and (mt_in (mv 4) (mv 7)) (mw_and1 (mt_nin (mv 5) (mv 2))))) (ms_cons (ms_exp (me_lm1 PySem.F.slot_list_append PySem.F.type_list_append mt_append o2_app (mv 2) (mv 5))) (ms_one (ms_exp (me_lm1 PySem.F.slot_list_append PySem.F.type_list_append mt_append o2_app (mv 3) (mv 5))))) (ms_nil)))))))
      (ms_one (ms_ret (mv 2))))
/-! ### web_error: slots 0 value, 1 index, 2 step, 3 word -/
theorem sc_web_error : FnScope ["value", "index", "step", "word"] ["value"] (defScope s_web_error) := ⟨rfl, rfl, rfl, by decide +kernel, rfl, by decide +kernel, by decide +kernel⟩
noncomputable def b_web_error_0 : FS := sIf (tOrF (tNotF (eT (e1 (oIsi "tuple") (eV 0)))) (tNotF (eT (eCh oLe oLe (eC (.int 1)) (eB1 oLenQ (eQ (eV 0))) (eC (.int 10)))))) (sRet (eTup (aC (eC .non) (aC (eC (.str "web")) (aN))))) (sNx)
noncomputable def b_web_error_1_0 : FS := sSet (.nm 3) (eCall F_step_word (aC (eB1 oLenQ (eQ (eV 0))) (aC (eV 2) (aN))))
noncomputable def b_web_error_1_1 : FS := sIf (eT (e2 oIsN (eV 3) (eC .non))) (sRet (eTup (aC (eV 1) (aC (eV 3) (aN))))) (sNx)
noncomputable def b_web_error_1 : FS := sFor (iEn (eV 0)) (.tp [.nm 1, .nm 2]) (sSeq (b_web_error_1_0) (b_web_error_1_1))
noncomputable def b_web_error_2 : FS := sIf (eT (eB1 oAny (lQ (lComp [2] (iRg1 (eB1 oLenQ (eQ (eV 0)))) (.nm 2) (tTrue) (e2 oIn (eV 2) (eCall F_reached_from (aC (eV 0) (aC (eV 2) (aN))))))))) (sRet (eTup (aC (eC .non) (aC (eC (.str "ring")) (aN))))) (sNx)
noncomputable def b_web_error_3 : FS := sRet (eC .non)
noncomputable def b_web_error : FS := sSeq (b_web_error_0) (sSeq (b_web_error_1) (sSeq (b_web_error_2) (b_web_error_3)))
noncomputable def F_web_error : List D → Sto → Out D := runF 1 4 b_web_error
theorem fn_web_error (T : Txt K mg) : Fn P w K mg base 4 "web_error" F_web_error :=
  fn_of (b := b_web_error) rfl T.t_web_error rfl rfl sc_web_error fun _ cdv A outer s H E hr =>
      ms_cons (ms_if (mt_w (mw_or (mt_not (mt_val (me_isi bt_tuple (by decide) rfl T.g_isinstance bt_isinstance rfl T.g_tuple (mv 0)))) (mw_or1 (mt_not (mt_cle2 (me_int) (me_len rfl T.g_len (mq_e (mv 0))) (me_cst rfl T.c_MAX_STEPS)))))) (ms_one (ms_ret (me_tup (ma_cons (me_non) (ma_cons (me_str) (ma_nil))) (len_cons (len_cons len_nil))))) (ms_nil))
      (ms_cons (ms_for (passes_of rfl) rfl (mi_enum rfl T.g_enumerate (mv 0)) (mg_tp rfl (mgs_cons (mg_nm 1 sc_web_error.nd) (mgs_cons (mg_nm 2 sc_web_error.nd) (mgs_nil)))) (ms_cons (ms_set (me_call (fn_step_word T) (hr.mono (by decide)) (takes_of rfl rfl rfl rfl) rfl (ma_cons (me_len rfl T.g_len (mq_e (mv 0))) (ma_cons (mv 2) (ma_nil)))) (mg_nm 3 sc_web_error.nd)) (ms_one (ms_if (mt_isn (mv 3) (me_non)) (ms_one (ms_ret (me_tup (ma_cons (mv 1) (ma_cons (mv 3) (ma_nil))) (len_cons (len_cons len_nil))))) (ms_nil)))))
      (ms_cons (ms_if (mt_val (me_any rfl rfl T.g_any bt_any (ms_l (ml_lc (own := [("step", 2)]) rfl sc_web_error.nd (mi_range1 rfl T.g_range (me_len rfl T.g_len (mq_e (mv 0)))) (blkOk_by (by kernel_rfl)) (fun _ _ _ _ _ => mg_nm 2 sc_web_error.nd) (fun _ _ _ _ _ => mts_nil) (fun _ _ _ _ _ => me_in (mv 2) (me_call (fn_reached_from T) (hr.mono (by decide)) takes0 rfl (ma_cons (mv 0) (ma_cons (mv 2) (ma_nil))))))))) (ms_one (ms_ret (me_tup (ma_cons (me_non) (ma_cons (me_str) (ma_nil))) (len_cons (len_cons len_nil))))) (ms_nil))
      (ms_one (ms_ret (me_non)))))
/-! ### number_of: slots 0 word, 1 sign -/
theorem sc_number_of : FnScope ["word", "sign"] ["word"] (defScope s_number_of) := ⟨rfl, rfl, rfl, by decide +kernel, rfl, by decide +kernel, by decide +kernel⟩
noncomputable def b_number_of_0 : FS := sIf (tOrF (tNotF (eT (eCh oLe oLe (eC (.int 1)) (eB1 oLenS (eV 0)) (eC (.int 2))))) (tNotF (eT (eB1 oAll (lQ (lComp [1] (iStrD (eV 0)) (.nm 1) (tTrue) (e2 oInS (eV 1) (eC (.str "0123456789"))))))))) (sRet (eC .non)) (sNx)
noncomputable def b_number_of_1 : FS := sRet (eIf (tOrF (eT (e2 oEq (eV 0) (eC (.str "0")))) (eT (e2 oNe (e2 oIx (eV 0) (eC (.int 0))) (eC (.str "0"))))) (eB1 oIntS (eV 0)) (eC .non))
noncomputable def b_number_of : FS := sSeq (b_number_of_0) (b_number_of_1)
noncomputable def F_number_of : List D → Sto → Out D := runF 1 2 b_number_of
theorem fn_number_of (T : Txt K mg) : Fn P w K mg base 1 "number_of" F_number_of :=
  fn_of (b := b_number_of) rfl T.t_number_of rfl rfl sc_number_of fun _ cdv A outer s H E hr =>
      ms_cons (ms_if (mt_w (mw_or (mt_not (mt_cle2 (me_int) (me_lenS rfl T.g_len (mv 0)) (me_cst rfl T.c_MOST_DIGITS))) (mw_or1 (mt_not (mt_val (me_all rfl rfl T.g_all bt_all (ms_l (ml_lc (own := [("sign", 1)]) rfl sc_number_of.nd (mi_str (mv 0)) (blkOk_by (by kernel_rfl)) (fun _ _ _ _ _ => mg_nm 1 sc_number_of.nd) (fun _ _ _ _ _ => mts_nil) (fun _ _ _ _ _ => me_inS (mv 1) (me_cst rfl T.c_DIGITS)))))))))) (ms_one (ms_ret (me_non))) (ms_nil))
      (ms_one (ms_ret (me_if (mt_w (mw_or (mt_eq hr.units (mv 0) (me_str)) (mw_or1 (mt_ne hr.units (me_ix (mv 0) (me_int)) (me_str))))) (me_intS rfl T.g_int bt_int (mv 0)) (me_non))))
/-! ### kind_of: slots 0 word, 1 own, 2 number -/
theorem sc_kind_of : FnScope ["word", "own", "number"] ["word"] (defScope s_kind_of) := ⟨rfl, rfl, rfl, by decide +kernel, rfl, by decide +kernel, by decide +kernel⟩
noncomputable def b_kind_of_0 : FS := sIf (eT (e2 oIsN (eCall F_inputs_of (aC (eV 0) (aN))) (eC .non))) (sRet (eV 0)) (sNx)
noncomputable def b_kind_of_1 : FS := sSet (.nm 1) (eIf (eT (e2 oEq (eSl (eV 0) (pN) (pS1 (eC (.int 1)))) (eC (.str "-")))) (eSl (eV 0) (pS1 (eC (.int 1))) (pN)) (eV 0))
noncomputable def b_kind_of_2 : FS := sSet (.nm 2) (eCall F_number_of (aC (eV 1) (aN)))
noncomputable def b_kind_of_3 : FS := sIf (tOrF (eT (e2 oIs (eV 2) (eC .non))) (eT (e2 oEq (eV 0) (eC (.str "-0"))))) (sRet (eC .non)) (sNx)
noncomputable def b_kind_of_4 : FS := sRet (eIf (eT (e2 oNe (eV 1) (eV 0))) (e2 oSub (eC (.int 0)) (eV 2)) (eV 2))
noncomputable def b_kind_of : FS := sSeq (b_kind_of_0) (sSeq (b_kind_of_1) (sSeq (b_kind_of_2) (sSeq (b_kind_of_3) (b_kind_of_4))))
noncomputable def F_kind_of : List D → Sto → Out D := runF 1 3 b_kind_of
theorem fn_kind_of (T : Txt K mg) : Fn P w K mg base 3 "kind_of" F_kind_of :=
  fn_of (b := b_kind_of) rfl T.t_kind_of rfl rfl sc_kind_of fun _ cdv A outer s H E hr =>
      ms_cons (ms_if (mt_isn (me_call (fn_inputs_of T) (hr.mono (by decide)) (takes_of rfl rfl rfl rfl) rfl (ma_cons (mv 0) (ma_nil))) (me_non)) (ms_one (ms_ret (mv 0))) (ms_nil))
      (ms_cons (ms_set (me_if (mt_eq hr.units (me_sl (mv 0) (mo_none) (mo_some (me_int))) (me_str)) (me_sl (mv 0) (mo_some (me_int)) (mo_none)) (mv 0)) (mg_nm 1 sc_kind_of.nd))
      (ms_cons (ms_set (me_call (fn_number_of T) (hr.mono (by decide)) (takes_of rfl rfl rfl rfl) rfl (ma_cons (mv 1) (ma_nil))) (mg_nm 2 sc_kind_of.nd))
      (ms_cons (ms_if (mt_w (mw_or (mt_is (mv 2) (me_non)) (mw_or1 (mt_eq hr.units (mv 0) (me_str))))) (ms_one (ms_ret (me_non))) (ms_nil))
      (ms_one (ms_ret (me_if (mt_ne hr.units (mv 1) (mv 0)) (me_sub (me_int) (mv 2)) (mv 2)))))))
/-! ### step_of: slots 0 line, 1 words, 2 kind, 3 inputs, 4 word -/
theorem sc_step_of : FnScope ["line", "words", "kind", "inputs", "word"] ["line"] (defScope s_step_of) := ⟨rfl, rfl, rfl, by decide +kernel, rfl, by decide +kernel, by decide +kernel⟩
noncomputable def b_step_of_0 : FS := sSet (.nm 1) (eL (lSplit (eV 0) (eC (.str " "))))
noncomputable def b_step_of_1 : FS := sPar 2 3 (aC (eCall F_kind_of (aC (e2 oIx (eV 1) (eC (.int 0))) (aN))) (aC (eL (lComp [4] (iE (eSl (eV 1) (pS1 (eC (.int 1))) (pN))) (.nm 4) (tTrue) (eCall F_number_of (aC (eV 4) (aN))))) (aN)))
noncomputable def b_step_of_2 : FS := sIf (tOrF (eT (e2 oIs (eV 2) (eC .non))) (tOrF (eT (e2 oIn (eC .non) (eV 3))) (eT (e2 oNe (eB1 oLenQ (eQ (eV 3))) (eCall F_inputs_of (aC (eV 2) (aN))))))) (sRet (eC .non)) (sNx)
noncomputable def b_step_of_3 : FS := sRet (eTup (aC (eV 2) (aC (eB1 oTup (eQ (eV 3))) (aN))))
noncomputable def b_step_of : FS := sSeq (b_step_of_0) (sSeq (b_step_of_1) (sSeq (b_step_of_2) (b_step_of_3)))
noncomputable def F_step_of : List D → Sto → Out D := runF 1 5 b_step_of
theorem fn_step_of (T : Txt K mg) : Fn P w K mg base 4 "step_of" F_step_of :=
  fn_of (b := b_step_of) rfl T.t_step_of rfl rfl sc_step_of fun _ cdv A outer s H E hr =>
      ms_cons (ms_set (me_l (ml_split (mv 0) (me_str))) (mg_nm 1 sc_step_of.nd))
      (ms_cons (ms_par (i := 2) (j := 3) rfl sc_step_of.nd (ma_cons (me_call (fn_kind_of T) (hr.mono (by decide)) (takes_of rfl rfl rfl rfl) rfl (ma_cons (me_ix (mv 1) (me_int)) (ma_nil))) (ma_cons (me_l (ml_lc (own := [("word", 4)]) rfl sc_step_of.nd (mi_e (me_sl (mv 1) (mo_some (me_int)) (mo_none))) (blkOk_by (by kernel_rfl)) (fun _ _ _ _ _ => mg_nm 4 sc_step_of.nd) (fun _ _ _ _ _ => mts_nil) (fun _ _ _ _ _ => me_call (fn_number_of T) (hr.mono (by decide)) takes0 rfl (ma_cons (mv 4) (ma_nil))))) (ma_nil))))
      (ms_cons (ms_if (mt_w (mw_or (mt_is (mv 2) (me_non)) (mw_or (mt_in (me_non) (mv 3)) (mw_or1 (mt_ne hr.units (me_len rfl T.g_len (mq_e (mv 3))) (me_call (fn_inputs_of T) (hr.mono (by decide)) (takes_of rfl rfl rfl rfl) rfl (ma_cons (mv 2) (ma_nil)))))))) (ms_one (ms_ret (me_non))) (ms_nil))
      (ms_one (ms_ret (me_tup (ma_cons (mv 2) (ma_cons (me_tupOf rfl T.g_tuple bt_tuple (mq_e (mv 3))) (ma_nil))) (len_cons (len_cons len_nil)))))))
/-! ### read_web: slots 0 value, 1 found, 2 line, 3 text, 4 step, 5 error -/
theorem sc_read_web : FnScope ["value", "found", "line", "text", "step", "error"] ["value"] (defScope s_read_web) := ⟨rfl, rfl, rfl, by decide +kernel, rfl, by decide +kernel, by decide +kernel⟩
noncomputable def b_read_web_0 : FS := sIf (tNotF (eT (e1 (oIsi "str") (eV 0)))) (sRaise "BadText" "line" (eC .non)) (sNx)
noncomputable def b_read_web_1 : FS := sSet (.nm 1) (eL (lLst (aN)))
noncomputable def b_read_web_2_0 : FS := sSet (.nm 4) (eCall F_step_of (aC (eV 3) (aN)))
noncomputable def b_read_web_2_1 : FS := sIf (eT (e2 oIs (eV 4) (eC .non))) (sRaise "BadText" "line" (eV 2)) (sNx)
noncomputable def b_read_web_2_2 : FS := sExp (eM1 oApp (eV 1) (eV 4))
noncomputable def b_read_web_2 : FS := sFor (iEn (eL (lSplit (eV 0) (eC (.str "\n"))))) (.tp [.nm 2, .nm 3]) (sSeq (b_read_web_2_0) (sSeq (b_read_web_2_1) (b_read_web_2_2)))
noncomputable def b_read_web_3 : FS := sSet (.nm 5) (eCall F_web_error (aC (eB1 oTup (eQ (eV 1))) (aN)))
noncomputable def b_read_web_4 : FS := sIf (eT (e2 oIsN (eV 5) (eC .non))) (sRaise "BadWeb" "error" (eV 5)) (sNx)
noncomputable def b_read_web_5 : FS := sRet (eB1 oTup (eQ (eV 1)))
noncomputable def b_read_web : FS := sSeq (b_read_web_0) (sSeq (b_read_web_1) (sSeq (b_read_web_2) (sSeq (b_read_web_3) (sSeq (b_read_web_4) (b_read_web_5)))))
noncomputable def F_read_web : List D → Sto → Out D := runF 1 6 b_read_web
theorem fn_read_web (T : Txt K mg) : Fn P w K mg base 5 "read_web" F_read_web :=
  fn_of (b := b_read_web) rfl T.t_read_web rfl rfl sc_read_web fun _ cdv A outer s H E hr =>
      ms_cons (ms_if (mt_not (mt_val (me_isi bt_str (by decide) rfl T.g_isinstance bt_isinstance rfl T.g_str (mv 0)))) (ms_one (ms_raise (fx_BadText T) rfl (hr.mono (by decide)) (takes_of rfl rfl rfl rfl) rfl (me_non))) (ms_nil))
      (ms_cons (ms_set (me_l (ml_lst (ma_nil) len_nil)) (mg_nm 1 sc_read_web.nd))
      (ms_cons (ms_for (passes_of rfl) rfl (mi_enum rfl T.g_enumerate (me_l (ml_split (mv 0) (me_cst rfl T.c_BREAK)))) (mg_tp rfl (mgs_cons (mg_nm 2 sc_read_web.nd) (mgs_cons (mg_nm 3 sc_read_web.nd) (mgs_nil)))) (ms_cons (ms_set (me_call (fn_step_of T) (hr.mono (by decide)) (takes_of rfl rfl rfl rfl) rfl (ma_cons (mv 3) (ma_nil))) (mg_nm 4 sc_read_web.nd)) (ms_cons (ms_if (mt_is (mv 4) (me_non)) (ms_one (ms_raise (fx_BadText T) rfl (hr.mono (by decide)) (takes_of rfl rfl rfl rfl) rfl (mv 2))) (ms_nil)) (ms_one (ms_exp (me_lm1 PySem.F.slot_list_append PySem.F.type_list_append mt_append o2_app (mv 1) (mv 4)))))))
      (ms_cons (ms_set (me_call (fn_web_error T) (hr.mono (by decide)) (takes_of rfl rfl rfl rfl) rfl (ma_cons (me_tupOf rfl T.g_tuple bt_tuple (mq_e (mv 1))) (ma_nil))) (mg_nm 5 sc_read_web.nd))
      (ms_cons (ms_if (mt_isn (mv 5) (me_non)) (ms_one (ms_raise (fx_BadWeb T) rfl (hr.mono (by decide)) (takes_of rfl rfl rfl rfl) rfl (mv 5))) (ms_nil))
      (ms_one (ms_ret (me_tupOf rfl T.g_tuple bt_tuple (mq_e (mv 1)))))))))
/-! ### _law_told: slots 0 thing, 1 found, 2 error -/
theorem sc__law_told : FnScope ["thing", "found", "error"] ["thing"] (defScope s__law_told) := ⟨rfl, rfl, rfl, by decide +kernel, rfl, by decide +kernel, by decide +kernel⟩
noncomputable def b__law_told_0 : FS := sSet (.nm 1) (eL (lLst (aC (eC (.str "other")) (aN))))
noncomputable def b__law_told_1 : FS := sTryAs 2 1 (sSet (.nm 1) (eL (lLst (aC (eC (.str "told")) (aC (eCall F_read_web (aC (eV 0) (aN))) (aN)))))) [⟨"BadText", "line", "text", true⟩, ⟨"BadWeb", "error", "web", true⟩]
noncomputable def b__law_told_2 : FS := sRet (eV 1)
noncomputable def b__law_told : FS := sSeq (b__law_told_0) (sSeq (b__law_told_1) (b__law_told_2))
noncomputable def F__law_told : List D → Sto → Out D := runF 1 3 b__law_told
theorem fn__law_told (T : Txt K mg) : Fn P w K mg base 6 "_law_told" F__law_told :=
  fn_of (b := b__law_told) rfl T.t__law_told rfl rfl sc__law_told fun _ cdv A outer s H E hr =>
      ms_cons (ms_set (me_l (ml_lst (ma_cons (me_str) (ma_nil)) (len_cons len_nil))) (mg_nm 1 sc__law_told.nd))
      (ms_cons (ms_tryAs (i := 2) (j := 1) rfl rfl sc__law_told.nd rfl rfl (by decide) (takes_of rfl rfl rfl rfl) (fun W2 pn xe htk hpo => ms_one (ms_set (me_l (ml_lst (ma_cons (me_str) (ma_cons (me_call (fn_read_web T) (hr.mono (by decide)) htk rfl (ma_cons (mv 0) (ma_nil))) (ma_nil))) (len_cons (len_cons len_nil)))) (mg_nm 1 sc__law_told.nd))) (mh_consB (cv := (.ref (clsA K "WebError"))) T.e_BadText (fun _ h => h) ⟨rfl, by decide, .inl T.n_BadText⟩ (fun a oe d pn hz hf => pss_one (ps_set (i := 1) sc__law_told.nd rfl (Or.inl rfl) (pe_lst (pa_cons pe_str (pa_cons (pe_xf T.e_BadText.ec.xf T.e_BadText.no hz hf (pv 2)) (pa_cons (pe_callB (call_isO T.e_BadText.ec hz hf) rfl T.g_isinstance bt_isinstance (pa_cons (pv 2) (pa_cons (pe_glob rfl T.n_WebError rfl) pa_nil))) pa_nil)))))) (mh_consB (cv := (.ref (clsA K "WebError"))) T.e_BadWeb (fun _ h => h) ⟨rfl, by decide, .inl T.n_BadWeb⟩ (fun a oe d pn hz hf => pss_one (ps_set (i := 1) sc__law_told.nd rfl (Or.inl rfl) (pe_lst (pa_cons pe_str (pa_cons (pe_xf T.e_BadWeb.ec.xf T.e_BadWeb.no hz hf (pv 2)) (pa_cons (pe_callB (call_isO T.e_BadWeb.ec hz hf) rfl T.g_isinstance bt_isinstance (pa_cons (pv 2) (pa_cons (pe_glob rfl T.n_WebError rfl) pa_nil))) pa_nil)))))) (mh_nil))) T.xm_BadText_BadWeb)
      (ms_one (ms_ret (mv 1))))
/-! ### _law_whole: slots 0 value, 1 least, 2 most -/
theorem sc__law_whole : FnScope ["value", "least", "most"] ["value", "least", "most"] (defScope s__law_whole) := ⟨rfl, rfl, rfl, by decide +kernel, rfl, by decide +kernel, by decide +kernel⟩
noncomputable def b__law_whole_0 : FS := sRet (eAnd (e1 (oIsi "int") (eV 0)) (eAnd (eNot (e1 (oIsi "bool") (eV 0))) (eCh oLe oLe (eV 1) (eV 0) (eV 2))))
noncomputable def b__law_whole : FS := b__law_whole_0
noncomputable def F__law_whole : List D → Sto → Out D := runF 3 3 b__law_whole
theorem fn__law_whole (T : Txt K mg) : Fn P w K mg base 1 "_law_whole" F__law_whole :=
  fn_of (b := b__law_whole) rfl T.t__law_whole rfl rfl sc__law_whole fun _ cdv A outer s H E hr =>
      ms_one (ms_ret (me_and (me_isi bt_int (by decide) rfl T.g_isinstance bt_isinstance rfl T.g_int (mv 0)) (me_and (me_not (me_isi bt_bool (by decide) rfl T.g_isinstance bt_isinstance rfl T.g_bool (mv 0))) (me_one (me_cle2 (mv 1) (mv 0) (mv 2))))))
/-! ### _law_is_kind: slots 0 value -/
theorem sc__law_is_kind : FnScope ["value"] ["value"] (defScope s__law_is_kind) := ⟨rfl, rfl, rfl, by decide +kernel, rfl, by decide +kernel, by decide +kernel⟩
noncomputable def b__law_is_kind_0 : FS := sIf (eT (e1 (oIsi "str") (eV 0))) (sRet (e2 oIn (eV 0) (eL (lLst (aC (eC (.str "in")) (aC (eC (.str "neg")) (aC (eC (.str "+")) (aC (eC (.str "-")) (aC (eC (.str "*")) (aC (eC (.str "pick")) (aN))))))))))) (sNx)
noncomputable def b__law_is_kind_1 : FS := sRet (eCall F__law_whole (aC (eV 0) (aC (e1 oNeg (eC (.int 99))) (aC (eC (.int 99)) (aN)))))
noncomputable def b__law_is_kind : FS := sSeq (b__law_is_kind_0) (b__law_is_kind_1)
noncomputable def F__law_is_kind : List D → Sto → Out D := runF 1 1 b__law_is_kind
theorem fn__law_is_kind (T : Txt K mg) : Fn P w K mg base 2 "_law_is_kind" F__law_is_kind :=
  fn_of (b := b__law_is_kind) rfl T.t__law_is_kind rfl rfl sc__law_is_kind fun _ cdv A outer s H E hr =>
      ms_cons (ms_if (mt_val (me_isi bt_str (by decide) rfl T.g_isinstance bt_isinstance rfl T.g_str (mv 0))) (ms_one (ms_ret (me_in (mv 0) (me_l (ml_lst (ma_cons (me_str) (ma_cons (me_str) (ma_cons (me_str) (ma_cons (me_str) (ma_cons (me_str) (ma_cons (me_str) (ma_nil))))))) (len_cons (len_cons (len_cons (len_cons (len_cons (len_cons len_nil))))))))))) (ms_nil))
      (ms_one (ms_ret (me_call (fn__law_whole T) (hr.mono (by decide)) (takes_of rfl rfl rfl rfl) rfl (ma_cons (mv 0) (ma_cons (me_neg (me_int)) (ma_cons (me_int) (ma_nil)))))))
/-! ### _law_many: slots 0 kind -/
theorem sc__law_many : FnScope ["kind"] ["kind"] (defScope s__law_many) := ⟨rfl, rfl, rfl, by decide +kernel, rfl, by decide +kernel, by decide +kernel⟩
noncomputable def b__law_many_0 : FS := sRet (eIf (eT (e1 (oIsi "str") (eV 0))) (eDispIx (pCons (eC (.str "in")) (eC (.int 0)) (pCons (eC (.str "neg")) (eC (.int 1)) (pCons (eC (.str "+")) (eC (.int 2)) (pCons (eC (.str "-")) (eC (.int 2)) (pCons (eC (.str "*")) (eC (.int 2)) (pCons (eC (.str "pick")) (eC (.int 3)) (pNil))))))) (eV 0)) (eC (.int 0)))
noncomputable def b__law_many : FS := b__law_many_0
noncomputable def F__law_many : List D → Sto → Out D := runF 1 1 b__law_many
theorem fn__law_many (T : Txt K mg) : Fn P w K mg base 1 "_law_many" F__law_many :=
  fn_of (b := b__law_many) rfl T.t__law_many rfl rfl sc__law_many fun _ cdv A outer s H E hr =>
      ms_one (ms_ret (me_if (mt_val (me_isi bt_str (by decide) rfl T.g_isinstance bt_isinstance rfl T.g_str (mv 0))) (me_dispIx hr.units (mp_cons (me_str) (me_int) (mp_cons (me_str) (me_int) (mp_cons (me_str) (me_int) (mp_cons (me_str) (me_int) (mp_cons (me_str) (me_int) (mp_cons (me_str) (me_int) (mp_nil))))))) (mv 0)) (me_int)))
/-! ### _law_fault: slots 0 web, 1 index, 2 step, 3 one -/
theorem sc__law_fault : FnScope ["web", "index", "step", "one"] ["web", "index"] (defScope s__law_fault) := ⟨rfl, rfl, rfl, by decide +kernel, rfl, by decide +kernel, by decide +kernel⟩
noncomputable def b__law_fault_0 : FS := sSet (.nm 2) (e2 oIx (eV 0) (eV 1))
noncomputable def b__law_fault_1 : FS := sIf (tOrF (tNotF (eT (e1 (oIsi "tuple") (eV 2)))) (tOrF (eT (e2 oNe (eB1 oLenQ (eQ (eV 2))) (eC (.int 2)))) (tNotF (eT (e1 (oIsi "tuple") (e2 oIx (eV 2) (eC (.int 1)))))))) (sRet (eTup (aC (eV 1) (aC (eC (.str "step")) (aN))))) (sNx)
noncomputable def b__law_fault_2 : FS := sIf (tNotF (eT (eCall F__law_is_kind (aC (e2 oIx (eV 2) (eC (.int 0))) (aN))))) (sRet (eTup (aC (eV 1) (aC (eC (.str "kind")) (aN))))) (sNx)
noncomputable def b__law_fault_3 : FS := sIf (eT (e2 oNe (eB1 oLenQ (eQ (e2 oIx (eV 2) (eC (.int 1))))) (eCall F__law_many (aC (e2 oIx (eV 2) (eC (.int 0))) (aN))))) (sRet (eTup (aC (eV 1) (aC (eC (.str "many")) (aN))))) (sNx)
noncomputable def b__law_fault_4 : FS := sIf (eT (eNil not (lQ (lComp [3] (iE (e2 oIx (eV 2) (eC (.int 1)))) (.nm 3) (tNotF (eT (eCall F__law_whole (aC (eV 3) (aC (eC (.int 0)) (aC (e2 oSub (eB1 oLenQ (eQ (eV 0))) (eC (.int 1))) (aN))))))) (eC (.int 1)))))) (sRet (eTup (aC (eV 1) (aC (eC (.str "input")) (aN))))) (sNx)
noncomputable def b__law_fault_5 : FS := sRet (eC .non)
noncomputable def b__law_fault : FS := sSeq (b__law_fault_0) (sSeq (b__law_fault_1) (sSeq (b__law_fault_2) (sSeq (b__law_fault_3) (sSeq (b__law_fault_4) (b__law_fault_5)))))
noncomputable def F__law_fault : List D → Sto → Out D := runF 2 4 b__law_fault
theorem fn__law_fault (T : Txt K mg) : Fn P w K mg base 3 "_law_fault" F__law_fault :=
  fn_of (b := b__law_fault) rfl T.t__law_fault rfl rfl sc__law_fault fun _ cdv A outer s H E hr =>
      ms_cons (ms_set (me_ix (mv 0) (mv 1)) (mg_nm 2 sc__law_fault.nd))
      (ms_cons (ms_if (mt_w (mw_or (mt_not (mt_val (me_isi bt_tuple (by decide) rfl T.g_isinstance bt_isinstance rfl T.g_tuple (mv 2)))) (mw_or (mt_ne hr.units (me_len rfl T.g_len (mq_e (mv 2))) (me_int)) (mw_or1 (mt_not (mt_val (me_isi bt_tuple (by decide) rfl T.g_isinstance bt_isinstance rfl T.g_tuple (me_ix (mv 2) (me_int))))))))) (ms_one (ms_ret (me_tup (ma_cons (mv 1) (ma_cons (me_str) (ma_nil))) (len_cons (len_cons len_nil))))) (ms_nil))
      (ms_cons (ms_if (mt_not (mt_val (me_call (fn__law_is_kind T) (hr.mono (by decide)) (takes_of rfl rfl rfl rfl) rfl (ma_cons (me_ix (mv 2) (me_int)) (ma_nil))))) (ms_one (ms_ret (me_tup (ma_cons (mv 1) (ma_cons (me_str) (ma_nil))) (len_cons (len_cons len_nil))))) (ms_nil))
      (ms_cons (ms_if (mt_ne hr.units (me_len rfl T.g_len (mq_e (me_ix (mv 2) (me_int)))) (me_call (fn__law_many T) (hr.mono (by decide)) (takes_of rfl rfl rfl rfl) rfl (ma_cons (me_ix (mv 2) (me_int)) (ma_nil)))) (ms_one (ms_ret (me_tup (ma_cons (mv 1) (ma_cons (me_str) (ma_nil))) (len_cons (len_cons len_nil))))) (ms_nil))
      (ms_cons (ms_if (mt_neNil hr.units (ms_l (ml_lc (own := [("one", 3)]) rfl sc__law_fault.nd (mi_e (me_ix (mv 2) (me_int))) (blkOk_by (by kernel_rfl)) (fun _ _ _ _ _ => mg_nm 3 sc__law_fault.nd) (fun _ _ _ _ _ => mts_one (mt_not (mt_val (me_call (fn__law_whole T) (hr.mono (by decide)) takes0 rfl (ma_cons (mv 3) (ma_cons (me_int) (ma_cons (me_sub (me_len rfl T.g_len (mq_e (mv 0))) (me_int)) (ma_nil)))))))) (fun _ _ _ _ _ => me_int)))) (ms_one (ms_ret (me_tup (ma_cons (mv 1) (ma_cons (me_str) (ma_nil))) (len_cons (len_cons len_nil))))) (ms_nil))
      (ms_one (ms_ret (me_non)))))))
/-! ### _law_web_error: slots 0 value, 1 index, 2 done, 3 turn, 4 step, 5 one -/
theorem sc__law_web_error : FnScope ["value", "index", "done", "turn", "step", "one"] ["value"] (defScope s__law_web_error) := ⟨rfl, rfl, rfl, by decide +kernel, rfl, by decide +kernel, by decide +kernel⟩
noncomputable def b__law_web_error_0 : FS := sIf (tOrF (tNotF (eT (e1 (oIsi "tuple") (eV 0)))) (tNotF (eT (eCh oLe oLe (eC (.int 1)) (eB1 oLenQ (eQ (eV 0))) (eC (.int 10)))))) (sRet (eTup (aC (eC .non) (aC (eC (.str "web")) (aN))))) (sNx)
noncomputable def b__law_web_error_1 : FS := sFor (iRg1 (eB1 oLenQ (eQ (eV 0)))) (.nm 1) (sIf (eT (e2 oIsN (eCall F__law_fault (aC (eV 0) (aC (eV 1) (aN)))) (eC .non))) (sRet (eCall F__law_fault (aC (eV 0) (aC (eV 1) (aN))))) (sNx))
noncomputable def b__law_web_error_2 : FS := sSet (.nm 2) (eL (lLst (aN)))
noncomputable def b__law_web_error_3 : FS := sFor (iRg1 (eB1 oLenQ (eQ (eV 0)))) (.nm 3) (sFor (iRg1 (eB1 oLenQ (eQ (eV 0)))) (.nm 4) (sIf (tAndF (eT (e2 oNin (eV 4) (eV 2))) (eT (eNil id (lQ (lComp [5] (iE (e2 oIx (e2 oIx (eV 0) (eV 4)) (eC (.int 1)))) (.nm 5) (eT (e2 oNin (eV 5) (eV 2))) (eC (.int 1))))))) (sExp (eM1 oApp (eV 2) (eV 4))) (sNx)))
noncomputable def b__law_web_error_4 : FS := sRet (eIf (eT (e2 oEq (eB1 oLenQ (eQ (eV 2))) (eB1 oLenQ (eQ (eV 0))))) (eC .non) (eTup (aC (eC .non) (aC (eC (.str "ring")) (aN)))))
noncomputable def b__law_web_error : FS := sSeq (b__law_web_error_0) (sSeq (b__law_web_error_1) (sSeq (b__law_web_error_2) (sSeq (b__law_web_error_3) (b__law_web_error_4))))
noncomputable def F__law_web_error : List D → Sto → Out D := runF 1 6 b__law_web_error
theorem fn__law_web_error (T : Txt K mg) : Fn P w K mg base 4 "_law_web_error" F__law_web_error :=
  fn_of (b := b__law_web_error) rfl T.t__law_web_error rfl rfl sc__law_web_error fun _ cdv A outer s H E hr =>
      ms_cons (ms_if (mt_w (mw_or (mt_not (mt_val (me_isi bt_tuple (by decide) rfl T.g_isinstance bt_isinstance rfl T.g_tuple (mv 0)))) (mw_or1 (mt_not (mt_cle2 (me_int) (me_len rfl T.g_len (mq_e (mv 0))) (me_int)))))) (ms_one (ms_ret (me_tup (ma_cons (me_non) (ma_cons (me_str) (ma_nil))) (len_cons (len_cons len_nil))))) (ms_nil))
      (ms_cons (ms_for (passes_of rfl) rfl (mi_range1 rfl T.g_range (me_len rfl T.g_len (mq_e (mv 0)))) (mg_nm 1 sc__law_web_error.nd) (ms_one (ms_if (mt_isn (me_call (fn__law_fault T) (hr.mono (by decide)) (takes_of rfl rfl rfl rfl) rfl (ma_cons (mv 0) (ma_cons (mv 1) (ma_nil)))) (me_non)) (ms_one (ms_ret (me_call (fn__law_fault T) (hr.mono (by decide)) (takes_of rfl rfl rfl rfl) rfl (ma_cons (mv 0) (ma_cons (mv 1) (ma_nil)))))) (ms_nil))))
      (ms_cons (ms_set (me_l (ml_lst (ma_nil) len_nil)) (mg_nm 2 sc__law_web_error.nd))
      (ms_cons (ms_for (passes_of rfl) rfl (mi_range1 rfl T.g_range (me_len rfl T.g_len (mq_e (mv 0)))) (mg_nm 3 sc__law_web_error.nd) (ms_one (ms_for (passes_of rfl) rfl (mi_range1 rfl T.g_range (me_len rfl T.g_len (mq_e (mv 0)))) (mg_nm 4 sc__law_web_error.nd) (ms_one (ms_if (mt_w (mw_and (mt_nin (mv 4) (mv 2)) (mw_and1 (mt_eqNil hr.units (ms_l (ml_lc (own := [("one", 5)]) rfl sc__law_web_error.nd (mi_e (me_ix (me_ix (mv 0) (mv 4)) (me_int))) (blkOk_by (by kernel_rfl)) (fun _ _ _ _ _ => mg_nm 5 sc__law_web_error.nd) (fun _ _ _ _ _ => mts_one (mt_nin (mv 5) (mv 2))) (fun _ _ _ _ _ => me_int))))))) (ms_one (ms_exp (me_lm1 PySem.F.slot_list_append PySem.F.type_list_append mt_append o2_app (mv 2) (mv 4)))) (ms_nil))))))
      (ms_one (ms_ret (me_if (mt_eq hr.units (me_len rfl T.g_len (mq_e (mv 2))) (me_len rfl T.g_len (mq_e (mv 0)))) (me_non) (me_tup (ma_cons (me_non) (ma_cons (me_str) (ma_nil))) (len_cons (len_cons len_nil)))))))))
/-! ### _law_number: slots 0 word, 1 sign -/
theorem sc__law_number : FnScope ["word", "sign"] ["word"] (defScope s__law_number) := ⟨rfl, rfl, rfl, by decide +kernel, rfl, by decide +kernel, by decide +kernel⟩
noncomputable def b__law_number_0 : FS := sIf (tOrF (eT (e2 oNin (eB1 oLenS (eV 0)) (eL (lLst (aC (eC (.int 1)) (aC (eC (.int 2)) (aN))))))) (eT (eNil not (lQ (lComp [1] (iStrD (eV 0)) (.nm 1) (eT (e2 oNinS (eV 1) (eC (.str "0123456789")))) (eV 1)))))) (sRet (eC .non)) (sNx)
noncomputable def b__law_number_1 : FS := sRet (eIf (tOrF (eT (e2 oEq (eB1 oLenS (eV 0)) (eC (.int 1)))) (eT (e2 oNe (e2 oIx (eV 0) (eC (.int 0))) (eC (.str "0"))))) (eB1 oIntS (eV 0)) (eC .non))
noncomputable def b__law_number : FS := sSeq (b__law_number_0) (b__law_number_1)
noncomputable def F__law_number : List D → Sto → Out D := runF 1 2 b__law_number
theorem fn__law_number (T : Txt K mg) : Fn P w K mg base 1 "_law_number" F__law_number :=
  fn_of (b := b__law_number) rfl T.t__law_number rfl rfl sc__law_number fun _ cdv A outer s H E hr =>
      ms_cons (ms_if (mt_w (mw_or (mt_nin (me_lenS rfl T.g_len (mv 0)) (me_l (ml_lst (ma_cons (me_int) (ma_cons (me_int) (ma_nil))) (len_cons (len_cons len_nil))))) (mw_or1 (mt_neNil hr.units (ms_l (ml_lc (own := [("sign", 1)]) rfl sc__law_number.nd (mi_str (mv 0)) (blkOk_by (by kernel_rfl)) (fun _ _ _ _ _ => mg_nm 1 sc__law_number.nd) (fun _ _ _ _ _ => mts_one (mt_ninS (mv 1) (me_str))) (fun _ _ _ _ _ => mv 1))))))) (ms_one (ms_ret (me_non))) (ms_nil))
      (ms_one (ms_ret (me_if (mt_w (mw_or (mt_eq hr.units (me_lenS rfl T.g_len (mv 0)) (me_int)) (mw_or1 (mt_ne hr.units (me_ix (mv 0) (me_int)) (me_str))))) (me_intS rfl T.g_int bt_int (mv 0)) (me_non))))
/-! ### _law_step: slots 0 line, 1 words, 2 kind, 3 below, 4 inputs, 5 word -/
theorem sc__law_step : FnScope ["line", "words", "kind", "below", "inputs", "word"] ["line"] (defScope s__law_step) := ⟨rfl, rfl, rfl, by decide +kernel, rfl, by decide +kernel, by decide +kernel⟩
noncomputable def b__law_step_0 : FS := sSet (.nm 1) (eL (lSplit (eV 0) (eC (.str " "))))
noncomputable def b__law_step_1 : FS := sSet (.nm 2) (e2 oIx (eV 1) (eC (.int 0)))
noncomputable def b__law_step_2_0 : FS := sSet (.nm 3) (e2 oEq (eSl (eV 2) (pN) (pS1 (eC (.int 1)))) (eC (.str "-")))
noncomputable def b__law_step_2_1 : FS := sSet (.nm 2) (eCall F__law_number (aC (eIf (eT (eV 3)) (eSl (eV 2) (pS1 (eC (.int 1))) (pN)) (eV 2)) (aN)))
noncomputable def b__law_step_2_2 : FS := sIf (tOrF (eT (e2 oIs (eV 2) (eC .non))) (tAndF (eT (eV 3)) (eT (e2 oEq (eV 2) (eC (.int 0)))))) (sRet (eC .non)) (sNx)
noncomputable def b__law_step_2_3 : FS := sSet (.nm 2) (eIf (eT (eV 3)) (e2 oSub (eC (.int 0)) (eV 2)) (eV 2))
noncomputable def b__law_step_2 : FS := sIf (eT (e2 oNin (eV 2) (eL (lLst (aC (eC (.str "in")) (aC (eC (.str "neg")) (aC (eC (.str "+")) (aC (eC (.str "-")) (aC (eC (.str "*")) (aC (eC (.str "pick")) (aN))))))))))) (sSeq (b__law_step_2_0) (sSeq (b__law_step_2_1) (sSeq (b__law_step_2_2) (b__law_step_2_3)))) (sNx)
noncomputable def b__law_step_3 : FS := sSet (.nm 4) (eL (lComp [5] (iE (eSl (eV 1) (pS1 (eC (.int 1))) (pN))) (.nm 5) (tTrue) (eCall F__law_number (aC (eV 5) (aN)))))
noncomputable def b__law_step_4 : FS := sIf (tOrF (eT (e2 oNe (eB1 oLenQ (eQ (eV 4))) (eCall F__law_many (aC (eV 2) (aN))))) (eT (e2 oIn (eC .non) (eV 4)))) (sRet (eC .non)) (sNx)
noncomputable def b__law_step_5 : FS := sRet (eTup (aC (eV 2) (aC (eB1 oTup (eQ (eV 4))) (aN))))
noncomputable def b__law_step : FS := sSeq (b__law_step_0) (sSeq (b__law_step_1) (sSeq (b__law_step_2) (sSeq (b__law_step_3) (sSeq (b__law_step_4) (b__law_step_5)))))
noncomputable def F__law_step : List D → Sto → Out D := runF 1 6 b__law_step
theorem fn__law_step (T : Txt K mg) : Fn P w K mg base 2 "_law_step" F__law_step :=
  fn_of (b := b__law_step) rfl T.t__law_step rfl rfl sc__law_step fun _ cdv A outer s H E hr =>
      ms_cons (ms_set (me_l (ml_split (mv 0) (me_str))) (mg_nm 1 sc__law_step.nd))
      (ms_cons (ms_set (me_ix (mv 1) (me_int)) (mg_nm 2 sc__law_step.nd))
      (ms_cons (ms_if (mt_nin (mv 2) (me_l (ml_lst (ma_cons (me_str) (ma_cons (me_str) (ma_cons (me_str) (ma_cons (me_str) (ma_cons (me_str) (ma_cons (me_str) (ma_nil))))))) (len_cons (len_cons (len_cons (len_cons (len_cons (len_cons len_nil))))))))) (ms_cons (ms_set (me_eq hr.units (me_sl (mv 2) (mo_none) (mo_some (me_int))) (me_str)) (mg_nm 3 sc__law_step.nd)) (ms_cons (ms_set (me_call (fn__law_number T) (hr.mono (by decide)) (takes_of rfl rfl rfl rfl) rfl (ma_cons (me_if (mt_val (mv 3)) (me_sl (mv 2) (mo_some (me_int)) (mo_none)) (mv 2)) (ma_nil))) (mg_nm 2 sc__law_step.nd)) (ms_cons (ms_if (mt_w (mw_or (mt_is (mv 2) (me_non)) (mw_or1 (mt_w (mw_and (mt_val (mv 3)) (mw_and1 (mt_eq hr.units (mv 2) (me_int)))))))) (ms_one (ms_ret (me_non))) (ms_nil)) (ms_one (ms_set (me_if (mt_val (mv 3)) (me_sub (me_int) (mv 2)) (mv 2)) (mg_nm 2 sc__law_step.nd)))))) (ms_nil))
      (ms_cons (ms_setLc (i := 4) (own := [("word", 5)]) rfl sc__law_step.nd rfl rfl (sw_true rfl rfl rfl (by decide +kernel)) (mi_e (me_sl (mv 1) (mo_some (me_int)) (mo_none))) (blkOk_by (by kernel_rfl)) (fun _ _ _ _ _ => mg_nm 5 sc__law_step.nd) (fun _ _ _ _ _ => mts_nil) (fun _ _ _ _ _ => me_call (fn__law_number T) (hr.mono (by decide)) takes0 rfl (ma_cons (mv 5) (ma_nil))))
      (ms_cons (ms_if (mt_w (mw_or (mt_ne hr.units (me_len rfl T.g_len (mq_e (mv 4))) (me_call (fn__law_many T) (hr.mono (by decide)) (takes_of rfl rfl rfl rfl) rfl (ma_cons (mv 2) (ma_nil)))) (mw_or1 (mt_in (me_non) (mv 4))))) (ms_one (ms_ret (me_non))) (ms_nil))
      (ms_one (ms_ret (me_tup (ma_cons (mv 2) (ma_cons (me_tupOf rfl T.g_tuple bt_tuple (mq_e (mv 4))) (ma_nil))) (len_cons (len_cons len_nil)))))))))
/-! ### _law_due: slots 0 thing, 1 steps, 2 error, 3 line -/
theorem sc__law_due : FnScope ["thing", "steps", "error", "line"] ["thing"] (defScope s__law_due) := ⟨rfl, rfl, rfl, by decide +kernel, rfl, by decide +kernel, by decide +kernel⟩
noncomputable def b__law_due_0 : FS := sIf (tNotF (eT (e1 (oIsi "str") (eV 0)))) (sRet (eL (lLst (aC (eC (.str "text")) (aC (eC .non) (aC (eC (.bl true)) (aN))))))) (sNx)
noncomputable def b__law_due_1 : FS := sSet (.nm 1) (eL (lComp [3] (iL (lSplit (eV 0) (eC (.str "\n")))) (.nm 3) (tTrue) (eCall F__law_step (aC (eV 3) (aN)))))
noncomputable def b__law_due_2 : FS := sIf (eT (e2 oInP (eC .non) (eV 1))) (sRet (eL (lLst (aC (eC (.str "text")) (aC (eM1 oIndexP (eV 1) (eC .non)) (aC (eC (.bl true)) (aN))))))) (sNx)
noncomputable def b__law_due_3 : FS := sSet (.nm 2) (eCall F__law_web_error (aC (eB1 oTup (eQ (eV 1))) (aN)))
noncomputable def b__law_due_4 : FS := sRet (eL (eIf (eT (e2 oIsN (eV 2) (eC .non))) (lLst (aC (eC (.str "web")) (aC (eV 2) (aC (eC (.bl true)) (aN))))) (lLst (aC (eC (.str "told")) (aC (eB1 oTup (eQ (eV 1))) (aN))))))
noncomputable def b__law_due : FS := sSeq (b__law_due_0) (sSeq (b__law_due_1) (sSeq (b__law_due_2) (sSeq (b__law_due_3) (b__law_due_4))))
noncomputable def F__law_due : List D → Sto → Out D := runF 1 4 b__law_due
theorem fn__law_due (T : Txt K mg) : Fn P w K mg base 5 "_law_due" F__law_due :=
  fn_of (b := b__law_due) rfl T.t__law_due rfl rfl sc__law_due fun _ cdv A outer s H E hr =>
      ms_cons (ms_if (mt_not (mt_val (me_isi bt_str (by decide) rfl T.g_isinstance bt_isinstance rfl T.g_str (mv 0)))) (ms_one (ms_ret (me_l (ml_lst (ma_cons (me_str) (ma_cons (me_non) (ma_cons (me_bl) (ma_nil)))) (len_cons (len_cons (len_cons len_nil))))))) (ms_nil))
      (ms_cons (ms_setLc (i := 1) (own := [("line", 3)]) rfl sc__law_due.nd rfl rfl (sw_true rfl rfl rfl (by decide +kernel)) (mi_l (ml_split (mv 0) (me_str))) (blkOk_by (by kernel_rfl)) (fun _ _ _ _ _ => mg_nm 3 sc__law_due.nd) (fun _ _ _ _ _ => mts_nil) (fun _ _ _ _ _ => me_call (fn__law_step T) (hr.mono (by decide)) takes0 rfl (ma_cons (mv 3) (ma_nil))))
      (ms_cons (ms_if (mt_inP (by have := hr.un; omega) (me_non) (mv 1)) (ms_one (ms_ret (me_l (ml_lst (ma_cons (me_str) (ma_cons (me_lm1 PySem.F.slot_list_index PySem.F.type_list_index (mt_indexP (by have := hr.un; omega)) o2_indexP (mv 1) (me_non)) (ma_cons (me_bl) (ma_nil)))) (len_cons (len_cons (len_cons len_nil))))))) (ms_nil))
      (ms_cons (ms_set (me_call (fn__law_web_error T) (hr.mono (by decide)) (takes_of rfl rfl rfl rfl) rfl (ma_cons (me_tupOf rfl T.g_tuple bt_tuple (mq_e (mv 1))) (ma_nil))) (mg_nm 2 sc__law_due.nd))
      (ms_one (ms_ret (me_l (ml_if (mt_isn (mv 2) (me_non)) (ml_lst (ma_cons (me_str) (ma_cons (mv 2) (ma_cons (me_bl) (ma_nil)))) (len_cons (len_cons (len_cons len_nil)))) (ml_lst (ma_cons (me_str) (ma_cons (me_tupOf rfl T.g_tuple bt_tuple (mq_e (mv 1))) (ma_nil))) (len_cons (len_cons len_nil))))))))))
/-! ### law: slots 0 script, 1 deck, 2 turn, 3 text, 4 other, 5 k, 6 odd -/
theorem sc_law : FnScope ["script", "deck", "turn", "text", "other", "k", "odd"] ["script"] (defScope s_law) := ⟨rfl, rfl, rfl, by decide +kernel, rfl, by decide +kernel, by decide +kernel⟩
noncomputable def b_law_0 : FS := sSet (.nm 1) (eCall F__law_deck (aC (eV 0) (aN)))
noncomputable def b_law_1_0 : FS := sSet (.nm 3) (eCall F__law_text (aC (eCall F__law_some_web (aC (eV 1) (aC (eC (.int 10)) (aN)))) (aN)))
noncomputable def b_law_1_1 : FS := sSet (.nm 4) (eV 3)
noncomputable def b_law_1_2_0 : FS := sSet (.nm 4) (eCall F__law_other (aC (eV 1) (aC (eIf (eT (e2 oLt (eV 5) (eC (.int 3)))) (eV 3) (eV 4)) (aN))))
noncomputable def b_law_1_2_1 : FS := sIf (eT (e2 oNe (eB1 oRepr (eCall F__law_told (aC (eV 4) (aN)))) (eB1 oRepr (eCall F__law_due (aC (eV 4) (aN)))))) (sRet (eC (.bl false))) (sNx)
noncomputable def b_law_1_2 : FS := sFor (iRg1 (eC (.int 5))) (.nm 5) (sSeq (b_law_1_2_0) (b_law_1_2_1))
noncomputable def b_law_1_3 : FS := sSet (.nm 6) (eCall F__law_one (aC (eV 1) (aC (eL (lLst (aC (eC .non) (aC (eC (.int 5)) (aC (eC (.bl true)) (aC (eL (lLst (aC (eV 3) (aN)))) (aC (eTup (aC (eV 3) (aN))) (aC (eDk0) (aC (eC (.str "")) (aC (eC (.str "\n")) (aC (eC (.str "in\n")) (aC (eC (.str " in")) (aC (e2 oAdd (eV 3) (eC (.str "\n"))) (aN)))))))))))))) (aN))))
noncomputable def b_law_1_4 : FS := sIf (eT (e2 oNe (eB1 oRepr (eCall F__law_told (aC (eV 6) (aN)))) (eB1 oRepr (eCall F__law_due (aC (eV 6) (aN)))))) (sRet (eC (.bl false))) (sNx)
noncomputable def b_law_1 : FS := sFor (iRg1 (eC (.int 8))) (.nm 2) (sSeq (b_law_1_0) (sSeq (b_law_1_1) (sSeq (b_law_1_2) (sSeq (b_law_1_3) (b_law_1_4)))))
noncomputable def b_law_2 : FS := sRet (eC (.bl true))
noncomputable def b_law : FS := sSeq (b_law_0) (sSeq (b_law_1) (b_law_2))
noncomputable def F_law : List D → Sto → Out D := runF 1 7 b_law
theorem fnG_law (T : Txt K mg) {f : Addr} {fd : FuncData} (F : Fun K "law" "law" s_law f fd) : FnG P w K mg base 7 f fd ["script"] (spF K F_law) :=
  fnG_of (b := b_law) rfl F rfl rfl sc_law fun cdv A outer s H E hr hga =>
      ms_cons (ms_set (me_call (fn__law_deck T) (hr.mono (by decide)) (takes_of rfl rfl rfl rfl) rfl (ma_cons (mv 0) (ma_nil))) (mg_nm 1 sc_law.nd))
      (ms_cons (ms_for (passes_of rfl) rfl (mi_range1 rfl T.g_range (me_int)) (mg_nm 2 sc_law.nd) (ms_cons (ms_set (me_call (fn__law_text T) (hr.mono (by decide)) (takes_of rfl rfl rfl rfl) rfl (ma_cons (me_call (fn__law_some_web T) (hr.mono (by decide)) (takes_of rfl rfl rfl rfl) rfl (ma_cons (mv 1) (ma_cons (me_int) (ma_nil)))) (ma_nil))) (mg_nm 3 sc_law.nd)) (ms_cons (ms_set (mv 3) (mg_nm 4 sc_law.nd)) (ms_cons (ms_for (passes_of rfl) rfl (mi_range1 rfl T.g_range (me_int)) (mg_nm 5 sc_law.nd) (ms_cons (ms_set (me_call (fn__law_other T) (hr.mono (by decide)) (takes_of rfl rfl rfl rfl) rfl (ma_cons (mv 1) (ma_cons (me_if (mt_lt (mv 5) (me_int)) (mv 3) (mv 4)) (ma_nil)))) (mg_nm 4 sc_law.nd)) (ms_one (ms_if (mt_ne hr.units (me_repr hga hr.units rfl T.g_repr bt_repr (me_call (fn__law_told T) (hr.mono (by decide)) (takes_of rfl rfl rfl rfl) rfl (ma_cons (mv 4) (ma_nil)))) (me_repr hga hr.units rfl T.g_repr bt_repr (me_call (fn__law_due T) (hr.mono (by decide)) (takes_of rfl rfl rfl rfl) rfl (ma_cons (mv 4) (ma_nil))))) (ms_one (ms_ret (me_bl))) (ms_nil))))) (ms_cons (ms_set (me_call (fn__law_one T) (hr.mono (by decide)) (takes_of rfl rfl rfl rfl) rfl (ma_cons (mv 1) (ma_cons (me_l (ml_lst (ma_cons (me_non) (ma_cons (me_int) (ma_cons (me_bl) (ma_cons (me_l (ml_lst (ma_cons (mv 3) (ma_nil)) (len_cons len_nil))) (ma_cons (me_tup (ma_cons (mv 3) (ma_nil)) (len_cons len_nil)) (ma_cons (me_dk0) (ma_cons (me_str) (ma_cons (me_str) (ma_cons (me_str) (ma_cons (me_str) (ma_cons (me_add (mv 3) (me_str)) (ma_nil)))))))))))) (len_cons (len_cons (len_cons (len_cons (len_cons (len_cons (len_cons (len_cons (len_cons (len_cons (len_cons len_nil))))))))))))) (ma_nil)))) (mg_nm 6 sc_law.nd)) (ms_one (ms_if (mt_ne hr.units (me_repr hga hr.units rfl T.g_repr bt_repr (me_call (fn__law_told T) (hr.mono (by decide)) (takes_of rfl rfl rfl rfl) rfl (ma_cons (mv 6) (ma_nil)))) (me_repr hga hr.units rfl T.g_repr bt_repr (me_call (fn__law_due T) (hr.mono (by decide)) (takes_of rfl rfl rfl rfl) rfl (ma_cons (mv 6) (ma_nil))))) (ms_one (ms_ret (me_bl))) (ms_nil))))))))
      (ms_one (ms_ret (me_bl))))
end
end Pz

set_option Elab.async false
set_option linter.all false
set_option maxRecDepth 100000
set_option maxHeartbeats 4000000
/-! Pw1: how the functions are reckoned: W o P says that o ends well, and so that P holds. -/
namespace Pz
open PySem PySem.Spec PyProof.Rows L2
@[irreducible] def Out.W {α : Type} (o : Out α) (P : α → Sto → Prop) : Prop := match o with
  | .ok a S => P a S
  | _ => False
@[irreducible] def OutS.W (o : OutS) (N : Loc → Sto → Prop) (R : D → Sto → Prop) (B C : Loc → Sto → Prop) : Prop := match o with
  | .nx l S => N l S
  | .rt d S => R d S
  | .bk l S => B l S
  | .ct l S => C l S
  | _ => False
section
variable {α β : Type} {P : α → Sto → Prop} {Q : β → Sto → Prop} {N : Loc → Sto → Prop} {R : D → Sto → Prop} {B C : Loc → Sto → Prop} {l : Loc} {S : Sto} {f g : FS} {u v : FE}
@[simp] theorem W_ok {a : α} : (Out.ok a S).W P ↔ P a S := by with_unfolding_all exact Iff.rfl
@[simp] theorem W_bad : (Out.bad : Out α).W P ↔ False := by with_unfolding_all exact Iff.rfl
@[simp] theorem W_bind {o : Out α} {k : α → Sto → Out β} : (o.bind k).W Q ↔ o.W fun a S => (k a S).W Q := by cases o <;> with_unfolding_all exact Iff.rfl
theorem Out.W.mono {o : Out α} {P' : α → Sto → Prop} (h : o.W P) (i : ∀ a S, P a S → P' a S) : o.W P' := by
  cases o with
  | ok a S => with_unfolding_all exact i _ _ h
  | ex => with_unfolding_all exact h.elim
  | bad => with_unfolding_all exact h.elim
theorem OutS.W.mono {o : OutS} {N' : Loc → Sto → Prop} {R' : D → Sto → Prop} {B' C' : Loc → Sto → Prop} (h : o.W N R B C) (i : ∀ l S, N l S → N' l S) (j : ∀ d S, R d S → R' d S) (k : ∀ l S, B l S → B' l S) (m : ∀ l S, C l S → C' l S) : o.W N' R' B' C' := by
  cases o with
  | nx l S => with_unfolding_all exact i _ _ h
  | rt d S => with_unfolding_all exact j _ _ h
  | bk l S => with_unfolding_all exact k _ _ h
  | ct l S => with_unfolding_all exact m _ _ h
  | ex => with_unfolding_all exact h.elim
  | bad => with_unfolding_all exact h.elim
theorem W_eq {o : Out α} {a : α} (h : o = .ok a S) : o.W P ↔ P a S := by rw [h]; with_unfolding_all exact Iff.rfl
theorem Out.W.ok {o : Out α} (h : o.W P) : ∃ a S, o = .ok a S ∧ P a S := by
  cases o with
  | ok a S => with_unfolding_all exact ⟨a, S, rfl, h⟩
  | ex => with_unfolding_all exact h.elim
  | bad => with_unfolding_all exact h.elim
theorem W_iff_ok {o : Out α} {a : α} : (o.W fun b S' => b = a ∧ S' = S) ↔ o = .ok a S := by
  cases o with
  | ok b S' =>
    rw [W_ok]
    refine ⟨fun h => by rw [h.1, h.2], fun h => ?_⟩
    cases h
    exact ⟨rfl, rfl⟩
  | ex => exact ⟨fun h => by with_unfolding_all exact h.elim, fun h => by cases h⟩
  | bad => exact ⟨fun h => by with_unfolding_all exact h.elim, fun h => by cases h⟩
def asB (d : D) (X : Bool → Prop) : Prop := match d with
  | .bl k => X k
  | _ => False
def asI (d : D) (X : Int → Prop) : Prop := match d with
  | .int k => X k
  | _ => False
@[simp] theorem asB_bl {k : Bool} {X : Bool → Prop} : asB (.bl k) X ↔ X k := by with_unfolding_all exact Iff.rfl
@[simp] theorem asI_int {k : Int} {X : Int → Prop} : asI (.int k) X ↔ X k := by with_unfolding_all exact Iff.rfl
theorem W_if {c : Prop} [Decidable c] {o o' : Out α} : (if c then o else o').W P ↔ if c then o.W P else o'.W P := by split <;> with_unfolding_all exact Iff.rfl
/-! statements -/
@[simp] theorem W_nx : (OutS.nx l S).W N R B C ↔ N l S := by with_unfolding_all exact Iff.rfl
@[simp] theorem W_rt {d : D} : (OutS.rt d S).W N R B C ↔ R d S := by with_unfolding_all exact Iff.rfl
@[simp] theorem W_bk : (OutS.bk l S).W N R B C ↔ B l S := by with_unfolding_all exact Iff.rfl
@[simp] theorem W_ct : (OutS.ct l S).W N R B C ↔ C l S := by with_unfolding_all exact Iff.rfl
@[simp] theorem W_badS : (OutS.bad).W N R B C ↔ False := by with_unfolding_all exact Iff.rfl
@[simp] theorem W_toS {o : Out α} {k : α → Sto → OutS} : (toS l o k).W N R B C ↔ o.W fun a S => (k a S).W N R B C := by cases o <;> with_unfolding_all exact Iff.rfl
@[simp] theorem W_sNx : (sNx l S).W N R B C ↔ N l S := by with_unfolding_all exact Iff.rfl
@[simp] theorem W_sPass : (sPass l S).W N R B C ↔ N l S := by with_unfolding_all exact Iff.rfl
@[simp] theorem W_sBrk : (sBrk l S).W N R B C ↔ B l S := by with_unfolding_all exact Iff.rfl
@[simp] theorem W_sCnt : (sCnt l S).W N R B C ↔ C l S := by with_unfolding_all exact Iff.rfl
@[simp] theorem W_sSeq : (sSeq f g l S).W N R B C ↔ (f l S).W (fun l S => (g l S).W N R B C) R B C := by
  unfold sSeq
  cases f l S <;> with_unfolding_all exact Iff.rfl
@[simp] theorem W_sExp : (sExp u l S).W N R B C ↔ (u l S).W fun _ S1 => N l S1 := by unfold sExp; rw [W_toS]; with_unfolding_all exact Iff.rfl
@[simp] theorem W_sRet : (sRet u l S).W N R B C ↔ (u l S).W R := by unfold sRet; rw [W_toS]; with_unfolding_all exact Iff.rfl
@[simp] theorem W_sRetN : (sRetN l S).W N R B C ↔ R .non S := by with_unfolding_all exact Iff.rfl
@[simp] theorem W_sIf {t : FT} : (sIf t f g l S).W N R B C ↔ (t l S).W fun k S1 => if k = true then (f l S1).W N R B C else (g l S1).W N R B C := by
  unfold sIf
  rw [W_toS]
  refine iff_of_eq (congrArg _ (funext fun k => funext fun S1 => ?_))
  cases k <;> rfl
@[simp] theorem W_sSetN {i : Nat} : (sSet (.nm i) u l S).W N R B C ↔ (u l S).W fun d S1 => N (l.set i (some d)) S1 := by
  unfold sSet
  rw [W_toS]; with_unfolding_all exact Iff.rfl
@[simp] theorem W_sSetT {ts : List Tg} : (sSet (.tp ts) u l S).W N R B C ↔ (u l S).W fun d S1 => ∃ l1, Tg.put (.tp ts) d l = some l1 ∧ N l1 S1 := by
  unfold sSet
  rw [W_toS]
  refine iff_of_eq (congrArg _ (funext fun d => funext fun S1 => ?_))
  cases Tg.put (.tp ts) d l with
  | none => simp
  | some l1 => simp
@[simp] theorem W_sSetIx {w : FE} : (sSetIx u v w l S).W N R B C ↔ (u l S).W fun d S1 => (v l S1).W fun x S2 => (w l S2).W fun y S3 => ∃ S4, oSetIx d x y S3 = some S4 ∧ N l S4 := by
  unfold sSetIx
  rw [W_toS]
  refine iff_of_eq (congrArg _ (funext fun d => funext fun S1 => ?_))
  rw [W_toS]
  refine congrArg _ (funext fun x => funext fun S2 => ?_)
  rw [W_toS]
  refine congrArg _ (funext fun y => funext fun S3 => ?_)
  cases oSetIx d x y S3 with
  | none => simp
  | some l1 => simp
theorem W_sPar {i j : Nat} {fa : FA} : (sPar i j fa l S).W N R B C ↔ (fa l S).W fun ds S1 => ∃ x y, ds = [x, y] ∧ N ((l.set i (some x)).set j (some y)) S1 := by
  unfold sPar
  rw [W_toS]
  refine iff_of_eq (congrArg _ (funext fun ds => funext fun S1 => ?_))
  match ds with
  | [] => simp
  | [_] => simp
  | [x, y] =>
    refine propext ⟨?_, ?_⟩
    · with_unfolding_all exact fun h => ⟨x, y, rfl, h⟩
    · rintro ⟨_, _, h1, h2⟩
      cases h1
      with_unfolding_all exact h2
  | _ :: _ :: _ :: _ => simp
/-! expressions -/
@[simp] theorem W_eC {d : D} {P : D → Sto → Prop} : (eC d l S).W P ↔ P d S := by with_unfolding_all exact Iff.rfl
theorem W_eV {i : Nat} {P : D → Sto → Prop} : (eV i l S).W P ↔ ∃ d, l[i]? = some (some d) ∧ P d S := by
  unfold eV
  split
  · rename_i d h; rw [h]; simp
  · rename_i h
    constructor
    · with_unfolding_all exact fun q => q.elim
    · rintro ⟨d, h1, _⟩
      with_unfolding_all exact absurd h1 (h d)
@[simp] theorem W_eV0 {x : D} {r : Loc} {P : D → Sto → Prop} : (eV 0 (some x :: r) S).W P ↔ P x S := by with_unfolding_all exact Iff.rfl
@[simp] theorem W_eVs {i : Nat} {x : Option D} {r : Loc} {P : D → Sto → Prop} : (eV (i + 1) (x :: r) S).W P ↔ (eV i r S).W P := by with_unfolding_all exact Iff.rfl
@[simp] theorem W_e1 {o : D → Sto → Out D} {P : D → Sto → Prop} : (e1 o u l S).W P ↔ (u l S).W fun x S1 => (o x S1).W P := by unfold e1; rw [W_bind]
@[simp] theorem W_e2 {o : D → D → Sto → Out D} {P : D → Sto → Prop} : (e2 o u v l S).W P ↔ (u l S).W fun x S1 => (v l S1).W fun y S2 => (o x y S2).W P := by unfold e2; simp only [W_bind]
@[simp] theorem W_eB2 {o : D → D → Sto → Out D} {P : D → Sto → Prop} : (eB2 o u v l S).W P ↔ (u l S).W fun x S1 => (v l S1).W fun y S2 => (o x y S2).W P := W_e2
@[simp] theorem W_eB1 {o : α → Sto → Out β} {w : Loc → Sto → Out α} : (eB1 o w l S).W Q ↔ (w l S).W fun x S1 => (o x S1).W Q := by unfold eB1; rw [W_bind]
@[simp] theorem W_eT {P : Bool → Sto → Prop} : (eT u l S).W P ↔ (u l S).W fun d S1 => asB d fun k => P k S1 := by
  unfold eT
  rw [W_bind]
  refine iff_of_eq (congrArg _ (funext fun d => funext fun S1 => ?_))
  cases d <;> simp [tst, asB]
variable {s t : FT}
@[simp] theorem W_tNotF {P : Bool → Sto → Prop} : (tNotF s l S).W P ↔ (s l S).W fun k S1 => P (!k) S1 := by unfold tNotF; rw [W_bind]; with_unfolding_all exact Iff.rfl
@[simp] theorem W_tAndF {P : Bool → Sto → Prop} : (tAndF s t l S).W P ↔ (s l S).W fun k S1 => if k = true then (t l S1).W P else P false S1 := by
  unfold tAndF
  rw [W_bind]
  refine iff_of_eq (congrArg _ (funext fun k => funext fun S1 => ?_))
  cases k <;> simp
@[simp] theorem W_tOrF {P : Bool → Sto → Prop} : (tOrF s t l S).W P ↔ (s l S).W fun k S1 => if k = true then P true S1 else (t l S1).W P := by
  unfold tOrF
  rw [W_bind]
  refine iff_of_eq (congrArg _ (funext fun k => funext fun S1 => ?_))
  cases k <;> simp
@[simp] theorem W_tTrue {P : Bool → Sto → Prop} : (tTrue l S).W P ↔ P true S := by with_unfolding_all exact Iff.rfl
@[simp] theorem W_eIf {w z : Loc → Sto → Out α} : (eIf s w z l S).W P ↔ (s l S).W fun k S1 => if k = true then (w l S1).W P else (z l S1).W P := by
  unfold eIf
  rw [W_bind]
  refine iff_of_eq (congrArg _ (funext fun k => funext fun S1 => ?_))
  cases k <;> simp
@[simp] theorem W_eNot {P : D → Sto → Prop} : (eNot u l S).W P ↔ (u l S).W fun d S1 => asB d fun k => P (.bl (!k)) S1 := by
  unfold eNot
  rw [W_bind]
  refine iff_of_eq (congrArg _ (funext fun d => funext fun S1 => ?_))
  cases d <;> simp [asB]
@[simp] theorem W_eAnd {P : D → Sto → Prop} : (eAnd u v l S).W P ↔ (u l S).W fun d S1 => asB d fun k => if k = true then (v l S1).W P else P (.bl false) S1 := by
  unfold eAnd
  rw [W_bind]
  refine iff_of_eq (congrArg _ (funext fun d => funext fun S1 => ?_))
  cases d with
  | bl k => cases k <;> simp
  | _ => simp [asB]
@[simp] theorem W_eOr {P : D → Sto → Prop} : (eOr u v l S).W P ↔ (u l S).W fun d S1 => asB d fun k => if k = true then P (.bl true) S1 else (v l S1).W P := by
  unfold eOr
  rw [W_bind]
  refine iff_of_eq (congrArg _ (funext fun d => funext fun S1 => ?_))
  cases d with
  | bl k => cases k <;> simp
  | _ => simp [asB]
@[simp] theorem W_eCh {o o' : D → D → Sto → Out D} {w : FE} {P : D → Sto → Prop} : (eCh o o' u v w l S).W P ↔ (u l S).W fun x S1 => (v l S1).W fun y S2 => (o x y S2).W fun d S3 => asB d fun k => if k = true then (w l S3).W fun z S4 => (o' y z S4).W P else P (.bl false) S3 := by
  unfold eCh
  simp only [W_bind]
  refine iff_of_eq (congrArg _ (funext fun x => funext fun S1 => congrArg _ (funext fun y => funext fun S2 => congrArg _ (funext fun d => funext fun S3 => ?_))))
  cases d with
  | bl k => cases k <;> simp
  | _ => simp [asB]
@[simp] theorem W_eDk0 {P : D → Sto → Prop} : (eDk0 l S).W P ↔ P (.ref S.length) (S ++ [.dk []]) := by with_unfolding_all exact Iff.rfl
@[simp] theorem W_aN {P : List D → Sto → Prop} : (aN l S).W P ↔ P [] S := by with_unfolding_all exact Iff.rfl
@[simp] theorem W_aC {fa : FA} {P : List D → Sto → Prop} : (aC u fa l S).W P ↔ (u l S).W fun x S1 => (fa l S1).W fun xs S2 => P (x :: xs) S2 := by unfold aC; simp only [W_bind, W_ok]
@[simp] theorem W_eTup {fa : FA} {P : D → Sto → Prop} : (eTup fa l S).W P ↔ (fa l S).W fun ds S1 => P (.tup ds) S1 := by unfold eTup; simp only [W_bind, W_ok]
@[simp] theorem W_lLst {fa : FA} {P : LV → Sto → Prop} : (lLst fa l S).W P ↔ (fa l S).W fun ds S1 => P (.tmp ds) S1 := by unfold lLst; simp only [W_bind, W_ok]
@[simp] theorem W_eCall {F : List D → Sto → Out D} {fa : FA} {P : D → Sto → Prop} : (eCall F fa l S).W P ↔ (fa l S).W fun ds S1 => (F ds S1).W P := by unfold eCall; simp only [W_bind]
def oeL (x : LV) (S1 : Sto) : Out D := match x with
  | .tmp xs => .ok (.ref S1.length) (S1 ++ [.lst xs])
  | .at n => .ok (.ref n) S1
@[simp] theorem W_eL {w : FL} {P : D → Sto → Prop} : (eL w l S).W P ↔ (w l S).W fun x S1 => (oeL x S1).W P := by unfold eL; rw [W_bind]; with_unfolding_all exact Iff.rfl
@[simp] theorem oeL_tmp {xs : List D} : oeL (.tmp xs) S = .ok (.ref S.length) (S ++ [.lst xs]) := rfl
@[simp] theorem oeL_at {n : Nat} : oeL (.at n) S = .ok (.ref n) S := rfl
@[simp] theorem W_lE {P : LV → Sto → Prop} : (lE u l S).W P ↔ (u l S).W fun d S1 => (toAt d S1).W P := by unfold lE; rw [W_bind]
@[simp] theorem toAt_ref {n : Nat} : toAt (.ref n) S = .ok (.at n) S := rfl
@[simp] theorem W_eQ {P : List D → Sto → Prop} : (eQ u l S).W P ↔ (u l S).W fun d S1 => (qD d S1).W P := by unfold eQ; rw [W_bind]
@[simp] theorem W_eS {P : List D → Sto → Prop} : (eS u l S).W P ↔ (u l S).W fun d S1 => (sD d S1).W P := by unfold eS; rw [W_bind]
@[simp] theorem W_lQ {w : FL} {P : List D → Sto → Prop} : (lQ w l S).W P ↔ (w l S).W fun d S1 => (qL d S1).W P := by unfold lQ; rw [W_bind]
@[simp] theorem W_eNil {k : Bool → Bool} {w : FQ} {P : D → Sto → Prop} : (eNil k w l S).W P ↔ (w l S).W fun xs S1 => P (.bl (k xs.isEmpty)) S1 := by unfold eNil; rw [W_bind]; with_unfolding_all exact Iff.rfl
theorem W_qD {d : D} {P : List D → Sto → Prop} : (qD d S).W P ↔ ∃ xs, seqD S d = some xs ∧ P xs S := by
  unfold qD
  cases seqD S d with
  | none => simp
  | some xs => simp
@[simp] theorem qD_tup {xs : List D} : qD (.tup xs) S = .ok xs S := rfl
@[simp] theorem qD_rl {xs : List D} : qD (.rl xs) S = .ok xs S := rfl
@[simp] theorem sD_rl {xs : List D} : sD (.rl xs) S = .ok xs S := rfl
theorem qD_ref {n : Nat} {xs : List D} (h : S[n]? = some (.lst xs)) : qD (.ref n) S = .ok xs S := by simp only [qD, seqD, h]
theorem sD_ref {n : Nat} {xs : List D} (h : S[n]? = some (.lst xs)) : sD (.ref n) S = .ok xs S := by simp only [sD, seqD, h]
@[simp] theorem qL_tmp {xs : List D} : qL (.tmp xs) S = .ok xs S := rfl
theorem qL_at {n : Nat} {xs : List D} (h : S[n]? = some (.lst xs)) : qL (.at n) S = .ok xs S := by simp only [qL, LV.get, h]
@[simp] theorem W_eM1 {k : D → D → Sto → Out D} {P : D → Sto → Prop} : (eM1 k u v l S).W P ↔ (u l S).W fun x S1 => (isL x S1).W fun _ _ => (v l S1).W fun y S2 => (k x y S2).W P := by unfold eM1; simp only [W_bind]
@[simp] theorem W_eM0 {k : D → Sto → Out D} {P : D → Sto → Prop} : (eM0 k u l S).W P ↔ (u l S).W fun x S1 => (isL x S1).W fun _ _ => (k x S1).W P := by unfold eM0; simp only [W_bind]
theorem W_isL {n : Nat} {xs : List D} {P : D → Sto → Prop} (h : S[n]? = some (.lst xs)) : (isL (.ref n) S).W P ↔ P (.ref n) S := by simp only [isL, h, W_ok]
@[simp] theorem W_pN {P : Option Int → Sto → Prop} : (pN l S).W P ↔ P none S := by with_unfolding_all exact Iff.rfl
@[simp] theorem W_pS1 {P : Option Int → Sto → Prop} : (pS1 u l S).W P ↔ (u l S).W fun d S1 => asI d fun i => P (some i) S1 := by
  unfold pS1
  rw [W_bind]
  refine iff_of_eq (congrArg _ (funext fun d => funext fun S1 => ?_))
  cases d <;> simp [oPart, asI]
@[simp] theorem W_eSl {a b : FO} {P : D → Sto → Prop} : (eSl u a b l S).W P ↔ (u l S).W fun x S1 => (a l S1).W fun i S2 => (b l S2).W fun j S3 => (oSl x i j S3).W P := by unfold eSl; simp only [W_bind]
@[simp] theorem oSl_tup {xs : List D} {i j : Option Int} : oSl (.tup xs) i j S = .ok (.tup (cutL xs i j)) S := rfl
@[simp] theorem oSl_rl {xs : List D} {i j : Option Int} : oSl (.rl xs) i j S = .ok (.ref S.length) (S ++ [.lst (cutL xs i j)]) := rfl
theorem oSl_ref {n : Nat} {xs : List D} {i j : Option Int} (h : S[n]? = some (.lst xs)) : oSl (.ref n) i j S = .ok (.ref S.length) (S ++ [.lst (cutL xs i j)]) := by simp only [oSl, h]
def olSlR (x : D) (i j : Option Int) (S3 : Sto) : Out LV := match x with
  | .rl xs => .ok (.tmp (cutL xs i j)) S3
  | .ref n => match S3[n]? with
    | some (.lst xs) => .ok (.tmp (cutL xs i j)) S3
    | _ => .bad
  | _ => .bad
@[simp] theorem W_lSlR {a b : FO} {P : LV → Sto → Prop} : (lSlR u a b l S).W P ↔ (u l S).W fun x S1 => (a l S1).W fun i S2 => (b l S2).W fun j S3 => (olSlR x i j S3).W P := by unfold lSlR; simp only [W_bind]; with_unfolding_all exact Iff.rfl
@[simp] theorem olSlR_rl {xs : List D} {i j : Option Int} : olSlR (.rl xs) i j S = .ok (.tmp (cutL xs i j)) S := rfl
theorem olSlR_ref {n : Nat} {xs : List D} {i j : Option Int} (h : S[n]? = some (.lst xs)) : olSlR (.ref n) i j S = .ok (.tmp (cutL xs i j)) S := by simp only [olSlR, h]
def olCat (x y : LV) (S2 : Sto) : Out LV := match x.get S2, y.get S2 with
  | some xs, some ys => if xs.length + ys.length ≤ sizeLine then .ok (.tmp (xs ++ ys)) S2 else .bad
  | _, _ => .bad
@[simp] theorem W_lCat {w z : FL} {P : LV → Sto → Prop} : (lCat w z l S).W P ↔ (w l S).W fun x S1 => (z l S1).W fun y S2 => (olCat x y S2).W P := by unfold lCat; simp only [W_bind]; with_unfolding_all exact Iff.rfl
theorem W_olCat {x y : LV} {xs ys : List D} {P : LV → Sto → Prop} (hx : x.get S = some xs) (hy : y.get S = some ys) (hz : xs.length + ys.length ≤ sizeLine) : (olCat x y S).W P ↔ P (.tmp (xs ++ ys)) S := by simp only [olCat, hx, hy, if_pos hz, W_ok]
def olRep (x : LV) (y : D) (S2 : Sto) : Out LV := match x.get S2, y with
  | some xs, .int k => if k < 2 ^ 63 ∧ -(2 ^ 63) ≤ k ∧ xs.length * k.toNat ≤ sizeLine then .ok (.tmp (List.replicate k.toNat xs).flatten) S2 else .bad
  | _, _ => .bad
@[simp] theorem W_lRep {w : FL} {P : LV → Sto → Prop} : (lRep w u l S).W P ↔ (w l S).W fun x S1 => (u l S1).W fun y S2 => (olRep x y S2).W P := by unfold lRep; simp only [W_bind]; with_unfolding_all exact Iff.rfl
theorem W_olRep {x : LV} {k : Int} {xs : List D} {P : LV → Sto → Prop} (hx : x.get S = some xs) (hk : k < 2 ^ 63 ∧ -(2 ^ 63) ≤ k ∧ xs.length * k.toNat ≤ sizeLine) : (olRep x (.int k) S).W P ↔ P (.tmp (List.replicate k.toNat xs).flatten) S := by simp only [olRep, hx, if_pos hk, W_ok]
@[simp] theorem get_tmp {xs : List D} : (LV.tmp xs).get S = some xs := rfl
theorem get_at {n : Nat} {xs : List D} (h : S[n]? = some (.lst xs)) : (LV.at n).get S = some xs := by simp only [LV.get, h]
@[simp] theorem W_lRg1 {P : LV → Sto → Prop} : (lRg1 u l S).W P ↔ (u l S).W fun x S1 => asI x fun n => (lRg 0 n S1).W P := by
  unfold lRg1
  rw [W_bind]
  refine iff_of_eq (congrArg _ (funext fun d => funext fun S1 => ?_))
  cases d <;> simp [asI]
@[simp] theorem W_lRg2 {P : LV → Sto → Prop} : (lRg2 u v l S).W P ↔ (u l S).W fun x S1 => (v l S1).W fun y S2 => asI x fun i => asI y fun j => (lRg i j S2).W P := by
  unfold lRg2
  simp only [W_bind]
  refine iff_of_eq (congrArg _ (funext fun d => funext fun S1 => congrArg _ (funext fun d' => funext fun S2 => ?_)))
  cases d <;> cases d' <;> simp [asI]
theorem W_lRg {a b : Int} {P : LV → Sto → Prop} (h : rgOk a b = true) : (lRg a b S).W P ↔ P (.tmp (rgD a b)) S := by simp only [lRg, h, if_true, W_ok]
@[simp] theorem W_sPar2 {i j : Nat} : (sPar i j (aC u (aC v aN)) l S).W N R B C ↔ (u l S).W fun x S1 => (v l S1).W fun y S2 => N ((l.set i (some x)).set j (some y)) S2 := by
  rw [W_sPar]
  simp only [W_aC, W_aN]
  refine iff_of_eq (congrArg _ (funext fun x => funext fun S1 => congrArg _ (funext fun y => funext fun S2 => propext ⟨?_, fun h => ⟨x, y, rfl, h⟩⟩)))
  rintro ⟨_, _, h1, h2⟩
  cases h1
  with_unfolding_all exact h2
end
end Pz

set_option Elab.async false
set_option linter.all false
set_option maxRecDepth 100000
set_option maxHeartbeats 4000000
/-! Pw2: the operators' values; loops; comprehensions; a def. -/
namespace Pz
open PySem PySem.Spec PyProof.Rows L2
section
variable {S : Sto} {i j : Int} {b c : Bool} {xs ys : List D}
@[simp] theorem oAdd_int : oAdd (.int i) (.int j) S = .ok (.int (i + j)) S := rfl
@[simp] theorem oSub_int : oSub (.int i) (.int j) S = .ok (.int (i - j)) S := rfl
@[simp] theorem oLt_int : oLt (.int i) (.int j) S = .ok (.bl (decide (i < j))) S := rfl
@[simp] theorem oLe_int : oLe (.int i) (.int j) S = .ok (.bl (decide (i ≤ j))) S := rfl
@[simp] theorem oGt_int : oGt (.int i) (.int j) S = .ok (.bl (decide (j < i))) S := rfl
@[simp] theorem oGe_int : oGe (.int i) (.int j) S = .ok (.bl (decide (j ≤ i))) S := rfl
@[simp] theorem oNeg_int : oNeg (.int i) S = .ok (.int (-i)) S := rfl
@[simp] theorem oMax2_int : oMax2 (.int i) (.int j) S = .ok (.int (if j > i then j else i)) S := rfl
@[simp] theorem oMin2_int : oMin2 (.int i) (.int j) S = .ok (.int (if j < i then j else i)) S := rfl
@[simp] theorem oAbs_int : oAbs (.int i) S = .ok (.int (if i < 0 then -i else i)) S := rfl
@[simp] theorem oInt_int : oInt (.int i) S = .ok (.int i) S := rfl
theorem oMod_int (h : j ≠ 0) : oMod (.int i) (.int j) S = .ok (.int (i.fmod j)) S := by
  show (if cMod i j = true then _ else _) = _
  rw [if_pos (by simpa [cMod] using h)]
theorem oMod_pos (h : 0 < j) : oMod (.int i) (.int j) S = .ok (.int (i % j)) S := by
  rw [oMod_int (by omega), Int.fmod_eq_emod_of_nonneg i (by omega)]
theorem oDiv_int (h : j ≠ 0) (h2 : j.natAbs < 1073741824) : oDiv (.int i) (.int j) S = .ok (.int (i.fdiv j)) S := by
  show (if cDiv i j = true then _ else _) = _
  rw [if_pos (by simp [cDiv, h, h2])]
theorem oDiv_pos (h : 0 < j) (h2 : j < 1073741824) : oDiv (.int i) (.int j) S = .ok (.int (i / j)) S := by
  rw [oDiv_int (by omega) (by omega), Int.fdiv_eq_ediv_of_nonneg i (by omega)]
theorem oMul_int (h : cMul i j = true) : oMul (.int i) (.int j) S = .ok (.int (i * j)) S := by
  show (if cMul i j = true then _ else _) = _
  rw [if_pos h]
theorem oPow_int (h : cPow i j = true) : oPow (.int i) (.int j) S = .ok (.int (i ^ j.toNat)) S := by
  show (if cPow i j = true then _ else _) = _
  rw [if_pos h]
theorem oAdd_tup (h : xs.length + ys.length ≤ sizeLine) : oAdd (.tup xs) (.tup ys) S = .ok (.tup (xs ++ ys)) S := by simp only [oAdd, if_pos h]
theorem oEq_of {x y : D} (h : dEq S x y = some b) : oEq x y S = .ok (.bl b) S := by simp only [oEq, h]
theorem oNe_of {x y : D} (h : dEq S x y = some b) : oNe x y S = .ok (.bl (!b)) S := by simp only [oNe, h]
@[simp] theorem oEq_int : oEq (.int i) (.int j) S = .ok (.bl (decide (i = j))) S := rfl
@[simp] theorem oNe_int : oNe (.int i) (.int j) S = .ok (.bl (!decide (i = j))) S := rfl
@[simp] theorem oEq_str {x y : Str} : oEq (.str x) (.str y) S = .ok (.bl (decide (x = y))) S := rfl
@[simp] theorem oNe_str {x y : Str} : oNe (.str x) (.str y) S = .ok (.bl (!decide (x = y))) S := rfl
@[simp] theorem oIs_non {x : D} : oIs x .non S = .ok (.bl (dNon x)) S := rfl
@[simp] theorem oIsN_non {x : D} : oIsN x .non S = .ok (.bl (!dNon x)) S := rfl
@[simp] theorem dNon_non : dNon .non = true := rfl
@[simp] theorem dNon_int : dNon (.int i) = false := rfl
@[simp] theorem dNon_str {x : Str} : dNon (.str x) = false := rfl
@[simp] theorem dNon_tup : dNon (.tup xs) = false := rfl
@[simp] theorem dNon_ref {n : Nat} : dNon (.ref n) = false := rfl
theorem oIsi_of {T t : String} {x : D} (h : tyD S x = some t) : oIsi T x S = .ok (.bl (isB t T)) S := by simp only [oIsi, h]
@[simp] theorem oLenQ_eq : oLenQ xs S = .ok (.int xs.length) S := rfl
@[simp] theorem oTup_eq : oTup xs S = .ok (.tup xs) S := rfl
@[simp] theorem oLst_eq : oLst xs S = .ok (.tmp xs) S := rfl
@[simp] theorem oEmpT_tup {k : Bool → Bool} : oEmpT k (.tup xs) S = .ok (.bl (k xs.isEmpty)) S := rfl
theorem atI_nat {α : Type} {xs : List α} {k : Nat} : L2.atI xs (k : Int) = xs[k]? := by
  unfold L2.atI ixN
  rw [if_pos (by omega)]
  by_cases h : k < xs.length
  · rw [if_pos (by omega)]; simp
  · rw [if_neg (by omega)]
    simp only [Option.bind_none]
    rw [List.getElem?_eq_none (by omega)]
theorem atI_int {α : Type} {xs : List α} (h : 0 ≤ i) : L2.atI xs i = xs[i.toNat]? := by
  obtain ⟨k, rfl⟩ := Int.eq_ofNat_of_zero_le h
  rw [atI_nat, Int.toNat_natCast]
@[simp] theorem atI_0 {α : Type} {x : α} {xs : List α} : L2.atI (x :: xs) 0 = some x := by rw [atI_int (by omega)]; rfl
@[simp] theorem atI_1 {α : Type} {x y : α} {xs : List α} : L2.atI (x :: y :: xs) 1 = some y := by rw [atI_int (by omega)]; rfl
@[simp] theorem atI_2 {α : Type} {x y z : α} {xs : List α} : L2.atI (x :: y :: z :: xs) 2 = some z := by rw [atI_int (by omega)]; rfl
theorem oIx_tup {d : D} (h : L2.atI xs i = some d) : oIx (.tup xs) (.int i) S = .ok d S := by
  simp only [oIx, seqD, h]
theorem oIx_ref {n : Nat} {d : D} (hn : S[n]? = some (.lst xs)) (h : L2.atI xs i = some d) : oIx (.ref n) (.int i) S = .ok d S := by
  simp only [oIx, seqD, hn, h]
theorem oIx_seq {x d : D} (hn : seqD S x = some xs) (h : L2.atI xs i = some d) : oIx x (.int i) S = .ok d S := by
  cases x with
  | str z => cases hn
  | _ => simp only [oIx, hn, h]
theorem oApp_ref {n : Nat} {y : D} (hn : S[n]? = some (.lst xs)) (h : xs.length < sizeLine) : oApp (.ref n) y S = .ok .non (S.set n (.lst (xs ++ [y]))) := by simp only [oApp, hn, if_pos h]
theorem oPop_ref {n : Nat} {y : D} (hn : S[n]? = some (.lst (xs ++ [y]))) : oPop (.ref n) S = .ok y (S.set n (.lst xs)) := by
  simp only [oPop, hn]
  have e : (xs ++ [y])[(xs ++ [y]).length - 1]? = some y := by simp
  rw [e]
  simp
theorem ixN_int {n : Nat} (h0 : 0 ≤ i) (h1 : i < n) : ixN n i = some i.toNat := by
  unfold ixN
  rw [if_pos h0, if_pos h1]
theorem oPopAt_ref {n : Nat} {y : D} (hn : S[n]? = some (.lst xs)) (h0 : 0 ≤ i) (hy : xs[i.toNat]? = some y) (hi : i < 2 ^ 63) : oPopAt (.ref n) (.int i) S = .ok y (S.set n (.lst (xs.eraseIdx i.toNat))) := by
  have hl := (List.getElem?_eq_some_iff.mp hy).1
  simp only [oPopAt, hn]
  rw [ixN_int h0 (by omega)]
  simp only [hy]
  rw [if_pos ⟨by omega, hi⟩]
theorem oSetIx_ref {n : Nat} {v : D} (hn : S[n]? = some (.lst xs)) (h0 : 0 ≤ i) (h1 : i < xs.length) : oSetIx v (.ref n) (.int i) S = some (S.set n (.lst (xs.set i.toNat v))) := by
  simp only [oSetIx, hn]
  rw [ixN_int h0 h1]
end
section
variable {N : Loc → Sto → Prop} {R : D → Sto → Prop} {B C : Loc → Sto → Prop} {l : Loc} {S : Sto} {f g : FS}
theorem W_forL {gd : Sto → Prop} {t : Tg} {b : FS} (I : Nat → Loc → Sto → Prop) : ∀ (xs : List D) (k : Nat) {l : Loc} {S : Sto}, I k l S →
    (∀ i x l S, xs[i]? = some x → I (k + i) l S → gd S ∧ ∃ l1, t.put x l = some l1 ∧ (b l1 S).W (I (k + i + 1)) R N (I (k + i + 1))) → (∀ l S, I (k + xs.length) l S → gd S ∧ N l S) → (forL gd t b xs l S).W N R B C
  | [], k, l, S, h0, hs, he => by
    obtain ⟨h1, h2⟩ := he l S h0
    unfold forL
    rw [if_pos h1]
    with_unfolding_all exact h2
  | x :: xs, k, l, S, h0, hs, he => by
    obtain ⟨h1, l1, h2, h3⟩ := hs 0 x l S rfl h0
    unfold forL
    rw [if_pos h1]
    simp only [h2]
    have nx : ∀ l2 S2, I (k + 0 + 1) l2 S2 → (forL gd t b xs l2 S2).W N R B C := fun l2 S2 q => W_forL I xs (k + 1) (by simpa using q) (fun i y l S e q => by
      have := hs (i + 1) y l S (by simpa using e) (by rw [show k + (i + 1) = k + 1 + i by omega]; with_unfolding_all exact q)
      rw [show k + (i + 1) = k + 1 + i by omega] at this
      with_unfolding_all exact this) fun l S q => he l S (by rw [List.length_cons, show k + (xs.length + 1) = k + 1 + xs.length by omega]; with_unfolding_all exact q)
    cases e : b l1 S with
    | nx l2 S2 => rw [e] at h3; with_unfolding_all exact nx l2 S2 h3
    | ct l2 S2 => rw [e] at h3; with_unfolding_all exact nx l2 S2 h3
    | bk l2 S2 => rw [e] at h3; with_unfolding_all exact h3
    | rt d S2 => rw [e] at h3; with_unfolding_all exact h3
    | ex => rw [e] at h3; with_unfolding_all exact h3.elim
    | bad => rw [e] at h3; with_unfolding_all exact h3.elim
@[simp] theorem W_sFor {fi : FI} {t : Tg} {b : FS} : (sFor fi t b l S).W N R B C ↔ (fi l S).W fun x S1 => (forL x.gd t b x.its l S1).W N R B C := by unfold sFor; rw [W_toS]
theorem W_loopW {t : FT} {b : FS} (I : Nat → Loc → Sto → Prop) (hs : ∀ k l S, I k l S → (t l S).W fun c S1 => if c = true then (b l S1).W (fun l2 S2 => ∃ j, j < k ∧ I j l2 S2) R N (fun l2 S2 => ∃ j, j < k ∧ I j l2 S2) else N l S1) :
    ∀ (n k : Nat) (l : Loc) (S : Sto), k < n → I k l S → (loopW t b n l S).W N R B C
  | 0, k, l, S, h, _ => absurd h (Nat.not_lt_zero _)
  | n + 1, k, l, S, h, q => by
    unfold loopW
    rw [W_toS]
    refine (hs k l S q).mono fun c S1 w => ?_
    cases c with
    | false => simpa using w
    | true =>
      simp only [if_true] at w ⊢
      have nx : ∀ l2 S2, (∃ j, j < k ∧ I j l2 S2) → (loopW t b n l2 S2).W N R B C := fun l2 S2 ⟨j, h1, h2⟩ => W_loopW I hs n j l2 S2 (by omega) h2
      cases e : b l S1 with
      | nx l2 S2 => rw [e] at w; with_unfolding_all exact nx l2 S2 w
      | ct l2 S2 => rw [e] at w; with_unfolding_all exact nx l2 S2 w
      | bk l2 S2 => rw [e] at w; with_unfolding_all exact w
      | rt d S2 => rw [e] at w; with_unfolding_all exact w
      | ex => rw [e] at w; with_unfolding_all exact w.elim
      | bad => rw [e] at w; with_unfolding_all exact w.elim
theorem W_while {t : FT} {b : FS} (I : Nat → Loc → Sto → Prop) {k : Nat} (hk : k < 1000000000) (h0 : I k l S) (hs : ∀ k l S, I k l S → (t l S).W fun c S1 => if c = true then (b l S1).W (fun l2 S2 => ∃ j, j < k ∧ I j l2 S2) R N (fun l2 S2 => ∃ j, j < k ∧ I j l2 S2) else N l S1) :
    (sWhile t b l S).W N R B C := W_loopW I hs _ k l S hk h0
/-! sources -/
variable {u v : FE} {P : Src → Sto → Prop}
@[simp] theorem W_iL {w : FL} : (iL w l S).W P ↔ (w l S).W fun x S1 => (kLV x S1).W P := by unfold iL; rw [W_bind]
@[simp] theorem W_iE : (iE u l S).W P ↔ (u l S).W fun x S1 => (kD x S1).W P := by unfold iE; rw [W_bind]
@[simp] theorem W_iEn : (iEn u l S).W P ↔ (u l S).W fun x S1 => (kEn x S1).W P := by unfold iEn; rw [W_bind]
@[simp] theorem kLV_tmp {xs : List D} : kLV (.tmp xs) S = .ok ⟨xs, noGd⟩ S := rfl
theorem kLV_at {n : Nat} {xs : List D} (h : S[n]? = some (.lst xs)) : kLV (.at n) S = .ok ⟨xs, atGd n xs⟩ S := by simp only [kLV, h]
@[simp] theorem kD_tup {xs : List D} : kD (.tup xs) S = .ok ⟨xs, noGd⟩ S := rfl
@[simp] theorem kD_rl {xs : List D} : kD (.rl xs) S = .ok ⟨xs, noGd⟩ S := rfl
theorem kD_ref {n : Nat} {xs : List D} (h : S[n]? = some (.lst xs)) : kD (.ref n) S = .ok ⟨xs, atGd n xs⟩ S := by simp only [kD, kLV, h]
@[simp] theorem kEn_tup {xs : List D} : kEn (.tup xs) S = .ok ⟨enumD 0 xs, noGd⟩ S := rfl
theorem kEn_ref {n : Nat} {xs : List D} (h : S[n]? = some (.lst xs)) : kEn (.ref n) S = .ok ⟨enumD 0 xs, atGd n xs⟩ S := by simp only [kEn, h]
@[simp] theorem W_iRg1 : (iRg1 u l S).W P ↔ (u l S).W fun x S1 => asI x fun n => (kRg 0 n S1).W P := by
  unfold iRg1
  rw [W_bind]
  refine iff_of_eq (congrArg _ (funext fun d => funext fun S1 => ?_))
  cases d <;> simp [asI]
@[simp] theorem W_iRg2 : (iRg2 u v l S).W P ↔ (u l S).W fun x S1 => (v l S1).W fun y S2 => asI x fun i => asI y fun j => (kRg i j S2).W P := by
  unfold iRg2
  simp only [W_bind]
  refine iff_of_eq (congrArg _ (funext fun d => funext fun S1 => congrArg _ (funext fun d' => funext fun S2 => ?_)))
  cases d <;> cases d' <;> simp [asI]
theorem W_kRg {a b : Int} (h1 : rgB a = true) (h2 : rgB b = true) : (kRg a b S).W P ↔ P ⟨rgD a b, noGd⟩ S := by simp only [kRg, h1, h2, Bool.and_self, if_true, W_ok]
theorem rgD_nat (n : Nat) : rgD 0 n = (List.range n).map fun (i : Nat) => D.int i := by simp [rgD]
@[simp] theorem rgD_len {a b : Int} : (rgD a b).length = (b - a).toNat := by simp [rgD]
theorem rgD_get {a b : Int} {i : Nat} {d : D} (h : (rgD a b)[i]? = some d) : d = .int (a + i) ∧ a + i < b := by
  have hl := (List.getElem?_eq_some_iff.mp h).1
  rw [rgD_len] at hl
  refine ⟨?_, by omega⟩
  simp only [rgD, List.getElem?_map] at h
  cases e : (List.range (b - a).toNat)[i]? with
  | none => rw [e] at h; cases h
  | some j =>
    rw [e] at h
    rw [List.getElem?_range hl] at e
    cases e
    cases h
    rfl
/-! comprehensions -/
theorem W_lcL {gd : Sto → Prop} {t : Tg} {tt : FT} {te : FE} {l : Loc} {P : LV → Sto → Prop} (J : Nat → List D → Sto → Prop) : ∀ (xs : List D) (k : Nat) {acc : List D} {S : Sto}, J k acc S →
    (∀ i d acc S, xs[i]? = some d → J (k + i) acc S → gd S ∧ ∃ l1, t.put d l = some l1 ∧ (tt l1 S).W fun c S1 => if c = true then (te l1 S1).W fun y S2 => J (k + i + 1) (acc ++ [y]) S2 else J (k + i + 1) acc S1) →
    (∀ acc S, J (k + xs.length) acc S → gd S ∧ P (.tmp acc) S) → (lcL gd t tt te l xs acc S).W P
  | [], k, acc, S, h0, hs, he => by
    obtain ⟨h1, h2⟩ := he acc S h0
    unfold lcL
    rw [if_pos h1]
    with_unfolding_all exact h2
  | x :: xs, k, acc, S, h0, hs, he => by
    obtain ⟨h1, l1, h2, h3⟩ := hs 0 x acc S rfl h0
    unfold lcL
    rw [if_pos h1]
    simp only [h2]
    have nx : ∀ acc S2, J (k + 0 + 1) acc S2 → (lcL gd t tt te l xs acc S2).W P := fun acc S2 q => W_lcL J xs (k + 1) (by simpa using q) (fun i y acc S e q => by
      have := hs (i + 1) y acc S (by simpa using e) (by rw [show k + (i + 1) = k + 1 + i by omega]; with_unfolding_all exact q)
      rw [show k + (i + 1) = k + 1 + i by omega] at this
      with_unfolding_all exact this) fun acc S q => he acc S (by rw [List.length_cons, show k + (xs.length + 1) = k + 1 + xs.length by omega]; with_unfolding_all exact q)
    obtain ⟨c, S1, e, h3⟩ := h3.ok
    rw [e]
    show ((if c = true then _ else _ : Out LV)).W P
    cases c with
    | false =>
      simp only [Bool.false_eq_true, if_false] at h3 ⊢
      with_unfolding_all exact nx _ _ h3
    | true =>
      simp only [if_true] at h3 ⊢
      obtain ⟨y, S2, e2, h3⟩ := h3.ok
      rw [e2]
      with_unfolding_all exact nx _ _ h3
@[simp] theorem noGd_t : noGd S ↔ True := by with_unfolding_all exact Iff.rfl
@[simp] theorem atGd_iff {n : Nat} {xs : List D} : atGd n xs S ↔ S[n]? = some (.lst xs) := by with_unfolding_all exact Iff.rfl
@[simp] theorem W_lcL_nil {gd : Sto → Prop} {t : Tg} {tt : FT} {te : FE} {l : Loc} {acc : List D} {P : LV → Sto → Prop} : (lcL gd t tt te l [] acc S).W P ↔ gd S ∧ P (.tmp acc) S := by
  unfold lcL
  by_cases h : gd S
  · rw [if_pos h]; simp [h]
  · rw [if_neg h]; simp [h]
@[simp] theorem W_lComp {vs : List Nat} {fi : FI} {t : Tg} {tt : FT} {te : FE} {P : LV → Sto → Prop} : (lComp vs fi t tt te l S).W P ↔ (fi l S).W fun x S1 => x.its.length ≤ sizeLine ∧ (lcL x.gd t tt te (wipeL l vs) x.its [] S1).W P := by
  unfold lComp
  rw [W_bind]
  refine iff_of_eq (congrArg _ (funext fun d => funext fun S1 => ?_))
  by_cases h : d.its.length ≤ sizeLine
  · rw [if_pos h]; simp [h]
  · rw [if_neg h]; simp [h]
/-- one that changes nothing -/
theorem W_lcP {gd : Sto → Prop} {t : Tg} {tt : FT} {te : FE} {l : Loc} {P : LV → Sto → Prop} (p : D → Bool) (h : D → D) {S : Sto} (hg : gd S) {xs : List D}
    (hs : ∀ d ∈ xs, ∃ l1, t.put d l = some l1 ∧ (tt l1 S).W fun c S1 => c = p d ∧ S1 = S ∧ (c = true → (te l1 S).W fun y S2 => y = h d ∧ S2 = S)) (he : P (.tmp ((xs.filter p).map h)) S) : (lcL gd t tt te l xs [] S).W P := by
  refine W_lcL (fun k acc S' => S' = S ∧ acc = ((xs.take k).filter p).map h) xs 0 ⟨rfl, by simp⟩ (fun i d acc S' e ⟨e1, e2⟩ => ?_) (fun acc S' ⟨e1, e2⟩ => ?_)
  · subst e1 e2
    obtain ⟨l1, h1, h2⟩ := hs d (List.mem_of_getElem? e)
    refine ⟨hg, l1, h1, h2.mono fun c S1 ⟨e1, e2, h3⟩ => ?_⟩
    subst e2
    have ht : xs.take (0 + i + 1) = xs.take (0 + i) ++ [d] := by
      have hl := (List.getElem?_eq_some_iff.mp e).1
      rw [Nat.zero_add, List.take_succ, e]; rfl
    cases c with
    | false =>
      simp only [Bool.false_eq_true, if_false]
      rw [ht, List.filter_append]
      simp [← e1]
    | true =>
      simp only [if_true]
      refine (h3 rfl).mono fun y S2 ⟨e3, e4⟩ => ⟨e4, ?_⟩
      rw [ht, List.filter_append, e3]
      simp [← e1]
  · subst e1 e2
    refine ⟨hg, ?_⟩
    rw [Nat.zero_add, List.take_length]
    with_unfolding_all exact he
end
section
variable {n nl : Nat} {b : FS} {ds : List D} {S : Sto} {P : D → Sto → Prop}
theorem gc_same {d : D} {S' : Sto} (h : S'.length ≤ S.length) : gc S d S' = .ok d S' := by
  unfold gc
  by_cases q : Old S S' ∧ clD S.length d = true
  · rw [if_pos q, List.take_of_length_le h]
  · rw [if_neg q]
    split
    · rename_i m
      split
      · rename_i o ho
        have hl := (List.getElem?_eq_some_iff.mp ho).1
        rw [if_neg (fun z => by omega)]
      · rfl
    · rfl
@[simp] theorem gc_self {d : D} : gc S d S = .ok d S := gc_same (Nat.le_refl _)
theorem gc_cut {d : D} {S' : Sto} (h1 : Old S S') (h2 : clD S.length d = true) : gc S d S' = .ok d (S'.take S.length) := by unfold gc; rw [if_pos ⟨h1, h2⟩]
theorem gc_lst {m : Nat} {o : Ob} {S' : Sto} (h1 : Old S S') (h2 : S'[m]? = some o) (h3 : S.length ≤ m) (h4 : clO S.length o = true) : gc S (.ref m) S' = .ok (.ref S.length) (S'.take S.length ++ [o]) := by
  unfold gc
  rw [if_neg (fun z => by have := z.2; simp only [clD, decide_eq_true_eq] at this; omega)]
  simp only [h2]
  rw [if_pos ⟨h1, h3, h4⟩]
theorem old_append {T : Sto} : Old S (S ++ T) := fun i o h e => .inl (by rw [List.getElem?_append_left h] at e; with_unfolding_all exact e)
theorem old_refl : Old S S := fun i o h e => .inl e
theorem gc_tmp {d : D} {T : Sto} (h2 : clD S.length d = true) : gc S d (S ++ T) = .ok d S := by rw [gc_cut old_append h2]; simp
/-- a def's end -/
theorem W_runF (hl : ds.length = n) (h : (b (ds.map some ++ List.replicate (nl - n) none) S).W (fun _ S' => (gc S .non S').W P) (fun d S' => (gc S d S').W P) (fun _ _ => False) (fun _ _ => False)) : (runF n nl b ds S).W P := by
  unfold runF
  rw [if_pos hl]
  cases e : b (ds.map some ++ List.replicate (nl - n) none) S with
  | rt d S' => rw [e] at h; with_unfolding_all exact h
  | nx l S' => rw [e] at h; with_unfolding_all exact h
  | ex => rw [e] at h; with_unfolding_all exact h.elim
  | bk => rw [e] at h; with_unfolding_all exact h.elim
  | ct => rw [e] at h; with_unfolding_all exact h.elim
  | bad => rw [e] at h; with_unfolding_all exact h.elim
end
end Pz

set_option Elab.async false
set_option linter.all false
set_option maxRecDepth 100000
set_option maxHeartbeats 4000000
/-! Pw3: typed comprehensions, numbers, lookups. -/
namespace Pz
open PySem PySem.Spec PyProof.Rows L2
@[simp] theorem st_get {S L : Sto} {k : Nat} : (S ++ L)[S.length + k]? = L[k]? := by rw [List.getElem?_append_right (by omega)]; simp
@[simp] theorem st_get0 {S L : Sto} : (S ++ L)[S.length]? = L[0]? := by rw [List.getElem?_append_right (by omega)]; simp
@[simp] theorem st_set {S L : Sto} {k : Nat} {o : Ob} : (S ++ L).set (S.length + k) o = S ++ L.set k o := by
  rw [List.set_append, if_neg (by omega)]; simp
@[simp] theorem st_set0 {S L : Sto} {o : Ob} : (S ++ L).set S.length o = S ++ L.set 0 o := by
  rw [List.set_append, if_neg (by omega)]; simp
theorem st_old {S L : Sto} {n : Nat} {o : Ob} (h : S[n]? = some o) : (S ++ L)[n]? = some o := by
  rw [List.getElem?_append_left (List.getElem?_eq_some_iff.mp h).1]; exact h
theorem seqD_ref {S : Sto} {n : Nat} {xs : List D} (h : S[n]? = some (.lst xs)) : seqD S (.ref n) = some xs := by simp only [seqD, h]
theorem W_lcM {β : Type} (f g : β → D) (p : β → Bool) {bs : List β} {gd : Sto → Prop} {t : Tg} {tt : FT} {te : FE} {l : Loc} {P : LV → Sto → Prop} {S : Sto} (hg : gd S)
    (hs : ∀ b ∈ bs, ∃ l1, t.put (f b) l = some l1 ∧ (tt l1 S).W fun c S1 => c = p b ∧ S1 = S ∧ (c = true → (te l1 S).W fun y S2 => y = g b ∧ S2 = S)) (he : P (.tmp ((bs.filter p).map g)) S) : (lcL gd t tt te l (bs.map f) [] S).W P := by
  refine W_lcL (fun k acc S' => S' = S ∧ acc = ((bs.take k).filter p).map g) _ 0 ⟨rfl, by simp⟩ (fun i d acc S' e ⟨e1, e2⟩ => ?_) (fun acc S' ⟨e1, e2⟩ => ?_)
  · subst e1 e2
    obtain ⟨b, hb, rfl⟩ : ∃ b, bs[i]? = some b ∧ f b = d := by
      rw [List.getElem?_map, Option.map_eq_some_iff] at e; exact e
    obtain ⟨l1, h1, h2⟩ := hs b (List.mem_of_getElem? hb)
    refine ⟨hg, l1, h1, h2.mono fun c S1 ⟨e1, e2, h3⟩ => ?_⟩
    subst e2
    have ht : bs.take (0 + i + 1) = bs.take (0 + i) ++ [b] := by rw [Nat.zero_add, List.take_succ, hb]; rfl
    cases c with
    | false =>
      simp only [Bool.false_eq_true, if_false]
      rw [ht, List.filter_append]
      simp [← e1]
    | true =>
      simp only [if_true]
      refine (h3 rfl).mono fun y S2 ⟨e3, e4⟩ => ⟨e4, ?_⟩
      rw [ht, List.filter_append, e3]
      simp [← e1]
  · subst e1 e2
    refine ⟨hg, ?_⟩
    rw [Nat.zero_add, List.length_map, List.take_length]
    exact he
theorem W_lcT {β : Type} (f g : β → D) {bs : List β} {gd : Sto → Prop} {t : Tg} {te : FE} {l : Loc} {P : LV → Sto → Prop} {S : Sto} (hg : gd S)
    (hs : ∀ b ∈ bs, ∃ l1, t.put (f b) l = some l1 ∧ (te l1 S).W fun y S2 => y = g b ∧ S2 = S) (he : P (.tmp (bs.map g)) S) : (lcL gd t tTrue te l (bs.map f) [] S).W P := by
  refine W_lcM f g (fun _ => true) hg (fun b hb => ?_) (by rw [List.filter_eq_self.mpr (fun _ _ => rfl)]; exact he)
  obtain ⟨l1, h1, h2⟩ := hs b hb
  exact ⟨l1, h1, W_tTrue.2 ⟨rfl, rfl, fun _ => h2⟩⟩
theorem idx_get {α : Type} [BEq α] [LawfulBEq α] {a : α} : ∀ {l : List α}, a ∈ l → l[l.idxOf a]? = some a
  | x :: xs, h => by
    by_cases e : x = a
    · subst e; rw [List.idxOf_cons, beq_self_eq_true]; rfl
    · have h' : a ∈ xs := by
        rcases List.mem_cons.mp h with q | q
        · exact absurd q.symm e
        · exact q
      rw [List.idxOf_cons, beq_false_of_ne e]
      exact idx_get h'
theorem eq_W {α : Type} {o : Out α} {a : α} {S : Sto} (h : ∀ P : α → Sto → Prop, P a S → o.W P) : o = .ok a S := W_iff_ok.mp (h _ ⟨rfl, rfl⟩)
theorem eq_Wf {F : List D → Sto → Out D} {ds : List D} {a : D} {S : Sto} (h : ∀ P : D → Sto → Prop, P a S → (F ds S).W P) : F ds S = .ok a S := W_iff_ok.mp (h _ ⟨rfl, rfl⟩)
theorem W_lcD (g : D → D) {bs : List D} {gd : Sto → Prop} {t : Tg} {te : FE} {l : Loc} {P : LV → Sto → Prop} {S : Sto} (hg : gd S)
    (hs : ∀ b ∈ bs, ∃ l1, t.put b l = some l1 ∧ (te l1 S).W fun y S2 => y = g b ∧ S2 = S) (he : P (.tmp (bs.map g)) S) : (lcL gd t tTrue te l bs [] S).W P := by
  have := W_lcT (f := id) g (bs := bs) (gd := gd) (t := t) (te := te) (l := l) (P := P) hg hs he
  rwa [List.map_id] at this
theorem W_lcDF (g : D → D) (p : D → Bool) {bs : List D} {gd : Sto → Prop} {t : Tg} {tt : FT} {te : FE} {l : Loc} {P : LV → Sto → Prop} {S : Sto} (hg : gd S)
    (hs : ∀ b ∈ bs, ∃ l1, t.put b l = some l1 ∧ (tt l1 S).W fun c S1 => c = p b ∧ S1 = S ∧ (c = true → (te l1 S).W fun y S2 => y = g b ∧ S2 = S)) (he : P (.tmp ((bs.filter p).map g)) S) : (lcL gd t tt te l bs [] S).W P := by
  have := W_lcM (f := id) g p (bs := bs) (gd := gd) (t := t) (tt := tt) (te := te) (l := l) (P := P) hg hs he
  rwa [List.map_id] at this
theorem blsD_mapF {β : Type} (f : β → Bool) (bs : List β) : blsD (bs.map fun b => D.bl (f b)) = some (bs.map f) := by
  have := blsD_map (bs.map f)
  rwa [List.map_map] at this
theorem oAll_map {β : Type} {f : β → Bool} {bs : List β} {S : Sto} : oAll (bs.map fun b => D.bl (f b)) S = .ok (.bl (bs.all f)) S := by
  simp only [oAll, blsD_mapF]
  simp [Function.comp_def]
theorem oAny_map {β : Type} {f : β → Bool} {bs : List β} {S : Sto} : oAny (bs.map fun b => D.bl (f b)) S = .ok (.bl (bs.any f)) S := by
  simp only [oAny, blsD_mapF]
  simp [Function.comp_def]
theorem intsD_mapF {β : Type} (f : β → Int) (bs : List β) : intsD (bs.map fun b => D.int (f b)) = some (bs.map f) := by
  have := intsD_map (bs.map f)
  rwa [List.map_map] at this
/-! lists of numbers -/
def encI (xs : List Nat) : List D := xs.map fun i => D.int (i : Nat)
theorem encI_len (xs : List Nat) : (encI xs).length = xs.length := by simp [encI]
theorem encI_nil : encI [] = [] := rfl
theorem encI_app (xs zs : List Nat) : encI (xs ++ zs) = encI xs ++ encI zs := by simp [encI]
theorem rgD_encI (n : Nat) : rgD 0 (n : Int) = encI (List.range n) := by rw [rgD_nat]; rfl
theorem encI_flat (xs : List Nat) : (encI xs).all flatD = true := by simp [encI, flatD]
theorem eqF_nat (a b : Nat) : eqF (.int (a : Nat)) (.int (b : Nat)) = (a == b) := by
  show ((a : Int) == (b : Int)) = (a == b)
  rw [Bool.eq_iff_iff]; simp only [beq_iff_eq]; omega
theorem findF_encI (s : Nat) : ∀ (row : List Nat) (k : Nat), s ∈ row → findF (.int (s : Nat)) (encI row) k = some (k + row.idxOf s)
  | [], _, h => by simp at h
  | x :: row, k, h => by
    show (if eqF (.int (x : Nat)) (.int (s : Nat)) = true then some k else findF (.int (s : Nat)) (encI row) (k + 1)) = _
    rw [eqF_nat]
    by_cases e : x = s
    · subst e; simp
    · have h' : s ∈ row := by
        rcases List.mem_cons.mp h with q | q
        · exact absurd q.symm e
        · exact q
      rw [if_neg (by simpa using e), findF_encI s row (k + 1) h', List.idxOf_cons, beq_false_of_ne e]
      show some (k + 1 + row.idxOf s) = some (k + (row.idxOf s + 1))
      congr 1; omega
theorem oIndex_nat {S : Sto} {n s : Nat} {row : List Nat} (h : S[n]? = some (.lst (encI row))) (hs : s ∈ row) : oIndex (.ref n) (.int (s : Nat)) S = .ok (.int (row.idxOf s : Nat)) S := by
  simp only [oIndex, h]
  rw [if_pos (by rw [encI_flat]; rfl), findF_encI s row 0 hs]
  simp
theorem oIx_encI {S : Sto} {n i v : Nat} {row : List Nat} (h : S[n]? = some (.lst (encI row))) (hv : row[i]? = some v) : oIx (.ref n) (.int (i : Nat)) S = .ok (.int (v : Nat)) S :=
  oIx_ref h (by rw [atI_nat]; simp [encI, hv])
theorem any_eqF (s : Nat) (xs : List Nat) : ((encI xs).any fun z => eqF z (.int (s : Nat))) = decide (s ∈ xs) := by
  rw [Bool.eq_iff_iff]
  simp [encI, eqF_nat]
theorem oIn_nat {S : Sto} {y : D} {s : Nat} {xs : List Nat} (h : seqD S y = some (encI xs)) : oIn (.int (s : Nat)) y S = .ok (.bl (decide (s ∈ xs))) S := by
  simp only [oIn, dIn, h]
  rw [if_pos (by rw [encI_flat]; rfl), any_eqF]
theorem oNin_nat {S : Sto} {y : D} {s : Nat} {xs : List Nat} (h : seqD S y = some (encI xs)) : oNin (.int (s : Nat)) y S = .ok (.bl (!decide (s ∈ xs))) S := by
  simp only [oNin, dIn, h]
  rw [if_pos (by rw [encI_flat]; rfl), any_eqF]
theorem clDs_ints (n : Nat) : ∀ xs : List Int, clDs n (xs.map D.int) = true
  | [] => by simp [clDs]
  | x :: xs => by simp [clDs, clD, clDs_ints n xs]
theorem clDs_all (n : Nat) : ∀ xs : List D, clDs n xs = xs.all (clD n)
  | [] => by simp [clDs]
  | x :: xs => by simp [clDs, clDs_all n xs]
theorem clDs_perm {n : Nat} {xs zs : List D} (p : xs.Perm zs) (h : clDs n xs = true) : clDs n zs = true := by
  rw [clDs_all, List.all_eq_true] at *
  exact fun d hd => h d (p.symm.subset hd)
theorem perm_eraseIdx {α : Type} : ∀ {rs : List α} {r : Nat} (h : r < rs.length), (rs[r] :: rs.eraseIdx r).Perm rs
  | x :: xs, 0, h => by simp
  | x :: xs, r + 1, h => by
    simp only [List.getElem_cons_succ, List.eraseIdx_cons_succ]
    exact (List.Perm.swap _ _ _).trans ((perm_eraseIdx (by simpa using h)).cons x)
theorem encI_cl (n : Nat) (xs : List Nat) : clDs n (encI xs) = true := by
  have := clDs_ints n (xs.map fun (i : Nat) => (i : Int))
  simpa [encI, List.map_map, Function.comp_def] using this
theorem perm_encI {zs : List D} {xs : List Nat} (p : zs.Perm (encI xs)) : ∃ ws : List Nat, zs = encI ws ∧ ws.Perm xs := by
  have key : ∀ zs : List D, (∀ d ∈ zs, ∃ i : Nat, d = .int (i : Nat)) → ∃ ws, zs = encI ws := by
    intro zs
    induction zs with
    | nil => exact fun _ => ⟨[], rfl⟩
    | cons z zs ih =>
      intro h
      obtain ⟨ws, e⟩ := ih fun d hd => h d (List.mem_cons_of_mem _ hd)
      obtain ⟨i, e2⟩ := h z List.mem_cons_self
      exact ⟨i :: ws, by rw [e, e2]; rfl⟩
  obtain ⟨ws, rfl⟩ := key zs fun d hd => by
    have := p.subset hd
    simp only [encI, List.mem_map] at this
    obtain ⟨i, _, e⟩ := this
    exact ⟨i, e.symm⟩
  refine ⟨ws, rfl, ?_⟩
  have q := p.map fun d => match d with | .int i => i.toNat | _ => 0
  simpa [encI, List.map_map, Function.comp_def] using q
theorem rgOk_small {a b : Int} (h0 : 0 ≤ a) (h1 : a ≤ 100000) (h2 : 0 ≤ b) (h3 : b ≤ 100000) : rgOk a b = true := by
  simp only [rgOk, decide_eq_true_eq]; omega
theorem rgB_small {a : Int} (h0 : 0 ≤ a) (h1 : a ≤ 100000) : rgB a = true := by
  simp only [rgB, decide_eq_true_eq]; omega
/-! slices -/
theorem sIx_pos {n d : Nat} {i : Int} (h0 : 0 ≤ i) (h1 : i ≤ n) : HT.sIx n d (some i) = i.toNat := by
  show (if i < 0 then (i + (n : Int)).toNat else min i.toNat n) = _
  rw [if_neg (by omega)]; omega
theorem sIx_over {n d : Nat} {i : Int} (h1 : (n : Int) ≤ i) : HT.sIx n d (some i) = n := by
  show (if i < 0 then (i + (n : Int)).toNat else min i.toNat n) = _
  rw [if_neg (by omega)]; omega
theorem sIx_neg {n d : Nat} {i : Int} (h0 : i < 0) : HT.sIx n d (some i) = (i + n).toNat := by
  show (if i < 0 then (i + (n : Int)).toNat else min i.toNat n) = _
  rw [if_pos h0]
theorem cutL_from {α : Type} {xs : List α} {i : Int} (h0 : 0 ≤ i) (h1 : i ≤ xs.length) : cutL xs (some i) none = xs.drop i.toNat := by
  unfold cutL
  rw [sIx_pos h0 h1]
  show (xs.drop i.toNat).take (xs.length - i.toNat) = _
  rw [List.take_of_length_le (by simp)]
theorem cutL_to {α : Type} {xs : List α} {i : Int} (h0 : 0 ≤ i) (h1 : i ≤ xs.length) : cutL xs none (some i) = xs.take i.toNat := by
  unfold cutL
  rw [sIx_pos h0 h1]
  show (xs.drop 0).take (i.toNat - 0) = _
  rw [List.drop_zero, Nat.sub_zero]
theorem cutL_toO {α : Type} {xs : List α} {i : Int} (h1 : (xs.length : Int) ≤ i) : cutL xs none (some i) = xs := by
  unfold cutL
  rw [sIx_over h1]
  show (xs.drop 0).take (xs.length - 0) = _
  rw [List.drop_zero, Nat.sub_zero, List.take_length]
theorem cutL_fromO {α : Type} {xs : List α} {i : Int} (h1 : (xs.length : Int) ≤ i) : cutL xs (some i) none = [] := by
  unfold cutL
  rw [sIx_over h1, List.drop_length, List.take_nil]
theorem cutL_to1 {α : Type} {xs : List α} : cutL xs none (some (-1)) = xs.dropLast := by
  unfold cutL
  rw [sIx_neg (by omega)]
  show (xs.drop 0).take ((-1 + (xs.length : Int)).toNat - 0) = _
  rw [List.drop_zero, Nat.sub_zero, List.dropLast_eq_take]
  congr 1; omega
theorem nodup_le : ∀ (n : Nat) (l : List Nat), l.Nodup → (∀ x ∈ l, x < n) → l.length ≤ n
  | 0, l, _, h => by
    cases l with
    | nil => exact Nat.le_refl _
    | cons x xs => exact absurd (h x List.mem_cons_self) (Nat.not_lt_zero _)
  | n + 1, l, hn, h => by
    by_cases q : n ∈ l
    · have := nodup_le n (l.erase n) (hn.erase n) fun x hx => by
        have h1 := h x (List.mem_of_mem_erase hx)
        have h2 : x ≠ n := fun e => by subst e; exact (hn.not_mem_erase) hx
        omega
      rw [List.length_erase_of_mem q] at this
      omega
    · have := nodup_le n l hn fun x hx => by
        have h1 := h x hx
        have h2 : x ≠ n := fun e => q (by rw [← e]; exact hx)
        omega
      omega
theorem filter_empty {α : Type} (p : α → Bool) : ∀ xs : List α, (xs.filter p).isEmpty = !xs.any p
  | [] => rfl
  | x :: xs => by
    have := filter_empty p xs
    by_cases h : p x = true
    · simp [h]
    · simp only [Bool.not_eq_true] at h
      simp [h, this]
/-! webs -/
abbrev Stp := D × List Nat
def encS (s : Stp) : D := .tup [s.1, .tup (encI s.2)]
def encW (w : List Stp) : D := .tup (w.map encS)
def KOK (d : D) (many : Nat) : Prop := match many with
  | 0 => d = .str "in" ∨ ∃ i : Int, d = .int i ∧ -99 ≤ i ∧ i ≤ 99
  | 1 => d = .str "neg"
  | 2 => d = .str "+" ∨ d = .str "-" ∨ d = .str "*"
  | 3 => d = .str "pick"
  | _ => False
theorem KOK.cl {d : D} {k n : Nat} (h : KOK d k) : clD n d = true := by
  match k, h with
  | 0, .inl h => subst h; simp [clD]
  | 0, .inr ⟨i, h, _⟩ => subst h; simp [clD]
  | 1, h => cases h; simp [clD]
  | 2, .inl h => subst h; simp [clD]
  | 2, .inr (.inl h) => subst h; simp [clD]
  | 2, .inr (.inr h) => subst h; simp [clD]
  | 3, h => cases h; simp [clD]
theorem KOK.le {d : D} {k : Nat} (h : KOK d k) : k ≤ 3 := by
  match k, h with
  | 0, _ => omega
  | 1, _ => omega
  | 2, _ => omega
  | 3, _ => omega
/-- each step's kind fits, its inputs are below n -/
def StpOk (n : Nat) (s : Stp) : Prop := KOK s.1 s.2.length ∧ ∀ i ∈ s.2, i < n
theorem encS_cl {n k : Nat} {s : Stp} (h : StpOk k s) : clD n (encS s) = true := by
  simp [encS, clD, clDs, h.1.cl, encI_cl]
theorem encW_cl {n : Nat} {w : List Stp} (h : ∀ s ∈ w, ∃ k, StpOk k s) : clD n (encW w) = true := by
  simp only [encW, clD, clDs_all, List.all_eq_true, List.mem_map]
  rintro d ⟨s, hs, rfl⟩
  obtain ⟨k, q⟩ := h s hs
  exact encS_cl q
structure Web (w : List Stp) : Prop where
  ok : ∀ s ∈ w, StpOk w.length s
  acy : ∃ ρ : Nat → Nat, ∀ t s, w[t]? = some s → ∀ i ∈ s.2, ρ i < ρ t
theorem Web.of_grown {w : List Stp} (h : ∀ t s, w[t]? = some s → StpOk t s) : Web w := by
  refine ⟨fun s hs => ?_, id, fun t s e i hi => (h t s e).2 i hi⟩
  obtain ⟨t, e⟩ := List.mem_iff_getElem?.mp hs
  have := (List.getElem?_eq_some_iff.mp e).1
  exact ⟨(h t s e).1, fun i hi => Nat.lt_trans ((h t s e).2 i hi) this⟩
theorem Web.cl {w : List Stp} {n : Nat} (h : Web w) : clD n (encW w) = true := encW_cl fun s hs => ⟨_, h.ok s hs⟩
def stp (w : List Stp) (s : Nat) : Stp := w.getD s (.non, [])
theorem stp_get {w : List Stp} {s : Nat} (h : s < w.length) : w[s]? = some (stp w s) := by simp [stp, List.getD, h]
theorem stp_eq {w : List Stp} {t : Nat} {s : Stp} (h : w[t]? = some s) : stp w t = s := by simp [stp, List.getD, h]
def renum (w : List Stp) (row : List Nat) : List Stp := row.map fun s => ((stp w s).1, (stp w s).2.map fun one => row.idxOf one)
theorem perm_range_mem {row : List Nat} {n : Nat} (p : row.Perm (List.range n)) {i : Nat} : i ∈ row ↔ i < n := by rw [p.mem_iff, List.mem_range]
theorem Web.renum {w : List Stp} (h : Web w) {row : List Nat} (p : row.Perm (List.range w.length)) : Web (renum w row) := by
  have len : row.length = w.length := by rw [p.length_eq, List.length_range]
  have nd : row.Nodup := p.nodup_iff.mpr List.nodup_range
  have gt : ∀ s, s < w.length → w[s]? = some (stp w s) := fun s hs => stp_get hs
  refine ⟨fun s hs => ?_, ?_⟩
  · simp only [Pz.renum, List.mem_map] at hs
    obtain ⟨j, hj, rfl⟩ := hs
    have hj' := (perm_range_mem p).mp hj
    have ok := h.ok _ (List.mem_of_getElem? (gt j hj'))
    refine ⟨by show KOK _ (List.length (List.map _ _)); rw [List.length_map]; exact ok.1, fun i hi => ?_⟩
    simp only [List.mem_map] at hi
    obtain ⟨a, ha, rfl⟩ := hi
    simp only [Pz.renum, List.length_map]
    exact List.idxOf_lt_length_iff.mpr ((perm_range_mem p).mpr (ok.2 a ha))
  · obtain ⟨ρ, hρ⟩ := h.acy
    refine ⟨fun t => ρ (row.getD t 0), fun t s e i hi => ?_⟩
    simp only [Pz.renum, List.getElem?_map, Option.map_eq_some_iff] at e
    obtain ⟨j, hj, rfl⟩ := e
    have hj' := (perm_range_mem p).mp (List.mem_of_getElem? hj)
    have ok := h.ok _ (List.mem_of_getElem? (gt j hj'))
    simp only [List.mem_map] at hi
    obtain ⟨a, ha, rfl⟩ := hi
    have ha' := (perm_range_mem p).mpr (ok.2 a ha)
    have e1 : row.getD (row.idxOf a) 0 = a := by simp [List.getD, idx_get ha']
    have e2 : row.getD t 0 = j := by simp [List.getD, hj]
    show ρ (row.getD (row.idxOf a) 0) < ρ (row.getD t 0)
    rw [e1, e2]
    exact hρ j _ (gt j hj') a ha
/-! reach -/
def Tie (w : List Stp) (s t : Nat) : Prop := t < w.length ∧ s ∈ (stp w t).2
instance {w : List Stp} {s t : Nat} : Decidable (Tie w s t) := by unfold Tie; infer_instance
inductive Rch (w : List Stp) (s : Nat) : Nat → Prop
  | one {t : Nat} : Tie w s t → Rch w s t
  | more {x t : Nat} : Rch w s x → Tie w x t → Rch w s t
theorem Rch.lt {w : List Stp} {s t : Nat} (h : Rch w s t) : t < w.length := by
  cases h with
  | one h => exact h.1
  | more _ h => exact h.1
/-- found and waiting, on the way -/
structure Rinv (w : List Stp) (s : Nat) (fs ws : List Nat) : Prop where
  a : ∀ t ∈ fs, Rch w s t
  b : ∀ x ∈ ws, x = s ∨ x ∈ fs
  c : ∀ x, (x = s ∨ x ∈ fs) → x ∉ ws → ∀ t, Tie w x t → t ∈ fs
  nd : fs.Nodup
theorem Rinv.start (w : List Stp) (s : Nat) : Rinv w s [] [s] := ⟨by simp, by simp, fun x h h2 => by simp at h h2; exact absurd h h2, List.nodup_nil⟩
def newT (w : List Stp) (h : Nat) (fs : List Nat) (i : Nat) : List Nat := (List.range i).filter fun t => decide (Tie w h t) && decide (t ∉ fs)
theorem newT_mem {w : List Stp} {h i t : Nat} {fs : List Nat} : t ∈ newT w h fs i ↔ t < i ∧ Tie w h t ∧ t ∉ fs := by
  unfold newT
  rw [List.mem_filter, List.mem_range]
  simp
theorem newT_succ {w : List Stp} {h i : Nat} {fs : List Nat} : newT w h fs (i + 1) = newT w h fs i ++ (if Tie w h i ∧ i ∉ fs then [i] else []) := by
  unfold newT
  rw [List.range_succ, List.filter_append]
  congr 1
  by_cases q : Tie w h i ∧ i ∉ fs
  · simp [q]
  · rw [if_neg q]
    simp only [List.filter_cons, List.filter_nil]
    rw [if_neg (by simpa using q)]
theorem Rinv.step {w : List Stp} {s h : Nat} {fs rest : List Nat} (I : Rinv w s fs (rest ++ [h])) : Rinv w s (fs ++ newT w h fs w.length) (rest ++ newT w h fs w.length) := by
  have hh : h = s ∨ h ∈ fs := I.b h (by simp)
  refine ⟨fun t ht => ?_, fun x hx => ?_, fun x hx hn t e => ?_, ?_⟩
  · rcases List.mem_append.mp ht with q | q
    · exact I.a t q
    · obtain ⟨_, q2, _⟩ := newT_mem.mp q
      rcases hh with z | z
      · subst z; exact .one q2
      · exact .more (I.a h z) q2
  · rcases List.mem_append.mp hx with q | q
    · rcases I.b x (List.mem_append_left _ q) with z | z
      · exact .inl z
      · exact .inr (List.mem_append_left _ z)
    · exact .inr (List.mem_append_right _ q)
  · simp only [List.mem_append, not_or] at hn
    have hx' : x = s ∨ x ∈ fs := by
      rcases hx with z | z
      · exact .inl z
      · rcases List.mem_append.mp z with z | z
        · exact .inr z
        · exact absurd z hn.2
    by_cases q : x = h
    · subst q
      by_cases z : t ∈ fs
      · exact List.mem_append_left _ z
      · exact List.mem_append_right _ (newT_mem.mpr ⟨e.1, e, z⟩)
    · exact List.mem_append_left _ (I.c x hx' (by simp [hn.1, q]) t e)
  · rw [List.nodup_append]
    refine ⟨I.nd, List.Pairwise.filter _ List.nodup_range, fun a ha b hb => ?_⟩
    intro e
    subst e
    exact (newT_mem.mp hb).2.2 ha
theorem Rinv.done {w : List Stp} {s : Nat} {fs : List Nat} (I : Rinv w s fs []) (t : Nat) : t ∈ fs ↔ Rch w s t := by
  refine ⟨I.a t, fun h => ?_⟩
  induction h with
  | one h => exact I.c s (.inl rfl) (by simp) _ h
  | more _ h ih => exact I.c _ (.inr ih) (by simp) _ h
theorem Rch.pre {w : List Stp} {p h x : Nat} (t : Tie w p h) (r : Rch w h x) : Rch w p x := by
  induction r with
  | one q => exact .more (.one t) q
  | more _ q ih => exact .more ih q
/-- without a ring, a set of steps has one none of whose givers is in it -/
theorem no_ring_min {w : List Stp} (hr : ∀ s, ¬ Rch w s s) {A : List Nat} (hA : A ≠ []) (hlt : ∀ x ∈ A, x < w.length) : ∃ t ∈ A, ∀ x ∈ A, ¬ Tie w x t := by
  refine Classical.byContradiction fun hc => ?_
  have step : ∀ t ∈ A, ∃ x ∈ A, Tie w x t := fun t ht => Classical.byContradiction fun q => hc ⟨t, ht, fun x hx hh => q ⟨x, hx, hh⟩⟩
  have walk : ∀ k : Nat, ∃ (h : Nat) (r : List Nat), r.length = k ∧ h ∈ A ∧ (∀ x ∈ r, x ∈ A ∧ Rch w h x) ∧ (h :: r).Nodup := by
    intro k
    induction k with
    | zero =>
      obtain ⟨a, ha⟩ := List.exists_mem_of_ne_nil A hA
      exact ⟨a, [], rfl, ha, by simp, by simp⟩
    | succ k ih =>
      obtain ⟨h, r, e, ha, hx, nd⟩ := ih
      obtain ⟨p, hp, tp⟩ := step h ha
      have all : ∀ x ∈ h :: r, x ∈ A ∧ Rch w p x := by
        intro x hx'
        rcases List.mem_cons.mp hx' with q | q
        · subst q; exact ⟨ha, .one tp⟩
        · exact ⟨(hx x q).1, .pre tp (hx x q).2⟩
      refine ⟨p, h :: r, by simp [e], hp, all, List.nodup_cons.mpr ⟨fun q => hr p (all p q).2, nd⟩⟩
  obtain ⟨h, r, e, ha, hx, nd⟩ := walk w.length
  have := nodup_le w.length (h :: r) nd fun x hx' => by
    rcases List.mem_cons.mp hx' with q | q
    · subst q; exact hlt _ ha
    · exact hlt x (hx x q).1
  simp at this
  omega
def elim1 (w : List Stp) (L : List Nat) : List Nat := L.filter fun t => (stp w t).2.any fun o => decide (o ∈ L)
def elimN (w : List Stp) : Nat → List Nat
  | 0 => List.range w.length
  | k + 1 => elim1 w (elimN w k)
theorem elimN_lt {w : List Stp} : ∀ (k : Nat), ∀ x ∈ elimN w k, x < w.length
  | 0, x, h => by simpa [elimN] using h
  | k + 1, x, h => elimN_lt k x (List.mem_filter.mp h).1
theorem elimN_len {w : List Stp} : ∀ k : Nat, (elimN w k).length ≤ w.length
  | 0 => by simp [elimN]
  | k + 1 => Nat.le_trans (List.length_filter_le _ _) (elimN_len k)
theorem elim_ring {w : List Stp} : elimN w w.length ≠ [] ↔ ∃ s, Rch w s s := by
  constructor
  · intro h
    refine Classical.byContradiction fun hc => h ?_
    have hr : ∀ s, ¬ Rch w s s := fun s q => hc ⟨s, q⟩
    have len : ∀ k : Nat, (elimN w k).length ≤ w.length - k := by
      intro k
      induction k with
      | zero => simp [elimN]
      | succ k ih =>
        by_cases e : elimN w k = []
        · have : elimN w (k + 1) = [] := by unfold elimN elim1; rw [e]; rfl
          rw [this]; simp
        · obtain ⟨t, ht, hm⟩ := no_ring_min hr e (elimN_lt k)
          have : (elimN w (k + 1)).length < (elimN w k).length := by
            show ((elimN w k).filter _).length < _
            refine List.length_filter_lt_length_iff_exists.mpr ⟨t, ht, ?_⟩
            simp only [List.any_eq_true, decide_eq_true_eq, not_exists, not_and]
            exact fun o ho hk => hm o hk ⟨elimN_lt k t ht, ho⟩
          omega
    have := len w.length
    exact List.eq_nil_of_length_eq_zero (by omega)
  · rintro ⟨s, hs⟩ h
    have key : ∀ k : Nat, ∀ t, Rch w s t → Rch w t s → t ∈ elimN w k := by
      intro k
      induction k with
      | zero => exact fun t h1 _ => by simpa [elimN] using h1.lt
      | succ k ih =>
        intro t h1 h2
        show t ∈ List.filter _ _
        rw [List.mem_filter]
        refine ⟨ih t h1 h2, ?_⟩
        simp only [List.any_eq_true, decide_eq_true_eq]
        cases h1 with
        | one q => exact ⟨s, q.2, ih s hs hs⟩
        | more q1 q2 => exact ⟨_, q2.2, ih _ q1 (.pre q2 h2)⟩
    have := key w.length s hs hs
    rw [h] at this
    cases this
end Pz

set_option Elab.async false
set_option linter.all false
set_option maxRecDepth 100000
set_option maxHeartbeats 4000000
/-! Pw4: data that can be shown: kinds; dict displays. -/
namespace Pz
open PySem PySem.Spec PyProof.Rows L2
def PyS (S : Sto) (d : D) : Prop := ∃ n q, toPyR n S d = some q
theorem mapO_all {α β : Type} {f : α → Option β} : ∀ {xs : List α} {ys : List β}, mapO f xs = some ys → ∀ x ∈ xs, ∃ y, f x = some y ∧ y ∈ ys
  | [], _, _, x, hx => by simp at hx
  | a :: xs, ys, h, x, hx => by
    simp only [mapO] at h
    cases e1 : f a with
    | none => rw [e1] at h; cases h
    | some b =>
      cases e2 : mapO f xs with
      | none => rw [e1, e2] at h; cases h
      | some bs =>
        rw [e1, e2] at h
        cases h
        rcases List.mem_cons.mp hx with hx | hx
        · subst hx; exact ⟨b, e1, List.mem_cons_self⟩
        · obtain ⟨y, q1, q2⟩ := mapO_all e2 x hx
          exact ⟨y, q1, List.mem_cons_of_mem _ q2⟩
theorem PyS.tup {S : Sto} {xs : List D} (h : PyS S (.tup xs)) : ∀ x ∈ xs, PyS S x := by
  obtain ⟨n, q, h⟩ := h
  cases n with
  | zero => cases h
  | succ n =>
    simp only [toPyR, Option.map_eq_some_iff] at h
    obtain ⟨ps, h, _⟩ := h
    intro x hx
    obtain ⟨y, q1, _⟩ := mapO_all h x hx
    exact ⟨n, y, q1⟩
theorem PyS.int {S : Sto} {i : Int} : PyS S (.int i) := ⟨1, _, rfl⟩
theorem PyS.str {S : Sto} {i : Str} : PyS S (.str i) := ⟨1, _, rfl⟩
theorem PyS.ty {S : Sto} {d : D} (h : PyS S d) : (d = .non ∧ tyD S d = some "NoneType") ∨ (∃ b, d = .bl b ∧ tyD S d = some "bool") ∨ (∃ b, d = .int b ∧ tyD S d = some "int") ∨ (∃ b, d = .str b ∧ tyD S d = some "str") ∨ (∃ b, d = .tup b ∧ tyD S d = some "tuple") ∨
    ∃ n, d = .ref n ∧ (tyD S d = some "list" ∨ tyD S d = some "dict") := by
  obtain ⟨n, q, h⟩ := h
  cases n with
  | zero => cases h
  | succ n =>
    cases d with
    | non => exact .inl ⟨rfl, rfl⟩
    | bl b => exact .inr (.inl ⟨b, rfl, rfl⟩)
    | int b => exact .inr (.inr (.inl ⟨b, rfl, rfl⟩))
    | str b => exact .inr (.inr (.inr (.inl ⟨b, rfl, rfl⟩)))
    | tup b => exact .inr (.inr (.inr (.inr (.inl ⟨b, rfl, rfl⟩))))
    | ref k =>
      refine .inr (.inr (.inr (.inr (.inr ⟨k, rfl, ?_⟩))))
      simp only [toPyR] at h
      simp only [tyD]
      split at h
      · rename_i xs e; rw [e]; exact .inl rfl
      · rename_i e; rw [e]; exact .inr rfl
      · cases h
    | fn a => cases h
    | rl xs => cases h
def isTup : D → Bool
  | .tup _ => true
  | _ => false
def isStr : D → Bool
  | .str _ => true
  | _ => false
def isInt : D → Bool
  | .int _ => true
  | .bl _ => true
  | _ => false
def isBl : D → Bool
  | .bl _ => true
  | _ => false
theorem isi_tup {S : Sto} {d : D} (h : PyS S d) : oIsi "tuple" d S = .ok (.bl (isTup d)) S := by
  rcases h.ty with ⟨rfl, e⟩ | ⟨b, rfl, e⟩ | ⟨b, rfl, e⟩ | ⟨b, rfl, e⟩ | ⟨b, rfl, e⟩ | ⟨n, rfl, e | e⟩ <;> (rw [oIsi_of e]; rfl)
theorem isi_str {S : Sto} {d : D} (h : PyS S d) : oIsi "str" d S = .ok (.bl (isStr d)) S := by
  rcases h.ty with ⟨rfl, e⟩ | ⟨b, rfl, e⟩ | ⟨b, rfl, e⟩ | ⟨b, rfl, e⟩ | ⟨b, rfl, e⟩ | ⟨n, rfl, e | e⟩ <;> (rw [oIsi_of e]; rfl)
theorem isi_int {S : Sto} {d : D} (h : PyS S d) : oIsi "int" d S = .ok (.bl (isInt d)) S := by
  rcases h.ty with ⟨rfl, e⟩ | ⟨b, rfl, e⟩ | ⟨b, rfl, e⟩ | ⟨b, rfl, e⟩ | ⟨b, rfl, e⟩ | ⟨n, rfl, e | e⟩ <;> (rw [oIsi_of e]; rfl)
theorem isi_bool {S : Sto} {d : D} (h : PyS S d) : oIsi "bool" d S = .ok (.bl (isBl d)) S := by
  rcases h.ty with ⟨rfl, e⟩ | ⟨b, rfl, e⟩ | ⟨b, rfl, e⟩ | ⟨b, rfl, e⟩ | ⟨b, rfl, e⟩ | ⟨n, rfl, e | e⟩ <;> (rw [oIsi_of e]; rfl)
/-- an int (no bool) within -/
def isI (a b : Int) : D → Bool
  | .int i => decide (a ≤ i) && decide (i ≤ b)
  | _ => false
/-! {..}.get -/
@[simp] theorem W_pNil {l : Loc} {S : Sto} {P : List (Key × D) → Sto → Prop} : (pNil l S).W P ↔ P [] S := by rw [show pNil l S = .ok [] S from rfl, W_ok]
def okP (k v : D) (kvs : List (Key × D)) (S3 : Sto) : Out (List (Key × D)) := match keyD k with
  | some k => .ok ((k, v) :: kvs) S3
  | none => .bad
@[simp] theorem W_pCons {f g : FE} {r : FP} {l : Loc} {S : Sto} {P : List (Key × D) → Sto → Prop} : (pCons f g r l S).W P ↔ (f l S).W fun k S1 => (g l S1).W fun v S2 => (r l S2).W fun kvs S3 => (okP k v kvs S3).W P := by
  unfold pCons
  simp only [W_bind]
  exact Iff.rfl
@[simp] theorem okP_str {k : Str} {v : D} {kvs : List (Key × D)} {S : Sto} : okP (.str k) v kvs S = .ok ((.inr k, v) :: kvs) S := rfl
@[simp] theorem okP_int {k : Int} {v : D} {kvs : List (Key × D)} {S : Sto} : okP (.int k) v kvs S = .ok ((.inl k, v) :: kvs) S := rfl
@[simp] theorem W_eDispGet {f g : FE} {r : FP} {l : Loc} {S : Sto} {P : D → Sto → Prop} : (eDispGet r f g l S).W P ↔ (r l S).W fun kvs S1 => kvs.length ≤ 15 ∧ (f l S1).W fun k S2 => (g l S2).W fun d S3 => (oGet kvs k d S3).W P := by
  unfold eDispGet
  simp only [W_bind]
  refine iff_of_eq (congrArg _ (funext fun kvs => funext fun S1 => ?_))
  by_cases h : kvs.length ≤ 15
  · rw [if_pos h]; simp [h]
  · rw [if_neg h]; simp [h]
theorem oGet_str {kvs : List (Key × D)} {k : Str} {d : D} {S : Sto} : oGet kvs (.str k) d S = .ok ((Pz.getD (mergeD [] kvs) (.inr k)).getD d) S := rfl
theorem any_str (s : Str) (xs : List Str) : ((xs.map D.str).any fun z => eqF z (.str s)) = decide (s ∈ xs) := by
  rw [Bool.eq_iff_iff]
  simp [eqF]
theorem flat_str (xs : List Str) : (xs.map D.str).all flatD = true := by simp [flatD]
theorem oIn_str {s : Str} {xs : List Str} {y : D} {S : Sto} (h : seqD S y = some (xs.map D.str)) : oIn (.str s) y S = .ok (.bl (decide (s ∈ xs))) S := by
  simp only [oIn, dIn, h]
  rw [if_pos (by rw [flat_str]; rfl), any_str]
/-- a table whose keys are texts -/
def tabS (kvs : List (Str × D)) : List (Key × D) := kvs.map fun kv => (.inr kv.1, kv.2)
theorem getD_tab (s : Str) : ∀ kvs : List (Str × D), Pz.getD (tabS kvs) (.inr s) = (kvs.find? fun kv => decide (kv.1 = s)).map (·.2)
  | [] => rfl
  | kv :: kvs => by
    have ih := getD_tab s kvs
    simp only [Pz.getD, tabS, List.map_cons, List.find?_cons] at ih ⊢
    by_cases h : kv.1 = s
    · simp [h]
    · have h2 : ¬ ((Sum.inr kv.1 : Key) = Sum.inr s) := fun q => h (by cases q; rfl)
      simp only [h, h2, decide_false]
      exact ih
/-! the kinds differ -/
@[simp] theorem ks_in_neg : ¬ (Str.ofString "in" = Str.ofString "neg") := by decide +kernel
@[simp] theorem ks_in_pick : ¬ (Str.ofString "in" = Str.ofString "pick") := by decide +kernel
@[simp] theorem ks_in_P : ¬ (Str.ofString "in" = Str.ofString "+") := by decide +kernel
@[simp] theorem ks_in_M : ¬ (Str.ofString "in" = Str.ofString "-") := by decide +kernel
@[simp] theorem ks_in_T : ¬ (Str.ofString "in" = Str.ofString "*") := by decide +kernel
@[simp] theorem ks_neg_in : ¬ (Str.ofString "neg" = Str.ofString "in") := by decide +kernel
@[simp] theorem ks_neg_pick : ¬ (Str.ofString "neg" = Str.ofString "pick") := by decide +kernel
@[simp] theorem ks_neg_P : ¬ (Str.ofString "neg" = Str.ofString "+") := by decide +kernel
@[simp] theorem ks_neg_M : ¬ (Str.ofString "neg" = Str.ofString "-") := by decide +kernel
@[simp] theorem ks_neg_T : ¬ (Str.ofString "neg" = Str.ofString "*") := by decide +kernel
@[simp] theorem ks_pick_in : ¬ (Str.ofString "pick" = Str.ofString "in") := by decide +kernel
@[simp] theorem ks_pick_neg : ¬ (Str.ofString "pick" = Str.ofString "neg") := by decide +kernel
@[simp] theorem ks_pick_P : ¬ (Str.ofString "pick" = Str.ofString "+") := by decide +kernel
@[simp] theorem ks_pick_M : ¬ (Str.ofString "pick" = Str.ofString "-") := by decide +kernel
@[simp] theorem ks_pick_T : ¬ (Str.ofString "pick" = Str.ofString "*") := by decide +kernel
@[simp] theorem ks_P_in : ¬ (Str.ofString "+" = Str.ofString "in") := by decide +kernel
@[simp] theorem ks_P_neg : ¬ (Str.ofString "+" = Str.ofString "neg") := by decide +kernel
@[simp] theorem ks_P_pick : ¬ (Str.ofString "+" = Str.ofString "pick") := by decide +kernel
@[simp] theorem ks_P_M : ¬ (Str.ofString "+" = Str.ofString "-") := by decide +kernel
@[simp] theorem ks_P_T : ¬ (Str.ofString "+" = Str.ofString "*") := by decide +kernel
@[simp] theorem ks_M_in : ¬ (Str.ofString "-" = Str.ofString "in") := by decide +kernel
@[simp] theorem ks_M_neg : ¬ (Str.ofString "-" = Str.ofString "neg") := by decide +kernel
@[simp] theorem ks_M_pick : ¬ (Str.ofString "-" = Str.ofString "pick") := by decide +kernel
@[simp] theorem ks_M_P : ¬ (Str.ofString "-" = Str.ofString "+") := by decide +kernel
@[simp] theorem ks_M_T : ¬ (Str.ofString "-" = Str.ofString "*") := by decide +kernel
@[simp] theorem ks_T_in : ¬ (Str.ofString "*" = Str.ofString "in") := by decide +kernel
@[simp] theorem ks_T_neg : ¬ (Str.ofString "*" = Str.ofString "neg") := by decide +kernel
@[simp] theorem ks_T_pick : ¬ (Str.ofString "*" = Str.ofString "pick") := by decide +kernel
@[simp] theorem ks_T_P : ¬ (Str.ofString "*" = Str.ofString "+") := by decide +kernel
@[simp] theorem ks_T_M : ¬ (Str.ofString "*" = Str.ofString "-") := by decide +kernel
end Pz

set_option Elab.async false
set_option linter.all false
set_option maxRecDepth 100000
set_option maxHeartbeats 4000000
/-! Pw5: what can be shown, how long it is, where it lies. -/
namespace Pz
open PySem PySem.Spec PyProof.Rows L2
/-! good data: small leaves, depth, size -/
mutual
def small (N : Nat) : PyData → Bool
  | .none => true
  | .bool _ => true
  | .int i => decide (i.natAbs ≤ N)
  | .str x => x.cps.toList.all fun c => decide (c < 16 ^ 8)
  | .list xs => smalls N xs
  | .tuple xs => smalls N xs
  | .dict kvs => kvs.isEmpty
def smalls (N : Nat) : List PyData → Bool
  | [] => true
  | x :: xs => small N x && smalls N xs
end
mutual
theorem small_leaves {N : Nat} (hN : N < 10 ^ 39) : ∀ q : PyData, small N q = true → q.leavesShort 40 = true ∧ q.showable = true
  | .none, _ => ⟨rfl, rfl⟩
  | .bool _, _ => ⟨rfl, rfl⟩
  | .int i, h => by
    simp only [small, decide_eq_true_eq] at h
    have hi : i.natAbs < 10 ^ 39 := Nat.lt_of_le_of_lt h hN
    refine ⟨?_, ?_⟩
    · simp only [PyData.leavesShort, decide_eq_true_eq]
      have e := int_text_length_le10 (k := 39) (by decide) hi
      show (Str.ofString (toString i)).length ≤ 40
      rw [PySem.ofString_length]; exact e
    · simp only [PyData.showable, decide_eq_true_eq]
      by_cases z : i.natAbs = 0
      · rw [z]; decide
      · exact (Nat.log2_lt z).mpr (Nat.lt_trans hi (by decide +kernel))
  | .str x, h => ⟨by simpa only [PyData.leavesShort, small] using h, rfl⟩
  | .list xs, h => by
    have := smalls_leaves hN xs (by simpa only [small] using h)
    exact ⟨by simpa only [PyData.leavesShort] using this.1, by simpa only [PyData.showable] using this.2⟩
  | .tuple xs, h => by
    have := smalls_leaves hN xs (by simpa only [small] using h)
    exact ⟨by simpa only [PyData.leavesShort] using this.1, by simpa only [PyData.showable] using this.2⟩
  | .dict kvs, h => by
    simp only [small] at h
    cases kvs with
    | nil => exact ⟨rfl, rfl⟩
    | cons => cases h
theorem smalls_leaves {N : Nat} (hN : N < 10 ^ 39) : ∀ q : List PyData, smalls N q = true → PyData.leavesShortAll 40 q = true ∧ PyData.showableAll q = true
  | [], _ => ⟨rfl, rfl⟩
  | x :: xs, h => by
    simp only [smalls, Bool.and_eq_true] at h
    have h1 := small_leaves hN x h.1
    have h2 := smalls_leaves hN xs h.2
    simp only [PyData.leavesShortAll, PyData.showableAll, h1.1, h1.2, h2.1, h2.2, Bool.and_self, and_self]
end
mutual
theorem small_le {N N' : Nat} (hN : N ≤ N') : ∀ q : PyData, small N q = true → small N' q = true
  | .none, _ => rfl
  | .bool _, _ => rfl
  | .int i, h => by simp only [small, decide_eq_true_eq] at h ⊢; omega
  | .str x, h => h
  | .list xs, h => by simp only [small] at h ⊢; exact smalls_le hN xs h
  | .tuple xs, h => by simp only [small] at h ⊢; exact smalls_le hN xs h
  | .dict kvs, h => h
theorem smalls_le {N N' : Nat} (hN : N ≤ N') : ∀ q : List PyData, smalls N q = true → smalls N' q = true
  | [], _ => rfl
  | x :: xs, h => by
    simp only [smalls, Bool.and_eq_true] at h ⊢
    exact ⟨small_le hN x h.1, smalls_le hN xs h.2⟩
end
def gq (N k m : Nat) (q : PyData) : Prop := small N q = true ∧ q.depth ≤ k ∧ q.bulk ≤ m
def gqs (N k m : Nat) (q : List PyData) : Prop := smalls N q = true ∧ PyData.depthAll q ≤ k ∧ PyData.bulkAll q ≤ m
def Ok (N : Nat) (U : Sto) (k m : Nat) (d : D) : Prop := ∃ q, toPyR (k + 1) U d = some q ∧ gq N k m q
def OkL (N : Nat) (U : Sto) (k m : Nat) (xs : List D) : Prop := ∃ qs, mapO (toPyR (k + 1) U) xs = some qs ∧ gqs N k m qs
section
variable {U V : Sto} {N k m : Nat} {d : D} {xs ys : List D}
theorem mapO_mono {α β : Type} {f g : α → Option β} (h : ∀ x y, f x = some y → g x = some y) : ∀ {xs : List α} {ys : List β}, mapO f xs = some ys → mapO g xs = some ys
  | [], ys, e => e
  | x :: xs, ys, e => by
    simp only [mapO] at e
    cases e1 : f x with
    | none => rw [e1] at e; cases e
    | some b =>
      cases e2 : mapO f xs with
      | none => rw [e1, e2] at e; cases e
      | some bs =>
        rw [e1, e2] at e
        cases e
        simp only [mapO, h x b e1, mapO_mono h e2]
theorem mapO_app {α β : Type} {f : α → Option β} : ∀ {xs ys : List α} {us vs : List β}, mapO f xs = some us → mapO f ys = some vs → mapO f (xs ++ ys) = some (us ++ vs)
  | [], ys, us, vs, e, e' => by cases e; exact e'
  | x :: xs, ys, us, vs, e, e' => by
    simp only [mapO] at e
    cases e1 : f x with
    | none => rw [e1] at e; cases e
    | some b =>
      cases e2 : mapO f xs with
      | none => rw [e1, e2] at e; cases e
      | some bs =>
        rw [e1, e2] at e
        cases e
        simp only [List.cons_append, mapO, e1, mapO_app e2 e']
/-- more steps, more store -/
theorem toPyR_mono (hU : ∀ (i : Nat) o, U[i]? = some o → (∃ xs, o = .lst xs) ∨ o = .dk [] → V[i]? = some o) : ∀ (n n' : Nat) (d : D) (q : PyData), n ≤ n' → toPyR n U d = some q → toPyR n' V d = some q
  | 0, _, _, _, _, e => by cases e
  | n + 1, 0, _, _, h, _ => absurd h (Nat.not_succ_le_zero n)
  | n + 1, n' + 1, d, q, h, e => by
    have ih : ∀ x y, toPyR n U x = some y → toPyR n' V x = some y := fun x y => toPyR_mono hU n n' x y (by omega)
    cases d with
    | non => exact e
    | bl => exact e
    | int => exact e
    | str => exact e
    | tup xs =>
      simp only [toPyR, Option.map_eq_some_iff] at e ⊢
      obtain ⟨ps, e1, e2⟩ := e
      exact ⟨ps, mapO_mono ih e1, e2⟩
    | ref j =>
      simp only [toPyR] at e ⊢
      split at e
      · rename_i xs hj
        rw [hU j _ hj (.inl ⟨xs, rfl⟩)]
        simp only [Option.map_eq_some_iff] at e ⊢
        obtain ⟨ps, e1, e2⟩ := e
        exact ⟨ps, mapO_mono ih e1, e2⟩
      · rename_i hj
        rw [hU j _ hj (.inr rfl)]
        exact e
      · cases e
    | fn => cases e
    | rl => cases e
theorem gq.mono {k' m' : Nat} {q : PyData} (h : gq N k m q) (hk : k ≤ k') (hm : m ≤ m') : gq N k' m' q := ⟨h.1, Nat.le_trans h.2.1 hk, Nat.le_trans h.2.2 hm⟩
theorem gqs.mono {k' m' : Nat} {q : List PyData} (h : gqs N k m q) (hk : k ≤ k') (hm : m ≤ m') : gqs N k' m' q := ⟨h.1, Nat.le_trans h.2.1 hk, Nat.le_trans h.2.2 hm⟩
theorem Ok.mono {k' m' : Nat} (h : Ok N U k m d) (hk : k ≤ k') (hm : m ≤ m') : Ok N U k' m' d := by
  obtain ⟨q, e, g⟩ := h
  exact ⟨q, toPyR_mono (fun _ _ h _ => h) _ _ _ _ (by omega) e, g.mono hk hm⟩
theorem OkL.mono {k' m' : Nat} (h : OkL N U k m xs) (hk : k ≤ k') (hm : m ≤ m') : OkL N U k' m' xs := by
  obtain ⟨q, e, g⟩ := h
  exact ⟨q, mapO_mono (fun x y => toPyR_mono (fun _ _ h _ => h) _ _ _ _ (by omega)) e, g.mono hk hm⟩
theorem Ok.ext (h : Ok N U k m d) (hU : ∀ (i : Nat) o, U[i]? = some o → (∃ xs, o = .lst xs) ∨ o = .dk [] → V[i]? = some o) : Ok N V k m d := by
  obtain ⟨q, e, g⟩ := h
  exact ⟨q, toPyR_mono hU _ _ _ _ (Nat.le_refl _) e, g⟩
theorem OkL.ext (h : OkL N U k m xs) (hU : ∀ (i : Nat) o, U[i]? = some o → (∃ xs, o = .lst xs) ∨ o = .dk [] → V[i]? = some o) : OkL N V k m xs := by
  obtain ⟨q, e, g⟩ := h
  exact ⟨q, mapO_mono (fun x y => toPyR_mono hU _ _ _ _ (Nat.le_refl _)) e, g⟩
theorem Ok.app (h : Ok N U k m d) (G : Sto) : Ok N (U ++ G) k m d := h.ext fun i o e _ => st_old e
theorem OkL.app' (h : OkL N U k m xs) (G : Sto) : OkL N (U ++ G) k m xs := h.ext fun i o e _ => st_old e
theorem OkL.nil : OkL N U k m [] := ⟨[], rfl, rfl, Nat.zero_le _, Nat.zero_le _⟩
theorem OkL.cons {a b : Nat} (h : Ok N U k a d) (t : OkL N U k b xs) (hm : a + 1 + b ≤ m) : OkL N U k m (d :: xs) := by
  obtain ⟨q, e, g⟩ := h
  obtain ⟨qs, es, gs⟩ := t
  refine ⟨q :: qs, by simp only [mapO, e, es], ?_, ?_, ?_⟩
  · simp only [smalls, g.1, gs.1, Bool.and_self]
  · simp only [PyData.depthAll]; exact Nat.max_le.mpr ⟨g.2.1, gs.2.1⟩
  · have := g.2.2; have := gs.2.2; simp only [PyData.bulkAll]; omega
theorem OkL.uncons (h : OkL N U k m (d :: xs)) : ∃ a b, a + 1 + b ≤ m ∧ Ok N U k a d ∧ OkL N U k b xs := by
  obtain ⟨qs, e, g1, g3, g4⟩ := h
  simp only [mapO] at e
  cases e1 : toPyR (k + 1) U d with
  | none => rw [e1] at e; cases e
  | some b =>
    cases e2 : mapO (toPyR (k + 1) U) xs with
    | none => rw [e1, e2] at e; cases e
    | some bs =>
      rw [e1, e2] at e
      cases e
      simp only [smalls, Bool.and_eq_true, PyData.depthAll, PyData.bulkAll] at g1 g3 g4
      exact ⟨b.bulk, PyData.bulkAll bs, g4, ⟨b, e1, g1.1, by omega, Nat.le_refl _⟩, ⟨bs, e2, g1.2, by omega, Nat.le_refl _⟩⟩
theorem OkL.tup (h : OkL N U k m xs) : Ok N U (k + 1) m (.tup xs) := by
  obtain ⟨qs, e, g1, g3, g4⟩ := h
  exact ⟨.tuple qs, (by show (mapO (toPyR (k + 1) U) xs).map PyData.tuple = some _; rw [e]; rfl), by simpa only [small] using g1, by simp only [PyData.depth]; omega, by simpa only [PyData.bulk] using g4⟩
theorem OkL.lst {n : Nat} (h : OkL N U k m xs) (hn : U[n]? = some (.lst xs)) : Ok N U (k + 1) m (.ref n) := by
  obtain ⟨qs, e, g1, g3, g4⟩ := h
  exact ⟨.list qs, (by rw [toPyR]; simp only [hn]; rw [e]; rfl), by simpa only [small] using g1, by simp only [PyData.depth]; omega, by simpa only [PyData.bulk] using g4⟩
theorem Ok.dk0 {n : Nat} (hn : U[n]? = some (.dk [])) : Ok N U (k + 1) m (.ref n) :=
  ⟨.dict [], by simp only [toPyR, hn], rfl, by simp [PyData.depth, PyData.depthKv], by simp [PyData.bulk, PyData.bulkKv]⟩
theorem Ok.untup (h : Ok N U k m (.tup xs)) : ∃ j, k = j + 1 ∧ OkL N U j m xs := by
  obtain ⟨q, e, g1, g3, g4⟩ := h
  simp only [toPyR, Option.map_eq_some_iff] at e
  obtain ⟨qs, e, rfl⟩ := e
  simp only [PyData.depth] at g3
  obtain ⟨j, rfl⟩ : ∃ j, k = j + 1 := ⟨k - 1, by omega⟩
  exact ⟨j, rfl, qs, e, by simpa only [small] using g1, by omega, by simpa only [PyData.bulk] using g4⟩
theorem OkL.append {b : Nat} : ∀ {xs : List D} {a : Nat}, OkL N U k a xs → OkL N U k b ys → OkL N U k (a + b) (xs ++ ys)
  | [], a, _, t => t.mono (Nat.le_refl _) (Nat.le_add_left _ _)
  | x :: xs, a, h, t => by
    obtain ⟨a1, b1, e, h1, h2⟩ := h.uncons
    exact .cons h1 (OkL.append h2 t) (by omega)
theorem OkL.unapp : ∀ {xs : List D} {m : Nat}, OkL N U k m (xs ++ ys) → ∃ a b, a + b ≤ m ∧ OkL N U k a xs ∧ OkL N U k b ys
  | [], m, h => ⟨0, m, by omega, .nil, h⟩
  | x :: xs, m, h => by
    obtain ⟨a1, b1, e, h1, h2⟩ := OkL.uncons (d := x) (xs := xs ++ ys) h
    obtain ⟨a2, b2, e2, h3, h4⟩ := OkL.unapp (xs := xs) h2
    exact ⟨a1 + 1 + a2, b2, by omega, .cons h1 h3 (Nat.le_refl _), h4⟩
theorem OkL.sub {us vs : List D} (h : us.Sublist vs) : ∀ {m : Nat}, OkL N U k m vs → OkL N U k m us := by
  induction h with
  | slnil => exact fun h => h
  | cons a _ ih =>
    intro m h
    obtain ⟨a1, b1, e, h1, h2⟩ := h.uncons
    exact (ih h2).mono (Nat.le_refl _) (by omega)
  | cons_cons a _ ih =>
    intro m h
    obtain ⟨a1, b1, e, h1, h2⟩ := h.uncons
    exact .cons h1 (ih h2) e
theorem OkL.rev : ∀ {xs : List D} {m : Nat}, OkL N U k m xs → OkL N U k m xs.reverse
  | [], m, h => h
  | x :: xs, m, h => by
    obtain ⟨a1, b1, e, h1, h2⟩ := h.uncons
    rw [List.reverse_cons]
    have := (OkL.rev h2).append (OkL.cons (m := a1 + 1) h1 (OkL.nil (m := 0)) (by omega))
    exact this.mono (Nat.le_refl _) (by omega)
theorem OkL.mem (h : OkL N U k m xs) (hd : d ∈ xs) : Ok N U k m d := by
  obtain ⟨a, b, rfl⟩ := List.append_of_mem hd
  obtain ⟨_, _, e, _, h2⟩ := h.unapp
  obtain ⟨_, _, e2, h3, _⟩ := h2.uncons
  exact h3.mono (Nat.le_refl _) (by omega)
/-- it lies below -/
theorem Ok.cl (h : Ok N U k m d) : clD U.length d = true := by
  obtain ⟨q, e, _⟩ := h
  have key : ∀ (n : Nat) (d : D) (q : PyData), toPyR n U d = some q → clD U.length d = true := by
    intro n
    induction n with
    | zero => intro d q e; cases e
    | succ n ih =>
      intro d q e
      cases d with
      | tup xs =>
        simp only [toPyR, Option.map_eq_some_iff] at e
        obtain ⟨ps, e1, e2⟩ := e
        simp only [clD, clDs_all, List.all_eq_true]
        intro x hx
        obtain ⟨y, h1, _⟩ := mapO_all e1 x hx
        exact ih x y h1
      | ref j =>
        simp only [toPyR] at e
        simp only [clD, decide_eq_true_eq]
        split at e
        · rename_i hj; exact (List.getElem?_eq_some_iff.mp hj).1
        · rename_i hj; exact (List.getElem?_eq_some_iff.mp hj).1
        · cases e
      | fn => cases e
      | rl => cases e
      | _ => simp [clD]
  exact key _ _ _ e
theorem OkL.cl (h : OkL N U k m xs) : clDs U.length xs = true := by
  rw [clDs_all, List.all_eq_true]
  exact fun d hd => (h.mem hd).cl
/-- closed data over a closed store wants no more than it -/
theorem Ok.down {G : Sto} (hc : ∀ o ∈ U, clO U.length o = true) (h : Ok N (U ++ G) k m d) (hd : clD U.length d = true) : Ok N U k m d := by
  obtain ⟨q, e, g⟩ := h
  refine ⟨q, ?_, g⟩
  have key : ∀ (n : Nat) (d : D) (q : PyData), clD U.length d = true → toPyR n (U ++ G) d = some q → toPyR n U d = some q := by
    intro n
    induction n with
    | zero => intro d q _ e; cases e
    | succ n ih =>
      intro d q hd e
      have all : ∀ (xs : List D) (ps : List PyData), clDs U.length xs = true → mapO (toPyR n (U ++ G)) xs = some ps → mapO (toPyR n U) xs = some ps := by
        intro xs
        induction xs with
        | nil => exact fun _ _ e => e
        | cons x xs ihx =>
          intro ps hcx e
          simp only [clDs, Bool.and_eq_true] at hcx
          simp only [mapO] at e
          cases e1 : toPyR n (U ++ G) x with
          | none => rw [e1] at e; cases e
          | some b =>
            cases e2 : mapO (toPyR n (U ++ G)) xs with
            | none => rw [e1, e2] at e; cases e
            | some bs =>
              rw [e1, e2] at e
              cases e
              simp only [mapO, ih x b hcx.1 e1, ihx bs hcx.2 e2]
      cases d with
      | tup xs =>
        simp only [toPyR, Option.map_eq_some_iff] at e ⊢
        obtain ⟨ps, e1, e2⟩ := e
        exact ⟨ps, all xs ps (by simpa only [clD] using hd) e1, e2⟩
      | ref j =>
        simp only [clD, decide_eq_true_eq] at hd
        simp only [toPyR] at e ⊢
        rw [List.getElem?_append_left hd] at e
        split at e
        · rename_i xs hj
          rw [hj]
          simp only [Option.map_eq_some_iff] at e ⊢
          obtain ⟨ps, e1, e2⟩ := e
          have := hc _ (List.mem_of_getElem? hj)
          exact ⟨ps, all xs ps (by simpa only [clO] using this) e1, e2⟩
        · rename_i hj; rw [hj]; exact e
        · cases e
      | fn => cases e
      | rl => cases e
      | _ => exact e
  exact key _ _ _ hd e
theorem Ok.pys (h : Ok N U k m d) : PyS U d := ⟨_, _, h.choose_spec.1⟩
theorem Ok.repr (hN : N < 10 ^ 39) (h : Ok N U k m d) (hk : k ≤ 39) (hm : m ≤ 100000) : ∃ t, reprD U d = some t := by
  obtain ⟨q, e, g1, g3, g4⟩ := h
  refine ⟨q.shown, ?_⟩
  have e2 := toPyR_mono (U := U) (V := U) (fun _ _ h _ => h) (k + 1) 40 d q (by omega) e
  simp only [reprD, e2]
  have sm := small_leaves hN q g1
  have sl := PyData.shown_le_bulk 40 (by decide) q sm.1
  have sz : q.shown.length ≤ sizeLine := by
    have : (40 + 2) * q.bulk ≤ (40 + 2) * 100000 := Nat.mul_le_mul_left _ (by omega)
    simp only [sizeLine]; omega
  rw [if_pos]
  simp only [sm.2, Bool.true_and, Bool.and_eq_true, decide_eq_true_eq]
  exact ⟨by omega, sz⟩
/-- data without lists, checked by reckoning -/
def okB (N k m : Nat) (d : D) : Bool := match toPyR (k + 1) [] d with
  | some q => small N q && decide (q.depth ≤ k) && decide (q.bulk ≤ m)
  | none => false
theorem Ok.of_okB (h : okB N k m d = true) : Ok N U k m d := by
  unfold okB at h
  split at h
  · rename_i q e
    simp only [Bool.and_eq_true, decide_eq_true_eq] at h
    exact ⟨q, toPyR_mono (U := []) (V := U) (fun i o e _ => by simp at e) _ _ _ _ (Nat.le_refl _) e, h.1.1, h.1.2, h.2⟩
  · cases h
theorem OkL.down {G : Sto} (hc : ∀ o ∈ U, clO U.length o = true) : ∀ {xs : List D} {m : Nat}, OkL N (U ++ G) k m xs → clDs U.length xs = true → OkL N U k m xs
  | [], _, _, _ => .nil
  | x :: xs, m, h, hd => by
    simp only [clDs, Bool.and_eq_true] at hd
    obtain ⟨a, b, e, h1, h2⟩ := h.uncons
    exact .cons (h1.down hc hd.1) (OkL.down hc h2 hd.2) e
theorem Ok.unref {n : Nat} (h : Ok N U k m (.ref n)) : (∃ j xs, k = j + 1 ∧ U[n]? = some (.lst xs) ∧ OkL N U j m xs) ∨ U[n]? = some (.dk []) ∧ ∃ j, k = j + 1 := by
  obtain ⟨q, e, g1, g3, g4⟩ := h
  rw [toPyR] at e
  split at e
  · rename_i xs hj
    simp only [Option.map_eq_some_iff] at e
    obtain ⟨qs, e, rfl⟩ := e
    simp only [PyData.depth] at g3
    obtain ⟨j, rfl⟩ : ∃ j, k = j + 1 := ⟨k - 1, by omega⟩
    exact .inl ⟨j, xs, rfl, hj, qs, e, by simpa only [small] using g1, by omega, by simpa only [PyData.bulk] using g4⟩
  · rename_i hj
    cases e
    simp only [PyData.depth] at g3
    exact .inr ⟨hj, k - 1, by omega⟩
  · cases e
theorem Ok.more {N' : Nat} (h : Ok N U k m d) (hN : N ≤ N') : Ok N' U k m d := by
  obtain ⟨q, e, g⟩ := h
  exact ⟨q, e, small_le hN q g.1, g.2⟩
theorem OkL.more {N' : Nat} (h : OkL N U k m xs) (hN : N ≤ N') : OkL N' U k m xs := by
  obtain ⟨q, e, g⟩ := h
  exact ⟨q, e, smalls_le hN q g.1, g.2⟩
theorem Ok.int {i : Int} (h : i.natAbs ≤ N) : Ok N U k m (.int i) := ⟨.int i, rfl, by simp only [small, decide_eq_true_eq]; exact h, Nat.zero_le _, Nat.zero_le _⟩
theorem Ok.unint {i : Int} (h : Ok N U k m (.int i)) : i.natAbs ≤ N := by
  obtain ⟨q, e, g⟩ := h
  cases e
  simpa only [small, decide_eq_true_eq] using g.1
end
end Pz

set_option Elab.async false
set_option linter.all false
set_option maxRecDepth 100000
set_option maxHeartbeats 4000000
/-! Li: is_integer. -/
namespace Pz
open PySem PySem.Spec PyProof.Rows L2
theorem is_integer_eq {S : Sto} {d : D} (h : PyS S d) (a b : Int) : F_is_integer [d, .int a, .int b] S = .ok (.bl (isI a b d)) S := by
  refine eq_Wf (F := F_is_integer) fun P hP => ?_
  refine W_runF rfl ?_
  simp [b_is_integer, b_is_integer_0, isi_int h, isi_bool h]
  cases d <;> simp [isInt, isBl, isI] at * <;> try exact hP
  rename_i i
  by_cases q : a ≤ i <;> simp [q] at * <;> exact hP
end Pz

set_option Elab.async false
set_option linter.all false
set_option maxRecDepth 100000
set_option maxHeartbeats 4000000
/-! Pw6: sorted, sets, == of lists of ints, programs as data. -/
namespace Pz
open PySem PySem.Spec PyProof.Rows L2
section
variable {N : Loc → Sto → Prop} {R : D → Sto → Prop} {B C : Loc → Sto → Prop} {l : Loc} {S : Sto} {u v w : FE}
@[simp] theorem W_sPar3 {i j k : Nat} : (sPar3 i j k (aC u (aC v (aC w aN))) l S).W N R B C ↔ (u l S).W fun x S1 => (v l S1).W fun y S2 => (w l S2).W fun z S3 => N (((l.set i (some x)).set j (some y)).set k (some z)) S3 := by
  unfold sPar3
  rw [W_toS]
  simp only [W_aC, W_aN, W_nx]
theorem oSetI_ints {ns : List Int} (h : ns.length ≤ 4000) : oSetI (ns.map .int) S = .ok ns S := by
  unfold oSetI
  rw [intsD_map]
  simp only [if_pos h]
@[simp] theorem oLenSt_eq {ns : List Int} : oLenSt ns S = .ok (.int ((uniqI ns).length : Nat)) S := rfl
theorem oSorted_ints {ns : List Int} : oSorted (ns.map .int) S = .ok (.tmp ((ns.mergeSort fun a b => decide (a ≤ b)).map .int)) S := by
  unfold oSorted sortQ
  rw [intsD_map]
theorem oSorted_tups {ls : List (List Int)} (h0 : ls ≠ []) (h : ∀ l ∈ ls, l ≠ []) : oSorted (ls.map encT) S = .ok (.tmp ((ls.mergeSort leL).map encT)) S := by
  have e : intsD (ls.map encT) = none := by
    cases ls with
    | nil => exact absurd rfl h0
    | cons a ls => rfl
  unfold oSorted sortQ
  rw [e, mapO_tupI h]; rfl
theorem oSorted_nil : oSorted [] S = .ok (.tmp []) S := by have := oSorted_ints (S := S) (ns := []); simpa using this
end
/-! ### == of data without truth values -/
def purD : Nat → D → Bool
  | _, .non => true
  | _, .int _ => true
  | _, .str s => PyData.strOk s
  | n + 1, .tup xs => xs.all (purD n)
  | _, _ => false
def pyD : Nat → D → PyData
  | _, .non => .none
  | _, .int i => .int i
  | _, .str s => .str s
  | n + 1, .tup xs => .tuple (xs.map (pyD n))
  | _, _ => .none
theorem mapO_of {α β : Type} {f : α → Option β} {g : α → β} : ∀ {xs : List α}, (∀ x ∈ xs, f x = some (g x)) → mapO f xs = some (xs.map g)
  | [], _ => rfl
  | x :: xs, h => by rw [mapO, h x List.mem_cons_self, mapO_of fun y hy => h y (List.mem_cons_of_mem _ hy)]; rfl
theorem toPy_pur {S : Sto} : ∀ (n k : Nat) (d : D), n < k → purD n d = true → toPy k S d = some (pyD n d)
  | n, 0, _, hk, _ => by omega
  | 0, k + 1, d, hk, h => by cases d <;> first | (simp [purD] at h; done) | rfl
  | n + 1, k + 1, d, hk, h => by
    cases d with
    | tup xs =>
      simp only [purD, List.all_eq_true] at h
      simp only [toPy]
      rw [mapO_of (g := pyD n) fun x hx => toPy_pur n k x (by omega) (h x hx)]
      rfl
    | non => rfl
    | int => rfl
    | str => rfl
    | _ => simp [purD] at h
theorem canLayAll_of {xs : List PyData} (h : ∀ x ∈ xs, x.canLay0 = true) : PyData.canLayAll0 xs = true := by
  induction xs with
  | nil => rfl
  | cons x xs ih => simp [PyData.canLayAll0, h x List.mem_cons_self, ih fun y hy => h y (List.mem_cons_of_mem _ hy)]
theorem depthAll_of {xs : List PyData} {n : Nat} (h : ∀ x ∈ xs, x.depth ≤ n) : PyData.depthAll xs ≤ n := by
  induction xs with
  | nil => simp [PyData.depthAll]
  | cons x xs ih =>
    have h1 := h x List.mem_cons_self
    have h2 := ih fun y hy => h y (List.mem_cons_of_mem _ hy)
    simp only [PyData.depthAll]; omega
theorem pyD_lay : ∀ (n : Nat) (d : D), purD n d = true → (pyD n d).canLay0 = true ∧ (pyD n d).depth ≤ n
  | 0, d, h => by cases d <;> first | (simp [purD] at h; done) | (simp [purD, pyD, PyData.canLay0, PyData.depth] at h ⊢ <;> exact h)
  | n + 1, d, h => by
    cases d with
    | tup xs =>
      simp only [purD, List.all_eq_true] at h
      refine ⟨?_, ?_⟩
      · simp only [pyD, PyData.canLay0]
        refine canLayAll_of fun x hx => ?_
        obtain ⟨y, hy, rfl⟩ := List.mem_map.mp hx
        exact (pyD_lay n y (h y hy)).1
      · simp only [pyD, PyData.depth]
        have := depthAll_of (xs := xs.map (pyD n)) (n := n) fun x hx => by
          obtain ⟨y, hy, rfl⟩ := List.mem_map.mp hx
          exact (pyD_lay n y (h y hy)).2
        omega
    | non => exact ⟨rfl, Nat.zero_le _⟩
    | int => exact ⟨rfl, Nat.zero_le _⟩
    | str s => exact ⟨h, Nat.zero_le _⟩
    | _ => simp [purD] at h
open Classical in
theorem eqvAll_of {f g : D → PyData} : ∀ {xs ys : List D}, (∀ x ∈ xs, ∀ y ∈ ys, PyData.eqv (f x) (g y) = decide (x = y)) → PyData.eqvAll (xs.map f) (ys.map g) = decide (xs = ys)
  | [], [], _ => by simp [PyData.eqvAll]
  | [], _ :: _, _ => by simp [PyData.eqvAll]
  | _ :: _, [], _ => by simp [PyData.eqvAll]
  | x :: xs, y :: ys, h => by
    simp only [List.map_cons, PyData.eqvAll]
    rw [h x List.mem_cons_self y List.mem_cons_self, eqvAll_of fun x hx y hy => h x (List.mem_cons_of_mem _ hx) y (List.mem_cons_of_mem _ hy)]
    by_cases e : x = y <;> by_cases e2 : xs = ys <;> simp [e, e2]
open Classical in
theorem eqv_pur : ∀ (n m : Nat) (d e : D), purD n d = true → purD m e = true → PyData.eqv (pyD n d) (pyD m e) = decide (d = e) := by
  have base : ∀ (n m : Nat) (d e : D), (∀ xs ys, d = .tup xs → e = .tup ys → PyData.eqv (pyD n d) (pyD m e) = decide (d = e)) → purD n d = true → purD m e = true → PyData.eqv (pyD n d) (pyD m e) = decide (d = e) := by
    intro n m d e ht h h'
    cases d <;> cases e <;> first
      | (simp [purD] at h; done)
      | (simp [purD] at h'; done)
      | exact ht _ _ rfl rfl
      | (cases n <;> cases m <;> first | (simp [purD] at h; done) | (simp [purD] at h'; done) | (simp [pyD, PyData.eqv]))
    all_goals (rename_i a b; rw [Bool.eq_iff_iff]; simp)
  intro n
  induction n with
  | zero =>
    intro m d e h h'
    refine base 0 m d e (fun xs ys h1 _ => ?_) h h'
    subst h1
    simp [purD] at h
  | succ n ih =>
    intro m d e h h'
    refine base (n + 1) m d e (fun xs ys h1 h2 => ?_) h h'
    subst h1 h2
    cases m with
    | zero => simp [purD] at h'
    | succ m =>
      simp only [purD, List.all_eq_true] at h h'
      simp only [pyD, PyData.eqv]
      rw [eqvAll_of fun x hx y hy => ih m x y (h x hx) (h' y hy)]
      simp
theorem shaped_pur {n : Nat} {d : D} (hn : n ≤ 64) (h : purD n d = true) : SeqAt.shaped (pyD n d) = true := by
  obtain ⟨h1, h2⟩ := pyD_lay n d h
  unfold SeqAt.shaped
  rw [h1, Bool.true_and, decide_eq_true_eq]; omega
open Classical in
theorem dEq_pur {S : Sto} {x y : D} {n m : Nat} (hn : n < 40) (hm : m < 40) (h : purD n x = true) (h' : purD m y = true) : dEq S x y = some (decide (x = y)) := by
  have fin : (match toPy 40 S x, toPy 40 S y with
    | some d, some e => if SeqAt.shaped d && SeqAt.shaped e then some (PyData.eqv d e) else none
    | _, _ => none) = some (decide (x = y)) := by
    rw [toPy_pur n 40 x hn h, toPy_pur m 40 y hm h']
    simp only [shaped_pur (show n ≤ 64 by omega) h, shaped_pur (show m ≤ 64 by omega) h', Bool.and_self, if_true]
    rw [eqv_pur n m x y h h']
  unfold dEq
  split
  · rename_i b hb
    have : b = decide (x = y) := by
      cases x <;> cases y <;> simp [scE] at hb <;> subst hb <;> simp
    rw [this]
  · exact fin
open Classical in
theorem dEq_lst {S : Sto} {a b : Nat} {xs ys : List D} {n : Nat} (hn : n < 38) (ha : S[a]? = some (.lst xs)) (hb : S[b]? = some (.lst ys)) (h : xs.all (purD n) = true) (h' : ys.all (purD n) = true) : dEq S (.ref a) (.ref b) = some (decide (xs = ys)) := by
  rw [List.all_eq_true] at h h'
  have e1 : ∀ (a : Nat) (xs : List D), S[a]? = some (.lst xs) → (∀ x ∈ xs, purD n x = true) → toPy 40 S (.ref a) = some (.list (xs.map (pyD n))) := fun a xs ha h => by
    show (match S[a]? with
      | some (.lst xs) => (mapO (toPy 39 S) xs).map PyData.list
      | _ => none) = _
    rw [ha]
    show (mapO (toPy 39 S) xs).map PyData.list = _
    rw [mapO_of (g := pyD n) fun x hx => toPy_pur n 39 x (by omega) (h x hx)]; rfl
  have sh : ∀ xs : List D, (∀ x ∈ xs, purD n x = true) → SeqAt.shaped (.list (xs.map (pyD n))) = true := fun xs h => by
    unfold SeqAt.shaped
    have h1 : PyData.canLayAll0 (xs.map (pyD n)) = true := canLayAll_of fun x hx => by
      obtain ⟨y, hy, rfl⟩ := List.mem_map.mp hx
      exact (pyD_lay n y (h y hy)).1
    have h2 := depthAll_of (xs := xs.map (pyD n)) (n := n) fun x hx => by
      obtain ⟨y, hy, rfl⟩ := List.mem_map.mp hx
      exact (pyD_lay n y (h y hy)).2
    simp only [PyData.canLay0, h1, PyData.depth, Bool.true_and, decide_eq_true_eq]
    exact decide_eq_true (Nat.le_trans (Nat.succ_le_succ h2) (show n + 1 ≤ 64 by omega))
  unfold dEq
  rw [show scE (.ref a) (.ref b) = none from rfl]
  simp only [e1 a xs ha h, e1 b ys hb h', sh xs h, sh ys h', Bool.and_self, if_true, PyData.eqv]
  rw [eqvAll_of fun x hx y hy => eqv_pur n n x y (h x hx) (h' y hy)]
open Classical in
theorem oEq_pur {S : Sto} {x y : D} {n m : Nat} (hn : n < 40) (hm : m < 40) (h : purD n x = true) (h' : purD m y = true) : oEq x y S = .ok (.bl (decide (x = y))) S := by simp only [oEq, dEq_pur hn hm h h']
open Classical in
theorem oNe_pur {S : Sto} {x y : D} {n m : Nat} (hn : n < 40) (hm : m < 40) (h : purD n x = true) (h' : purD m y = true) : oNe x y S = .ok (.bl (!decide (x = y))) S := by simp only [oNe, dEq_pur hn hm h h']
open Classical in
theorem oEq_lst {S : Sto} {a b : Nat} {xs ys : List D} {n : Nat} (hn : n < 38) (ha : S[a]? = some (.lst xs)) (hb : S[b]? = some (.lst ys)) (h : xs.all (purD n) = true) (h' : ys.all (purD n) = true) : oEq (.ref a) (.ref b) S = .ok (.bl (decide (xs = ys))) S := by simp only [oEq, dEq_lst hn ha hb h h']
open Classical in
theorem oNe_lst {S : Sto} {a b : Nat} {xs ys : List D} {n : Nat} (hn : n < 38) (ha : S[a]? = some (.lst xs)) (hb : S[b]? = some (.lst ys)) (h : xs.all (purD n) = true) (h' : ys.all (purD n) = true) : oNe (.ref a) (.ref b) S = .ok (.bl (!decide (xs = ys))) S := by simp only [oNe, dEq_lst hn ha hb h h']
theorem pur_ints {n : Nat} (ns : List Int) : (ns.map D.int).all (purD n) = true := by
  rw [List.all_eq_true]
  intro x hx
  obtain ⟨i, _, rfl⟩ := List.mem_map.mp hx
  cases n <;> rfl
theorem encI_ints (xs : List Nat) : encI xs = (xs.map fun (i : Nat) => (i : Int)).map D.int := by simp [encI, List.map_map, Function.comp_def]
theorem pur_encI {n : Nat} (ns : List Nat) : (encI ns).all (purD n) = true := by rw [encI_ints]; exact pur_ints _
theorem ints_inj {a b : List Int} : a.map D.int = b.map D.int ↔ a = b := by
  refine ⟨fun h => ?_, fun h => by rw [h]⟩
  have := congrArg (fun l : List D => l.map fun d => match d with | .int i => i | _ => 0) h
  simpa [List.map_map, Function.comp_def] using this
theorem encI_inj {a b : List Nat} : encI a = encI b ↔ a = b := by
  refine ⟨fun h => ?_, fun h => by rw [h]⟩
  have := congrArg (fun l : List D => l.map fun d => match d with | .int i => i.toNat | _ => 0) h
  simpa [encI, List.map_map, Function.comp_def] using this
/-! ### what is shown -/
theorem reprD_same {S : Sto} {a b : Nat} {o : Ob} (ha : S[a]? = some o) (hb : S[b]? = some o) : reprD S (.ref a) = reprD S (.ref b) := by
  have e : toPyR 40 S (.ref a) = toPyR 40 S (.ref b) := by simp only [toPyR, ha, hb]
  simp only [reprD, e]
theorem oRepr_of {S : Sto} {d : D} {t : Str} (h : reprD S d = some t) : oRepr d S = .ok (.str t) S := by simp only [oRepr, h]
theorem repr_lst {N k m : Nat} {L : List D} (hN : N < 10 ^ 39) (hk : k ≤ 38) (hm : m ≤ 100000) (hL : OkL N [] k m L) : ∃ t, ∀ (S : Sto) (n : Nat), S[n]? = some (.lst L) → reprD S (.ref n) = some t := by
  have h0 : Ok N [Ob.lst L] (k + 1) m (.ref 0) := OkL.lst (hL.app' [Ob.lst L]) rfl
  obtain ⟨t, ht⟩ := h0.repr hN (by omega) hm
  refine ⟨t, fun S n hn => ?_⟩
  obtain ⟨qs, e, _⟩ := hL
  have key : ∀ S : Sto, mapO (toPyR 39 S) L = some qs := fun S => mapO_mono (fun x y h => toPyR_mono (fun i o h => by simp at h) (k + 1) 39 x y (by omega) h) e
  have go : ∀ (S : Sto) (n : Nat), S[n]? = some (.lst L) → toPyR 40 S (.ref n) = some (.list qs) := fun S n hn => by
    show (match S[n]? with
      | some (.lst xs) => (mapO (toPyR 39 S) xs).map PyData.list
      | some (.dk []) => some (PyData.dict [])
      | _ => none) = _
    rw [hn]
    show (mapO (toPyR 39 S) L).map PyData.list = _
    rw [key]; rfl
  have e1 : toPyR 40 S (.ref n) = toPyR 40 [Ob.lst L] (.ref 0) := (go S n hn).trans (go [Ob.lst L] 0 rfl).symm
  rw [← ht]
  simp only [reprD, e1]
theorem repr_pure {N k m : Nat} {d : D} (hN : N < 10 ^ 39) (hk : k ≤ 39) (hm : m ≤ 100000) (hd : Ok N [] k m d) : ∃ t, ∀ S : Sto, reprD S d = some t := by
  obtain ⟨t, ht⟩ := hd.repr hN hk hm
  refine ⟨t, fun S => ?_⟩
  obtain ⟨q, e, _⟩ := hd
  have key : ∀ S : Sto, toPyR 40 S d = some q := fun S => toPyR_mono (fun i o h => by simp at h) (k + 1) 40 d q (by omega) e
  rw [← ht]
  simp only [reprD, key]
end Pz

set_option Elab.async false
set_option linter.all false
set_option maxRecDepth 100000
set_option maxHeartbeats 4000000
/-! Lwe: inputs_of, step_word, reached_from, web_error (out of L_k00). -/
namespace Pz
open PySem PySem.Spec PyProof.Rows L2
section
variable {S : Sto} {d : D}
def inputsOf : D → Option Nat
  | .int i => if -99 ≤ i ∧ i ≤ 99 then some 0 else none
  | .str s => if s = "in" then some 0 else if s = "neg" then some 1 else if s = "+" then some 2 else if s = "-" then some 2 else if s = "*" then some 2 else if s = "pick" then some 3 else none
  | _ => none
def oNat : Option Nat → D
  | none => .non
  | some n => .int (n : Nat)
theorem inputs_of_eq (h : PyS S d) : F_inputs_of [d] S = .ok (oNat (inputsOf d)) S := by
  refine eq_Wf (F := F_inputs_of) fun P hP => ?_
  refine W_runF rfl ?_
  simp [b_inputs_of, b_inputs_of_0, b_inputs_of_1, b_inputs_of_2, b_inputs_of_3, is_integer_eq h, isi_str h]
  rcases h.ty with ⟨rfl, e⟩ | ⟨b, rfl, e⟩ | ⟨i, rfl, e⟩ | ⟨s, rfl, e⟩ | ⟨b, rfl, e⟩ | ⟨n, rfl, e⟩
  case inr.inr.inl =>
    simp [isStr, isI]
    by_cases h : -99 ≤ i ∧ i ≤ 99
    · rw [if_pos h]; simpa [inputsOf, h, oNat] using hP
    · rw [if_neg h]; simpa [inputsOf, h, oNat] using hP
  case inr.inr.inr.inl =>
    simp [isStr, isI]
    rw [oIn_str (xs := ["+", "-", "*"]) rfl]
    have e : mergeD [] [(Sum.inr (Str.ofString "in"), D.int 0), (Sum.inr (Str.ofString "neg"), D.int 1), (Sum.inr (Str.ofString "pick"), D.int 3)] = tabS [("in", D.int 0), ("neg", D.int 1), ("pick", D.int 3)] := by kernel_rfl
    simp [oGet_str, e, getD_tab, List.find?_cons]
    simp only [inputsOf] at hP
    by_cases h1 : s = "in"
    · subst h1
      simpa [oNat] using hP
    by_cases h2 : s = "neg"
    · subst h2
      simpa [oNat] using hP
    by_cases h3 : s = "+"
    · subst h3
      simpa [oNat] using hP
    by_cases h4 : s = "-"
    · subst h4
      simpa [oNat] using hP
    by_cases h5 : s = "*"
    · subst h5
      simpa [oNat] using hP
    by_cases h6 : s = "pick"
    · subst h6
      simpa [oNat] using hP
    simp only [h1, h2, h3, h4, h5, h6, if_false, oNat] at hP
    have n1 := Ne.symm h1
    have n2 := Ne.symm h2
    have n6 := Ne.symm h6
    simp [h3, h4, h5, n1, n2, n6]
    exact hP
  all_goals simpa [isStr, isI, inputsOf, oNat] using hP
def stepW (n : Int) : D → Option Str
  | .tup [k, .tup is] => match inputsOf k with
    | none => some "kind"
    | some m => if is.length = m then (if is.all (isI 0 (n - 1)) = true then none else some "input") else some "many"
  | _ => some "step"
def oStr : Option Str → D
  | none => .non
  | some n => .str n
theorem inputsOf_le {d : D} {m : Nat} (h : inputsOf d = some m) : m ≤ 3 := by
  unfold inputsOf at h
  repeat' split at h
  all_goals first | cases h; omega | cases h
theorem step_word_eq (h : PyS S d) (n : Int) : F_step_word [.int n, d] S = .ok (oStr (stepW n d)) S := by
  refine eq_Wf (F := F_step_word) fun P hP => ?_
  refine W_runF rfl ?_
  simp [b_step_word, b_step_word_0, isi_tup h]
  by_cases ht : isTup d = true
  · cases d with
    | tup xs =>
      simp [isTup]
      match xs, h with
      | [], h => simpa [stepW, oStr] using hP
      | [_], h => simpa [stepW, oStr] using hP
      | a :: b :: c :: t, h =>
        have n2 : ¬ ((t.length : Int) + 1 + 1 + 1 = 2) := by omega
        simpa [stepW, oStr, n2] using hP
      | [k, v], h =>
        have hk := h.tup k (by simp)
        have hv := h.tup v (by simp)
        have i1 : oIx (.tup [k, v]) (.int 1) S = .ok v S := oIx_tup (by simp)
        simp [i1, isi_tup hv]
        by_cases hvt : isTup v = true
        · cases v with
          | tup is =>
            simp [isTup, b_step_word_1, b_step_word_2, Tg.put, Tg.puts, inputs_of_eq hk, b_step_word_3]
            simp only [stepW] at hP
            cases hi : inputsOf k with
            | none => simpa [hi, oNat, oStr] using hP
            | some m =>
              have hm := inputsOf_le hi
              simp [hi, oNat, b_step_word_4] at hP ⊢
              by_cases hl : is.length = m
              · simp [hl, b_step_word_5] at hP ⊢
                refine ⟨by simp [sizeLine]; omega, ?_⟩
                refine W_lcD (fun d => .bl (isI 0 (n - 1) d)) trivial (fun b hb => ⟨_, rfl, ?_⟩) ?_
                · simp [wipeL, is_integer_eq (hv.tup b hb)]
                · simp [oAll_map]
                  by_cases h2 : ∀ x ∈ is, isI 0 (n - 1) x = true
                  · rw [if_pos h2] at hP ⊢; exact hP
                  · rw [if_neg h2] at hP ⊢; exact hP
              · have hl2 : ¬ ((is.length : Int) = m) := by omega
                simpa [hl, hl2, oStr] using hP
          | _ => cases hvt
        · simp [hvt]
          cases v with
          | tup is => simp [isTup] at hvt
          | _ => simpa [stepW, oStr] using hP
    | _ => cases ht
  · simp [ht]
    cases d with
    | tup is => simp [isTup] at ht
    | _ => simpa [stepW, oStr] using hP
theorem reached_eq {w : List Stp} {s : Nat} (hl : w.length ≤ 1000) : ∃ fs : List Nat, F_reached_from [encW w, .int s] S = .ok (.ref S.length) (S ++ [.lst (encI fs)]) ∧ ∀ t, t ∈ fs ↔ Rch w s t := by
  suffices h : (F_reached_from [encW w, .int s] S).W fun d S' => d = .ref S.length ∧ ∃ fs : List Nat, S' = S ++ [.lst (encI fs)] ∧ ∀ t, t ∈ fs ↔ Rch w s t by
    obtain ⟨d, S', e, rfl, fs, rfl, h2⟩ := h.ok
    exact ⟨fs, e, h2⟩
  generalize hP : (fun (d : D) (S' : Sto) => d = D.ref S.length ∧ ∃ fs : List Nat, S' = S ++ [.lst (encI fs)] ∧ ∀ t, t ∈ fs ↔ Rch w s t) = P
  refine W_runF rfl ?_
  simp [b_reached_from, b_reached_from_0, b_reached_from_1]
  obtain ⟨I, hI⟩ : ∃ I : Nat → Loc → Sto → Prop, ∀ k l S', I k l S' ↔ ∃ (fs ws : List Nat) (v4 v5 v6 v7 : Option D), l = [some (encW w), some (.int s), some (.ref S.length), some (.ref (S.length + 1)), v4, v5, v6, v7] ∧ S' = S ++ [.lst (encI fs), .lst (encI ws)] ∧ Rinv w s fs ws ∧ k = 2 * (w.length - fs.length) + ws.length ∧ k ≤ 2 * w.length + 1 := ⟨_, fun _ _ _ => Iff.rfl⟩
  refine W_while I (k := 2 * w.length + 1) (by omega) ((hI _ _ _).2 ⟨[], [s], none, none, none, none, rfl, rfl, .start w s, rfl, Nat.le_refl _⟩) ?_
  intro k l S' q
  obtain ⟨fs, ws, v4, v5, v6, v7, rfl, rfl, inv, rfl, hk⟩ := (hI _ _ _).1 q
  have f0 : ∀ fs ws : List Nat, (S ++ [Ob.lst (encI fs), Ob.lst (encI ws)])[S.length]? = some (.lst (encI fs)) := by simp
  have f1 : ∀ fs ws : List Nat, (S ++ [Ob.lst (encI fs), Ob.lst (encI ws)])[S.length + 1]? = some (.lst (encI ws)) := by simp
  simp [sD_ref (f1 fs ws)]
  rcases List.eq_nil_or_concat ws with rfl | ⟨rest, h, rfl⟩
  · simp [encI_nil, b_reached_from_2]
    rw [gc_lst old_append (by simp : _ = some (Ob.lst (encI fs))) (Nat.le_refl _) (by simp only [clO]; exact encI_cl _ _), W_ok, ← hP]
    exact ⟨rfl, fs, by simp, inv.done⟩
  · rw [List.concat_eq_append] at *
    have ne : encI (rest ++ [h]) ≠ [] := by simp [encI]
    simp [ne, b_reached_from_1_0, b_reached_from_1_1]
    simp [W_isL (f1 fs (rest ++ [h]))]
    rw [oPop_ref (xs := encI rest) (y := .int h) (by rw [f1 fs (rest ++ [h]), encI_app]; rfl), W_ok]
    simp [encW]
    obtain ⟨J, hJ⟩ : ∃ J : Nat → Loc → Sto → Prop, ∀ i l S', J i l S' ↔ ∃ (v5 v6 v7 : Option D), l = [some (.tup (w.map encS)), some (.int s), some (.ref S.length), some (.ref (S.length + 1)), some (.int h), v5, v6, v7] ∧ S' = S ++ [.lst (encI (fs ++ newT w h fs i)), .lst (encI (rest ++ newT w h fs i))] := ⟨_, fun _ _ _ => Iff.rfl⟩
    refine W_forL J _ 0 ((hJ _ _ _).2 ⟨v5, v6, v7, rfl, by simp [newT]⟩) ?_ ?_
    · intro i d l S' hx q2
      obtain ⟨v5, v6, v7, rfl, rfl⟩ := (hJ _ _ _).1 q2
      obtain ⟨y, hy, rfl⟩ := enumD_get hx
      rw [List.getElem?_map, Option.map_eq_some_iff] at hy
      obtain ⟨st, hst, rfl⟩ := hy
      have hil := (List.getElem?_eq_some_iff.mp hst).1
      have est : stp w i = st := stp_eq hst
      refine ⟨trivial, _, rfl, ?_⟩
      simp only [Nat.zero_add] at *
      have o1 : ∀ S, oIn (.int (h : Nat)) (.tup (encI st.2)) S = .ok (.bl (decide (h ∈ st.2))) S := fun S => oIn_nat rfl
      have o2 : oNin (.int (i : Nat)) (.ref S.length) (S ++ [Ob.lst (encI (fs ++ newT w h fs i)), Ob.lst (encI (rest ++ newT w h fs i))]) = .ok (.bl (!decide (i ∈ fs ++ newT w h fs i))) (S ++ [Ob.lst (encI (fs ++ newT w h fs i)), Ob.lst (encI (rest ++ newT w h fs i))]) := oNin_nat (seqD_ref (f0 _ _))
      have ni : i ∉ newT w h fs i := fun z => Nat.lt_irrefl _ (newT_mem.mp z).1
      have tie : Tie w h i ↔ h ∈ st.2 := by unfold Tie; rw [est]; exact ⟨fun z => z.2, fun z => ⟨hil, z⟩⟩
      simp [o1, o2, ni, b_reached_from_1_1_0_0, b_reached_from_1_1_0_1]
      by_cases t1 : h ∈ st.2
      · rw [if_pos t1]
        by_cases t2 : i ∈ fs
        · rw [if_pos t2]
          refine (hJ _ _ _).2 ⟨_, _, _, rfl, ?_⟩
          rw [newT_succ, if_neg (fun z => z.2 t2), List.append_nil]
        · rw [if_neg t2]
          have b1 : (newT w h fs i).length ≤ i := Nat.le_trans (List.length_filter_le _ _) (by simp)
          have b2 := nodup_le w.length fs inv.nd fun x hx => (inv.a x hx).lt
          simp only [List.length_append, List.length_cons, List.length_nil] at hk
          rw [W_isL (f0 _ _), oApp_ref (f0 _ _) (by simp only [encI_len, List.length_append, sizeLine]; omega), W_ok, st_set0]
          have ea : ∀ A : List Nat, encI A ++ [D.int (i : Nat)] = encI (A ++ [i]) := fun A => by rw [encI_app]; rfl
          rw [ea, List.set_cons_zero]
          rw [W_isL (f1 _ _), oApp_ref (f1 _ _) (by simp only [encI_len, List.length_append, sizeLine]; omega), W_ok, st_set, ea, List.set_cons_succ, List.set_cons_zero]
          refine (hJ _ _ _).2 ⟨_, _, _, rfl, ?_⟩
          rw [newT_succ, if_pos ⟨tie.mpr t1, t2⟩, List.append_assoc, List.append_assoc]
      · rw [if_neg t1]
        refine (hJ _ _ _).2 ⟨_, _, _, rfl, ?_⟩
        rw [newT_succ, if_neg (fun z => t1 (tie.mp z.1)), List.append_nil]
    · intro l S' q2
      obtain ⟨v5, v6, v7, rfl, rfl⟩ := (hJ _ _ _).1 q2
      have inv' := inv.step
      have hn := nodup_le w.length _ inv'.nd fun x hx => (inv'.a x hx).lt
      simp only [List.length_append] at hn
      refine ⟨trivial, _, ?_, (hI _ _ _).2 ⟨fs ++ newT w h fs w.length, rest ++ newT w h fs w.length, _, _, _, _, rfl, ?_, inv', rfl, ?_⟩⟩
      · simp only [List.length_append]; omega
      · rw [Nat.zero_add, enumD_len, List.length_map]
      · simp only [List.length_append, List.length_cons, List.length_nil] at hk ⊢; omega
def firstBad (n : Int) : Nat → List D → Option (Nat × Str)
  | _, [] => none
  | i, x :: xs => match stepW n x with
    | some w => some (i, w)
    | none => firstBad n (i + 1) xs
theorem firstBad_some {n : Int} : ∀ {xs : List D} {k i : Nat} {x : D} {w : Str}, (∀ j y, j < i → xs[j]? = some y → stepW n y = none) → xs[i]? = some x → stepW n x = some w → firstBad n k xs = some (k + i, w)
  | [], _, _, _, _, _, h, _ => by simp at h
  | y :: xs, k, 0, x, w, _, h, e => by
    simp at h; subst h
    simp [firstBad, e]
  | y :: xs, k, i + 1, x, w, hb, h, e => by
    have h0 := hb 0 y (by omega) rfl
    simp only [firstBad, h0]
    rw [firstBad_some (k := k + 1) (i := i) (fun j z hj hz => hb (j + 1) z (by omega) (by simpa using hz)) (by simpa using h) e]
    congr 2; omega
theorem firstBad_none {n : Int} : ∀ {xs : List D} {k : Nat}, (∀ y ∈ xs, stepW n y = none) → firstBad n k xs = none
  | [], _, _ => rfl
  | y :: xs, k, h => by
    simp only [firstBad, h y List.mem_cons_self]
    exact firstBad_none fun z hz => h z (List.mem_cons_of_mem _ hz)
theorem stepW_none {n : Int} {d : D} (h : stepW n d = none) : ∃ s : Stp, d = encS s ∧ (∀ i ∈ s.2, (i : Int) < n) ∧ s.2.length ≤ 3 := by
  unfold stepW at h
  split at h
  · rename_i k is
    split at h
    · cases h
    · rename_i m hm
      split at h
      · split at h
        · rename_i h1 h2
          have hm3 := inputsOf_le hm
          have : ∃ js : List Nat, is = encI js ∧ ∀ j ∈ js, (j : Int) < n := by
            clear h1 h hm hm3
            induction is with
            | nil => exact ⟨[], rfl, by simp⟩
            | cons x xs ih =>
              simp only [List.all_cons, Bool.and_eq_true] at h2
              obtain ⟨js, e, hj⟩ := ih h2.2
              obtain ⟨a, ha, a0, an⟩ : ∃ a : Int, x = .int a ∧ 0 ≤ a ∧ a ≤ n - 1 := by
                have := h2.1
                unfold isI at this
                split at this
                · rename_i i
                  simp at this
                  exact ⟨i, rfl, this.1, this.2⟩
                · cases this
              refine ⟨a.toNat :: js, ?_, ?_⟩
              · rw [ha, e]; simp [encI]; omega
              · intro j hj'
                rcases List.mem_cons.mp hj' with q | q
                · omega
                · exact hj j q
          obtain ⟨js, rfl, hj⟩ := this
          exact ⟨(k, js), rfl, hj, by rw [encI_len] at h1; show js.length ≤ 3; omega⟩
        · cases h
      · cases h
  · cases h
theorem steps_none {n : Int} : ∀ {xs : List D}, (∀ y ∈ xs, stepW n y = none) → ∃ w : List Stp, xs = w.map encS ∧ ∀ s ∈ w, (∀ i ∈ s.2, (i : Int) < n) ∧ s.2.length ≤ 3
  | [], _ => ⟨[], rfl, by simp⟩
  | x :: xs, h => by
    obtain ⟨w, e, hw⟩ := steps_none fun y hy => h y (List.mem_cons_of_mem _ hy)
    obtain ⟨s, e2, hs⟩ := stepW_none (h x List.mem_cons_self)
    refine ⟨s :: w, by rw [e, e2]; rfl, fun t ht => ?_⟩
    rcases List.mem_cons.mp ht with q | q
    · subst q; exact hs
    · exact hw t q
open Classical in
noncomputable def errD (d : D) : D := match d with
  | .tup xs => if 1 ≤ xs.length ∧ xs.length ≤ 10 then (match firstBad xs.length 0 xs with
      | some (i, w) => .tup [.int (i : Nat), .str w]
      | none => if ∃ w : List Stp, xs = w.map encS ∧ ∃ s, Rch w s s then .tup [.non, .str "ring"] else .non)
    else .tup [.non, .str "web"]
  | _ => .tup [.non, .str "web"]
theorem enc_inj : ∀ {v w : List Stp}, v.map encS = w.map encS → v = w
  | [], [], _ => rfl
  | [], _ :: _, h => by simp at h
  | _ :: _, [], h => by simp at h
  | (a, b) :: v, (c, e) :: w, h => by
    simp only [List.map_cons, List.cons.injEq, encS, D.tup.injEq] at h
    obtain ⟨⟨h1, h2, _⟩, h3⟩ := h
    have : b = e := by
      clear h1 h3
      induction b generalizing e with
      | nil => cases e with
        | nil => rfl
        | cons => simp [encI] at h2
      | cons x xs ih => cases e with
        | nil => simp [encI] at h2
        | cons y ys =>
          simp only [encI, List.map_cons, List.cons.injEq, D.int.injEq] at h2
          obtain ⟨q1, q2⟩ := h2
          rw [ih ys q2, show x = y by omega]
    rw [h1, this, enc_inj h3]
open Classical in
theorem errD_web {w : List Stp} (l1 : 1 ≤ w.length) (l2 : w.length ≤ 10) (hn : ∀ y ∈ w.map encS, stepW (w.length : Nat) y = none) : errD (.tup (w.map encS)) = if ∃ s, Rch w s s then .tup [.non, .str "ring"] else .non := by
  have e0 := firstBad_none (k := 0) hn
  simp only [errD, List.length_map, l1, l2, and_self, if_true, e0]
  have : (∃ w' : List Stp, w.map encS = w'.map encS ∧ ∃ s, Rch w' s s) ↔ ∃ s, Rch w s s := by
    constructor
    · rintro ⟨w', e, h⟩
      rw [enc_inj e]; exact h
    · exact fun h => ⟨w, rfl, h⟩
  by_cases q : ∃ s, Rch w s s
  · rw [if_pos q, if_pos (this.mpr q)]
  · rw [if_neg q, if_neg (fun z => q (this.mp z))]
theorem web_error_eq (h : PyS S d) : F_web_error [d] S = .ok (errD d) S := by
  refine eq_Wf (F := F_web_error) fun P hP => ?_
  refine W_runF rfl ?_
  simp [b_web_error, b_web_error_0, isi_tup h]
  by_cases ht : isTup d = true
  · cases d with
    | tup xs =>
      simp [isTup]
      by_cases hl : 1 ≤ xs.length ∧ xs.length ≤ 10
      · obtain ⟨l1, l2⟩ := hl
        have c1 : (1 : Int) ≤ xs.length := by omega
        have c2 : (xs.length : Int) ≤ 10 := by omega
        simp [c1, c2, b_web_error_1]
        obtain ⟨I, hI⟩ : ∃ I : Nat → Loc → Sto → Prop, ∀ k l S', I k l S' ↔ ∃ (v1 v2 v3 : Option D), l = [some (.tup xs), v1, v2, v3] ∧ S' = S ∧ ∀ j y, j < k → xs[j]? = some y → stepW xs.length y = none := ⟨_, fun _ _ _ => Iff.rfl⟩
        refine W_forL I _ 0 ((hI _ _ _).2 ⟨_, _, _, rfl, rfl, by simp⟩) ?_ ?_
        · intro i y l S' hx q
          obtain ⟨v1, v2, v3, rfl, rfl, hb⟩ := (hI _ _ _).1 q
          obtain ⟨x, hx', rfl⟩ := enumD_get hx
          simp only [Nat.zero_add] at *
          refine ⟨trivial, _, rfl, ?_⟩
          simp [b_web_error_1_0, b_web_error_1_1, step_word_eq (h.tup x (List.mem_of_getElem? hx'))]
          cases e : stepW xs.length x with
          | none =>
            simp [oStr]
            refine (hI _ _ _).2 ⟨_, _, _, rfl, rfl, fun j y hj hy => ?_⟩
            by_cases q : j = i
            · subst q
              rw [hx'] at hy
              cases hy
              exact e
            · exact hb j y (by omega) hy
          | some w =>
            simp [oStr]
            have := firstBad_some (k := 0) hb hx' e
            rw [Nat.zero_add] at this
            simpa [errD, l1, l2, this] using hP
        · intro l S' q
          obtain ⟨v1, v2, v3, rfl, rfl, hb⟩ := (hI _ _ _).1 q
          rw [Nat.zero_add, enumD_len] at hb
          have hn : ∀ y ∈ xs, stepW xs.length y = none := fun y hy => by
            obtain ⟨j, hj⟩ := List.mem_iff_getElem?.mp hy
            exact hb j y (List.getElem?_eq_some_iff.mp hj).1 hj
          have e0 := firstBad_none (k := 0) hn
          obtain ⟨w, rfl, hw⟩ := steps_none hn
          refine ⟨trivial, ?_⟩
          simp only [List.length_map] at l1 l2 hn hw
          rw [errD_web l1 l2 hn] at hP
          simp [b_web_error_2]
          rw [W_kRg (by decide) (rgB_small (by omega) (by omega)), rgD_encI]
          refine ⟨by simp [encI_len, sizeLine]; omega, ?_⟩
          obtain ⟨J, hJ⟩ : ∃ J : Nat → List D → Sto → Prop, ∀ i acc S1, J i acc S1 ↔ ∃ (G : Sto) (bs : List Bool), acc = bs.map (fun b => D.bl b) ∧ S1 = S' ++ G ∧ (true ∈ bs ↔ ∃ s, s < i ∧ Rch w s s) := ⟨_, fun _ _ _ => Iff.rfl⟩
          refine W_lcL J _ 0 ((hJ _ _ _).2 ⟨[], [], rfl, by simp, by simp⟩) ?_ ?_
          · intro i y acc S1 hy q
            obtain ⟨G, bs, rfl, rfl, hbs⟩ := (hJ _ _ _).1 q
            obtain ⟨rfl, hi⟩ : y = .int (i : Nat) ∧ i < w.length := by
              simp only [encI, List.getElem?_map, Option.map_eq_some_iff] at hy
              obtain ⟨a, h1, h2⟩ := hy
              have h3 := (List.getElem?_eq_some_iff.mp h1).1
              rw [List.length_range] at h3
              rw [List.getElem?_range h3] at h1
              cases h1
              exact ⟨h2.symm, h3⟩
            simp only [Nat.zero_add] at *
            refine ⟨trivial, _, rfl, ?_⟩
            obtain ⟨fs, e, hfs⟩ := reached_eq (S := S' ++ G) (w := w) (s := i) (by omega)
            have ee : D.tup (w.map encS) = encW w := rfl
            simp [wipeL, ee, e]
            rw [← List.append_assoc, oIn_nat (xs := fs) (seqD_ref (by simp)), W_ok]
            refine (hJ _ _ _).2 ⟨G ++ [Ob.lst (encI fs)], bs ++ [decide (i ∈ fs)], by simp, by simp, ?_⟩
            rw [List.mem_append, List.mem_singleton, hbs]
            constructor
            · rintro (⟨s, h1, h2⟩ | z)
              · exact ⟨s, by omega, h2⟩
              · exact ⟨i, by omega, (hfs i).mp (of_decide_eq_true z.symm)⟩
            · rintro ⟨s, h1, h2⟩
              by_cases q : s = i
              · subst q; exact .inr (decide_eq_true ((hfs s).mpr h2)).symm
              · exact .inl ⟨s, by omega, h2⟩
          · intro acc S1 q
            obtain ⟨G, bs, rfl, rfl, hbs⟩ := (hJ _ _ _).1 q
            refine ⟨trivial, ?_⟩
            simp [oAny_map (f := fun b => b)]
            rw [Nat.zero_add, encI_len, List.length_range] at hbs
            by_cases q : ∃ s, Rch w s s
            · rw [if_pos q] at hP
              rw [if_pos (hbs.mpr (by obtain ⟨s, z⟩ := q; exact ⟨s, z.lt, z⟩)), gc_tmp (by simp [clD, clDs]), W_ok]
              exact hP
            · rw [if_neg q] at hP
              rw [if_neg (fun z => q (by obtain ⟨s, _, z⟩ := hbs.mp z; exact ⟨s, z⟩))]
              simp [b_web_error_3]
              rw [gc_tmp (by simp [clD]), W_ok]
              exact hP
      · have hl2 : ¬ ((1 : Int) ≤ xs.length ∧ (xs.length : Int) ≤ 10) := by omega
        simp only [errD, hl, if_false] at hP
        by_cases c1 : (1 : Int) ≤ xs.length
        · have c2 : ¬ (xs.length : Int) ≤ 10 := fun z => hl2 ⟨c1, z⟩
          simpa [c1, c2] using hP
        · simpa [c1] using hP
    | _ => cases ht
  · simp [ht]
    cases d with
    | tup is => simp [isTup] at ht
    | _ => exact hP
end
end Pz

set_option Elab.async false
set_option linter.all false
set_option maxRecDepth 100000
set_option maxHeartbeats 4000000
/-! Pw8: texts: what the rules of Pz20 reckon; words that tell numbers. -/
namespace Pz
open PySem PySem.Spec PyProof.Rows L2
section
variable {S : Sto} {l : Loc} {f g : FE} {q : FQ} {P : D → Sto → Prop}
@[simp] theorem W_asS {x : Str} {k : D → Sto → Prop} : (asS (.str x) S).W k ↔ k (.str x) S := by unfold asS; rw [W_ok]
@[simp] theorem W_eJoin : (eJoin f q l S).W P ↔ (f l S).W fun x S1 => (asS x S1).W fun x S1 => (q l S1).W fun xs S2 => (oJoin x xs S2).W P := by unfold eJoin; simp only [W_bind]
@[simp] theorem W_lSplit {P : LV → Sto → Prop} : (lSplit f g l S).W P ↔ (f l S).W fun x S1 => (asS x S1).W fun x S1 => (g l S1).W fun y S2 => (oSplit x y S2).W P := by unfold lSplit; simp only [W_bind]
@[simp] theorem W_iStrD {P : Src → Sto → Prop} : (iStrD f l S).W P ↔ (f l S).W fun x S1 => (kStr x S1).W P := by unfold iStrD; rw [W_bind]
@[simp] theorem kStr_str {z : Str} : kStr (.str z) S = .ok ⟨signs z, noGd⟩ S := rfl
@[simp] theorem oStrOf_str {z : Str} : oStrOf (.str z) S = .ok (.str z) S := rfl
theorem oStrOf_int {i : Int} (h : i.natAbs.log2 < 1920) : oStrOf (.int i) S = .ok (.str (toString i)) S := by simp only [oStrOf, if_pos h]
theorem oJoin_str {a : Str} {ys : List Str} (h : (ys.map (·.length)).sum + ys.length * a.length ≤ 16777216) : oJoin (.str a) (ys.map .str) S = .ok (.str (Txt.join a ys)) S := by
  simp only [oJoin, strsD_map, if_pos h]
theorem oSplit_str {a b : Str} (h0 : b.length ≠ 0) (h : a.length + 2 ≤ sizeLine) : oSplit (.str a) (.str b) S = .ok (.tmp ((Txt.split a b).map .str)) S := by
  simp only [oSplit]
  rw [if_pos (by simp [h0, h])]
theorem oIntS_of {a : Str} {n : Int} (h : PySem.intText? a = some n) (hl : a.length ≤ 640) : oIntS (.str a) S = .ok (.int n) S := by simp only [oIntS, h, if_pos hl]
theorem oInS_one {c : Nat} {z : Str} : oInS (.str ⟨#[c]⟩) (.str z) S = .ok (.bl (decide (c ∈ z.cps.toList))) S := rfl
theorem oNinS_one {c : Nat} {z : Str} : oNinS (.str ⟨#[c]⟩) (.str z) S = .ok (.bl (!decide (c ∈ z.cps.toList))) S := rfl
theorem oIx_str {z : Str} {i : Int} {c : Nat} (hz : z.length ≤ sizeLine) (h : L2.atI z.cps.toList i = some c) : oIx (.str z) (.int i) S = .ok (.str ⟨#[c]⟩) S := by simp only [oIx, if_pos hz, h]
theorem oSl_str {z : Str} {i j : Option Int} (hz : z.length ≤ sizeLine) : oSl (.str z) i j S = .ok (.str (cutS z i j)) S := by simp only [oSl, if_pos hz]
theorem oLenS_str {z : Str} (hz : z.length ≤ sizeLine) : oLenS (.str z) S = .ok (.int (z.length : Nat)) S := by simp only [oLenS, if_pos hz]
end
/-! ### words -/
def isDig (c : Nat) : Bool := decide (48 ≤ c) && decide (c ≤ 57)
theorem digits_mem (c : Nat) : decide (c ∈ (Str.ofString "0123456789").cps.toList) = isDig c := by
  have e : (Str.ofString "0123456789").cps.toList = [48, 49, 50, 51, 52, 53, 54, 55, 56, 57] := by decide +kernel
  rw [e, Bool.eq_iff_iff]
  simp only [isDig, decide_eq_true_eq, Bool.and_eq_true, List.mem_cons, List.not_mem_nil, or_false]
  omega
def numberOf (w : Str) : Option Int := match w.cps.toList with
  | [a] => if isDig a then some ((a : Int) - 48) else none
  | [a, b] => if isDig a && isDig b && a != 48 then some (10 * ((a : Int) - 48) + ((b : Int) - 48)) else none
  | _ => none
def oInt? : Option Int → D
  | none => .non
  | some i => .int i
@[simp] theorem oInt?_none : oInt? none = .non := rfl
@[simp] theorem oInt?_some {i : Int} : oInt? (some i) = .int i := rfl
theorem str_of_toList {w : Str} {xs : List Nat} (h : w.cps.toList = xs) : w = ⟨xs.toArray⟩ := by subst h; cases w; simp
theorem len_toList (w : Str) : w.length = w.cps.toList.length := by simp [Str.length]
theorem int1 {a : Nat} (h : isDig a = true) : PySem.intText? ⟨#[a]⟩ = some ((a : Int) - 48) := by
  have key : ((List.range 10).all fun k => PySem.intText? ⟨#[48 + k]⟩ == some (k : Int)) = true := by decide +kernel
  simp only [isDig, Bool.and_eq_true, decide_eq_true_eq] at h
  have := List.all_eq_true.mp key (a - 48) (List.mem_range.mpr (by omega))
  rw [show 48 + (a - 48) = a by omega] at this
  rw [eq_of_beq this]
  congr 1; omega
theorem int2 {a b : Nat} (h : isDig a = true) (h' : isDig b = true) : PySem.intText? ⟨#[a, b]⟩ = some (10 * ((a : Int) - 48) + ((b : Int) - 48)) := by
  have key : ((List.range 10).all fun k => (List.range 10).all fun j => PySem.intText? ⟨#[48 + k, 48 + j]⟩ == some (10 * (k : Int) + (j : Int))) = true := by decide +kernel
  simp only [isDig, Bool.and_eq_true, decide_eq_true_eq] at h h'
  have := List.all_eq_true.mp (List.all_eq_true.mp key (a - 48) (List.mem_range.mpr (by omega))) (b - 48) (List.mem_range.mpr (by omega))
  rw [show 48 + (a - 48) = a by omega, show 48 + (b - 48) = b by omega] at this
  rw [eq_of_beq this]
  congr 1; omega
theorem numberOf_bound {w : Str} {n : Int} (h : numberOf w = some n) : 0 ≤ n ∧ n ≤ 99 ∧ w.cps.toList ≠ [45] ∧ ∀ r, w.cps.toList ≠ 45 :: r := by
  unfold numberOf at h
  split at h
  · rename_i a e
    split at h
    · rename_i hd
      cases h
      simp only [isDig, Bool.and_eq_true, decide_eq_true_eq] at hd
      rw [e]
      refine ⟨by omega, by omega, fun q => ?_, fun r q => ?_⟩ <;> (cases q; omega)
    · cases h
  · rename_i a b e
    split at h
    · rename_i hd
      cases h
      simp only [isDig, Bool.and_eq_true, decide_eq_true_eq] at hd
      rw [e]
      refine ⟨by omega, by omega, fun q => (by simp at q), fun r q => ?_⟩
      simp at q; omega
    · cases h
  · cases h
def mk (xs : List Nat) : Str := ⟨xs.toArray⟩
theorem mk_toList (xs : List Nat) : (mk xs).cps.toList = xs := rfl
theorem mk_len (xs : List Nat) : (mk xs).length = xs.length := by simp [mk, Str.length]
theorem cutS_to1 {w : Str} : cutS w none (some 1) = mk (w.cps.toList.take 1) := by
  unfold cutS mk
  congr 2
  have e : HT.sIx w.length 0 none = 0 := rfl
  rw [e, List.drop_zero, Nat.sub_zero]
  cases h : w.cps.toList with
  | nil => simp
  | cons a r =>
    have hl : w.length = (a :: r).length := by rw [len_toList, h]
    rw [sIx_pos (by omega) (by rw [hl]; simp; omega)]; rfl
theorem cutS_from1 {w : Str} : cutS w (some 1) none = mk (w.cps.toList.drop 1) := by
  unfold cutS mk
  congr 1
  have e : HT.sIx w.length w.length none = w.length := rfl
  rw [e]
  cases h : w.cps.toList with
  | nil => simp
  | cons a r =>
    have hl : w.length = (a :: r).length := by rw [len_toList, h]
    rw [sIx_pos (by omega) (by rw [hl]; simp; omega), hl]
    simp
theorem mk_inj {a b : List Nat} : mk a = mk b ↔ a = b := ⟨fun h => by have := congrArg (fun s : Str => s.cps.toList) h; simpa [mk] using this, fun h => by rw [h]⟩
theorem eq_mk (w : Str) : w = mk w.cps.toList := str_of_toList rfl
/-! ### the parts of a split text -/
theorem spl_len (T : List Nat) : ∀ (k : Nat) (acc l : List Nat), ∀ p ∈ TL.spl T k acc l, p.length ≤ acc.length + l.length
  | k, acc, [] => fun p hp => by rw [TL.spl_nil, List.mem_singleton] at hp; subst hp; simp
  | 0, acc, c :: r => fun p hp => by
    unfold TL.spl at hp
    split at hp
    · rcases List.mem_cons.mp hp with q | q
      · subst q; simp
      · have := spl_len T _ [] r p q; simp at this ⊢; omega
    · have := spl_len T 0 (acc ++ [c]) r p hp; simp at this ⊢; omega
  | k + 1, acc, c :: r => fun p hp => by
    unfold TL.spl at hp
    have := spl_len T k acc r p hp; simp at this ⊢; omega
theorem split_len {x y : Str} (hy : y.cps.toList ≠ []) (hk : y.cps.all (· < 256) = true) {w : Str} (h : w ∈ Txt.split x y) : w.length ≤ x.length := by
  have e := TL.split_spl x y hy (TL.kind_ok hk)
  have hm : w.cps.toList ∈ TL.spl y.cps.toList 0 [] x.cps.toList := by rw [← e]; exact List.mem_map.mpr ⟨w, h, rfl⟩
  have := spl_len _ _ _ _ _ hm
  rw [len_toList, len_toList]
  simpa using this
theorem split_ne {x y : Str} : Txt.split x y ≠ [] := fun h => by
  have := (PyProof.Rows.fact_split x y).1
  rw [h] at this
  simp at this
def okBlank : (Str.ofString " ").cps.toList ≠ [] ∧ (Str.ofString " ").cps.all (· < 256) = true ∧ (Str.ofString " ").length = 1 := by decide +kernel
def okBreak : (Str.ofString "\n").cps.toList ≠ [] ∧ (Str.ofString "\n").cps.all (· < 256) = true ∧ (Str.ofString "\n").length = 1 := by decide +kernel
/-- None among flat things -/
theorem oIn_non {S : Sto} {n : Nat} {xs : List (Option Int)} (h : S[n]? = some (.lst (xs.map oInt?))) : oIn .non (.ref n) S = .ok (.bl (xs.any fun x => x.isNone)) S := by
  have f : (xs.map oInt?).all flatD = true := by
    rw [List.all_eq_true]
    intro d hd
    obtain ⟨x, _, rfl⟩ := List.mem_map.mp hd
    cases x <;> rfl
  have e : ((xs.map oInt?).any fun z => eqF z .non) = xs.any fun x => x.isNone := by
    rw [List.any_map]
    congr 1
    funext x
    cases x <;> rfl
  simp only [oIn, dIn, seqD_ref h]
  rw [if_pos (by rw [f]; rfl), e]
end Pz

set_option Elab.async false
set_option linter.all false
set_option maxRecDepth 100000
set_option maxHeartbeats 4000000
/-! Ltx: number_of, kind_of, step_of, texts of webs. -/
namespace Pz
open PySem PySem.Spec PyProof.Rows L2
section
variable {S : Sto}
theorem number_of_eq {w : Str} (hl : w.length ≤ 1000000) : F_number_of [.str w] S = .ok (oInt? (numberOf w)) S := by
  refine eq_Wf (F := F_number_of) fun P hP => ?_
  refine W_runF rfl ?_
  have hz : w.length ≤ sizeLine := by simp only [sizeLine]; omega
  simp [b_number_of, b_number_of_0, oLenS_str hz]
  have hlen := len_toList w
  by_cases h1 : 1 ≤ w.length
  · rw [if_pos (by omega)]
    by_cases h2 : w.length ≤ 2
    · rw [if_pos (by omega)]
      have ix : ∀ a r, w.cps.toList = a :: r → oIx (.str w) (.int 0) S = .ok (.str ⟨#[a]⟩) S := fun a r e => oIx_str hz (by rw [e]; simp)
      have e0 : Str.ofString "0" = ⟨#[48]⟩ := by decide +kernel
      have z0 : ∀ a : Nat, ((⟨#[a]⟩ : Str) = Str.ofString "0") ↔ a = 48 := fun a => by
        rw [e0]
        simp
      have hws := fun (L : List Nat) (h : w.cps.toList = L) => str_of_toList h
      have hno : numberOf w = (match w.cps.toList with
        | [a] => if isDig a then some ((a : Int) - 48) else none
        | [a, b] => if isDig a && isDig b && a != 48 then some (10 * ((a : Int) - 48) + ((b : Int) - 48)) else none
        | _ => none) := rfl
      have e1 : w = Str.ofString "0" → w.cps.toList = [48] := fun q => by rw [q, e0]
      simp only [signs]
      generalize w.cps.toList = L at *
      refine ⟨by simp [sizeLine]; omega, ?_⟩
      refine W_lcT (fun c : Nat => D.str ⟨#[c]⟩) (fun c => .bl (isDig c)) trivial (fun c hc => ⟨_, rfl, ?_⟩) ?_
      · simp [wipeL]
        rw [oInS_one, digits_mem]
        exact W_ok.2 ⟨rfl, rfl⟩
      · simp only [qL_tmp, W_ok, oAll_map, asB_bl, W_tNotF]
        match L, hlen with
        | [], hlen => simp at hlen; omega
        | _ :: _ :: _ :: _, hlen => simp at hlen; omega
        | [a], _ =>
          have ix := ix a [] rfl
          have hws := hws _ rfl
          simp only at hno
          rw [hno] at hP
          simp only [List.all_cons, List.all_nil, Bool.and_true]
          by_cases hd : isDig a = true
          · rw [if_pos hd] at hP
            have hin : oIntS (.str w) S = .ok (.int ((a : Int) - 48)) S := oIntS_of (by rw [hws]; exact int1 hd) (by omega)
            simp [hd, b_number_of_1, ix, hin]
            by_cases hw0 : w = Str.ofString "0"
            · rw [if_pos hw0]
              exact hP
            · rw [if_neg hw0]
              have : ¬ a = 48 := fun q => hw0 (by rw [hws, q, e0])
              have hz2 : ¬ (⟨#[a]⟩ : Str) = Str.ofString "0" := fun q => this ((z0 a).mp q)
              simp [hz2]
              exact hP
          · rw [if_neg hd] at hP
            simpa [hd] using hP
        | [a, b], _ =>
          have ix := ix a [b] rfl
          have hws := hws _ rfl
          simp only at hno
          rw [hno] at hP
          simp only [List.all_cons, List.all_nil, Bool.and_true]
          have hw0 : ¬ w = Str.ofString "0" := fun q => by have := e1 q; simp at this
          by_cases hd : isDig a = true
          · by_cases hd2 : isDig b = true
            · have hin : oIntS (.str w) S = .ok (.int (10 * ((a : Int) - 48) + ((b : Int) - 48))) S := oIntS_of (by rw [hws]; exact int2 hd hd2) (by omega)
              simp [hd, hd2, b_number_of_1, ix, hin, hw0]
              by_cases ha : a = 48
              · have : (⟨#[a]⟩ : Str) = Str.ofString "0" := (z0 a).mpr ha
                simp [this]
                simpa [hd, hd2, ha] using hP
              · have : ¬ (⟨#[a]⟩ : Str) = Str.ofString "0" := fun q => ha ((z0 a).mp q)
                simp [this]
                simpa [hd, hd2, ha] using hP
            · simp [hd, hd2] at hP ⊢
              exact hP
          · simp [hd] at hP ⊢
            exact hP
    · rw [if_neg (by omega)]
      have : numberOf w = none := by
        unfold numberOf
        split
        · rename_i e; rw [e] at hlen; simp at hlen; omega
        · rename_i e; rw [e] at hlen; simp at hlen; omega
        · rfl
      rw [this] at hP
      simpa using hP
  · rw [if_neg (by omega)]
    have : numberOf w = none := by
      unfold numberOf
      split
      · rename_i e; rw [e] at hlen; simp at hlen; omega
      · rename_i e; rw [e] at hlen; simp at hlen; omega
      · rfl
    rw [this] at hP
    simpa using hP
def kindOf (w : Str) : Option D := if (inputsOf (.str w)).isSome then some (.str w) else match w.cps.toList with
  | 45 :: r => match numberOf (mk r) with
    | some n => if r = [48] then none else some (.int (0 - n))
    | none => none
  | _ => (numberOf w).map .int
def oD : Option D → D
  | none => .non
  | some d => d
@[simp] theorem oD_none : oD none = .non := rfl
@[simp] theorem oD_some {d : D} : oD (some d) = d := rfl
theorem kind_of_eq {w : Str} (hl : w.length ≤ 1000000) : F_kind_of [.str w] S = .ok (oD (kindOf w)) S := by
  refine eq_Wf (F := F_kind_of) fun P hP => ?_
  refine W_runF rfl ?_
  have hz : w.length ≤ sizeLine := by simp only [sizeLine]; omega
  simp [b_kind_of, b_kind_of_0, inputs_of_eq (S := S) (d := .str w) PyS.str]
  unfold kindOf at hP
  cases hi : inputsOf (.str w) with
  | some n =>
    simp [hi, oNat] at hP ⊢
    exact hP
  | none =>
    have m45 : Str.ofString "-" = mk [45] := by decide +kernel
    have m450 : Str.ofString "-0" = mk [45, 48] := by decide +kernel
    rw [hi] at hP
    simp only [Option.isSome_none, Bool.false_eq_true, if_false] at hP
    simp [oNat, b_kind_of_1, oSl_str hz, cutS_to1, cutS_from1, m45]
    have ew := eq_mk w
    by_cases hm : ∃ r, w.cps.toList = 45 :: r
    · obtain ⟨r, hr⟩ := hm
      rw [hr] at hP ew
      simp only at hP
      have lr : (mk r).length ≤ 1000000 := by rw [mk_len]; have := len_toList w; rw [hr] at this; simp at this; omega
      have t1 : mk (w.cps.toList.take 1) = mk [45] := by rw [hr]; rfl
      have t2 : mk w.cps.toList.tail = mk r := by rw [hr]; rfl
      simp [t1, t2, b_kind_of_2, number_of_eq lr, b_kind_of_3, m450]
      cases hn : numberOf (mk r) with
      | none => rw [hn] at hP; simpa using hP
      | some n =>
        rw [hn] at hP
        have q1 : (w = mk [45, 48]) ↔ r = [48] := by rw [ew, mk_inj]; simp
        have q2 : ¬ mk r = w := by
          rw [ew, mk_inj]
          intro q
          have := congrArg List.length q
          simp at this
        by_cases h48 : r = [48]
        · rw [if_pos (q1.mpr h48)] <;> simp [h48] at hP ⊢ <;> exact hP
        · have q3 : ¬ w = mk [45, 48] := fun q => h48 (q1.mp q)
          simp [q3, h48, b_kind_of_4, q2] at hP ⊢
          exact hP
    · have t1 : ¬ mk (w.cps.toList.take 1) = mk [45] := by
        rw [mk_inj]
        cases hw : w.cps.toList with
        | nil => simp
        | cons a r =>
          simp
          intro q
          exact hm ⟨r, by rw [hw, q]⟩
      have e : (match w.cps.toList with
        | 45 :: r => match numberOf (mk r) with
          | some n => if r = [48] then none else some (.int (0 - n))
          | none => none
        | _ => (numberOf w).map D.int) = (numberOf w).map D.int := by
        split
        · rename_i r hr; exact absurd ⟨r, hr⟩ hm
        · rfl
      rw [e] at hP
      have q3 : ¬ w = mk [45, 48] := fun q => hm ⟨[48], by rw [q]; rfl⟩
      simp [t1, b_kind_of_2, number_of_eq hl, b_kind_of_3, m450, q3]
      cases hn : numberOf w with
      | none => rw [hn] at hP; simpa using hP
      | some n =>
        rw [hn] at hP
        simp [b_kind_of_4] at hP ⊢
        exact hP
theorem kindOf_inputs {w : Str} {k : D} (h : kindOf w = some k) : (∃ n, inputsOf k = some n) ∧ ((∃ i, k = .int i) ∨ ∃ z, k = .str z) := by
  have num : ∀ n : Int, -99 ≤ n → n ≤ 99 → (∃ m, inputsOf (.int n) = some m) ∧ ((∃ i, D.int n = .int i) ∨ ∃ z, D.int n = .str z) := fun n a b => ⟨⟨0, by simp [inputsOf, a, b]⟩, .inl ⟨n, rfl⟩⟩
  unfold kindOf at h
  split at h
  · rename_i q
    cases h
    exact ⟨Option.isSome_iff_exists.mp q, .inr ⟨_, rfl⟩⟩
  · split at h
    · split at h
      · rename_i n hn
        split at h
        · cases h
        · cases h
          have := numberOf_bound hn
          exact num _ (by omega) (by omega)
      · cases h
    · cases hn : numberOf w with
      | none => rw [hn] at h; cases h
      | some n =>
        rw [hn] at h
        cases h
        have := numberOf_bound hn
        exact num _ (by omega) (by omega)
def stepOf (l : Str) : Option D := match Txt.split l " " with
  | [] => none
  | w :: ws => match kindOf w with
    | none => none
    | some k => if ws.any (fun x => (numberOf x).isNone) then none else if inputsOf k = some ws.length then some (.tup [k, .tup (ws.map fun x => oInt? (numberOf x))]) else none
theorem oInt_cl {n : Nat} (x : Option Int) : clD n (oInt? x) = true := by cases x <;> simp [clD]
theorem stepOf_cl {n : Nat} (l : Str) : clD n (oD (stepOf l)) = true := by
  unfold stepOf
  split
  · simp [clD]
  · split
    · simp [clD]
    · rename_i k hk
      split
      · simp [clD]
      · split
        · rcases (kindOf_inputs hk).2 with ⟨i, rfl⟩ | ⟨z, rfl⟩ <;> (simp only [oD_some, clD, clDs, Bool.and_true, Bool.true_and, clDs_all, List.all_map, List.all_eq_true]; intro x hx; exact oInt_cl _)
        · simp [clD]
theorem step_of_eq {l : Str} (hl : l.length ≤ 1000000) : F_step_of [.str l] S = .ok (oD (stepOf l)) S := by
  refine eq_Wf (F := F_step_of) fun P hP => ?_
  refine W_runF rfl ?_
  have wl : ∀ w ∈ Txt.split l " ", w.length ≤ 1000000 := fun w hw => Nat.le_trans (split_len okBlank.1 okBlank.2.1 hw) hl
  have fin : ∀ d G, clD S.length d = true → P d S → (gc S d (S ++ G)).W P := fun d G hc hp => by rw [gc_tmp hc, W_ok]; exact hp
  simp [b_step_of, b_step_of_0]
  rw [oSplit_str (by rw [okBlank.2.2]; omega) (by simp only [sizeLine]; omega)]
  have clq := stepOf_cl (n := S.length) l
  have sl := (PyProof.Rows.fact_split l " ").2
  unfold stepOf at hP clq
  cases hs : Txt.split l " " with
  | nil => exact absurd hs split_ne
  | cons w ws =>
    rw [hs] at wl hP clq sl
    have s0 : (S ++ [Ob.lst (D.str w :: ws.map D.str)])[S.length]? = some (.lst (D.str w :: ws.map .str)) := st_get0
    simp only [W_ok, oeL_tmp]
    simp [b_step_of_1]
    rw [oIx_ref (d := .str w) s0 (by simp), W_ok, kind_of_eq (wl w List.mem_cons_self), W_ok]
    rw [oSl_ref s0, W_ok, cutL_from (by omega) (by simp; omega)]
    simp only [Int.reduceToNat, List.map_cons, List.drop_succ_cons, List.drop_zero]
    simp
    rw [kD_ref (xs := ws.map .str) (by rw [List.getElem?_append_right (by simp)]; simp)]
    simp
    refine ⟨by simp only [sizeLine]; simp at sl; omega, ?_⟩
    refine W_lcT (fun x : Str => D.str x) (fun x => oInt? (numberOf x)) (by rw [atGd_iff, List.getElem?_append_right (by simp)]; simp) (fun x hx => ⟨_, rfl, ?_⟩) ?_
    · simp [wipeL]
      rw [number_of_eq (wl x (List.mem_cons_of_mem _ hx))]
      exact W_ok.2 ⟨rfl, rfl⟩
    · simp [b_step_of_2]
      have n2 : (S ++ [Ob.lst (D.str w :: ws.map D.str), Ob.lst (ws.map D.str), Ob.lst ((ws.map numberOf).map oInt?)])[S.length + 2]? = some (.lst ((ws.map numberOf).map oInt?)) := by rw [st_get]; rfl
      have em : List.map (fun x => oInt? (numberOf x)) ws = (ws.map numberOf).map oInt? := by simp [Function.comp_def]
      rw [em] at *
      simp only at hP clq
      generalize hG : [Ob.lst (D.str w :: ws.map D.str), Ob.lst (ws.map D.str), Ob.lst ((ws.map numberOf).map oInt?)] = G at *
      cases hk : kindOf w with
      | none =>
        rw [hk] at hP
        simp at hP ⊢
        exact fin _ _ (by simp [clD]) hP
      | some k =>
        rw [hk] at hP clq
        simp only at hP clq
        obtain ⟨⟨n, hn⟩, ht⟩ := kindOf_inputs hk
        have pk : PyS (S ++ G) k := by rcases ht with ⟨i, rfl⟩ | ⟨z, rfl⟩; exact PyS.int; exact PyS.str
        have nk : dNon k = false := by rcases ht with ⟨i, rfl⟩ | ⟨z, rfl⟩ <;> rfl
        simp [nk, oIn_non n2, qD_ref n2, inputs_of_eq pk, hn, oNat]
        have ea : ((ws.map numberOf).any fun x => x.isNone) = ws.any fun x => (numberOf x).isNone := by rw [List.any_map]; rfl
        by_cases hany : (ws.any fun x => (numberOf x).isNone) = true
        · rw [if_pos hany] at hP
          rw [if_pos (by simpa [List.any_eq_true] using hany)]
          exact fin _ _ (by simp [clD]) hP
        · rw [if_neg hany] at hP clq
          rw [if_neg (by simpa [List.any_eq_true] using hany)]
          rw [hn] at hP clq
          by_cases hlen : n = ws.length
          · rw [if_pos (by rw [hlen])] at hP clq
            rw [if_pos (by omega)]
            simp [b_step_of_3, qD_ref n2]
            exact fin _ _ (by simpa [Function.comp_def] using clq) (by simpa [Function.comp_def] using hP)
          · rw [if_neg (by simpa using hlen)] at hP
            rw [if_neg (by omega)]
            exact fin _ _ (by simp [clD]) hP
/-! the line of a step -/
def kindT : D → Str
  | .str z => z
  | .int i => Str.ofString (toString i)
  | _ => Str.empty
def numT (n : Nat) : Str := Str.ofString (toString ((n : Nat) : Int))
def lineS (s : Stp) : Str := Txt.join " " (kindT s.1 :: s.2.map numT)
def textW (w : List Stp) : Str := Txt.join "\n" (w.map lineS)
theorem numT_tl {n : Nat} (h : n < 10) : (numT n).cps.toList = [48 + n] := (TL.tl_num n).trans (TL.numL_lt h)
theorem numT_of {n : Nat} (h : n < 10) : numberOf (numT n) = some (n : Int) := by
  unfold numberOf
  rw [numT_tl h]
  have : isDig (48 + n) = true := by simp [isDig]; omega
  simp only [this, if_true]
  congr 1; omega
def kindChk (d : D) (many : Nat) : Bool := decide ((kindT d).length ≤ 4) && decide (32 ∉ (kindT d).cps.toList) && decide (10 ∉ (kindT d).cps.toList) && (match inputsOf d with
  | some m => m == many
  | none => false) && (match kindOf (kindT d), d with
  | some (.int i), .int j => i == j
  | some (.str a), .str b => a == b
  | _, _ => false)
theorem kind_chk {d : D} {many : Nat} (h : KOK d many) : kindChk d many = true := by
  have lits : kindChk (.str "in") 0 = true ∧ kindChk (.str "neg") 1 = true ∧ kindChk (.str "+") 2 = true ∧ kindChk (.str "-") 2 = true ∧ kindChk (.str "*") 2 = true ∧ kindChk (.str "pick") 3 = true := by decide +kernel
  have nums : ((List.range 199).all fun k => kindChk (.int ((k : Int) - 99)) 0) = true := by decide +kernel
  match many, h with
  | 0, .inl h => rw [h]; exact lits.1
  | 0, .inr ⟨i, h, a, b⟩ =>
    subst h
    have := List.all_eq_true.mp nums (i + 99).toNat (List.mem_range.mpr (by omega))
    rw [show (((i + 99).toNat : Nat) : Int) - 99 = i by omega] at this
    exact this
  | 1, h => rw [show d = .str "neg" from h]; exact lits.2.1
  | 2, .inl h => rw [h]; exact lits.2.2.1
  | 2, .inr (.inl h) => rw [h]; exact lits.2.2.2.1
  | 2, .inr (.inr h) => rw [h]; exact lits.2.2.2.2.1
  | 3, h => rw [show d = .str "pick" from h]; exact lits.2.2.2.2.2
theorem kind_facts {d : D} {many : Nat} (h : KOK d many) : (kindT d).length ≤ 4 ∧ 32 ∉ (kindT d).cps.toList ∧ 10 ∉ (kindT d).cps.toList ∧ inputsOf d = some many ∧ kindOf (kindT d) = some d := by
  have c := kind_chk h
  simp only [kindChk, Bool.and_eq_true, decide_eq_true_eq] at c
  obtain ⟨⟨⟨⟨c1, c2⟩, c3⟩, c4⟩, c5⟩ := c
  refine ⟨c1, c2, c3, ?_, ?_⟩
  · cases hi : inputsOf d with
    | none => rw [hi] at c4; cases c4
    | some m => rw [hi] at c4; simp at c4; rw [c4]
  · cases hk : kindOf (kindT d) with
    | none => rw [hk] at c5; cases c5
    | some k =>
      rw [hk] at c5
      cases k <;> cases d <;> simp at c5 <;> rw [c5]
theorem numT_len {n : Nat} (h : n < 10) : (numT n).length = 1 := by rw [len_toList, numT_tl h]; rfl
theorem blank_tl : (Str.ofString " ").cps.toList = [32] := by decide +kernel
theorem break_tl : (Str.ofString "\n").cps.toList = [10] := by decide +kernel
theorem parts_sum {s : Stp} (h : KOK s.1 s.2.length) (hn : ∀ i ∈ s.2, i < 10) : (((kindT s.1 :: s.2.map numT).map (·.length)).sum ≤ 7) ∧ (kindT s.1 :: s.2.map numT).length ≤ 4 := by
  have k := (kind_facts h).1
  have l := h.le
  have : ∀ is : List Nat, (∀ i ∈ is, i < 10) → ((is.map numT).map (·.length)).sum = is.length := by
    intro is
    induction is with
    | nil => exact fun _ => rfl
    | cons i is ih =>
      intro q
      simp only [List.map_cons, List.sum_cons, List.length_cons]
      rw [numT_len (q i List.mem_cons_self), ih fun j hj => q j (List.mem_cons_of_mem _ hj)]; omega
  have e := this s.2 hn
  refine ⟨?_, by simp; omega⟩
  simp only [List.map_cons, List.sum_cons]
  rw [e]; omega
theorem join_len (a : Str) : ∀ ys : List Str, (Str.join a ys).length ≤ (ys.map (·.length)).sum + ys.length * a.length
  | [] => by simp [Str.join, Str.length, Str.empty]
  | [x] => by simp [Str.join]
  | x :: y :: r => by
    have := join_len a (y :: r)
    simp only [Str.join, Str.length_append, List.map_cons, List.sum_cons, List.length_cons] at this ⊢
    rw [Nat.succ_mul (r.length + 1)]
    omega
theorem lineS_len {s : Stp} (h : KOK s.1 s.2.length) (hn : ∀ i ∈ s.2, i < 10) : (lineS s).length ≤ 11 := by
  obtain ⟨h1, h2⟩ := parts_sum h hn
  have := join_len " " (kindT s.1 :: s.2.map numT)
  rw [okBlank.2.2] at this
  unfold lineS
  rw [TL.join_eq]
  omega
theorem join_free (a : Str) (c : Nat) (ha : c ∉ a.cps.toList) : ∀ ys : List Str, (∀ y ∈ ys, c ∉ y.cps.toList) → c ∉ (Str.join a ys).cps.toList
  | [], _ => by simp [Str.join, Str.empty]
  | [x], h => by simpa [Str.join] using h x List.mem_cons_self
  | x :: y :: r, h => by
    have := join_free a c ha (y :: r) fun z hz => h z (List.mem_cons_of_mem _ hz)
    show c ∉ (x ++ a ++ Str.join a (y :: r)).cps.toList
    rw [show (x ++ a ++ Str.join a (y :: r)).cps.toList = x.cps.toList ++ a.cps.toList ++ (Str.join a (y :: r)).cps.toList from (TL.tl_append _ _).trans (congrArg (· ++ (Str.join a (y :: r)).cps.toList) (TL.tl_append x a))]
    simp only [List.mem_append, not_or]
    exact ⟨⟨h x List.mem_cons_self, ha⟩, this⟩
theorem parts_free {s : Stp} (h : KOK s.1 s.2.length) (hn : ∀ i ∈ s.2, i < 10) : ∀ y ∈ kindT s.1 :: s.2.map numT, 32 ∉ y.cps.toList ∧ 10 ∉ y.cps.toList := by
  intro y hy
  rcases List.mem_cons.mp hy with q | q
  · subst q
    exact ⟨(kind_facts h).2.1, (kind_facts h).2.2.1⟩
  · obtain ⟨i, hi, rfl⟩ := List.mem_map.mp q
    rw [numT_tl (hn i hi)]
    simp; omega
theorem lineS_split {s : Stp} (h : KOK s.1 s.2.length) (hn : ∀ i ∈ s.2, i < 10) : Txt.split (lineS s) " " = kindT s.1 :: s.2.map numT :=
  TL.split_join blank_tl okBlank.2.1 (by simp) fun p hp => (parts_free h hn p hp).1
theorem lineS_step {s : Stp} (h : KOK s.1 s.2.length) (hn : ∀ i ∈ s.2, i < 10) : stepOf (lineS s) = some (encS s) := by
  unfold stepOf
  rw [lineS_split h hn]
  obtain ⟨k1, k2, k3, k4, k5⟩ := kind_facts h
  simp only [k5]
  have e1 : ((s.2.map numT).any fun x => (numberOf x).isNone) = false := by
    rw [List.any_eq_false]
    intro x hx
    obtain ⟨i, hi, rfl⟩ := List.mem_map.mp hx
    rw [numT_of (hn i hi)]; simp
  have e2 : (s.2.map numT).map (fun x => oInt? (numberOf x)) = encI s.2 := by
    rw [List.map_map]
    refine List.map_congr_left fun i hi => ?_
    simp [numT_of (hn i hi)]
  simp only [e1, Bool.false_eq_true, if_false, k4, List.length_map, if_true, e2]
  rfl
theorem textW_split {w : List Stp} (hne : w ≠ []) (h : ∀ s ∈ w, KOK s.1 s.2.length ∧ ∀ i ∈ s.2, i < 10) : Txt.split (textW w) "\n" = w.map lineS :=
  TL.split_join break_tl okBreak.2.1 (by simpa using hne) fun p hp => by
    obtain ⟨s, hs, rfl⟩ := List.mem_map.mp hp
    obtain ⟨h1, h2⟩ := h s hs
    have := join_free " " 10 (by rw [blank_tl]; simp) _ fun y hy => (parts_free h1 h2 y hy).2
    unfold lineS
    rw [TL.join_eq]
    exact this
theorem lines_sum {w : List Stp} (h : ∀ s ∈ w, KOK s.1 s.2.length ∧ ∀ i ∈ s.2, i < 10) : ((w.map lineS).map (·.length)).sum ≤ 11 * w.length := by
  induction w with
  | nil => simp
  | cons s w ih =>
    have h1 := lineS_len (h s List.mem_cons_self).1 (h s List.mem_cons_self).2
    have := ih fun t ht => h t (List.mem_cons_of_mem _ ht)
    simp only [List.map_cons, List.sum_cons, List.length_cons]; omega
theorem textW_len {w : List Stp} (hl : w.length ≤ 10) (h : ∀ s ∈ w, KOK s.1 s.2.length ∧ ∀ i ∈ s.2, i < 10) : (textW w).length ≤ 120 := by
  have := join_len "\n" (w.map lineS)
  have h1 := lines_sum h
  unfold textW
  rw [TL.join_eq]
  rw [okBreak.2.2, List.length_map] at this
  omega
theorem kindT_of {d : D} {many : Nat} (h : KOK d many) : oStrOf d S = .ok (.str (kindT d)) S := by
  match many, h with
  | 0, .inl h => rw [h]; rfl
  | 0, .inr ⟨i, h, a, b⟩ =>
    subst h
    have : i.natAbs.log2 < 1920 := Nat.lt_of_le_of_lt (Nat.log2_le_self _) (by omega)
    exact oStrOf_int this
  | 1, h => rw [show d = .str "neg" from h]; rfl
  | 2, .inl h => rw [h]; rfl
  | 2, .inr (.inl h) => rw [h]; rfl
  | 2, .inr (.inr h) => rw [h]; rfl
  | 3, h => rw [show d = .str "pick" from h]; rfl
theorem numT_str {n : Nat} (h : n < 10) : oStrOf (.int (n : Nat)) S = .ok (.str (numT n)) S := oStrOf_int (Nat.lt_of_le_of_lt (Nat.log2_le_self _) (by omega))
end
end Pz

set_option Elab.async false
set_option linter.all false
set_option maxRecDepth 100000
set_option maxHeartbeats 4000000
/-! Pw9: calls by keywords. -/
namespace Pz
open PySem PySem.Spec PyProof.Rows L2
theorem W_eCallK {n : Nat} {perm : List Nat} {F : List D → Sto → Out D} {fa : FA} {l : Loc} {S : Sto} {P : D → Sto → Prop} (h : Len n fa) : (eCallK n perm F fa l S).W P ↔ (fa l S).W fun ds S1 => (F (permL perm ds) S1).W P := by
  unfold eCallK
  rw [W_bind]
  cases e : fa l S with
  | ok ds S1 =>
    rw [W_ok, W_ok]
    unfold oPerm
    rw [if_pos (h _ _ _ _ e)]
  | ex C fs S1 => with_unfolding_all exact Iff.rfl
  | bad => with_unfolding_all exact Iff.rfl
end Pz

set_option Elab.async false
set_option linter.all false
set_option maxRecDepth 100000
set_option maxHeartbeats 4000000
/-! Pw10: objects, and ends by an exception. -/
namespace Pz
open PySem PySem.Spec PyProof.Rows L2
@[irreducible] def Out.X {α : Type} (o : Out α) (E : Str → Option (List (Str × D)) → Sto → Prop) (P : α → Sto → Prop) : Prop := match o with
  | .ok a S => P a S
  | .ex C fs S => E C fs S
  | _ => False
@[irreducible] def OutS.X (o : OutS) (E : Loc → Str → Option (List (Str × D)) → Sto → Prop) (N : Loc → Sto → Prop) (R : D → Sto → Prop) (B C : Loc → Sto → Prop) : Prop := match o with
  | .nx l S => N l S
  | .rt d S => R d S
  | .bk l S => B l S
  | .ct l S => C l S
  | .ex l c fs S => E l c fs S
  | .bad => False
section
variable {α β : Type} {P : α → Sto → Prop} {Q : β → Sto → Prop} {N : Loc → Sto → Prop} {R : D → Sto → Prop} {B C : Loc → Sto → Prop} {l : Loc} {S : Sto} {f g : FS} {u v : FE} {E : Str → Option (List (Str × D)) → Sto → Prop} {EE : Loc → Str → Option (List (Str × D)) → Sto → Prop} {Cn nm : Str} {fa : FA} {F : List D → Sto → Out D} {n : Nat} {fs : List (Str × D)} {d : D} {Cs : List Str}
theorem X_ok {a : α} : (Out.ok a S).X E P ↔ P a S := by with_unfolding_all exact Iff.rfl
theorem X_ex {fs : Option (List (Str × D))} : (Out.ex Cn fs S : Out α).X E P ↔ E Cn fs S := by with_unfolding_all exact Iff.rfl
theorem X_of_W {o : Out α} (h : o.W P) : o.X E P := by
  cases o with
  | ok a S => with_unfolding_all exact h
  | ex => with_unfolding_all exact h.elim
  | bad => with_unfolding_all exact h.elim
theorem XS_of_W {o : OutS} (h : o.W N R B C) : o.X EE N R B C := by
  cases o with
  | nx => with_unfolding_all exact h
  | rt => with_unfolding_all exact h
  | bk => with_unfolding_all exact h
  | ct => with_unfolding_all exact h
  | ex => with_unfolding_all exact h.elim
  | bad => with_unfolding_all exact h.elim
theorem Out.X.mono {o : Out α} {P' : α → Sto → Prop} {E' : Str → Option (List (Str × D)) → Sto → Prop} (h : o.X E P) (j : ∀ c fs S, E c fs S → E' c fs S) (i : ∀ a S, P a S → P' a S) : o.X E' P' := by
  cases o with
  | ok a S => with_unfolding_all exact i _ _ h
  | ex => with_unfolding_all exact j _ _ _ h
  | bad => with_unfolding_all exact h.elim
theorem Out.X.ends {o : Out α} (h : o.X E P) : (∃ a S, o = .ok a S ∧ P a S) ∨ ∃ c fs S, o = .ex c fs S ∧ E c fs S := by
  cases o with
  | ok a S => with_unfolding_all exact .inl ⟨a, S, rfl, h⟩
  | ex c fs S => with_unfolding_all exact .inr ⟨c, fs, S, rfl, h⟩
  | bad => with_unfolding_all exact h.elim
theorem X_bind {o : Out α} {k : α → Sto → Out β} : (o.bind k).X E Q ↔ o.X E fun a S => (k a S).X E Q := by cases o <;> with_unfolding_all exact Iff.rfl
theorem XS_nx : (OutS.nx l S).X EE N R B C ↔ N l S := by with_unfolding_all exact Iff.rfl
theorem XS_toS {o : Out α} {k : α → Sto → OutS} : (toS l o k).X EE N R B C ↔ o.X (fun c fs S => EE l c fs S) fun a S => (k a S).X EE N R B C := by cases o <;> with_unfolding_all exact Iff.rfl
theorem XS_sSeq : (sSeq f g l S).X EE N R B C ↔ (f l S).X EE (fun l S => (g l S).X EE N R B C) R B C := by
  unfold sSeq
  cases f l S <;> with_unfolding_all exact Iff.rfl
theorem XS_sRet : (sRet u l S).X EE N R B C ↔ (u l S).X (fun c fs S => EE l c fs S) R := by
  unfold sRet
  rw [XS_toS]
  with_unfolding_all exact Iff.rfl
theorem XS_sExp : (sExp u l S).X EE N R B C ↔ (u l S).X (fun c fs S => EE l c fs S) fun _ S1 => N l S1 := by
  unfold sExp
  rw [XS_toS]
  with_unfolding_all exact Iff.rfl
theorem XS_sIf {t : FT} : (sIf t f g l S).X EE N R B C ↔ (t l S).X (fun c fs S => EE l c fs S) fun k S1 => if k = true then (f l S1).X EE N R B C else (g l S1).X EE N R B C := by
  unfold sIf
  rw [XS_toS]
  refine iff_of_eq (congrArg _ (funext fun k => funext fun S1 => ?_))
  cases k <;> rfl
theorem XS_sSetN {i : Nat} : (sSet (.nm i) u l S).X EE N R B C ↔ (u l S).X (fun c fs S => EE l c fs S) fun d S1 => N (l.set i (some d)) S1 := by
  unfold sSet
  rw [XS_toS]; with_unfolding_all exact Iff.rfl
theorem XS_sSetT {ts : List Tg} : (sSet (.tp ts) u l S).X EE N R B C ↔ (u l S).X (fun c fs S => EE l c fs S) fun d S1 => ∃ l1, Tg.put (.tp ts) d l = some l1 ∧ N l1 S1 := by
  unfold sSet
  rw [XS_toS]
  refine iff_of_eq (congrArg _ (funext fun d => funext fun S1 => ?_))
  cases Tg.put (.tp ts) d l with
  | none => simp only [reduceCtorEq, false_and, exists_false, iff_false, eq_iff_iff]; with_unfolding_all exact id
  | some l1 => simp only [Option.some.injEq, exists_eq_left', eq_iff_iff]; with_unfolding_all exact Iff.rfl
theorem XS_sRaise {g : FE} {c x : Str} : (sRaise c x g l S).X EE N R B C ↔ (g l S).X (fun c fs S => EE l c fs S) fun d S1 => EE l c (some [(x, d)]) S1 := by
  unfold sRaise
  rw [XS_toS]
  with_unfolding_all exact Iff.rfl
theorem XS_forL {gd : Sto → Prop} {t : Tg} {b : FS} (I : Nat → Loc → Sto → Prop) : ∀ (xs : List D) (k : Nat) {l : Loc} {S : Sto}, I k l S →
    (∀ i x l S, xs[i]? = some x → I (k + i) l S → gd S ∧ ∃ l1, t.put x l = some l1 ∧ (b l1 S).X EE (I (k + i + 1)) R N (I (k + i + 1))) → (∀ l S, I (k + xs.length) l S → gd S ∧ N l S) → (forL gd t b xs l S).X EE N R B C
  | [], k, l, S, h0, hs, he => by
    obtain ⟨h1, h2⟩ := he l S h0
    unfold forL
    rw [if_pos h1]
    with_unfolding_all exact h2
  | x :: xs, k, l, S, h0, hs, he => by
    obtain ⟨h1, l1, h2, h3⟩ := hs 0 x l S rfl h0
    unfold forL
    rw [if_pos h1]
    simp only [h2]
    have nx : ∀ l2 S2, I (k + 0 + 1) l2 S2 → (forL gd t b xs l2 S2).X EE N R B C := fun l2 S2 q => XS_forL I xs (k + 1) (by simpa using q) (fun i y l S e q => by
      have := hs (i + 1) y l S (by simpa using e) (by rw [show k + (i + 1) = k + 1 + i by omega]; with_unfolding_all exact q)
      rw [show k + (i + 1) = k + 1 + i by omega] at this
      with_unfolding_all exact this) fun l S q => he l S (by rw [List.length_cons, show k + (xs.length + 1) = k + 1 + xs.length by omega]; with_unfolding_all exact q)
    cases e : b l1 S with
    | nx l2 S2 => rw [e] at h3; with_unfolding_all exact nx l2 S2 h3
    | ct l2 S2 => rw [e] at h3; with_unfolding_all exact nx l2 S2 h3
    | bk l2 S2 => rw [e] at h3; with_unfolding_all exact h3
    | rt d S2 => rw [e] at h3; with_unfolding_all exact h3
    | ex => rw [e] at h3; with_unfolding_all exact h3
    | bad => rw [e] at h3; with_unfolding_all exact h3.elim
theorem XS_sFor {fi : FI} {t : Tg} {b : FS} : (sFor fi t b l S).X EE N R B C ↔ (fi l S).X (fun c fs S => EE l c fs S) fun x S1 => (forL x.gd t b x.its l S1).X EE N R B C := by unfold sFor; rw [XS_toS]
theorem X_runF {b : FS} {ds : List D} {n nl : Nat} {P : D → Sto → Prop} (hl : ds.length = n) (h : (b (ds.map some ++ List.replicate (nl - n) none) S).X (fun _ c fs S' => (gcX S c fs S').X E P) (fun _ S' => (gc S .non S').W P) (fun d S' => (gc S d S').W P) (fun _ _ => False) (fun _ _ => False)) : (runF n nl b ds S).X E P := by
  unfold runF
  rw [if_pos hl]
  cases e : b (ds.map some ++ List.replicate (nl - n) none) S with
  | rt d S' => rw [e] at h; refine X_of_W ?_; with_unfolding_all exact h
  | nx l S' => rw [e] at h; refine X_of_W ?_; with_unfolding_all exact h
  | ex => rw [e] at h; with_unfolding_all exact h
  | bk => rw [e] at h; with_unfolding_all exact h.elim
  | ct => rw [e] at h; with_unfolding_all exact h.elim
  | bad => rw [e] at h; with_unfolding_all exact h.elim
theorem gcX_same {fs : Option (List (Str × D))} (h : Old S S) (hc : clX S.length fs = true) : gcX S Cn fs S = .ex Cn fs S := by
  unfold gcX
  rw [if_pos ⟨h, hc⟩, List.take_length]
theorem X_eCall {P : D → Sto → Prop} : (eCall F fa l S).X E P ↔ (fa l S).X E fun ds S1 => (F ds S1).X E P := by unfold eCall; rw [X_bind]
theorem X_aC {P : List D → Sto → Prop} : (aC u fa l S).X E P ↔ (u l S).X E fun x S1 => (fa l S1).X E fun xs S2 => P (x :: xs) S2 := by
  unfold aC
  rw [X_bind]
  refine iff_of_eq (congrArg _ (funext fun d => funext fun S1 => ?_))
  rw [X_bind]
  refine congrArg _ (funext fun d => funext fun S1 => ?_)
  rw [X_ok]
theorem W_eMeth {P : D → Sto → Prop} : (eMeth Cn nm F u fa l S).W P ↔ (u l S).W fun x S1 => (isIns Cn nm x S1).W fun _ _ => (fa l S1).W fun ds S2 => (F (x :: ds) S2).W P := by
  unfold eMeth
  rw [W_bind]
  refine iff_of_eq (congrArg _ (funext fun d => funext fun S1 => ?_))
  rw [W_bind]
  refine congrArg _ (funext fun d => funext fun S1 => ?_)
  rw [W_bind]
theorem X_eMeth {P : D → Sto → Prop} : (eMeth Cn nm F u fa l S).X E P ↔ (u l S).X E fun x S1 => (isIns Cn nm x S1).X E fun _ _ => (fa l S1).X E fun ds S2 => (F (x :: ds) S2).X E P := by
  unfold eMeth
  rw [X_bind]
  refine iff_of_eq (congrArg _ (funext fun d => funext fun S1 => ?_))
  rw [X_bind]
  refine congrArg _ (funext fun d => funext fun S1 => ?_)
  rw [X_bind]
theorem isIns_ref (hn : S[n]? = some (.ins Cn fs)) (hl : fs.lookup nm = none) : isIns Cn nm (.ref n) S = .ok (.ref n) S := by
  simp [isIns, hn, hl]
theorem oFld_ref (hn : S[n]? = some (.ins Cn fs)) (hl : fs.lookup nm = some d) : oFld [Cn] nm (.ref n) S = .ok d S := by
  simp [oFld, hn, hl]
theorem oSetF_ref (hn : S[n]? = some (.ins Cn fs)) (hl : fs.length < 1000) : oSetF [Cn] nm d (.ref n) S = some (S.set n (.ins Cn (putFD nm d fs))) := by
  simp [oSetF, hn, hl]
theorem W_sSetF : (sSetF Cs nm u v l S).W N R B C ↔ (u l S).W fun d S1 => (v l S1).W fun x S2 => ∃ S3, oSetF Cs nm d x S2 = some S3 ∧ N l S3 := by
  unfold sSetF
  rw [W_toS]
  refine iff_of_eq (congrArg _ (funext fun d => funext fun S1 => ?_))
  rw [W_toS]
  refine congrArg _ (funext fun x => funext fun S2 => ?_)
  cases oSetF Cs nm d x S2 with
  | none => simp
  | some l1 => simp
theorem W_oMk {P : D → Sto → Prop} {ds : List D} : (oMk Cn F ds S).W P ↔ (F (.ref S.length :: ds) (S ++ [.ins Cn []])).W fun d S1 => d = .non ∧ P (.ref S.length) S1 := by
  unfold oMk
  rw [W_bind]
  refine iff_of_eq (congrArg _ (funext fun d => funext fun S1 => ?_))
  cases d <;> simp
theorem W_eMk {P : D → Sto → Prop} : (eMk Cn F fa l S).W P ↔ (fa l S).W fun ds S1 => (oMk Cn F ds S1).W P := by unfold eMk; rw [W_bind]
theorem W_sTry1 : (sTry1 Cn f g l S).W N R B C ↔ (f l S).X (fun l1 c _ S1 => c = Cn ∧ (g l1 S1).W N R B C) N R B C := by
  unfold sTry1
  cases f l S with
  | ex l1 c fs S1 =>
    by_cases h : c = Cn
    · simp only [h, if_true]
      constructor
      · intro q; with_unfolding_all exact ⟨rfl, q⟩
      · intro q; with_unfolding_all exact q.2
    · simp only [h, if_false]
      constructor
      · intro q; with_unfolding_all exact q.elim
      · intro q; with_unfolding_all exact h q.1
  | nx => with_unfolding_all exact Iff.rfl
  | rt => with_unfolding_all exact Iff.rfl
  | bk => with_unfolding_all exact Iff.rfl
  | ct => with_unfolding_all exact Iff.rfl
  | bad => with_unfolding_all exact Iff.rfl
theorem W_sTryAs {i j : Nat} {hs : List ErrH} (h : (f l S).X (fun l1 c fs S1 => ∃ xs h ds, fs = some xs ∧ hs.find? (fun h => h.C == c) = some h ∧ errL h xs = some ds ∧ i < l1.length ∧ N ((l1.set j (some (.ref S1.length))).set i none) (S1 ++ [.lst ds])) N R B C) : (sTryAs i j f hs l S).W N R B C := by
  unfold sTryAs
  cases e : f l S with
  | ex l1 c fs S1 =>
    rw [e] at h
    have h : ∃ xs h ds, fs = some xs ∧ hs.find? (fun h => h.C == c) = some h ∧ errL h xs = some ds ∧ i < l1.length ∧ N ((l1.set j (some (.ref S1.length))).set i none) (S1 ++ [.lst ds]) := by with_unfolding_all exact h
    obtain ⟨xs, h, ds, rfl, h2, h3, h4, h5⟩ := h
    simp only [h2, h3, h4, if_true, W_nx]
    exact h5
  | nx => rw [e] at h; with_unfolding_all exact h
  | rt => rw [e] at h; with_unfolding_all exact h
  | bk => rw [e] at h; with_unfolding_all exact h
  | ct => rw [e] at h; with_unfolding_all exact h
  | bad => rw [e] at h; with_unfolding_all exact h
end
end Pz

set_option Elab.async false
set_option linter.all false
set_option maxRecDepth 100000
set_option maxHeartbeats 4000000
/-! Pw11: machines as data. -/
namespace Pz
open PySem PySem.Spec PyProof.Rows L2
abbrev Cell := Nat × Int
def encC (c : Cell) : D := .tup [.int (c.1 : Nat), .int c.2]
def mFs (q : Bool) (h : Nat) : List (Str × D) := [("is_queue", .bl q), ("held", .ref h)]
theorem ne_qh : ("is_queue" : Str) ≠ "held" := by decide +kernel
theorem mFs_q {q : Bool} {h : Nat} : (mFs q h).lookup ("is_queue" : Str) = some (D.bl q) := by
  simp [mFs, List.lookup]
theorem mFs_h {q : Bool} {h : Nat} : (mFs q h).lookup ("held" : Str) = some (D.ref h) := by
  have e : (("held" : Str) == "is_queue") = false := by decide +kernel
  simp [mFs, List.lookup, e]
theorem mFs_no {q : Bool} {h : Nat} {x : Str} (h1 : (x == "is_queue") = false) (h2 : (x == "held") = false) : (mFs q h).lookup x = none := by
  simp [mFs, List.lookup, h1, h2]
theorem mFs_put {q : Bool} {h h' : Nat} : putFD "held" (.ref h') (mFs q h) = mFs q h' := by
  have e : ¬ (("is_queue" : Str) = "held") := by decide +kernel
  simp [mFs, putFD, e]
theorem mFs_init1 {q : Bool} : putFD "is_queue" (.bl q) [] = [(("is_queue" : Str), D.bl q)] := rfl
theorem mFs_init2 {q : Bool} {h : Nat} : putFD "held" (.ref h) [(("is_queue" : Str), D.bl q)] = mFs q h := by
  have e : ¬ (("is_queue" : Str) = "held") := by decide +kernel
  simp [mFs, putFD, e]
/-- what is taken, and what stays -/
def tkF {α : Type} (q : Bool) (k : Nat) (cs : List α) : List α := if q = true then cs.take k else (cs.drop (cs.length - k)).reverse
def tkR {α : Type} (q : Bool) (k : Nat) (cs : List α) : List α := if q = true then cs.drop k else cs.take (cs.length - k)
theorem tkF_len {α : Type} {q : Bool} {k : Nat} {cs : List α} (h : k ≤ cs.length) : (tkF q k cs).length = k := by
  unfold tkF; split <;> simp <;> omega
theorem tkF_map {α β : Type} (f : α → β) {q : Bool} {k : Nat} {cs : List α} : tkF q k (cs.map f) = (tkF q k cs).map f := by
  unfold tkF; split <;> simp [List.map_take, List.map_drop]
theorem tkR_map {α β : Type} (f : α → β) {q : Bool} {k : Nat} {cs : List α} : tkR q k (cs.map f) = (tkR q k cs).map f := by
  unfold tkR; split <;> simp [List.map_take, List.map_drop]
theorem tkF_mem {α : Type} {q : Bool} {k : Nat} {cs : List α} {x : α} (h : x ∈ tkF q k cs) : x ∈ cs := by
  unfold tkF at h
  split at h
  · exact List.mem_of_mem_take h
  · exact List.mem_of_mem_drop (List.mem_reverse.mp h)
theorem tkR_mem {α : Type} {q : Bool} {k : Nat} {cs : List α} {x : α} (h : x ∈ tkR q k cs) : x ∈ cs := by
  unfold tkR at h
  split at h
  · exact List.mem_of_mem_drop h
  · exact List.mem_of_mem_take h
theorem tkR_len {α : Type} {q : Bool} {k : Nat} {cs : List α} : (tkR q k cs).length ≤ cs.length := by
  unfold tkR; split <;> simp
/-- the worth of a step -/
def worthOf (k : D) (own : Int) (ws : List Int) : Int := match ws with
  | [] => match k with
    | .int i => i
    | _ => own
  | [a] => 0 - a
  | [a, b] => match k with
    | .str s => if s = "+" then a + b else if s = "-" then a - b else a * b
    | _ => 0
  | [a, b, c] => if a > 0 then b else c
  | _ => 0
def Sm (b : Nat) (i : Int) : Prop := i.natAbs < 2 ^ b
theorem Sm.le {a b : Nat} {i : Int} (h : Sm a i) (hb : a ≤ b) : Sm b i := Nat.lt_of_lt_of_le h (Nat.pow_le_pow_right (by omega) hb)
theorem Sm.mul {a b : Nat} {i j : Int} (h : Sm a i) (h' : Sm b j) : Sm (a + b) (i * j) := wide_lt h h'
theorem Sm.add {a : Nat} {i j : Int} (h : Sm a i) (h' : Sm a j) : Sm (a + 1) (i + j) := by
  unfold Sm at *
  rw [Nat.pow_succ]; omega
theorem Sm.sub {a : Nat} {i j : Int} (h : Sm a i) (h' : Sm a j) : Sm (a + 1) (i - j) := by
  unfold Sm at *
  rw [Nat.pow_succ]; omega
theorem Sm.cmul {a : Nat} {i j : Int} (h : Sm a i) (h' : Sm a j) (h0 : 0 < a) (h1 : a + a ≤ 1000000) : cMul i j = true := by
  have := wide_mul h h' h0 h0 h1
  unfold cMul
  rw [decide_eq_true_eq]
  exact .inr this
theorem worthOf_sm {b : Nat} {k : D} {own : Int} {ws : List Int} (hk : KOK k ws.length) (hb : 7 ≤ b) (ho : Sm b own) (hw : ∀ x ∈ ws, Sm b x) : Sm (b + b) (worthOf k own ws) := by
  match ws, hk with
  | [], .inl h => subst h; exact ho.le (by omega)
  | [], .inr ⟨i, h, h1, h2⟩ =>
    subst h
    show i.natAbs < 2 ^ (b + b)
    exact Nat.lt_of_lt_of_le (show i.natAbs < 2 ^ 7 by omega) (Nat.pow_le_pow_right (by omega) (by omega))
  | [a], _ =>
    have := hw a (by simp)
    show Sm (b + b) (0 - a)
    unfold Sm at *
    exact Nat.lt_of_lt_of_le (show (0 - a).natAbs < 2 ^ b by omega) (Nat.pow_le_pow_right (by omega) (by omega))
  | [a, c], h =>
    have ha := hw a (by simp)
    have hc := hw c (by simp)
    have add := (ha.add hc).le (show b + 1 ≤ b + b by omega)
    have sub := (ha.sub hc).le (show b + 1 ≤ b + b by omega)
    have mul := ha.mul hc
    unfold worthOf
    rcases h with rfl | rfl | rfl <;> (simp only; split <;> first | assumption | (split <;> assumption))
  | [a, c, d], _ =>
    unfold worthOf
    simp only
    split
    · exact (hw c (by simp)).le (by omega)
    · exact (hw d (by simp)).le (by omega)
/-- an instruction -/
structure Ins where
  s : Nat
  ts : List Nat
  c : Nat
def encJ (x : Ins) : D := .tup [.int (x.s : Nat), .tup (encI x.ts), .int (x.c : Nat)]
structure InsOk (w : List Stp) (x : Ins) : Prop where
  lt : x.s < w.length
  len : x.ts.length = (stp w x.s).2.length
  ok : ∀ t ∈ x.ts, t < x.ts.length
  c30 : x.c ≤ 30
def cellG (cs : List Cell) (t : Nat) : Cell := cs.getD t (0, 0)
/-- an instruction done: its worth, the givers of its inputs, the cells behind -/
def doW (q : Bool) (w : List Stp) (x : Ins) (own : Int) (cs : List Cell) : Int := worthOf (stp w x.s).1 own (x.ts.map fun t => (cellG (tkF q x.ts.length cs) t).2)
def doG (q : Bool) (x : Ins) (cs : List Cell) : List Nat := x.ts.map fun t => (cellG (tkF q x.ts.length cs) t).1
def doR (q : Bool) (w : List Stp) (x : Ins) (own : Int) (cs : List Cell) : List Cell := tkR q x.ts.length cs ++ List.replicate x.c (x.s, doW q w x own cs)
theorem cellG_mem {cs : List Cell} {t : Nat} (h : t < cs.length) : cellG cs t ∈ cs := by
  unfold cellG
  rw [List.getD_eq_getElem?_getD, List.getElem?_eq_getElem h]
  exact List.getElem_mem h
theorem cellG_get {cs : List Cell} {t : Nat} (h : t < cs.length) : cs[t]? = some (cellG cs t) := by
  unfold cellG
  rw [List.getD_eq_getElem?_getD, List.getElem?_eq_getElem h]
  rfl
/-- the machine stands at n over the store S0, holding these cells -/
def MaS (q : Bool) (n : Nat) (S0 S : Sto) (cs : List Cell) : Prop := ∃ h G, S = S0.set n (.ins "Machine" (mFs q h)) ++ G ∧ n < S0.length ∧ S[h]? = some (.lst (cs.map encC)) ∧ h ≠ n
section
variable {q : Bool} {n : Nat} {S0 S : Sto} {cs cs' : List Cell}
theorem MaS.at (M : MaS q n S0 S cs) : ∃ h, S[n]? = some (.ins "Machine" (mFs q h)) ∧ S[h]? = some (.lst (cs.map encC)) ∧ h ≠ n := by
  obtain ⟨h, G, rfl, h1, h2, h3⟩ := M
  exact ⟨h, by rw [List.getElem?_append_left (by simpa using h1), List.getElem?_set_self h1], h2, h3⟩
theorem MaS.len (M : MaS q n S0 S cs) : S0.length ≤ S.length := by
  obtain ⟨h, G, rfl, h1, h2, h3⟩ := M
  simp
theorem MaS.lt (M : MaS q n S0 S cs) : n < S0.length := by
  obtain ⟨h, G, rfl, h1, h2, h3⟩ := M
  exact h1
theorem MaS.old (M : MaS q n S0 S cs) {i : Nat} {o : Ob} (h : S0[i]? = some o) (hn : i ≠ n) : S[i]? = some o := by
  obtain ⟨h', G, rfl, h1, h2, h3⟩ := M
  have := (List.getElem?_eq_some_iff.mp h).1
  rw [List.getElem?_append_left (by simpa using this), List.getElem?_set_ne (Ne.symm hn)]
  exact h
/-- the machine holds another list, which is new -/
theorem MaS.put (M : MaS q n S0 S cs) {G : Sto} {h : Nat} (hh : (S ++ G)[h]? = some (.lst (cs'.map encC))) (hn : h ≠ n) : MaS q n S0 ((S ++ G).set n (.ins "Machine" (mFs q h))) cs' := by
  have hl := M.len
  have ht := M.lt
  obtain ⟨h', G', rfl, h1, h2, h3⟩ := M
  refine ⟨h, G' ++ G, ?_, h1, ?_, hn⟩
  · rw [List.append_assoc, List.set_append_left _ _ (by simpa using h1), List.set_set]
  · rw [List.getElem?_set_ne (Ne.symm hn)]; exact hh
theorem MaS.app (M : MaS q n S0 S cs) (G : Sto) : MaS q n S0 (S ++ G) cs := by
  obtain ⟨h', G', rfl, h1, h2, h3⟩ := M
  exact ⟨h', G' ++ G, by rw [List.append_assoc], h1, by rw [List.getElem?_append_left (List.getElem?_eq_some_iff.mp h2).1]; exact h2, h3⟩
end
theorem gc_new {S S' : Sto} {d : D} (h : ¬ Old S S') : gc S d S' = .ok d S' := by
  unfold gc
  rw [if_neg (fun z => h z.1)]
  split
  · split
    · rw [if_neg (fun z => h z.1)]
    · rfl
  · rfl
theorem not_old {S S' : Sto} {n h h' : Nat} {q : Bool} (h1 : S[n]? = some (.ins "Machine" (mFs q h))) (h2 : S'[n]? = some (.ins "Machine" (mFs q h'))) (h3 : h < S.length) (h4 : S.length ≤ h') : ¬ Old S S' := fun o => by
  have hl := (List.getElem?_eq_some_iff.mp h1).1
  rcases o n _ hl h2 with e | e
  · rw [h1] at e
    have e := congrArg (fun o => match o with
      | some (Ob.ins _ fs) => fs.lookup ("held" : Str)
      | _ => none) e
    simp only [mFs_h, Option.some.injEq, D.ref.injEq] at e
    omega
  · simp [clO, clA, mFs, clD] at e
    omega
end Pz

set_option Elab.async false
set_option linter.all false
set_option maxRecDepth 100000
set_option maxHeartbeats 4000000
/-! Pw12: the ties of a web as data. -/
namespace Pz
open PySem PySem.Spec PyProof.Rows L2
theorem W_eExt {f : FE} {g : FL} {l : Loc} {S : Sto} {P : D → Sto → Prop} {n : Nat} (h : (f l S).W fun x S1 => x = .ref n ∧ ∃ zs, S1[n]? = some (.lst zs) ∧ (g l S1).W fun y S2 => ∃ xs ys, S2[n]? = some (.lst xs) ∧ y.get S2 = some ys ∧ xs.length + ys.length ≤ sizeLine ∧ P .non (S2.set n (.lst (xs ++ ys)))) : (eExt f g l S).W P := by
  unfold eExt
  rw [W_bind]
  refine h.mono fun x S1 ⟨e, zs, h0, h1⟩ => ?_
  subst e
  rw [W_bind]
  have i : isL (.ref n) S1 = .ok (.ref n) S1 := by simp only [isL, h0]
  rw [i, W_ok, W_bind]
  refine h1.mono fun y S2 ⟨xs, ys, h2, h3, h4, h5⟩ => ?_
  simp only [h2, h3, if_pos h4, W_ok]
  exact h5
theorem W_eIx {f g : FE} {l : Loc} {S : Sto} {P : D → Sto → Prop} : (eIx f g l S).W P ↔ (f l S).W fun x S1 => (eIxB g l x S1).W P := by unfold eIx; rw [W_bind]
theorem W_eIxB {g : FE} {l : Loc} {S : Sto} {P : D → Sto → Prop} {xs : List D} : (eIxB g l (.tup xs) S).W P ↔ (g l S).W fun y S1 => (oIndexT (.tup xs) y S1).W P := by unfold eIxB; rw [W_bind]
theorem oIndexT_nat {row : List Nat} {s : Nat} {S : Sto} (h : s ∈ row) : oIndexT (.tup (encI row)) (.int (s : Nat)) S = .ok (.int (row.idxOf s : Nat)) S := by
  have e : intsD (encI row) = some (row.map fun (i : Nat) => (i : Int)) := by rw [encI_ints, intsD_map]
  have hm : ((s : Nat) : Int) ∈ row.map fun (i : Nat) => (i : Int) := List.mem_map.mpr ⟨s, h, rfl⟩
  have ix : ∀ l : List Nat, (l.map fun (i : Nat) => (i : Int)).idxOf ((s : Nat) : Int) = l.idxOf s := by
    intro l
    induction l with
    | nil => rfl
    | cons a l ih =>
      simp only [List.map_cons, List.idxOf_cons, ih]
      by_cases q : a = s
      · subst q; simp
      · rw [beq_false_of_ne q, beq_false_of_ne (show ((a : Nat) : Int) ≠ s by omega)]
  simp only [oIndexT, e, if_pos hm, ix]
theorem enumD_encI (is : List Nat) : enumD 0 (encI is) = (List.range is.length).map fun p => D.tup [.int (p : Nat), .int (is.getD p 0 : Nat)] := by
  refine List.ext_getElem? fun p => ?_
  by_cases h : p < is.length
  · have hl : p < (enumD 0 (encI is)).length := by rw [enumD_len, encI_len]; exact h
    obtain ⟨x, h1, h2⟩ := enumD_get (List.getElem?_eq_getElem hl)
    rw [List.getElem?_eq_getElem hl, h2, List.getElem?_map, List.getElem?_range h]
    simp only [encI, List.getElem?_map, List.getElem?_eq_getElem h, Option.map_some, Option.some.injEq] at h1
    subst h1
    simp [List.getD, h]
  · rw [List.getElem?_eq_none (by rw [enumD_len, encI_len]; omega), List.getElem?_eq_none (by simp; omega)]
theorem encR_get {n i : Nat} {d : D} (h : (encI (List.range n))[i]? = some d) : i < n ∧ d = .int (i : Nat) := by
  have hl := (List.getElem?_eq_some_iff.mp h).1
  rw [encI_len, List.length_range] at hl
  simp only [encI, List.getElem?_map, List.getElem?_range hl, Option.map_some, Option.some.injEq] at h
  exact ⟨hl, h.symm⟩
theorem gc_keep {S S' : Sto} {n : Nat} {o : Ob} (hn : S'[n]? = some o) (h : clO S.length o = false) (hl : S.length ≤ n) : gc S (.ref n) S' = .ok (.ref n) S' := by
  unfold gc
  rw [if_neg (fun z => by have := z.2; simp only [clD, decide_eq_true_eq] at this; omega)]
  simp only [hn]
  rw [if_neg (fun z => by rw [h] at z; exact absurd z.2.2 (by decide))]
def rowT (t : Nat) (is : List Nat) : List (List Int) := (List.range is.length).map fun p => [((is.getD p 0 : Nat) : Int), ((t : Nat) : Int), ((p : Nat) : Int)]
/-- the ties as they are found -/
def tieU (w : List Stp) (n : Nat) : List (List Int) := ((List.range n).map fun t => rowT t (stp w t).2).flatten
/-- the ties, ascending -/
def tieS (w : List Stp) : List (List Int) := (tieU w w.length).mergeSort leL
/-- how many inputs take from a step -/
def nOut (w : List Stp) (s : Nat) : Nat := ((List.range w.length).map fun t => (stp w t).2).flatten.count s
theorem rowT_len {t : Nat} {is : List Nat} : (rowT t is).length = is.length := by simp [rowT]
theorem tieU_succ {w : List Stp} {n : Nat} : tieU w (n + 1) = tieU w n ++ rowT n (stp w n).2 := by simp [tieU, List.range_succ]
theorem tieU_mem {w : List Stp} {n : Nat} {l : List Int} : l ∈ tieU w n ↔ ∃ t p, t < n ∧ p < (stp w t).2.length ∧ l = [(((stp w t).2.getD p 0 : Nat) : Int), ((t : Nat) : Int), ((p : Nat) : Int)] := by
  simp only [tieU, List.mem_flatten, List.mem_map, List.mem_range, rowT]
  constructor
  · rintro ⟨_, ⟨t, ht, rfl⟩, h⟩
    obtain ⟨p, hp, rfl⟩ := List.mem_map.mp h
    exact ⟨t, p, ht, List.mem_range.mp hp, rfl⟩
  · rintro ⟨t, p, ht, hp, rfl⟩
    exact ⟨_, ⟨t, ht, rfl⟩, List.mem_map.mpr ⟨p, List.mem_range.mpr hp, rfl⟩⟩
theorem tieU_ne {w : List Stp} {n : Nat} {l : List Int} (h : l ∈ tieU w n) : l ≠ [] := by
  obtain ⟨_, _, _, _, rfl⟩ := tieU_mem.mp h; simp
theorem tieS_perm (w : List Stp) : (tieS w).Perm (tieU w w.length) := List.mergeSort_perm _ _
theorem tieS_mem {w : List Stp} {l : List Int} : l ∈ tieS w ↔ ∃ t p, t < w.length ∧ p < (stp w t).2.length ∧ l = [(((stp w t).2.getD p 0 : Nat) : Int), ((t : Nat) : Int), ((p : Nat) : Int)] := by
  rw [(tieS_perm w).mem_iff, tieU_mem]
/-- a tie's giver -/
def tieG (l : List Int) : Int := l.getD 0 0
theorem rowT_count (s t : Nat) : ∀ is : List Nat, ((rowT t is).filter fun l => decide (tieG l = (s : Int))).length = is.count s := by
  intro is
  have e : (rowT t is).map tieG = is.map fun (i : Nat) => (i : Int) := by
    refine List.ext_getElem? fun p => ?_
    simp only [rowT, List.map_map, List.getElem?_map]
    by_cases h : p < is.length
    · rw [List.getElem?_range h]; simp [tieG, List.getD, h]
    · rw [List.getElem?_eq_none (by simpa using h), List.getElem?_eq_none (by simpa using h)]; rfl
  rw [← List.countP_eq_length_filter]
  have : List.countP (fun l => decide (tieG l = (s : Int))) (rowT t is) = List.countP (fun i => decide (i = (s : Int))) ((rowT t is).map tieG) := by rw [List.countP_map]; rfl
  rw [this, e, List.countP_map, List.count, List.countP_congr]
  intro x _
  simp
  exact ⟨fun h => by omega, fun h => by omega⟩
theorem tieU_count {w : List Stp} (s : Nat) : ∀ n : Nat, ((tieU w n).filter fun l => decide (tieG l = (s : Int))).length = ((List.range n).map fun t => (stp w t).2).flatten.count s
  | 0 => by simp [tieU]
  | n + 1 => by
    rw [tieU_succ, List.filter_append, List.length_append, tieU_count s n, rowT_count, List.range_succ, List.map_append, List.flatten_append, List.count_append]
    simp
theorem tieS_count (w : List Stp) (s : Nat) : ((tieS w).filter fun l => decide (tieG l = (s : Int))).length = nOut w s := by
  rw [((tieS_perm w).filter _).length_eq, tieU_count]; rfl
theorem tieU_len {w : List Stp} (h : ∀ t, t < w.length → (stp w t).2.length ≤ 3) : ∀ n, n ≤ w.length → (tieU w n).length ≤ 3 * n
  | 0, _ => by simp [tieU]
  | n + 1, hn => by
    rw [tieU_succ, List.length_append, rowT_len]
    have := tieU_len h n (by omega)
    have := h n (by omega)
    omega
theorem tieS_len (w : List Stp) : (tieS w).length = (tieU w w.length).length := (tieS_perm w).length_eq
theorem Web.le3 {w : List Stp} (hw : Web w) {t : Nat} (ht : t < w.length) : (stp w t).2.length ≤ 3 := (hw.ok _ (List.mem_of_getElem? (stp_get ht))).1.le
theorem nOut_le {w : List Stp} (hw : Web w) (s : Nat) : nOut w s ≤ 3 * w.length := by
  rw [← tieS_count]
  refine Nat.le_trans (List.length_filter_le _ _) ?_
  rw [tieS_len]
  exact tieU_len (fun t ht => hw.le3 ht) _ (Nat.le_refl _)
end Pz

set_option Elab.async false
set_option linter.all false
set_option maxRecDepth 100000
set_option maxHeartbeats 4000000
/-! Pw15: reckoning with dicts; what a machine that runs a program tells. -/
namespace Pz
open PySem PySem.Spec PyProof.Rows L2
section
variable {l : Loc} {S : Sto} {u v k : FE} {N R : Loc → Sto → Prop}
theorem W_sDPut {N : Loc → Sto → Prop} {R : D → Sto → Prop} {B C : Loc → Sto → Prop} : (sDPutF u v k l S).W N R B C ↔ (u l S).W fun d S1 => (v l S1).W fun x S2 => (k l S2).W fun y S3 => ∃ S4, oDPut d x y S3 = some S4 ∧ N l S4 := by
  unfold sDPutF
  rw [W_toS]
  refine iff_of_eq (congrArg _ (funext fun d => funext fun S1 => ?_))
  rw [W_toS]
  refine congrArg _ (funext fun x => funext fun S2 => ?_)
  rw [W_toS]
  refine congrArg _ (funext fun y => funext fun S3 => ?_)
  cases oDPut d x y S3 with
  | none => simp
  | some l1 => simp
theorem W_eDispIx {f : FE} {r : FP} {P : D → Sto → Prop} : (eDispIx r f l S).W P ↔ (r l S).W fun kvs S1 => kvs.length ≤ 15 ∧ (f l S1).W fun k S2 => (oIxD kvs k S2).W P := by
  unfold eDispIx
  rw [W_bind]
  refine iff_of_eq (congrArg _ (funext fun d => funext fun S1 => ?_))
  split
  · rename_i h; rw [W_bind]; simp [h]
  · rename_i h; simp [h]
end
/-- a dict from numbers to numbers -/
def encF (fd : List (Nat × Int)) : List (Key × D) := fd.map fun p => (.inl (p.1 : Nat), .int p.2)
def putN (fd : List (Nat × Int)) (k : Nat) (v : Int) : List (Nat × Int) := if (fd.any fun p => decide (p.1 = k)) = true then fd.map (fun p => if p.1 = k then (p.1, v) else p) else fd ++ [(k, v)]
def getN (fd : List (Nat × Int)) (k : Nat) : Option Int := (fd.find? fun p => decide (p.1 = k)).map (·.2)
theorem key_eq {a b : Nat} : ((Sum.inl ((a : Nat) : Int) : Key) = .inl ((b : Nat) : Int)) ↔ a = b := ⟨fun h => by have := Sum.inl.inj h; omega, fun h => by rw [h]⟩
theorem encF_put (fd : List (Nat × Int)) (k : Nat) (v : Int) : Pz.putD (encF fd) (.inl (k : Nat)) (.int v) = encF (putN fd k v) := by
  have e : ((encF fd).any fun kv => decide (kv.1 = (.inl (k : Nat) : Key))) = fd.any fun p => decide (p.1 = k) := by
    unfold encF
    rw [List.any_map]
    refine congrArg (fun f => List.any fd f) (funext fun p => ?_)
    simp only [Function.comp, key_eq]
  unfold Pz.putD putN
  rw [e]
  split
  · unfold encF
    rw [List.map_map, List.map_map]
    refine List.map_congr_left fun p _ => ?_
    simp only [Function.comp, key_eq]
    by_cases h : p.1 = k
    · simp [h]
    · simp [h]
  · simp [encF]
theorem encF_get (fd : List (Nat × Int)) (k : Nat) : Pz.getD (encF fd) (.inl (k : Nat)) = (getN fd k).map .int := by
  induction fd with
  | nil => rfl
  | cons p fd ih =>
    unfold Pz.getD getN encF at *
    rw [List.map_cons]
    by_cases h : p.1 = k
    · simp [List.find?_cons, h]
    · have h2 : ¬ ((Sum.inl ((p.1 : Nat) : Int) : Key) = .inl ((k : Nat) : Int)) := fun z => h (key_eq.1 z)
      simp only [List.find?_cons, h2, h, decide_false]
      exact ih
theorem intK_encF (fd : List (Nat × Int)) : intK (encF fd) = some (fd.map fun p => ((p.1 : Nat) : Int)) := by
  induction fd with
  | nil => rfl
  | cons p fd ih =>
    show (intK (encF fd)).map (((p.1 : Nat) : Int) :: ·) = _
    rw [ih]; rfl
theorem putN_len (fd : List (Nat × Int)) (k : Nat) (v : Int) : (putN fd k v).length ≤ fd.length + 1 := by
  unfold putN; split <;> simp
theorem putN_mem {fd : List (Nat × Int)} {k : Nat} {v : Int} {p : Nat × Int} (h : p ∈ putN fd k v) : p.2 = v ∨ p ∈ fd := by
  unfold putN at h
  split at h
  · obtain ⟨q, hq, rfl⟩ := List.mem_map.mp h
    split
    · exact .inl rfl
    · exact .inr hq
  · rcases List.mem_append.mp h with q | q
    · exact .inr q
    · simp at q; subst q; exact .inl rfl
theorem getN_mem {fd : List (Nat × Int)} {k : Nat} (h : k ∈ fd.map (·.1)) : ∃ v, getN fd k = some v ∧ (k, v) ∈ fd := by
  induction fd with
  | nil => simp at h
  | cons p fd ih =>
    unfold getN at *
    by_cases e : p.1 = k
    · exact ⟨p.2, by simp [List.find?_cons, e], by rw [← e]; simp⟩
    · simp only [List.map_cons, List.mem_cons] at h
      obtain ⟨v, h1, h2⟩ := ih (h.resolve_left (fun z => e z.symm))
      exact ⟨v, by simpa [List.find?_cons, e] using h1, by simp [h2]⟩
/-- the dict's keys, sorted, and what stands there -/
def keysS (fd : List (Nat × Int)) : List Nat := (fd.map (·.1)).mergeSort fun a b => decide (a ≤ b)
def tellN (fd : List (Nat × Int)) : List Int := (keysS fd).map fun k => (getN fd k).getD 0
theorem keysS_mem {fd : List (Nat × Int)} {k : Nat} (h : k ∈ keysS fd) : ∃ v, getN fd k = some v ∧ (k, v) ∈ fd := getN_mem ((List.mergeSort_perm _ _).mem_iff.mp h)
theorem keysS_int (fd : List (Nat × Int)) : (fd.map fun p => ((p.1 : Nat) : Int)).mergeSort (fun a b => decide (a ≤ b)) = (keysS fd).map fun k => ((k : Nat) : Int) := by
  refine (sort_uniqI ?_ ?_).symm
  · have e : (fd.map fun p => ((p.1 : Nat) : Int)) = (fd.map (·.1)).map fun k : Nat => (k : Int) := by rw [List.map_map]; rfl
    rw [e]
    exact (List.mergeSort_perm _ _).map _
  · refine List.pairwise_map.mpr ?_
    have := List.pairwise_mergeSort (le := fun a b : Nat => decide (a ≤ b)) (fun a b c h h' => by simp only [decide_eq_true_eq] at *; omega) (fun a b => by simp only [Bool.or_eq_true, decide_eq_true_eq]; omega) (fd.map (·.1))
    exact this.imp fun h => by simp only [decide_eq_true_eq] at h; omega
theorem oSortD_enc {n : Nat} {S : Sto} {fd : List (Nat × Int)} (h : S[n]? = some (.dk (encF fd))) (hl : fd.length < 64) : oSortD (.ref n) S = .ok (.tmp ((keysS fd).map fun k => .int ((k : Nat) : Int))) S := by
  have e : dkD (.ref n) S = some (encF fd) := by simp only [dkD, h]
  unfold oSortD
  simp only [e, intK_encF, List.length_map, hl, if_true, keysS_int, List.map_map]
  rfl
theorem oDGet_enc {n : Nat} {S : Sto} {fd : List (Nat × Int)} {k : Nat} {v : Int} (h : S[n]? = some (.dk (encF fd))) (hv : getN fd k = some v) : oDGet (.ref n) (.int (k : Nat)) S = .ok (.int v) S := by
  have e : dkD (.ref n) S = some (encF fd) := by simp only [dkD, h]
  unfold oDGet
  simp only [e, keyD, encF_get, hv, Option.map]
theorem oDPut_enc {n : Nat} {S : Sto} {fd : List (Nat × Int)} {k : Nat} {v : Int} (h : S[n]? = some (.dk (encF fd))) (hl : fd.length < 1000) : oDPut (.int v) (.ref n) (.int (k : Nat)) S = some (S.set n (.dk (encF (putN fd k v)))) := by
  have hz : (encF fd).length < sizeLine := by unfold encF; rw [List.length_map, sizeLine_eq]; omega
  unfold oDPut
  simp only [keyD, h, hz, if_true, encF_put]
/-- what a run tells -/
inductive Told where
  | short (i : Nat)
  | left (n : Nat)
  | told (xs : List Int)
def runR (q : Bool) (w : List Stp) (ws : Nat → Int) : List Ins → Nat → List Cell → List (Nat × Int) → Told
  | [], _, cs, fd => if cs.length = 0 then .told (tellN fd) else .left cs.length
  | x :: xs, i, cs, fd => if cs.length < x.ts.length then .short i else runR q w ws xs (i + 1) (doR q w x (ws x.s) cs) (if x.c = 0 then putN fd x.s (doW q w x (ws x.s) cs) else fd)
def toldL : Told → List D
  | .short i => [.str "short", .int (i : Nat)]
  | .left n => [.str "left", .int (n : Nat)]
  | .told xs => [.str "told", .tup (xs.map .int)]
end Pz

set_option Elab.async false
set_option linter.all false
set_option maxRecDepth 100000
set_option maxHeartbeats 4000000
/-! Lsx: the law's own reading of words and lines. -/
namespace Pz
open PySem PySem.Spec PyProof.Rows L2
section
variable {S : Sto}
theorem oNin_str {s : Str} {xs : List Str} {y : D} {S : Sto} (h : seqD S y = some (xs.map D.str)) : oNin (.str s) y S = .ok (.bl (!decide (s ∈ xs))) S := by
  simp only [oNin, dIn, h]
  rw [if_pos (by rw [flat_str]; rfl), any_str]
theorem law_number_eq {w : Str} (hl : w.length ≤ 1000000) : F__law_number [.str w] S = .ok (oInt? (numberOf w)) S := by
  refine eq_Wf (F := F__law_number) fun P hP => ?_
  refine W_runF rfl ?_
  have hz : w.length ≤ sizeLine := by simp only [sizeLine]; omega
  have hlen := len_toList w
  have fin : ∀ x : Option Int, x = numberOf w → (gc S (oInt? x) (S ++ [Ob.lst [.int 1, .int 2]])).W P := fun x e => by rw [gc_tmp (oInt_cl x), W_ok, e]; exact hP
  have hno : numberOf w = (match w.cps.toList with
    | [a] => if isDig a then some ((a : Int) - 48) else none
    | [a, b] => if isDig a && isDig b && a != 48 then some (10 * ((a : Int) - 48) + ((b : Int) - 48)) else none
    | _ => none) := rfl
  have nin : oNin (.int ((w.length : Nat) : Int)) (.ref S.length) (S ++ [Ob.lst [.int 1, .int 2]]) = .ok (.bl (!decide (w.length ∈ [1, 2]))) (S ++ [Ob.lst [.int 1, .int 2]]) := oNin_nat (seqD_ref (by simp [encI]))
  simp [b__law_number, b__law_number_0, oLenS_str hz]
  rw [nin, W_ok]
  have ix : ∀ a r, w.cps.toList = a :: r → ∀ S, oIx (.str w) (.int 0) S = .ok (.str ⟨#[a]⟩) S := fun a r e S => oIx_str hz (by rw [e]; simp)
  have e0 : Str.ofString "0" = ⟨#[48]⟩ := by decide +kernel
  have z0 : ∀ a : Nat, ((⟨#[a]⟩ : Str) = Str.ofString "0") ↔ a = 48 := fun a => by
    rw [e0]
    simp
  have hws := fun (L : List Nat) (h : w.cps.toList = L) => str_of_toList h
  by_cases h12 : w.length ∈ [1, 2]
  · simp [h12]
    have h12' : w.length = 1 ∨ w.length = 2 := by simpa using h12
    simp only [signs]
    generalize w.cps.toList = L at *
    refine ⟨by simp [sizeLine]; omega, ?_⟩
    refine W_lcM (fun c : Nat => D.str ⟨#[c]⟩) (fun c => D.str ⟨#[c]⟩) (fun c => !isDig c) trivial (fun c hc => ⟨_, rfl, ?_⟩) ?_
    · simp [wipeL]
      rw [oNinS_one, digits_mem]
      simp
    · simp [filter_empty]
      match L, hlen with
      | [], hlen => simp at hlen; omega
      | _ :: _ :: _ :: _, hlen => simp at hlen; omega
      | [a], hlen =>
        have ix := ix a [] rfl
        have hws := hws _ rfl
        have lw : w.length = 1 := by simpa using hlen
        simp only at hno
        by_cases hd : isDig a = true
        · rw [if_pos hd] at hno
          have hin : ∀ S, oIntS (.str w) S = .ok (.int ((a : Int) - 48)) S := fun S => oIntS_of (by rw [hws]; exact int1 hd) (by omega)
          simp [hd, b__law_number_1, oLenS_str hz, lw, hin]
          exact fin _ hno.symm
        · rw [if_neg hd] at hno
          simp [hd]
          exact fin _ hno.symm
      | [a, b], hlen =>
        have ix := ix a [b] rfl
        have hws := hws _ rfl
        have lw : w.length = 2 := by simpa using hlen
        simp only at hno
        by_cases hd : isDig a = true
        · by_cases hd2 : isDig b = true
          · have hin : ∀ S, oIntS (.str w) S = .ok (.int (10 * ((a : Int) - 48) + ((b : Int) - 48))) S := fun S => oIntS_of (by rw [hws]; exact int2 hd hd2) (by omega)
            simp [hd, hd2, b__law_number_1, oLenS_str hz, lw, hin, ix, z0]
            by_cases ha : a = 48
            · simp [hd, hd2, ha] at hno
              simp [ha]
              exact fin _ hno.symm
            · simp [hd, hd2, ha] at hno
              simp [ha]
              exact fin _ hno.symm
          · simp [hd, hd2] at hno ⊢
            exact fin _ hno.symm
        · simp [hd] at hno ⊢
          exact fin _ hno.symm
  · simp [h12]
    have : numberOf w = none := by
      unfold numberOf
      split
      · rename_i e; rw [e] at hlen; simp at hlen; exact absurd (by simp [hlen]) h12
      · rename_i e; rw [e] at hlen; simp at hlen; exact absurd (by simp [hlen]) h12
      · rfl
    exact fin _ this.symm
theorem law_many_eq {k : D} {n : Nat} (h : inputsOf k = some n) : F__law_many [k] S = .ok (.int (n : Nat)) S := by
  refine eq_Wf (F := F__law_many) fun P hP => ?_
  refine W_runF rfl ?_
  have y1 : ∀ i : Int, oIsi "str" (.int i) S = .ok (.bl false) S := fun _ => rfl
  have y2 : ∀ s : Str, oIsi "str" (.str s) S = .ok (.bl true) S := fun _ => rfl
  have d1 : ¬ (("+" : Str) = "-") := by decide +kernel
  cases k with
  | int i =>
    simp only [inputsOf] at h
    split at h
    · cases h
      simp [b__law_many, b__law_many_0, y1]
      exact hP
    · cases h
  | str s =>
    simp only [inputsOf] at h
    simp [b__law_many, b__law_many_0, y2, W_eDispIx, okP]
    have e : mergeD [] [(Sum.inr (Str.ofString "in"), D.int 0), (Sum.inr (Str.ofString "neg"), D.int 1), (Sum.inr (Str.ofString "+"), D.int 2), (Sum.inr (Str.ofString "-"), D.int 2), (Sum.inr (Str.ofString "*"), D.int 2), (Sum.inr (Str.ofString "pick"), D.int 3)] = tabS [("in", D.int 0), ("neg", D.int 1), ("+", D.int 2), ("-", D.int 2), ("*", D.int 2), ("pick", D.int 3)] := by kernel_rfl
    simp only [W_ok, oIxD, keyD]
    refine ⟨by decide, ?_⟩
    rw [e]
    simp only [getD_tab]
    repeat' split at h
    all_goals first | (cases h; done) | (cases h; subst_vars; simp [List.find?_cons, d1]; exact hP)
  | _ => simp [inputsOf] at h
theorem numberOf_zero {r : List Nat} {n : Int} (h : numberOf (mk r) = some n) : n = 0 ↔ r = [48] := by
  unfold numberOf at h
  rw [mk_toList] at h
  split at h
  · rename_i a e
    split at h
    · rename_i hd
      cases h
      simp only [isDig, Bool.and_eq_true, decide_eq_true_eq] at hd
      simp; omega
    · cases h
  · rename_i a b e
    split at h
    · rename_i hd
      cases h
      simp only [isDig, Bool.and_eq_true, decide_eq_true_eq, bne_iff_ne, ne_eq] at hd
      simp; omega
    · cases h
  · cases h
def kindL : List Str := ["in", "neg", "+", "-", "*", "pick"]
theorem kindL_in {w : Str} : w ∈ kindL ↔ (inputsOf (.str w)).isSome = true := by
  unfold kindL
  constructor
  · intro h
    simp only [List.mem_cons, List.not_mem_nil, or_false] at h
    rcases h with rfl | rfl | rfl | rfl | rfl | rfl <;> decide +kernel
  · intro h
    simp only [inputsOf] at h
    by_cases h1 : w = "in"
    · simp [h1]
    by_cases h2 : w = "neg"
    · simp [h2]
    by_cases h3 : w = "+"
    · simp [h3]
    by_cases h4 : w = "-"
    · simp [h4]
    by_cases h5 : w = "*"
    · simp [h5]
    by_cases h6 : w = "pick"
    · simp [h6]
    simp [h1, h2, h3, h4, h5, h6] at h
theorem kindOf_in {w : Str} (h : w ∈ kindL) : kindOf w = some (.str w) := by
  unfold kindOf
  rw [if_pos (kindL_in.mp h)]
theorem kindOf_neg {w : Str} {r : List Nat} (h : w ∉ kindL) (hr : w.cps.toList = 45 :: r) : kindOf w = (match numberOf (mk r) with
    | some n => if r = [48] then none else some (.int (0 - n))
    | none => none) := by
  unfold kindOf
  rw [if_neg (fun z => h (kindL_in.mpr z)), hr]
  rfl
theorem kindOf_num {w : Str} (h : w ∉ kindL) (hr : ¬ ∃ r, w.cps.toList = 45 :: r) : kindOf w = (numberOf w).map .int := by
  unfold kindOf
  rw [if_neg (fun z => h (kindL_in.mpr z))]
  split
  · rename_i r q; exact absurd ⟨r, q⟩ hr
  · rfl
theorem law_step_eq {l : Str} (hl : l.length ≤ 1000000) : F__law_step [.str l] S = .ok (oD (stepOf l)) S := by
  refine eq_Wf (F := F__law_step) fun P hP => ?_
  refine W_runF rfl ?_
  have wl : ∀ w ∈ Txt.split l " ", w.length ≤ 1000000 := fun w hw => Nat.le_trans (split_len okBlank.1 okBlank.2.1 hw) hl
  have fin : ∀ d G, clD S.length d = true → P d S → (gc S d (S ++ G)).W P := fun d G hc hp => by rw [gc_tmp hc, W_ok]; exact hp
  have clq := stepOf_cl (n := S.length) l
  have sl := (PyProof.Rows.fact_split l " ").2
  rw [b__law_step, W_sSeq]
  simp [-W_sSeq, b__law_step_0]
  rw [oSplit_str (by rw [okBlank.2.2]; omega) (by simp only [sizeLine]; omega)]
  unfold stepOf at hP clq
  cases hs : Txt.split l " " with
  | nil => exact absurd hs split_ne
  | cons w ws =>
    rw [hs] at wl hP clq sl
    simp only at hP clq
    have lw := wl w List.mem_cons_self
    have hz : w.length ≤ sizeLine := by simp only [sizeLine]; omega
    have s0 : (S ++ [Ob.lst (D.str w :: ws.map D.str)])[S.length]? = some (.lst (D.str w :: ws.map .str)) := st_get0
    simp only [W_ok, oeL_tmp]
    rw [W_sSeq]
    simp [-W_sSeq, b__law_step_1]
    rw [oIx_ref (d := .str w) s0 (by simp), W_ok, W_sSeq]
    have tail : ∀ (k : D) (v3 : Option D) G, kindOf w = some k → (S ++ G)[S.length]? = some (.lst (D.str w :: ws.map .str)) →
        (sSeq b__law_step_3 (sSeq b__law_step_4 b__law_step_5) [some (.str l), some (.ref S.length), some k, v3, none, none] (S ++ G)).W (fun _ S' => (gc S .non S').W P) (fun d S' => (gc S d S').W P) (fun _ _ => False) (fun _ _ => False) := by
      intro k v3 G hk s1
      rw [hk] at hP clq
      simp only at hP clq
      obtain ⟨⟨n, hn⟩, ht⟩ := kindOf_inputs hk
      simp [b__law_step_3]
      rw [oSl_ref s1, W_ok, cutL_from (by omega) (by simp; omega)]
      simp only [Int.reduceToNat, List.map_cons, List.drop_succ_cons, List.drop_zero]
      obtain ⟨S1, hS1⟩ : ∃ S1 : Sto, S1 = S ++ G ++ [Ob.lst (ws.map .str)] := ⟨_, rfl⟩
      have n1 : S1[(S ++ G).length]? = some (.lst (ws.map .str)) := by rw [hS1]; exact st_get0
      have p1 : S1 = S ++ (G ++ [Ob.lst (ws.map .str)]) := by rw [hS1, List.append_assoc]
      rw [← hS1]
      rw [kD_ref n1, W_ok]
      simp
      refine ⟨by simp only [sizeLine]; simp at sl; omega, ?_⟩
      refine W_lcT (fun x : Str => D.str x) (fun x => oInt? (numberOf x)) (by rw [atGd_iff, ← List.length_append]; exact n1) (fun x hx => ⟨_, rfl, ?_⟩) ?_
      · simp [wipeL]
        rw [law_number_eq (wl x (List.mem_cons_of_mem _ hx))]
        exact W_ok.2 ⟨rfl, rfl⟩
      · simp [b__law_step_4]
        have em : List.map (fun x => oInt? (numberOf x)) ws = (ws.map numberOf).map oInt? := by simp [Function.comp_def]
        rw [em]
        obtain ⟨S2, hS2⟩ : ∃ S2 : Sto, S2 = S1 ++ [Ob.lst ((ws.map numberOf).map oInt?)] := ⟨_, rfl⟩
        have n2 : S2[S1.length]? = some (.lst ((ws.map numberOf).map oInt?)) := by rw [hS2]; exact st_get0
        obtain ⟨G2, p2⟩ : ∃ G2, S2 = S ++ G2 := ⟨_, by rw [hS2, p1, List.append_assoc]⟩
        rw [← hS2]
        rw [qD_ref n2, W_ok]
        simp [law_many_eq hn, oIn_non n2]
        have ea : ((ws.map numberOf).any fun x => x.isNone) = ws.any fun x => (numberOf x).isNone := by rw [List.any_map]; rfl
        rw [hn] at hP clq
        rw [p2]
        by_cases hlen : n = ws.length
        · rw [if_pos (by omega)]
          have e1 : some n = some ws.length := by rw [hlen]
          simp only [if_pos e1] at hP clq
          by_cases hany : (ws.any fun x => (numberOf x).isNone) = true
          · rw [if_pos hany] at hP
            rw [if_pos (by simpa [List.any_eq_true] using hany)]
            exact fin _ _ (by simp [clD]) hP
          · rw [if_neg hany] at hP clq
            rw [if_neg (by simpa [List.any_eq_true] using hany)]
            rw [← p2]
            simp [b__law_step_5, qD_ref n2]
            rw [p2]
            exact fin _ _ (by simpa [Function.comp_def] using clq) (by simpa [Function.comp_def] using hP)
        · rw [if_neg (by omega)]
          have e1 : ¬ some n = some ws.length := by simpa using hlen
          simp only [if_neg e1, ite_self] at hP
          exact fin _ _ (by simp [clD]) hP
    simp [-W_sSeq, b__law_step_2]
    obtain ⟨S1, hS1⟩ : ∃ S1 : Sto, S1 = S ++ [Ob.lst (D.str w :: ws.map D.str), Ob.lst (kindL.map .str)] := ⟨_, rfl⟩
    have eS1 : S ++ [Ob.lst (D.str w :: ws.map D.str), Ob.lst [D.str (Str.ofString "in"), D.str (Str.ofString "neg"), D.str (Str.ofString "+"), D.str (Str.ofString "-"), D.str (Str.ofString "*"), D.str (Str.ofString "pick")]] = S1 := by rw [hS1]; rfl
    have n1 : S1[S.length + 1]? = some (.lst (kindL.map .str)) := by rw [hS1, st_get]; rfl
    have n0 : S1[S.length]? = some (.lst (D.str w :: ws.map .str)) := by rw [hS1, st_get0]; rfl
    rw [eS1, oNin_str (xs := kindL) (seqD_ref n1), W_ok]
    rw [hS1] at n0
    by_cases hin : w ∈ kindL
    · simp [-W_sSeq, hin]
      rw [hS1]
      exact tail _ _ _ (kindOf_in hin) n0
    · have m45 : Str.ofString "-" = mk [45] := by decide +kernel
      simp [-W_sSeq, hin]
      rw [W_sSeq]
      simp [-W_sSeq, b__law_step_2_0, oSl_str hz, cutS_to1, m45]
      rw [W_sSeq]
      have ew := eq_mk w
      by_cases hm : ∃ r, w.cps.toList = 45 :: r
      · obtain ⟨r, hr⟩ := hm
        rw [hr] at ew
        have kk := kindOf_neg hin hr
        have lr : (mk r).length ≤ 1000000 := by rw [mk_len]; have := len_toList w; rw [hr] at this; simp at this; omega
        have t1 : mk (w.cps.toList.take 1) = mk [45] := by rw [hr]; rfl
        have t2 : mk w.cps.toList.tail = mk r := by rw [hr]; rfl
        simp [-W_sSeq, t1, t2, b__law_step_2_1, oSl_str hz, cutS_from1, law_number_eq lr]
        rw [W_sSeq]
        cases hn : numberOf (mk r) with
        | none =>
          rw [hn] at kk
          simp only at kk
          rw [kk] at hP
          simp [-W_sSeq, b__law_step_2_2]
          rw [hS1]
          exact fin _ _ (by simp [clD]) hP
        | some n =>
          have z := numberOf_zero hn
          rw [hn] at kk
          simp only at kk
          simp [-W_sSeq, b__law_step_2_2]
          by_cases h48 : r = [48]
          · rw [if_pos (z.mpr h48)]
            rw [kk, if_pos h48] at hP
            rw [hS1]
            exact fin _ _ (by simp [clD]) hP
          · rw [if_neg (fun q => h48 (z.mp q))]
            simp [-W_sSeq, b__law_step_2_3]
            rw [hS1]
            have := tail (.int (0 - n)) (some (.bl true)) _ (by rw [kk, if_neg h48]) n0
            simpa [-W_sSeq] using this
      · have t1 : ¬ mk (w.cps.toList.take 1) = mk [45] := by
          rw [mk_inj]
          cases hw : w.cps.toList with
          | nil => simp
          | cons a r =>
            simp
            intro q
            exact hm ⟨r, by rw [hw, q]⟩
        have kk := kindOf_num hin hm
        simp [-W_sSeq, t1, b__law_step_2_1, law_number_eq lw]
        rw [W_sSeq]
        cases hn : numberOf w with
        | none =>
          rw [kk, hn] at hP
          simp [-W_sSeq, b__law_step_2_2]
          rw [hS1]
          exact fin _ _ (by simp [clD]) hP
        | some n =>
          rw [hn] at kk
          simp [-W_sSeq, b__law_step_2_2, b__law_step_2_3]
          rw [hS1]
          exact tail (.int n) (some (.bl false)) _ kk n0
end
end Pz

set_option Elab.async false
set_option linter.all false
set_option maxRecDepth 100000
set_option maxHeartbeats 4000000
/-! Lwx: the law's own web_error, of steps that were read. -/
namespace Pz
open PySem PySem.Spec PyProof.Rows L2
/-- a step that was read -/
def Prs (x : D) : Prop := ∃ (k : D) (is : List Int), x = .tup [k, .tup (is.map .int)] ∧ inputsOf k = some is.length ∧ ∀ i ∈ is, 0 ≤ i ∧ i ≤ 99
theorem prs_of {l : Str} {x : D} (h : stepOf l = some x) : Prs x := by
  unfold stepOf at h
  split at h
  · cases h
  · rename_i w ws _
    split at h
    · cases h
    · rename_i k hk
      split at h
      · cases h
      · rename_i hn
        split at h
        · rename_i hi
          cases h
          refine ⟨k, ws.map fun x => (numberOf x).getD 0, ?_, by rw [List.length_map]; exact hi, ?_⟩
          · rw [List.map_map]
            refine congrArg (fun z => D.tup [k, D.tup z]) (List.map_congr_left fun x hx => ?_)
            cases e : numberOf x with
            | none => exact absurd (List.any_eq_true.mpr ⟨x, hx, by rw [e]; rfl⟩) hn
            | some n => simp [e]
          · intro i hi
            obtain ⟨x, hx, rfl⟩ := List.mem_map.mp hi
            cases e : numberOf x with
            | none => exact absurd (List.any_eq_true.mpr ⟨x, hx, by rw [e]; rfl⟩) hn
            | some n => have := numberOf_bound e; simp; omega
        · cases h
section
variable {S : Sto}
theorem law_whole_int {i a b : Int} : F__law_whole [.int i, .int a, .int b] S = .ok (.bl (decide (a ≤ i ∧ i ≤ b))) S := by
  refine eq_Wf (F := F__law_whole) fun P hP => ?_
  refine W_runF rfl ?_
  have y1 : oIsi "int" (.int i) S = .ok (.bl true) S := rfl
  have y2 : oIsi "bool" (.int i) S = .ok (.bl false) S := rfl
  simp [b__law_whole, b__law_whole_0, y1, y2]
  by_cases h : a ≤ i
  · simpa [h] using hP
  · simpa [h] using hP
theorem law_is_kind_eq {k : D} {n : Nat} (h : inputsOf k = some n) : F__law_is_kind [k] S = .ok (.bl true) S := by
  refine eq_Wf (F := F__law_is_kind) fun P hP => ?_
  refine W_runF rfl ?_
  have y1 : ∀ i : Int, oIsi "str" (.int i) S = .ok (.bl false) S := fun _ => rfl
  have y2 : ∀ s : Str, oIsi "str" (.str s) S = .ok (.bl true) S := fun _ => rfl
  cases k with
  | int i =>
    simp only [inputsOf] at h
    split at h
    · rename_i c
      simp [b__law_is_kind, b__law_is_kind_0, y1, b__law_is_kind_1, law_whole_int]
      simpa [c] using hP
    · cases h
  | str s =>
    have hin : s ∈ kindL := kindL_in.mpr (by rw [h]; rfl)
    simp [b__law_is_kind, b__law_is_kind_0, y2]
    have e : [D.str (Str.ofString "in"), D.str (Str.ofString "neg"), D.str (Str.ofString "+"), D.str (Str.ofString "-"), D.str (Str.ofString "*"), D.str (Str.ofString "pick")] = kindL.map .str := rfl
    rw [e, oIn_str (xs := kindL) (seqD_ref (by simp)), W_ok]
    simp only [hin, decide_true]
    rw [gc_tmp (by simp [clD]), W_ok]
    exact hP
  | _ => simp [inputsOf] at h
def oFlt (j : Nat) : Option Str → D
  | none => .non
  | some s => .tup [.int (j : Nat), .str s]
theorem isi_tupT {xs : List D} : oIsi "tuple" (.tup xs) S = .ok (.bl true) S := rfl
theorem law_fault_eq {xs : List D} {j : Nat} {x : D} (hj : xs[j]? = some x) (hx : Prs x) : F__law_fault [.tup xs, .int (j : Nat)] S = .ok (oFlt j (stepW (xs.length : Nat) x)) S := by
  obtain ⟨k, is, rfl, hk, hb⟩ := hx
  refine eq_Wf (F := F__law_fault) fun P hP => ?_
  refine W_runF rfl ?_
  have ix : ∀ S, oIx (.tup xs) (.int (j : Nat)) S = .ok (.tup [k, .tup (is.map .int)]) S := fun S => oIx_tup (by rw [atI_nat, hj])
  have x0 : ∀ S, oIx (.tup [k, .tup (is.map D.int)]) (.int 0) S = .ok k S := fun S => oIx_tup (by simp)
  have x1 : ∀ S, oIx (.tup [k, .tup (is.map D.int)]) (.int 1) S = .ok (.tup (is.map .int)) S := fun S => oIx_tup (by simp)
  have il := inputsOf_le hk
  have sw : stepW (xs.length : Nat) (.tup [k, .tup (is.map .int)]) = if (is.map D.int).all (isI 0 ((xs.length : Nat) - 1)) = true then none else some (Str.ofString "input") := by
    simp only [stepW, hk, List.length_map, if_true]
  rw [sw] at hP
  simp [b__law_fault, b__law_fault_0, b__law_fault_1, b__law_fault_2, b__law_fault_3, b__law_fault_4, ix, x0, x1, isi_tupT, law_is_kind_eq hk, law_many_eq hk]
  refine ⟨by simp only [sizeLine]; omega, ?_⟩
  refine W_lcM (fun i : Int => D.int i) (fun _ => D.int 1) (fun i => !decide (0 ≤ i ∧ i ≤ (xs.length : Int) - 1)) trivial (fun i hi => ⟨_, rfl, ?_⟩) ?_
  · simp [wipeL, law_whole_int]
  · have ea : ((is.map D.int).all (isI 0 ((xs.length : Nat) - 1))) = is.all fun i => decide (0 ≤ i ∧ i ≤ (xs.length : Int) - 1) := by
      rw [List.all_map]
      refine congrArg (fun f => List.all is f) (funext fun i => ?_)
      simp [isI]
    rw [ea] at hP
    have en : (List.map (fun _ : Int => D.int 1) (is.filter fun i => !decide (0 ≤ i ∧ i ≤ (xs.length : Int) - 1))).isEmpty = is.all fun i => decide (0 ≤ i ∧ i ≤ (xs.length : Int) - 1) := by
      rw [List.isEmpty_map, filter_empty]
      rw [Bool.eq_iff_iff]
      simp
    simp only [qL_tmp, W_ok, en]
    simp
    by_cases e : ∀ i : Int, i ∈ is → 0 ≤ i ∧ i ≤ (xs.length : Int) - 1
    · have e2 : (is.all fun i => decide (0 ≤ i ∧ i ≤ (xs.length : Int) - 1)) = true := by simpa using e
      rw [if_pos e2] at hP
      rw [if_pos e]
      simp [b__law_fault_5]
      exact hP
    · have e2 : ¬ (is.all fun i => decide (0 ≤ i ∧ i ≤ (xs.length : Int) - 1)) = true := by simpa using e
      rw [if_neg e2] at hP
      rw [if_neg e]
      exact hP
end
/-! the law's own peel -/
theorem subset_len {α : Type} [BEq α] [LawfulBEq α] : ∀ {l m : List α}, l.Nodup → (∀ x ∈ l, x ∈ m) → l.length ≤ m.length
  | [], _, _, _ => Nat.zero_le _
  | a :: l, m, hn, hs => by
    have ha := hs a List.mem_cons_self
    have := subset_len (l := l) (m := m.erase a) (List.nodup_cons.mp hn).2 fun x hx => by
      have ne : x ≠ a := fun e => (List.nodup_cons.mp hn).1 (e ▸ hx)
      exact (List.mem_erase_of_ne ne).mpr (hs x (List.mem_cons_of_mem _ hx))
    rw [List.length_erase_of_mem ha] at this
    have := List.length_pos_of_mem ha
    simp; omega
def peel1 (w : List Stp) (done : List Nat) (t : Nat) : List Nat := if t ∉ done ∧ (∀ i ∈ (stp w t).2, i ∈ done) then done ++ [t] else done
def peelP (w : List Stp) (done : List Nat) : List Nat := (List.range w.length).foldl (peel1 w) done
def peelN (w : List Stp) : Nat → List Nat
  | 0 => []
  | k + 1 => peelP w (peelN w k)
structure PI (w : List Stp) (d : List Nat) : Prop where
  nd : d.Nodup
  lt : ∀ t ∈ d, t < w.length
  cl : ∀ t ∈ d, ∀ i ∈ (stp w t).2, i ∈ d
  ac : ∀ t ∈ d, ¬ Rch w t t
theorem PI.back {w : List Stp} {d : List Nat} (h : PI w d) {a x : Nat} (r : Rch w a x) (hx : x ∈ d) : a ∈ d := by
  induction r with
  | one q => exact h.cl _ hx _ q.2
  | more _ q ih => exact ih (h.cl _ hx _ q.2)
theorem PI.step {w : List Stp} {d : List Nat} (h : PI w d) {t : Nat} (ht : t < w.length) : PI w (peel1 w d t) := by
  unfold peel1
  split
  · rename_i c
    obtain ⟨c1, c2⟩ := c
    refine ⟨List.nodup_append.mpr ⟨h.nd, by simp, fun a ha b hb => by rw [List.mem_singleton.mp hb]; exact fun e => c1 (e ▸ ha)⟩, fun x hx => ?_, fun x hx i hi => ?_, fun x hx r => ?_⟩
    · rcases List.mem_append.mp hx with q | q
      · exact h.lt x q
      · rw [List.mem_singleton.mp q]; exact ht
    · rcases List.mem_append.mp hx with q | q
      · exact List.mem_append.mpr (.inl (h.cl x q i hi))
      · rw [List.mem_singleton.mp q] at hi; exact List.mem_append.mpr (.inl (c2 i hi))
    · rcases List.mem_append.mp hx with q | q
      · exact h.ac x q r
      · rw [List.mem_singleton.mp q] at r
        cases r with
        | one z => exact c1 (c2 _ z.2)
        | more r z => exact c1 (h.back r (c2 _ z.2))
  · exact h
theorem peel1_sub {w : List Stp} {d : List Nat} {t x : Nat} (h : x ∈ d) : x ∈ peel1 w d t := by
  unfold peel1; split
  · exact List.mem_append.mpr (.inl h)
  · exact h
theorem peelF_sub {w : List Stp} : ∀ {ts d : List Nat} {x : Nat}, x ∈ d → x ∈ ts.foldl (peel1 w) d
  | [], _, _, h => h
  | t :: ts, d, x, h => peelF_sub (ts := ts) (peel1_sub h)
theorem PI.fold {w : List Stp} : ∀ {ts d : List Nat}, PI w d → (∀ t ∈ ts, t < w.length) → PI w (ts.foldl (peel1 w) d)
  | [], _, h, _ => h
  | t :: ts, d, h, hl => PI.fold (ts := ts) (h.step (hl t List.mem_cons_self)) fun x hx => hl x (List.mem_cons_of_mem _ hx)
theorem peelF_add {w : List Stp} {t : Nat} : ∀ {ts d : List Nat}, t ∈ ts → (∀ i ∈ (stp w t).2, i ∈ d) → t ∈ ts.foldl (peel1 w) d
  | [], _, h, _ => by cases h
  | s :: ts, d, h, hi => by
    show t ∈ ts.foldl (peel1 w) (peel1 w d s)
    rcases List.mem_cons.mp h with e | e
    · subst e
      refine peelF_sub ?_
      unfold peel1
      split
      · simp
      · rename_i c
        exact Classical.byContradiction fun z => c ⟨z, hi⟩
    · exact peelF_add e fun i q => peel1_sub (hi i q)
theorem peelN_PI {w : List Stp} : ∀ k, PI w (peelN w k)
  | 0 => ⟨List.nodup_nil, by simp [peelN], by simp [peelN], by simp [peelN]⟩
  | k + 1 => (peelN_PI k).fold fun t ht => List.mem_range.mp ht
theorem peelN_elim {w : List Stp} (hi : ∀ s ∈ w, ∀ i ∈ s.2, i < w.length) : ∀ k t, t < w.length → t ∉ elimN w k → t ∈ peelN w k
  | 0, t, ht, h => absurd (by simpa [elimN] using ht) h
  | k + 1, t, ht, h => by
    by_cases q : t ∈ elimN w k
    · refine peelF_add (List.mem_range.mpr ht) fun i hin => peelN_elim hi k i (hi _ (List.mem_of_getElem? (stp_get ht)) i hin) fun z => h ?_
      exact List.mem_filter.mpr ⟨q, List.any_eq_true.mpr ⟨i, hin, by simpa using z⟩⟩
    · exact peelF_sub (peelN_elim hi k t ht q)
theorem peel_ring {w : List Stp} (hi : ∀ s ∈ w, ∀ i ∈ s.2, i < w.length) : (peelN w w.length).length = w.length ↔ ¬ ∃ s, Rch w s s := by
  have I := peelN_PI (w := w) w.length
  constructor
  · rintro h ⟨s, r⟩
    have ns : s ∉ peelN w w.length := fun q => I.ac s q r
    have := nodup_le w.length (s :: peelN w w.length) (List.nodup_cons.mpr ⟨ns, I.nd⟩) fun x hx => by
      rcases List.mem_cons.mp hx with e | e
      · rw [e]; exact r.lt
      · exact I.lt x e
    simp at this; omega
  · intro h
    have e : elimN w w.length = [] := Classical.byContradiction fun z => h (elim_ring.mp z)
    have all : ∀ t ∈ List.range w.length, t ∈ peelN w w.length := fun t ht => peelN_elim hi _ t (List.mem_range.mp ht) (by rw [e]; simp)
    have h1 := subset_len List.nodup_range all
    have h2 := nodup_le w.length _ I.nd I.lt
    rw [List.length_range] at h1
    omega
theorem peelN_len {w : List Stp} (k : Nat) : (peelN w k).length ≤ w.length := nodup_le _ _ (peelN_PI k).nd (peelN_PI k).lt
section
variable {S : Sto}
theorem law_web_error_eq {xs : List D} (hx : ∀ x ∈ xs, Prs x) : F__law_web_error [.tup xs] S = .ok (errD (.tup xs)) S := by
  refine eq_Wf (F := F__law_web_error) fun P hP => ?_
  refine W_runF rfl ?_
  simp [b__law_web_error, b__law_web_error_0, isi_tupT]
  by_cases hl : 1 ≤ xs.length ∧ xs.length ≤ 10
  · obtain ⟨l1, l2⟩ := hl
    have c1 : (1 : Int) ≤ xs.length := by omega
    have c2 : (xs.length : Int) ≤ 10 := by omega
    simp [c1, c2, b__law_web_error_1]
    rw [W_kRg (by decide) (rgB_small (by omega) (by omega)), rgD_encI]
    obtain ⟨I, hI⟩ : ∃ I : Nat → Loc → Sto → Prop, ∀ k l S', I k l S' ↔ ∃ (v1 v2 v3 v4 v5 : Option D), l = [some (.tup xs), v1, v2, v3, v4, v5] ∧ S' = S ∧ ∀ j y, j < k → xs[j]? = some y → stepW xs.length y = none := ⟨_, fun _ _ _ => Iff.rfl⟩
    refine W_forL I _ 0 ((hI _ _ _).2 ⟨_, _, _, _, _, rfl, rfl, by simp⟩) ?_ ?_
    · intro i y l S' hy q
      obtain ⟨v1, v2, v3, v4, v5, rfl, rfl, hb⟩ := (hI _ _ _).1 q
      obtain ⟨hi, rfl⟩ := encR_get hy
      obtain ⟨x, hx'⟩ : ∃ x, xs[i]? = some x := ⟨_, List.getElem?_eq_getElem hi⟩
      simp only [Nat.zero_add] at *
      refine ⟨trivial, _, rfl, ?_⟩
      simp [law_fault_eq hx' (hx x (List.mem_of_getElem? hx'))]
      cases e : stepW xs.length x with
      | none =>
        simp [oFlt]
        refine (hI _ _ _).2 ⟨_, _, _, _, _, rfl, rfl, fun j y hj hy => ?_⟩
        by_cases q : j = i
        · rw [q, hx'] at hy
          cases hy
          exact e
        · exact hb j y (by omega) hy
      | some w =>
        simp [oFlt]
        have := firstBad_some (k := 0) hb hx' e
        rw [Nat.zero_add] at this
        simpa [errD, l1, l2, this] using hP
    · intro l S' q
      obtain ⟨v1, v2, v3, v4, v5, rfl, rfl, hb⟩ := (hI _ _ _).1 q
      rw [Nat.zero_add, encI_len, List.length_range] at hb
      have hn : ∀ y ∈ xs, stepW xs.length y = none := fun y hy => by
        obtain ⟨j, hj⟩ := List.mem_iff_getElem?.mp hy
        exact hb j y (List.getElem?_eq_some_iff.mp hj).1 hj
      obtain ⟨w, rfl, hw⟩ := steps_none hn
      refine ⟨trivial, ?_⟩
      simp only [List.length_map] at l1 l2 hn hw
      have hin : ∀ s ∈ w, ∀ i ∈ s.2, i < w.length := fun s hs i hi => by have := (hw s hs).1 i hi; omega
      rw [errD_web l1 l2 hn] at hP
      simp [b__law_web_error_2, b__law_web_error_3]
      rw [W_kRg (by decide) (rgB_small (by omega) (by omega)), rgD_encI]
      obtain ⟨J, hJ⟩ : ∃ J : Nat → Loc → Sto → Prop, ∀ k l S1, J k l S1 ↔ ∃ (v1 v3 v4 v5 : Option D), l = [some (.tup (w.map encS)), v1, some (.ref S'.length), v3, v4, v5] ∧ S1 = S' ++ [.lst (encI (peelN w k))] := ⟨_, fun _ _ _ => Iff.rfl⟩
      refine W_forL J _ 0 ((hJ _ _ _).2 ⟨_, _, _, _, rfl, by simp [peelN, encI]⟩) ?_ ?_
      · intro i y l S1 hy q
        obtain ⟨v1, v3, v4, v5, rfl, rfl⟩ := (hJ _ _ _).1 q
        refine ⟨trivial, _, rfl, ?_⟩
        simp only [Nat.zero_add] at *
        simp
        rw [W_kRg (by decide) (rgB_small (by omega) (by omega)), rgD_encI]
        have P0 := peelN_PI (w := w) i
        generalize hd : peelN w i = d0 at P0
        obtain ⟨L, hL⟩ : ∃ L : Nat → Loc → Sto → Prop, ∀ k l S1, L k l S1 ↔ ∃ (v4 v5 : Option D), l = [some (.tup (w.map encS)), v1, some (.ref S'.length), some y, v4, v5] ∧ S1 = S' ++ [.lst (encI ((List.range k).foldl (peel1 w) d0))] := ⟨_, fun _ _ _ => Iff.rfl⟩
        refine W_forL L _ 0 ((hL _ _ _).2 ⟨_, _, rfl, rfl⟩) ?_ ?_
        · intro t y2 l S1 hy2 q
          obtain ⟨v4, v5, rfl, rfl⟩ := (hL _ _ _).1 q
          obtain ⟨ht, rfl⟩ := encR_get hy2
          refine ⟨trivial, _, rfl, ?_⟩
          simp only [Nat.zero_add] at *
          have P1 : PI w ((List.range t).foldl (peel1 w) d0) := P0.fold fun x hx => by have := List.mem_range.mp hx; omega
          have fs : (List.range (t + 1)).foldl (peel1 w) d0 = peel1 w ((List.range t).foldl (peel1 w) d0) t := by rw [List.range_succ, List.foldl_append]; rfl
          have dl := nodup_le _ _ P1.nd P1.lt
          rw [show (L (t + 1)) = L (t + 1) from rfl]
          generalize (List.range t).foldl (peel1 w) d0 = d at *
          have n0 : (S' ++ [Ob.lst (encI d)])[S'.length]? = some (.lst (encI d)) := st_get0
          have i1 : ∀ U, oIx (.tup (w.map encS)) (.int (t : Nat)) U = .ok (encS (stp w t)) U := fun U => oIx_tup (by rw [atI_nat, List.getElem?_map, stp_get ht]; rfl)
          have i2 : ∀ U, oIx (encS (stp w t)) (.int 1) U = .ok (.tup (encI (stp w t).2)) U := fun U => oIx_tup (by simp)
          have h3 := (hw _ (List.mem_of_getElem? (stp_get ht))).2
          simp [oNin_nat (s := t) (seqD_ref n0)]
          by_cases c1 : t ∈ d
          · rw [if_pos c1]
            exact (hL _ _ _).2 ⟨_, _, rfl, by rw [fs, peel1, if_neg (fun z => z.1 c1)]⟩
          · rw [if_neg c1]
            simp [i1, i2]
            refine ⟨by rw [encI_len]; simp only [sizeLine]; omega, ?_⟩
            refine W_lcM (fun i : Nat => D.int i) (fun _ => D.int 1) (fun o => !decide (o ∈ d)) trivial (fun o ho => ⟨_, rfl, ?_⟩) ?_
            · simp [wipeL, oNin_nat (s := o) (seqD_ref n0)]
            · have en : (List.map (fun _ : Nat => D.int 1) ((stp w t).2.filter fun o => !decide (o ∈ d))).isEmpty = (stp w t).2.all fun o => decide (o ∈ d) := by
                rw [List.isEmpty_map, filter_empty]
                rw [Bool.eq_iff_iff]
                simp
              simp only [qL_tmp, W_ok, en, id]
              by_cases c2 : ∀ o ∈ (stp w t).2, o ∈ d
              · simp
                rw [if_pos c2, W_isL n0, oApp_ref n0 (by rw [encI_len]; simp only [sizeLine]; omega), W_ok]
                refine (hL _ _ _).2 ⟨_, _, rfl, ?_⟩
                rw [fs, peel1, if_pos ⟨c1, c2⟩]
                simp [encI]
              · simp
                rw [if_neg c2]
                refine (hL _ _ _).2 ⟨_, _, rfl, ?_⟩
                rw [fs, peel1, if_neg (fun z => c2 z.2)]
        · intro l S1 q
          obtain ⟨v4, v5, rfl, rfl⟩ := (hL _ _ _).1 q
          refine ⟨trivial, ?_⟩
          rw [Nat.zero_add, encI_len, List.length_range]
          exact (hJ _ _ _).2 ⟨_, _, _, _, rfl, by rw [peelN, peelP, hd]⟩
      · intro l S1 q
        obtain ⟨v1, v3, v4, v5, rfl, rfl⟩ := (hJ _ _ _).1 q
        refine ⟨trivial, ?_⟩
        rw [Nat.zero_add, encI_len, List.length_range]
        have n0 : (S' ++ [Ob.lst (encI (peelN w w.length))])[S'.length]? = some (.lst (encI (peelN w w.length))) := st_get0
        have pr := peel_ring hin
        simp [b__law_web_error_4, qD_ref n0, encI_len]
        by_cases q : ∃ s, Rch w s s
        · rw [if_pos q] at hP
          rw [if_neg (fun z => pr.mp (by omega) q), gc_tmp (by simp [clD, clDs]), W_ok]
          exact hP
        · rw [if_neg q] at hP
          rw [if_pos (by rw [pr.mpr q]), gc_tmp (by simp [clD]), W_ok]
          exact hP
  · have hl2 : ¬ ((1 : Int) ≤ xs.length ∧ (xs.length : Int) ≤ 10) := by omega
    simp only [errD, hl, if_false] at hP
    by_cases c1 : (1 : Int) ≤ xs.length
    · have c2 : ¬ (xs.length : Int) ≤ 10 := fun z => hl2 ⟨c1, z⟩
      simpa [c1, c2] using hP
    · simpa [c1] using hP
end
end Pz

set_option Elab.async false
set_option linter.all false
set_option maxRecDepth 100000
set_option maxHeartbeats 4000000
/-! Pw19: more of ends by an exception. -/
namespace Pz
open PySem PySem.Spec PyProof.Rows L2
theorem W_of_X {α : Type} {o : Out α} {P : α → Sto → Prop} (h : o.X (fun _ _ _ => False) P) : o.W P := by
  cases o with
  | ok a S => with_unfolding_all exact h
  | ex => with_unfolding_all exact h.elim
  | bad => with_unfolding_all exact h.elim
section
variable {S : Sto} {l : Loc} {E : Str → Option (List (Str × D)) → Sto → Prop}
theorem X_eL {u : FL} {P : D → Sto → Prop} : (eL u l S).X E P ↔ (u l S).X E fun x S1 => (oeL x S1).X E P := by unfold eL; rw [X_bind]; with_unfolding_all exact Iff.rfl
theorem X_lLst {fa : FA} {P : LV → Sto → Prop} : (lLst fa l S).X E P ↔ (fa l S).X E fun ds S1 => P (.tmp ds) S1 := by
  unfold lLst
  rw [X_bind]
  exact iff_of_eq (congrArg _ (funext fun ds => funext fun S1 => by rw [X_ok]))
end
end Pz

set_option Elab.async false
set_option linter.all false
set_option maxRecDepth 100000
set_option maxHeartbeats 4000000
/-! Pw18: None among nested things: reckoned. -/
namespace Pz
open PySem PySem.Spec PyProof.Rows L2
section
variable {S : Sto} {n i : Nat} {xs : List D}
theorem toPy_lstP {m : Nat} (hm : m < 38) (h : S[n]? = some (.lst xs)) (hp : ∀ x ∈ xs, purD m x = true) : toPy 40 S (.ref n) = some (.list (xs.map (pyD m))) ∧ SeqAt.shaped (.list (xs.map (pyD m))) = true := by
  constructor
  · show (match S[n]? with
      | some (.lst xs) => (mapO (toPy 39 S) xs).map PyData.list
      | _ => none) = _
    rw [h]
    show (mapO (toPy 39 S) xs).map PyData.list = _
    rw [mapO_of (g := pyD m) fun x hx => toPy_pur m 39 x (by omega) (hp x hx)]; rfl
  · unfold SeqAt.shaped
    have h1 : PyData.canLayAll0 (xs.map (pyD m)) = true := canLayAll_of fun x hx => by
      obtain ⟨y, hy, rfl⟩ := List.mem_map.mp hx
      exact (pyD_lay m y (hp y hy)).1
    have h2 := depthAll_of (xs := xs.map (pyD m)) (n := m) fun x hx => by
      obtain ⟨y, hy, rfl⟩ := List.mem_map.mp hx
      exact (pyD_lay m y (hp y hy)).2
    simp only [PyData.canLay0, h1, PyData.depth, Bool.true_and, decide_eq_true_eq]
    exact decide_eq_true (Nat.le_trans (Nat.succ_le_succ h2) (show m + 1 ≤ 64 by omega))
theorem eqv_non {m : Nat} {z : D} (h : purD m z = true) : PyData.eqv (pyD m z) .none = dNon z := by
  have e := eqv_pur m 0 z .non h rfl
  rw [show pyD 0 .non = .none from rfl] at e
  rw [e]
  cases z <;> simp [dNon]
theorem oInP_non {m : Nat} (hm : m < 38) (h : S[n]? = some (.lst xs)) (hp : ∀ x ∈ xs, purD m x = true) : oInP .non (.ref n) S = .ok (.bl (xs.any dNon)) S := by
  obtain ⟨e, s⟩ := toPy_lstP hm h hp
  unfold oInP
  rw [e, show toPy 40 S .non = some .none from rfl]
  have ea : ((xs.map (pyD m)).any fun z => PyData.eqv z .none) = xs.any dNon := by
    rw [List.any_map]
    rw [Bool.eq_iff_iff, List.any_eq_true, List.any_eq_true]
    constructor
    · rintro ⟨x, hx, h⟩; exact ⟨x, hx, by rw [← eqv_non (hp x hx)]; exact h⟩
    · rintro ⟨x, hx, h⟩; exact ⟨x, hx, by show PyData.eqv (pyD m x) .none = true; rw [eqv_non (hp x hx)]; exact h⟩
  simp only [s, ea, Bool.and_true]
  rw [if_pos (by decide +kernel)]
theorem oIndexP_non {m : Nat} (hm : m < 38) (h : S[n]? = some (.lst xs)) (hp : ∀ x ∈ xs, purD m x = true) (hi : xs[i]? = some .non) (hb : ∀ j, j < i → ∃ ys, xs[j]? = some (.tup ys)) : oIndexP (.ref n) .non S = .ok (.int (i : Nat)) S := by
  obtain ⟨e, s⟩ := toPy_lstP hm h hp
  unfold oIndexP
  simp only [h, e, show toPy 40 S .non = some .none from rfl, s, Bool.true_and]
  rw [if_pos (by decide +kernel)]
  have hl := (List.getElem?_eq_some_iff.mp hi).1
  have f : ((xs.map (pyD m)).findIdx? fun z => PyData.eqv z .none) = some i := by
    rw [List.findIdx?_eq_some_iff_getElem]
    refine ⟨by rw [List.length_map]; exact hl, ?_, fun j hj => ?_⟩
    · rw [List.getElem_map, eqv_non (hp _ (List.getElem_mem hl)), (List.getElem?_eq_some_iff.mp hi).2]; rfl
    · obtain ⟨ys, hy⟩ := hb j hj
      have hjl := (List.getElem?_eq_some_iff.mp hy).1
      rw [List.getElem_map, eqv_non (hp _ (List.getElem_mem hjl)), (List.getElem?_eq_some_iff.mp hy).2]
      simp [dNon]
  rw [f]
end
end Pz

set_option Elab.async false
set_option linter.all false
set_option maxRecDepth 100000
set_option maxHeartbeats 4000000
/-! Pw14: webs and texts can be shown. -/
namespace Pz
open PySem PySem.Spec PyProof.Rows L2
theorem Web.small {w : List Stp} (hw : Web w) (hl : w.length ≤ 10) : ∀ s ∈ w, KOK s.1 s.2.length ∧ ∀ i ∈ s.2, i < 10 := fun s hs => ⟨(hw.ok s hs).1, fun i hi => by have := (hw.ok s hs).2 i hi; omega⟩
theorem encW_okd {N : Nat} {U : Sto} (hN : 10 ^ 30 ≤ N) {w : List Stp} (hl : w.length ≤ 10) (h : ∀ s ∈ w, KOK s.1 s.2.length ∧ ∀ i ∈ s.2, i < 10) : Ok N U 3 200 (encW w) := by
  have hi : ∀ i : Nat, i < 10 → Ok N U 0 0 (.int (i : Nat)) := fun i hi => .int (Nat.le_trans (show ((i : Nat) : Int).natAbs ≤ 30 by omega) (Nat.le_trans (by decide) hN))
  have ht : ∀ is : List Nat, (∀ i ∈ is, i < 10) → OkL N U 0 is.length (encI is) := by
    intro is
    induction is with
    | nil => exact fun _ => .nil
    | cons i is ih => exact fun q => .cons (hi i (q i List.mem_cons_self)) (ih fun j hj => q j (List.mem_cons_of_mem _ hj)) (by simp; omega)
  have hk : ∀ {d : D} {m : Nat}, KOK d m → Ok N U 1 5 d := fun {d m} hd => by
    have lit : ∀ z : Str, okB 200 1 5 (.str z) = true → Ok N U 1 5 (.str z) := fun z hz => (Ok.of_okB hz).more (Nat.le_trans (by decide) hN)
    match m, hd with
    | 0, .inl h => rw [h]; exact lit _ (by decide +kernel)
    | 0, .inr ⟨i, h, a, b⟩ => rw [h]; exact .int (Nat.le_trans (show i.natAbs ≤ 100 by omega) (Nat.le_trans (by decide) hN))
    | 1, h => rw [show d = .str "neg" from h]; exact lit _ (by decide +kernel)
    | 2, .inl h => rw [h]; exact lit _ (by decide +kernel)
    | 2, .inr (.inl h) => rw [h]; exact lit _ (by decide +kernel)
    | 2, .inr (.inr h) => rw [h]; exact lit _ (by decide +kernel)
    | 3, h => rw [show d = .str "pick" from h]; exact lit _ (by decide +kernel)
  have hs : ∀ s : Stp, KOK s.1 s.2.length → (∀ i ∈ s.2, i < 10) → Ok N U 2 15 (encS s) := fun s k q => by
    have := k.le
    exact (OkL.cons (hk k) (.cons ((ht s.2 q).tup.mono (Nat.le_refl _) (show s.2.length ≤ 5 by omega)) (.nil (m := 0)) (Nat.le_refl _)) (by omega)).tup
  have all : ∀ v : List Stp, (∀ s ∈ v, KOK s.1 s.2.length ∧ ∀ i ∈ s.2, i < 10) → OkL N U 2 (16 * v.length) (v.map encS) := by
    intro v
    induction v with
    | nil => exact fun _ => .nil
    | cons s v ih => exact fun q => .cons (hs s (q s List.mem_cons_self).1 (q s List.mem_cons_self).2) (ih fun t ht => q t (List.mem_cons_of_mem _ ht)) (by simp; omega)
  exact (all w h).tup.mono (Nat.le_refl _) (by omega)
theorem str_okd {N : Nat} {U : Sto} {z : Str} {m : Nat} (h : ∀ c ∈ z.cps.toList, c < 200) (hl : z.length ≤ m) : Ok N U 0 m (.str z) := by
  refine ⟨.str z, rfl, ?_, Nat.zero_le _, hl⟩
  simp only [small, List.all_eq_true, decide_eq_true_eq]
  intro c hc
  exact Nat.lt_of_lt_of_le (h c hc) (by decide)
end Pz

set_option Elab.async false
set_option linter.all false
set_option maxRecDepth 100000
set_option maxHeartbeats 4000000
/-! Ltm: the lines of a web's text. -/
namespace Pz
open PySem PySem.Spec PyProof.Rows L2
section
variable {S : Sto}
theorem join_parts {s : Stp} (h : KOK s.1 s.2.length) (hn : ∀ i ∈ s.2, i < 10) : oJoin (.str " ") (.str (kindT s.1) :: s.2.map fun i => .str (numT i)) S = .ok (.str (lineS s)) S := by
  obtain ⟨h1, h2⟩ := parts_sum h hn
  have := oJoin_str (S := S) (a := " ") (ys := kindT s.1 :: s.2.map numT) (by rw [okBlank.2.2]; omega)
  simpa [List.map_map, Function.comp_def, lineS] using this
theorem join_forall (p : Nat → Prop) (a : Str) (ha : ∀ c ∈ a.cps.toList, p c) : ∀ ys : List Str, (∀ y ∈ ys, ∀ c ∈ y.cps.toList, p c) → ∀ c ∈ (Str.join a ys).cps.toList, p c
  | [], _, c, hc => by simp [Str.join, Str.empty] at hc
  | [x], h, c, hc => h x List.mem_cons_self c hc
  | x :: y :: r, h, c, hc => by
    have ih := join_forall p a ha (y :: r) fun z hz => h z (List.mem_cons_of_mem _ hz)
    have e : (Str.join a (x :: y :: r)).cps.toList = x.cps.toList ++ a.cps.toList ++ (Str.join a (y :: r)).cps.toList := (TL.tl_append _ _).trans (congrArg (· ++ (Str.join a (y :: r)).cps.toList) (TL.tl_append x a))
    rw [e] at hc
    rcases List.mem_append.mp hc with q | q
    · rcases List.mem_append.mp q with q | q
      · exact h x List.mem_cons_self c q
      · exact ha c q
    · exact ih c q
theorem kind_small {d : D} {many : Nat} (h : KOK d many) : ∀ c ∈ (kindT d).cps.toList, c < 200 := by
  have chk : (kindT d).cps.toList.all (fun c => decide (c < 200)) = true := by
    have nums : ((List.range 199).all fun k => (kindT (.int ((k : Int) - 99))).cps.toList.all fun c => decide (c < 200)) = true := by decide +kernel
    match many, h with
    | 0, .inl h => rw [h]; decide +kernel
    | 0, .inr ⟨i, h, a, b⟩ =>
      subst h
      have := List.all_eq_true.mp nums (i + 99).toNat (List.mem_range.mpr (by omega))
      rw [show (((i + 99).toNat : Nat) : Int) - 99 = i by omega] at this
      exact this
    | 1, h => rw [show d = .str "neg" from h]; decide +kernel
    | 2, .inl h => rw [h]; decide +kernel
    | 2, .inr (.inl h) => rw [h]; decide +kernel
    | 2, .inr (.inr h) => rw [h]; decide +kernel
    | 3, h => rw [show d = .str "pick" from h]; decide +kernel
  rw [List.all_eq_true] at chk
  exact fun c hc => by simpa using chk c hc
theorem textW_small {w : List Stp} (h : ∀ s ∈ w, KOK s.1 s.2.length ∧ ∀ i ∈ s.2, i < 10) : ∀ c ∈ (textW w).cps.toList, c < 200 := by
  unfold textW
  rw [TL.join_eq]
  refine join_forall (fun c => c < 200) _ (by rw [break_tl]; simp) _ fun y hy => ?_
  obtain ⟨s, hs, rfl⟩ := List.mem_map.mp hy
  unfold lineS
  rw [TL.join_eq]
  refine join_forall (fun c => c < 200) _ (by rw [blank_tl]; simp) _ fun z hz => ?_
  rcases List.mem_cons.mp hz with q | q
  · subst q; exact kind_small (h s hs).1
  · obtain ⟨i, hi, rfl⟩ := List.mem_map.mp q
    have := (h s hs).2 i hi
    rw [numT_tl this]
    simp; omega
end
end Pz

set_option Elab.async false
set_option linter.all false
set_option maxRecDepth 100000
set_option maxHeartbeats 4000000
/-! Lrd: what read_web tells, caught; what the law says of it. -/
namespace Pz
open PySem PySem.Spec PyProof.Rows L2
def stepsS (z : Str) : List (Option D) := (Txt.split z "\n").map stepOf
def stepsD (z : Str) : List D := (stepsS z).map oD
def rdO (z : Str) (E : Str → Option (List (Str × D)) → Prop) (P : D → Prop) : Prop := match (stepsS z).findIdx? (·.isNone) with
  | some i => E "BadText" (some [(("line" : Str), D.int (i : Nat))])
  | none => if dNon (errD (.tup (stepsD z))) = true then P (.tup (stepsD z)) else E "BadWeb" (some [(("error" : Str), errD (.tup (stepsD z)))])
noncomputable def rdL (z : Str) : List D := match (stepsS z).findIdx? (·.isNone) with
  | some i => [.str "text", .int (i : Nat), .bl true]
  | none => if dNon (errD (.tup (stepsD z))) = true then [.str "told", .tup (stepsD z)] else [.str "web", errD (.tup (stepsD z)), .bl true]
theorem findIdx_cases (os : List (Option D)) : (∃ i, os.findIdx? (·.isNone) = some i ∧ os[i]? = some none ∧ ∀ j, j < i → ∃ x, os[j]? = some (some x)) ∨ os.findIdx? (·.isNone) = none ∧ ∀ o ∈ os, ∃ x, o = some x := by
  cases e : os.findIdx? (·.isNone) with
  | some i =>
    refine .inl ⟨i, rfl, ?_, fun j hj => ?_⟩
    · rw [List.findIdx?_eq_some_iff_getElem] at e
      obtain ⟨h, h1, h2⟩ := e
      rw [List.getElem?_eq_getElem h]
      cases q : os[i] with
      | none => rfl
      | some x => rw [q] at h1; simp at h1
    · rw [List.findIdx?_eq_some_iff_getElem] at e
      obtain ⟨h, h1, h2⟩ := e
      have := h2 j hj
      rw [List.getElem?_eq_getElem (by omega)]
      cases q : os[j] with
      | none => rw [q] at this; simp at this
      | some x => exact ⟨x, rfl⟩
  | none =>
    refine .inr ⟨rfl, fun o ho => ?_⟩
    rw [List.findIdx?_eq_none_iff] at e
    have := e o ho
    cases o with
    | none => simp at this
    | some x => exact ⟨x, rfl⟩
theorem errD_cl {n : Nat} (d : D) : clD n (errD d) = true := by
  unfold errD
  split
  · split
    · split
      · simp [clD, clDs]
      · split <;> simp [clD, clDs]
    · simp [clD, clDs]
  · simp [clD, clDs]
theorem stepsD_cl {n : Nat} (z : Str) : clDs n (stepsD z) = true := by
  rw [clDs_all, List.all_eq_true]
  intro d hd
  simp only [stepsD, stepsS, List.map_map, List.mem_map, Function.comp] at hd
  obtain ⟨l, _, rfl⟩ := hd
  exact stepOf_cl l
theorem rdL_cl {n : Nat} (z : Str) : clDs n (rdL z) = true := by
  unfold rdL
  split
  · simp [clD, clDs]
  · split
    · simp only [clDs, clD, stepsD_cl, Bool.and_true]
    · simp only [clDs, clD, errD_cl, Bool.and_true]
theorem prs_okd {N : Nat} {U : Sto} (hN : 10 ^ 30 ≤ N) {x : D} (h : Prs x) : Ok N U 2 30 x := by
  obtain ⟨k, is, rfl, hk, hb⟩ := h
  have ok : Ok N U 1 10 k := by
    cases k with
    | int i =>
      simp only [inputsOf] at hk
      split at hk
      · exact .int (Nat.le_trans (show i.natAbs ≤ 99 by omega) (Nat.le_trans (by decide) hN))
      · cases hk
    | str s =>
      have hin : s ∈ kindL := kindL_in.mpr (by rw [hk]; rfl)
      have all : ∀ s ∈ kindL, okB (10 ^ 30) 1 10 (.str s) = true := by decide +kernel
      exact (Ok.of_okB (all s hin)).more hN
    | _ => simp [inputsOf] at hk
  have il := inputsOf_le hk
  have ht : ∀ is : List Int, (∀ i ∈ is, 0 ≤ i ∧ i ≤ 99) → OkL N U 0 is.length (is.map .int) := by
    intro is
    induction is with
    | nil => exact fun _ => .nil
    | cons t ts ih =>
      intro q
      exact OkL.cons (a := 0) (b := ts.length) (.int (Nat.le_trans (show t.natAbs ≤ 99 by have := q t List.mem_cons_self; omega) (Nat.le_trans (by decide) hN))) (ih fun i hi => q i (List.mem_cons_of_mem _ hi)) (by simp; omega)
  have h6 : Ok N U 1 3 (.tup (is.map .int)) := (ht is hb).tup.mono (by omega) (by omega)
  exact (OkL.cons (m := 30) (a := 10) (b := 10) ok (OkL.cons (m := 10) (a := 3) (b := 0) h6 .nil (by omega)) (by omega)).tup
theorem prs_pur {x : D} (h : Prs x) : purD 3 x = true := by
  obtain ⟨k, is, rfl, hk, hb⟩ := h
  have pk : purD 2 k = true := by
    cases k with
    | int i => rfl
    | str s =>
      have hin : s ∈ kindL := kindL_in.mpr (by rw [hk]; rfl)
      have all : ∀ s ∈ kindL, PyData.strOk s = true := by decide +kernel
      exact all s hin
    | _ => simp [inputsOf] at hk
  have pi := pur_ints (n := 1) is
  show ([k, .tup (is.map .int)].all (purD 2)) = true
  simp only [List.all_cons, List.all_nil, Bool.and_true, pk, Bool.true_and]
  exact pi
theorem prsL_okd {N : Nat} {U : Sto} (hN : 10 ^ 30 ≤ N) : ∀ {xs : List D}, (∀ x ∈ xs, Prs x) → OkL N U 2 (31 * xs.length) xs
  | [], _ => .nil
  | x :: xs, h => OkL.cons (a := 30) (b := 31 * xs.length) (prs_okd hN (h x List.mem_cons_self)) (prsL_okd hN fun y hy => h y (List.mem_cons_of_mem _ hy)) (by simp; omega)
theorem steps_some {z : Str} (h : ∀ o ∈ stepsS z, ∃ x, o = some x) : ∀ x ∈ stepsD z, Prs x := by
  intro x hx
  obtain ⟨o, ho, rfl⟩ := List.mem_map.mp hx
  obtain ⟨y, rfl⟩ := h o ho
  obtain ⟨l, _, hl⟩ := List.mem_map.mp ho
  exact prs_of hl
section
variable {S : Sto} {z : Str}
theorem gcX_cut {G : Sto} {C : Str} {fs : Option (List (Str × D))} {E : Str → Option (List (Str × D)) → Sto → Prop} {P : D → Sto → Prop} (hc : clX S.length fs = true) (h : E C fs S) : (gcX S C fs (S ++ G)).X E P := by
  unfold gcX
  rw [if_pos ⟨old_append, hc⟩, X_ex, List.take_left]
  exact h
theorem read_web_X (hl : z.length ≤ 2000) {E : Str → Option (List (Str × D)) → Sto → Prop} {P : D → Sto → Prop}
    (hP : rdO z (fun c fs => E c fs S) (fun d => P d S)) : (F_read_web [.str z] S).X E P := by
  refine X_runF rfl ?_
  have wl : ∀ w ∈ Txt.split z "\n", w.length ≤ 1000000 := fun w hw => Nat.le_trans (split_len okBreak.1 okBreak.2.1 hw) (by omega)
  have sl := (PyProof.Rows.fact_split z "\n").2
  rw [b_read_web, XS_sSeq]
  refine XS_of_W ?_
  simp [b_read_web_0, oIsi_of (T := "str") (t := "str") (x := .str z) (S := S) rfl, isB]
  rw [XS_sSeq]
  refine XS_of_W ?_
  simp [b_read_web_1]
  rw [XS_sSeq, b_read_web_2, XS_sFor]
  refine X_of_W ?_
  simp
  rw [oSplit_str (by rw [okBreak.2.2]; omega) (by simp only [sizeLine]; omega)]
  simp
  obtain ⟨ls, hls⟩ : ∃ ls, ls = Txt.split z "\n" := ⟨_, rfl⟩
  have lls : (stepsS z).length = ls.length := by rw [hls]; simp [stepsS]
  have gls : ∀ i, (stepsS z)[i]? = ls[i]?.map stepOf := fun i => by rw [hls, stepsS, List.getElem?_map]
  rw [← hls] at wl sl ⊢
  obtain ⟨G0, hG0⟩ : ∃ G0 : Sto, G0 = [Ob.lst (ls.map .str)] := ⟨_, rfl⟩
  have n1 : (S ++ [Ob.lst [], Ob.lst (ls.map D.str)])[S.length + 1]? = some (.lst (ls.map .str)) := by rw [st_get]; rfl
  rw [kEn_ref n1]
  rw [W_ok]
  obtain ⟨I, hI⟩ : ∃ I : Nat → Loc → Sto → Prop, ∀ i l S', I i l S' ↔ ∃ (v2 v3 v4 : Option D), l = [some (.str z), some (.ref S.length), v2, v3, v4, none] ∧ S' = S ++ [.lst ((stepsD z).take i), .lst (ls.map .str)] ∧ ∀ j, j < i → ∃ x, (stepsS z)[j]? = some (some x) := ⟨_, fun _ _ _ => Iff.rfl⟩
  refine XS_forL I _ 0 ((hI _ _ _).2 ⟨none, none, none, rfl, by simp, by simp⟩) (fun i x l S' hx q => ?_) fun l S' q => ?_
  · obtain ⟨v2, v3, v4, rfl, rfl, hb⟩ := (hI _ _ _).1 q
    obtain ⟨y, hy, rfl⟩ := enumD_get hx
    rw [Nat.zero_add] at *
    rw [List.getElem?_map, Option.map_eq_some_iff] at hy
    obtain ⟨s, hs, rfl⟩ := hy
    have hm := List.mem_of_getElem? hs
    have hst : (stepsS z)[i]? = some (stepOf s) := by rw [gls, hs]; rfl
    refine ⟨by show atGd _ _ _; rw [atGd_iff, st_get]; rfl, _, rfl, ?_⟩
    rw [XS_sSeq]
    refine XS_of_W ?_
    simp [b_read_web_2_0, step_of_eq (l := s) (wl s hm)]
    rw [XS_sSeq, b_read_web_2_1, XS_sIf]
    refine X_of_W ?_
    simp
    cases e : stepOf s with
    | none =>
      rw [e] at hst
      simp
      rw [XS_sRaise]
      refine X_of_W ?_
      simp
      have fi : (stepsS z).findIdx? (·.isNone) = some i := by
        rcases findIdx_cases (stepsS z) with ⟨k, h1, h2, h3⟩ | ⟨h1, h2⟩
        · rw [h1]
          rcases Nat.lt_trichotomy k i with c | c | c
          · obtain ⟨x, hx⟩ := hb k c
            rw [hx] at h2; cases h2
          · rw [c]
          · obtain ⟨x, hx⟩ := h3 i c
            rw [hx] at hst; cases hst
        · obtain ⟨x, hx⟩ := h2 _ (List.mem_of_getElem? hst)
          cases hx
      rw [rdO, fi] at hP
      exact gcX_cut (by simp [clX, clA, clD]) hP
    | some d =>
      rw [e] at hst
      have nd : dNon d = false := by
        obtain ⟨k, is, rfl, _⟩ := prs_of e
        rfl
      simp [nd]
      refine XS_of_W ?_
      rw [W_sNx]
      refine XS_of_W ?_
      simp [b_read_web_2_2]
      have n0 : ∀ A B : List D, (S ++ [Ob.lst A, Ob.lst B])[S.length]? = some (.lst A) := fun A B => st_get0
      rw [W_isL (n0 _ _), oApp_ref (n0 _ _) (by have := (List.getElem?_eq_some_iff.mp hs).1; rw [List.length_take]; simp only [sizeLine]; omega), W_ok]
      refine (hI _ _ _).2 ⟨_, _, _, rfl, ?_, fun j hj => ?_⟩
      · have : (stepsD z)[i]? = some d := by rw [stepsD, List.getElem?_map, hst]; rfl
        rw [List.take_succ, this]
        simp
      · by_cases c : j = i
        · rw [c]; exact ⟨d, hst⟩
        · exact hb j (by omega)
  · obtain ⟨v2, v3, v4, rfl, rfl, hb⟩ := (hI _ _ _).1 q
    refine ⟨by show atGd _ _ _; rw [atGd_iff, st_get]; rfl, ?_⟩
    rw [enumD_len, List.length_map, Nat.zero_add] at hb
    have tk : (stepsD z).take (0 + (enumD 0 (ls.map D.str)).length) = stepsD z := by
      rw [enumD_len, List.length_map, Nat.zero_add]
      exact List.take_of_length_le (by rw [stepsD, List.length_map, lls]; exact Nat.le_refl _)
    rw [tk]
    have alls : ∀ o ∈ stepsS z, ∃ x, o = some x := fun o ho => by
      obtain ⟨j, hj⟩ := List.mem_iff_getElem?.mp ho
      have := (List.getElem?_eq_some_iff.mp hj).1
      obtain ⟨x, hx⟩ := hb j (by omega)
      rw [hx] at hj
      exact ⟨x, by cases hj; rfl⟩
    have fi : (stepsS z).findIdx? (·.isNone) = none := by
      rcases findIdx_cases (stepsS z) with ⟨k, h1, h2, h3⟩ | ⟨h1, h2⟩
      · obtain ⟨x, hx⟩ := alls _ (List.mem_of_getElem? h2)
        cases hx
      · exact h1
    have pr := steps_some alls
    rw [rdO, fi] at hP
    simp only at hP
    have n0 : ∀ A B : List D, (S ++ [Ob.lst A, Ob.lst B])[S.length]? = some (.lst A) := fun A B => st_get0
    have py : PyS (S ++ [Ob.lst (stepsD z), Ob.lst (ls.map D.str)]) (.tup (stepsD z)) := ((prsL_okd (N := 10 ^ 30) (Nat.le_refl _) pr).tup).pys
    rw [XS_sSeq]
    refine XS_of_W ?_
    simp [b_read_web_3, qD_ref (n0 _ _), web_error_eq py]
    rw [XS_sSeq, b_read_web_4, XS_sIf]
    refine X_of_W ?_
    simp
    by_cases hn : dNon (errD (.tup (stepsD z))) = true
    · rw [if_pos hn] at hP
      simp [hn]
      refine XS_of_W ?_
      rw [W_sNx]
      refine XS_of_W ?_
      simp [b_read_web_5, qD_ref (n0 _ _)]
      rw [gc_tmp (by simp only [clD]; exact stepsD_cl z), W_ok]
      exact hP
    · rw [if_neg hn] at hP
      have hn2 : dNon (errD (.tup (stepsD z))) = false := by simpa using hn
      simp [hn2]
      rw [XS_sRaise]
      refine X_of_W ?_
      simp
      exact gcX_cut (by simp only [clX, clA, errD_cl, Bool.and_true]) hP
theorem read_web_odd {d : D} (hs : oIsi "str" d S = .ok (.bl false) S) {E : Str → Option (List (Str × D)) → Sto → Prop} {P : D → Sto → Prop}
    (hP : E "BadText" (some [(("line" : Str), D.non)]) S) : (F_read_web [d] S).X E P := by
  refine X_runF rfl ?_
  rw [b_read_web, XS_sSeq, b_read_web_0, XS_sIf]
  refine X_of_W ?_
  simp [hs]
  rw [XS_sRaise]
  refine X_of_W ?_
  simp
  have := gcX_cut (S := S) (G := []) (C := "BadText") (fs := some [(("line" : Str), D.non)]) (E := E) (P := P) (by simp [clX, clA, clD]) hP
  simpa using this
theorem told46_fin {S' : Sto} {L M : List D} {P : D → Sto → Prop} (e : S' = S ++ [.lst [.str "other"]]) (e2 : L = M) (hc : clDs S.length M = true) (hP : P (.ref S.length) (S ++ [.lst M])) : (gc S (.ref S'.length) (S' ++ [.lst L])).W P := by
  subst e e2
  rw [gc_lst (m := (S ++ [Ob.lst [.str "other"]]).length) (o := .lst L) (by rw [List.append_assoc]; exact old_append) (by simp) (by simp) (by simp only [clO]; exact hc), W_ok]
  rw [List.append_assoc, List.take_left]
  exact hP
theorem told46_ok (hl : z.length ≤ 2000) {P : D → Sto → Prop} (hP : P (.ref S.length) (S ++ [.lst (rdL z)])) : (F__law_told [.str z] S).W P := by
  refine W_runF rfl ?_
  simp [b__law_told, b__law_told_0]
  rw [b__law_told_1]
  have fin : ∀ (S' : Sto) (L : List D), S' = S ++ [.lst [.str "other"]] → L = rdL z → (gc S (.ref S'.length) (S' ++ [.lst L])).W P := fun S' L e e2 => told46_fin e e2 (rdL_cl z) hP
  obtain ⟨S1, hS1⟩ : ∃ S1 : Sto, S1 = S ++ [.lst [.str "other"]] := ⟨_, rfl⟩
  rw [← hS1]
  refine W_sTryAs ?_
  rw [XS_sSetN, X_eL, X_lLst, X_aC]
  refine X_of_W ?_
  simp
  rw [X_aC, X_eCall]
  refine X_of_W ?_
  simp
  refine read_web_X hl ?_
  unfold rdL at fin
  unfold rdO
  split
  · rename_i i hi
    rw [hi] at fin
    have d1 : ¬ (("BadWeb" : Str) = "BadText") := by decide +kernel
    simp [errL, ErrH.tlD, List.lookup, d1, b__law_told_2]
    exact fin _ _ hS1 rfl
  · rename_i hi
    rw [hi] at fin
    simp only at fin
    split
    · rename_i hn
      rw [if_pos hn] at fin
      refine X_of_W ?_
      simp
      rw [X_ok]
      simp [b__law_told_2]
      exact fin _ _ hS1 rfl
    · rename_i hn
      rw [if_neg hn] at fin
      have d1 : ¬ (("BadText" : Str) = "BadWeb") := by decide +kernel
      simp [errL, ErrH.tlD, List.lookup, d1, b__law_told_2]
      exact fin _ _ hS1 rfl
def oddL : List D := [.str "text", .non, .bl true]
theorem told46_odd {d : D} (hs : ∀ G, oIsi "str" d (S ++ G) = .ok (.bl false) (S ++ G)) {P : D → Sto → Prop} (hP : P (.ref S.length) (S ++ [.lst oddL])) : (F__law_told [d] S).W P := by
  refine W_runF rfl ?_
  simp [b__law_told, b__law_told_0]
  rw [b__law_told_1]
  obtain ⟨S1, hS1⟩ : ∃ S1 : Sto, S1 = S ++ [.lst [.str "other"]] := ⟨_, rfl⟩
  rw [← hS1]
  refine W_sTryAs ?_
  rw [XS_sSetN, X_eL, X_lLst, X_aC]
  refine X_of_W ?_
  simp
  rw [X_aC, X_eCall]
  refine X_of_W ?_
  simp
  refine read_web_odd (by rw [hS1]; exact hs _) ?_
  have d1 : ¬ (("BadWeb" : Str) = "BadText") := by decide +kernel
  simp [errL, ErrH.tlD, List.lookup, d1, b__law_told_2]
  exact told46_fin hS1 rfl (by simp [oddL, clD, clDs]) hP
theorem due_odd {d : D} (hs : oIsi "str" d S = .ok (.bl false) S) {P : D → Sto → Prop} (hP : P (.ref S.length) (S ++ [.lst oddL])) : (F__law_due [d] S).W P := by
  refine W_runF rfl ?_
  simp [b__law_due, b__law_due_0, hs]
  rw [gc_lst (m := S.length) (o := .lst oddL) old_append (by simp [oddL]) (by simp) (by simp [oddL, clO, clD, clDs]), W_ok, List.take_left]
  exact hP
theorem due_ok (hl : z.length ≤ 2000) {P : D → Sto → Prop} (hP : P (.ref S.length) (S ++ [.lst (rdL z)])) : (F__law_due [.str z] S).W P := by
  refine W_runF rfl ?_
  have wl : ∀ w ∈ Txt.split z "\n", w.length ≤ 1000000 := fun w hw => Nat.le_trans (split_len okBreak.1 okBreak.2.1 hw) (by omega)
  have sl := (PyProof.Rows.fact_split z "\n").2
  have fin : ∀ (G : Sto) (L : List D), L = rdL z → (gc S (.ref (S ++ G).length) (S ++ G ++ [.lst L])).W P := fun G L e2 => by
    rw [gc_lst (m := (S ++ G).length) (o := .lst L) (by rw [List.append_assoc]; exact old_append) (by simp) (by simp) (by rw [e2]; simp only [clO]; exact rdL_cl z), W_ok]
    rw [List.append_assoc, List.take_left, e2]
    exact hP
  simp [b__law_due, b__law_due_0, oIsi_of (T := "str") (t := "str") (x := .str z) (S := S) rfl, isB, b__law_due_1]
  rw [oSplit_str (by rw [okBreak.2.2]; omega) (by simp only [sizeLine]; omega)]
  simp
  obtain ⟨ls, hls⟩ : ∃ ls, ls = Txt.split z "\n" := ⟨_, rfl⟩
  rw [← hls] at wl sl ⊢
  refine ⟨by simp only [sizeLine]; omega, ?_⟩
  refine W_lcT (fun x : Str => D.str x) (fun x => oD (stepOf x)) trivial (fun x hx => ⟨_, rfl, ?_⟩) ?_
  · simp [wipeL]
    rw [law_step_eq (wl x hx)]
    exact W_ok.2 ⟨rfl, rfl⟩
  · have em : List.map (fun x => oD (stepOf x)) ls = stepsD z := by rw [stepsD, stepsS, hls, List.map_map]; rfl
    rw [em]
    obtain ⟨S1, hS1⟩ : ∃ S1 : Sto, S1 = S ++ [Ob.lst (stepsD z)] := ⟨_, rfl⟩
    have n1 : S1[S.length]? = some (.lst (stepsD z)) := by rw [hS1]; exact st_get0
    obtain ⟨G1, p1⟩ : ∃ G1, S1 = S ++ G1 := ⟨_, hS1⟩
    simp only [W_ok, oeL_tmp]
    rw [← hS1]
    have hnn : ∀ d ∈ stepsD z, purD 3 d = true := fun d hd => by
      simp only [stepsD, stepsS, List.map_map, List.mem_map, Function.comp] at hd
      obtain ⟨l, _, rfl⟩ := hd
      cases e : stepOf l with
      | none => rfl
      | some x => exact prs_pur (prs_of e)
    have inn := oInP_non (by omega) n1 hnn
    simp [b__law_due_2, inn]
    unfold rdL at fin
    rcases findIdx_cases (stepsS z) with ⟨i, h1, h2, h3⟩ | ⟨h1, h2⟩
    · rw [h1] at fin
      have an : ((stepsD z).any dNon) = true := List.any_eq_true.mpr ⟨.non, List.mem_map.mpr ⟨none, List.mem_of_getElem? h2, rfl⟩, rfl⟩
      rw [if_pos (by simpa using an)]
      have e1 : (stepsD z)[i]? = some .non := by rw [stepsD, List.getElem?_map, h2]; rfl
      have e2 : ∀ j, j < i → ∃ xs, (stepsD z)[j]? = some (.tup xs) := fun j hj => by
        obtain ⟨x, hx⟩ := h3 j hj
        obtain ⟨l, _, hl⟩ := List.mem_map.mp (List.mem_of_getElem? hx)
        obtain ⟨k, is, rfl, _⟩ := prs_of hl
        exact ⟨_, by rw [stepsD, List.getElem?_map, hx]; rfl⟩
      have ixn := oIndexP_non (by omega) n1 hnn e1 e2
      rw [W_isL n1, ixn, W_ok]
      rw [p1]
      exact fin _ _ rfl
    · rw [h1] at fin
      have an : ((stepsD z).any dNon) = false := by
        rw [Bool.eq_false_iff]
        intro q
        obtain ⟨d, hd, hq⟩ := List.any_eq_true.mp q
        obtain ⟨o, ho, rfl⟩ := List.mem_map.mp hd
        obtain ⟨x, rfl⟩ := h2 o ho
        obtain ⟨l, _, hl⟩ := List.mem_map.mp ho
        obtain ⟨k, is, rfl, _⟩ := prs_of hl
        cases hq
      rw [if_neg (by simpa using an)]
      have pr := steps_some h2
      simp only at fin
      simp [b__law_due_3, qD_ref n1, law_web_error_eq pr, b__law_due_4]
      by_cases hn : dNon (errD (.tup (stepsD z))) = true
      · rw [if_pos hn] at fin
        simp [hn, qD_ref n1]
        rw [p1]
        exact fin _ _ rfl
      · rw [if_neg hn] at fin
        have hn2 : dNon (errD (.tup (stepsD z))) = false := by simpa using hn
        simp [hn2]
        rw [p1]
        exact fin _ _ rfl
end
end Pz

set_option Elab.async false
set_option linter.all false
set_option maxRecDepth 100000
set_option maxHeartbeats 4000000
/-! Pw20: how long the parts of a text are, and of which signs. -/
namespace Pz
open PySem PySem.Spec PyProof.Rows L2
theorem spl_sum (T : List Nat) : ∀ (k : Nat) (acc l : List Nat), ((TL.spl T k acc l).map List.length).sum ≤ acc.length + l.length
  | k, acc, [] => by rw [TL.spl_nil]; simp
  | 0, acc, c :: r => by
    unfold TL.spl
    split
    · have := spl_sum T (T.length - 1) [] r
      simp at this ⊢; omega
    · have := spl_sum T 0 (acc ++ [c]) r; simp at this ⊢; omega
  | k + 1, acc, c :: r => by
    unfold TL.spl
    have := spl_sum T k acc r; simp at this ⊢; omega
theorem spl_mem (T : List Nat) : ∀ (k : Nat) (acc l : List Nat), ∀ p ∈ TL.spl T k acc l, ∀ c ∈ p, c ∈ acc ∨ c ∈ l
  | k, acc, [] => fun p hp c hc => by rw [TL.spl_nil, List.mem_singleton] at hp; subst hp; exact .inl hc
  | 0, acc, a :: r => fun p hp c hc => by
    unfold TL.spl at hp
    split at hp
    · rcases List.mem_cons.mp hp with q | q
      · subst q; exact .inl hc
      · rcases spl_mem T _ [] r p q c hc with z | z
        · cases z
        · exact .inr (List.mem_cons_of_mem _ z)
    · rcases spl_mem T 0 (acc ++ [a]) r p hp c hc with z | z
      · rcases List.mem_append.mp z with z | z
        · exact .inl z
        · exact .inr (by rw [List.mem_singleton.mp z]; exact List.mem_cons_self)
      · exact .inr (List.mem_cons_of_mem _ z)
  | k + 1, acc, a :: r => fun p hp c hc => by
    unfold TL.spl at hp
    rcases spl_mem T k acc r p hp c hc with z | z
    · exact .inl z
    · exact .inr (List.mem_cons_of_mem _ z)
theorem split_sum {x y : Str} (hy : y.cps.toList ≠ []) (hk : y.cps.all (· < 256) = true) : ((Txt.split x y).map (·.length)).sum ≤ x.length := by
  have e := TL.split_spl x y hy (TL.kind_ok hk)
  have := spl_sum y.cps.toList 0 [] x.cps.toList
  rw [← e, List.map_map] at this
  have e2 : (Txt.split x y).map (·.length) = (Txt.split x y).map (List.length ∘ fun s : Str => s.cps.toList) := List.map_congr_left fun s _ => len_toList s
  rw [e2, len_toList]
  simpa using this
theorem split_mem {x y : Str} (hy : y.cps.toList ≠ []) (hk : y.cps.all (· < 256) = true) {s : Str} (hs : s ∈ Txt.split x y) {c : Nat} (hc : c ∈ s.cps.toList) : c ∈ x.cps.toList := by
  have e := TL.split_spl x y hy (TL.kind_ok hk)
  have hm : s.cps.toList ∈ TL.spl y.cps.toList 0 [] x.cps.toList := by rw [← e]; exact List.mem_map.mpr ⟨s, hs, rfl⟩
  rcases spl_mem _ _ _ _ _ hm c hc with q | q
  · cases q
  · exact q
theorem cutS_len {z : Str} {i j : Option Int} : (cutS z i j).length ≤ z.length ∧ ∀ c ∈ (cutS z i j).cps.toList, c ∈ z.cps.toList := by
  unfold cutS
  constructor
  · rw [len_toList, len_toList z]
    simp
    omega
  · intro c hc
    exact List.mem_of_mem_drop (List.mem_of_mem_take (by simpa using hc))
theorem app_len {x y : Str} : (x ++ y).length = x.length + y.length ∧ (x ++ y).cps.toList = x.cps.toList ++ y.cps.toList := by
  have e0 : (x ++ y).cps = x.cps ++ y.cps := rfl
  have e : (x ++ y).cps.toList = x.cps.toList ++ y.cps.toList := by rw [e0, Array.toList_append]
  exact ⟨by rw [len_toList, len_toList x, len_toList y, e, List.length_append], e⟩
end Pz

set_option Elab.async false
set_option linter.all false
set_option maxRecDepth 100000
set_option maxHeartbeats 4000000
/-! Gc: the draws of the family C (a deck of cells and a count). -/
namespace Pz
open PySem PySem.Spec PyProof.Rows L2
/-- the deck: its cells, its count; below everything else -/
def dc (c xs : List Int) (k : Int) : Sto := [.lst (c.map .int), .lst (xs.map .int), .lst [.ref 1, .int k]]
/-- at most B draws so far -/
def DC (B : Nat) (T S : Sto) : Prop := ∃ c xs k, 0 ≤ k ∧ k ≤ (B : Int) ∧ S = dc c xs k ++ T
section
variable {B B' : Nat} {T S : Sto} {m : Int}
theorem DC.le (h : DC B T S) (hb : B ≤ B') : DC B' T S := by
  obtain ⟨c, xs, k, h1, h2, h3⟩ := h
  exact ⟨c, xs, k, h1, by omega, h3⟩
theorem draw_o (h : DC B T S) (hb : B < 1000000000000) (h1 : 0 < m) (h2 : m < 1073741824) : (F__law_draw [.ref 2, .int m] S).W fun d S' => (∃ r : Int, d = .int r ∧ 0 ≤ r ∧ r < m) ∧ DC (B + 1) T S' := by
  obtain ⟨c, xs, k, k0, kB, rfl⟩ := h
  refine W_runF rfl ?_
  have g1 : ∀ xs k, (dc c xs k ++ T)[2]? = some (.lst [.ref 1, .int k]) := fun _ _ => rfl
  have g0 : ∀ xs k, (dc c xs k ++ T)[1]? = some (.lst (xs.map .int)) := fun _ _ => rfl
  have i0 : ∀ xs k, oIx (.ref 2) (.int 0) (dc c xs k ++ T) = .ok (.ref 1) (dc c xs k ++ T) := fun xs k => oIx_ref (g1 xs k) (by simp)
  have i1 : ∀ xs k, oIx (.ref 2) (.int 1) (dc c xs k ++ T) = .ok (.int k) (dc c xs k ++ T) := fun xs k => oIx_ref (g1 xs k) (by simp)
  have q0 : ∀ xs k, qD (.ref 1) (dc c xs k ++ T) = .ok (xs.map .int) (dc c xs k ++ T) := fun xs k => qD_ref (g0 xs k)
  have z1 : ∀ y xs k, oSetIx (.int y) (.ref 2) (.int 1) (dc c xs k ++ T) = some (dc c xs y ++ T) := fun y xs k => by rw [oSetIx_ref (g1 _ k) (by omega) (by simp)]; rfl
  have tl : ∀ r xs' k', 0 ≤ r → r < m → 0 ≤ k' → k' ≤ (B : Int) + 1 → (gc (dc c xs k ++ T) (.int r) (dc c xs' k' ++ T)).W fun d S' => (∃ r : Int, d = .int r ∧ 0 ≤ r ∧ r < m) ∧ DC (B + 1) T S' := fun r xs' k' a b p d => by
    rw [gc_same (by simp [dc]), W_ok]
    exact ⟨⟨r, rfl, a, b⟩, c, xs', k', p, by omega, rfl⟩
  simp [b__law_draw, b__law_draw_0, i1, z1]
  simp [b__law_draw_1]
  refine ⟨_, rfl, ?_⟩
  obtain ⟨N, hN⟩ : ∃ N : Loc → Sto → Prop, ∀ l S, N l S ↔ ∃ y xs a, l = [some (.ref 2), some (.int m), some (.int y), some (.int a), none] ∧ S = dc c xs (k + 1) ++ T ∧ (xs = [] → y < 1000000000000000000) ∧ (xs ≠ [] → 0 ≤ a ∧ a < xs.length) := ⟨_, fun _ _ => Iff.rfl⟩
  refine OutS.W.mono (N := N) ?_ (fun l S q => ?_) (fun _ _ q => q) (fun _ _ q => q) (fun _ _ q => q)
  · simp [b__law_draw_2, i0, q0]
    by_cases hx : 0 < xs.length
    · rw [if_pos hx]
      have hl : (0 : Int) < xs.length := by omega
      have a := Int.emod_nonneg (k + 1) (show (xs.length : Int) ≠ 0 by omega)
      have b := Int.emod_lt_of_pos (k + 1) hl
      simp [b__law_draw_2_0, b__law_draw_2_1, i0, i1, q0, oMod_pos hl]
      have hn : ((k + 1) % (xs.length : Int)).toNat < xs.length := by omega
      rw [oIx_ref (g0 _ _) (d := .int xs[((k + 1) % (xs.length : Int)).toNat]) (by rw [atI_int a]; simp [hn]), W_ok]
      exact (hN _ _).2 ⟨_, xs, _, rfl, rfl, fun q => by subst q; simp at hx, fun _ => ⟨a, b⟩⟩
    · rw [if_neg hx]
      exact (hN _ _).2 ⟨_, xs, _, rfl, rfl, fun _ => by omega, fun q => absurd (List.length_pos_iff.mpr q) hx⟩
  · obtain ⟨y, xs, a, rfl, rfl, hx1, hx2⟩ := (hN _ _).1 q
    have pw : ∀ S, oPow (.int 10) (.int 18) S = .ok (.int 1000000000000000000) S := fun S => oPow_int (by decide)
    simp [b__law_draw_3, pw]
    by_cases hy : 1000000000000000000 ≤ y
    · rw [if_pos hy]
      have hne : xs ≠ [] := fun e => by have := hx1 e; omega
      obtain ⟨a0, a1⟩ := hx2 hne
      have z0 : ∀ v, oSetIx (.int v) (.ref 1) (.int a) (dc c xs (k + 1) ++ T) = some (dc c (xs.set a.toNat v) (k + 1) ++ T) := fun v => by
        rw [oSetIx_ref (g0 _ _) a0 (by simpa using a1)]
        simp [dc]
      simp [b__law_draw_3_0, b__law_draw_3_1, i0, oDiv_pos h1 h2, z0, oMod_pos h1]
      exact tl _ _ _ (Int.emod_nonneg _ (show m ≠ 0 by omega)) (Int.emod_lt_of_pos _ h1) (by omega) (by omega)
    · rw [if_neg hy]
      have mu : ∀ (y : Int) (S : Sto), oMul (.int 11213) (.int y) S = .ok (.int (11213 * y)) S := fun y S => oMul_int (by simp [cMul])
      have a := Int.emod_nonneg y (show (2147483477 : Int) ≠ 0 by omega)
      have b := Int.emod_lt_of_pos y (show (0 : Int) < 2147483477 by omega)
      have po : ∀ S, oPow (.int (y % 2147483477 + 11213 * (k + 1) + 7)) (.int 5) S = .ok (.int ((y % 2147483477 + 11213 * (k + 1) + 7) ^ 5)) S := fun S => oPow_int (by
        simp only [cPow, decide_eq_true_eq]
        refine ⟨by omega, by omega, ?_⟩
        omega)
      simp [b__law_draw_4, b__law_draw_5, i1, mu, oMod_pos, h1, po]
      exact tl _ _ _ (Int.emod_nonneg _ (show m ≠ 0 by omega)) (Int.emod_lt_of_pos _ h1) (by omega) (by omega)
theorem DC.len (h : DC B T S) : S.length = T.length + 3 := by
  obtain ⟨c, xs, k, _, _, rfl⟩ := h
  simp [dc] <;> omega
theorem DC.get (h : DC B T S) {n : Nat} (hn : 3 ≤ n) : S[n]? = T[n - 3]? := by
  obtain ⟨c, xs, k, _, _, rfl⟩ := h
  rw [List.getElem?_append_right (by simpa [dc] using hn)]
  rfl
theorem DC.app (h : DC B T S) (G : Sto) : DC B (T ++ G) (S ++ G) := by
  obtain ⟨c, xs, k, h1, h2, rfl⟩ := h
  exact ⟨c, xs, k, h1, h2, by rw [List.append_assoc]⟩
theorem DC.move {S' : Sto} (h : DC B T S) (h' : DC B' T S') {n : Nat} (hn : 3 ≤ n) : S'[n]? = S[n]? := by rw [h.get hn, h'.get hn]
theorem DC.keep (h : DC B T S) {G S' : Sto} (h' : DC B' (T ++ G) S') {n : Nat} {o : Ob} (hn : 3 ≤ n) (e : S[n]? = some o) : S'[n]? = some o := by
  rw [h'.get hn]
  rw [h.get hn] at e
  exact st_old e
theorem DC.keep0 (h : DC B T S) {S' : Sto} (h' : DC B' T S') {n : Nat} {o : Ob} (hn : 3 ≤ n) (e : S[n]? = some o) : S'[n]? = some o := by rw [h.move h' hn]; exact e
theorem DC.new (h : DC B T S) {S' : Sto} {o : Ob} (h' : DC B' (T ++ [o]) S') : S'[S.length]? = some o := by
  rw [h'.get (by rw [h.len]; omega), h.len]
  simp
theorem DC.set (h : DC B T S) {n : Nat} (o : Ob) (hn : 3 ≤ n) : DC B (T.set (n - 3) o) (S.set n o) := by
  obtain ⟨c, xs, k, h1, h2, rfl⟩ := h
  refine ⟨c, xs, k, h1, h2, ?_⟩
  rw [List.set_append]
  rw [if_neg (by simpa [dc] using hn)]
  rfl
theorem DC.setG {G : Sto} (h : DC B (T ++ G) S) {n : Nat} (o : Ob) (hn : T.length + 3 ≤ n) : ∃ G', DC B (T ++ G') (S.set n o) := by
  have := h.set o (n := n) (by omega)
  rw [List.set_append, if_neg (by omega)] at this
  exact ⟨_, this⟩
theorem DC.old (h : DC B T S) {G S' : Sto} (h' : DC B' (T ++ G) S') : Old S S' := by
  intro i o hi e
  have hl := h.len
  by_cases h2 : 3 ≤ i
  · rw [h'.get h2] at e
    rw [h.get h2]
    rw [List.getElem?_append_left (by omega)] at e
    exact .inl e
  · obtain ⟨c, xs, k, _, _, rfl⟩ := h
    obtain ⟨c', xs', k', _, _, rfl⟩ := h'
    match i, h2 with
    | 0, _ => cases e; exact .inr (by simp only [clO]; exact clDs_ints _ _)
    | 1, _ => cases e; exact .inr (by simp only [clO]; exact clDs_ints _ _)
    | 2, _ =>
      cases e
      refine .inr ?_
      simp only [clO, clDs, clD, Bool.and_true, decide_eq_true_eq, Bool.and_eq_true]
      omega
    | i + 3, h => omega
theorem DC.take (h : DC B T S) {G S' : Sto} (h' : DC B' (T ++ G) S') : DC B' T (S'.take S.length) := by
  have hl := h.len
  obtain ⟨c', xs', k', h1, h2, rfl⟩ := h'
  refine ⟨c', xs', k', h1, h2, ?_⟩
  rw [hl, ← List.append_assoc, List.take_left' (by simp [dc] <;> omega)]
/-- the end of a def that gives something closed back -/
theorem DC.gcW (h : DC B T S) {G S' : Sto} (h' : DC B' (T ++ G) S') {d : D} {P : D → Sto → Prop} (hd : clD S.length d = true) (hP : ∀ S'', DC B' T S'' → P d S'') : (gc S d S').W P := by
  rw [gc_cut (h.old h') hd, W_ok]
  exact hP _ (h.take h')
theorem DC.gcW0 (h : DC B T S) {S' : Sto} (h' : DC B' T S') {d : D} {P : D → Sto → Prop} (hP : P d S') : (gc S d S').W P := by
  rw [gc_same (by rw [h.len, h'.len]; exact Nat.le_refl _), W_ok]
  exact hP
/-- .. a list -/
theorem DC.gcL (h : DC B T S) {G S' : Sto} (h' : DC B' (T ++ G) S') {m : Nat} {o : Ob} {P : D → Sto → Prop} (hm : S'[m]? = some o) (hn : S.length ≤ m) (hd : clO S.length o = true) (hP : ∀ S'', DC B' (T ++ [o]) S'' → P (.ref S.length) S'') : (gc S (.ref m) S').W P := by
  rw [gc_lst (h.old h') hm hn hd, W_ok]
  exact hP _ ((h.take h').app [o])
variable {P : D → Sto → Prop}
theorem draw_ok (h : DC B T S) (hb : B < 1000000000000) (h1 : 0 < m) (h2 : m < 1073741824) (hP : ∀ (r : Int) S', 0 ≤ r → r < m → DC (B + 1) T S' → P (.int r) S') : (F__law_draw [.ref 2, .int m] S).W P :=
  (draw_o h hb h1 h2).mono fun d S' ⟨⟨r, e, h3, h4⟩, h5⟩ => by subst e; exact hP r S' h3 h4 h5
theorem one_at (h : DC B T S) (hb : B < 1000000000000) {n : Nat} {xs : List D} (hn : S[n]? = some (.lst xs)) (h5 : 3 ≤ n) (h0 : xs ≠ []) (h1 : xs.length < 1073741824) (hP : ∀ (i : Nat) d S', xs[i]? = some d → DC (B + 1) T S' → P d S') : (F__law_one [.ref 2, .ref n] S).W P := by
  refine W_runF rfl ?_
  have hp : 0 < xs.length := List.length_pos_iff.mpr h0
  simp [b__law_one, b__law_one_0, qD_ref hn]
  refine draw_ok h hb (m := xs.length) (by omega) (by omega) fun r S1 h2 h3 h4 => ?_
  have hr : r.toNat < xs.length := by omega
  rw [oIx_ref (d := xs[r.toNat]) (by rw [h.move h4 h5]; exact hn) (by rw [atI_int h2]; simp [hr])]
  rw [W_ok]
  exact h.gcW0 h4 (hP r.toNat _ _ (by simp [hr]) h4)
theorem one_ok (h : DC B T S) (hb : B < 1000000000000) {n : Nat} {xs : List D} (hn : S[n]? = some (.lst xs)) (h5 : 3 ≤ n) (h0 : xs ≠ []) (h1 : xs.length < 1073741824) (hP : ∀ d S', d ∈ xs → DC (B + 1) T S' → P d S') : (F__law_one [.ref 2, .ref n] S).W P :=
  one_at h hb hn h5 h0 h1 fun i d S' hi h' => hP d S' (List.mem_of_getElem? hi) h'
theorem kind_ok (h : DC B T S) (hb : B + 2 < 1000000000000) {k : Int} (hk0 : 0 ≤ k) (hk : k ≤ 3) (hP : ∀ d S', KOK d k.toNat → DC (B + 2) T S' → P d S') : (F__law_kind [.ref 2, .int k] S).W P := by
  obtain ⟨k, rfl⟩ := Int.eq_ofNat_of_zero_le hk0
  refine W_runF rfl ?_
  simp [b__law_kind, b__law_kind_0]
  refine draw_ok h (by omega) (by omega) (by omega) fun r S1 r0 r1 g1 => ?_
  have hS := h.len
  have hS1 := g1.len
  simp [b__law_kind_1, Nat.add_assoc]
  generalize hG : ([Ob.lst [D.str (Str.ofString "in"), D.str (Str.ofString "in"), D.str (Str.ofString "in"), D.int (r - 99), D.int 0, D.int 7], Ob.lst [D.str (Str.ofString "neg")], Ob.lst [D.str (Str.ofString "+"), D.str (Str.ofString "-"), D.str (Str.ofString "*")],
            Ob.lst [D.str (Str.ofString "pick")], Ob.lst [D.ref (List.length S1), D.ref (List.length S1 + 1), D.ref (List.length S1 + 2), D.ref (List.length S1 + 3)]] : Sto) = G
  have h' := g1.app G
  have fin : ∀ n : Nat, S1.length ≤ n → ∀ xs : List D, (S1 ++ G)[n]? = some (.lst xs) → xs ≠ [] → xs.length < 1073741824 → (∀ d ∈ xs, KOK d k) → (F__law_one [D.ref 2, .ref n] (S1 ++ G)).W fun d S' => (gc S d S').W P := fun n hn xs hx h0 h1 hk' => by
    refine one_ok h' (by omega) hx (by omega) h0 h1 fun d S2 hd h2 => ?_
    exact h.gcW h2 (hk' d hd).cl fun S3 h3 => hP d S3 (by simpa using hk' d hd) h3
  have g0 : (S1 ++ G)[S1.length + 4]? = some (Ob.lst [D.ref (List.length S1), D.ref (List.length S1 + 1), D.ref (List.length S1 + 2), D.ref (List.length S1 + 3)]) := by rw [← hG]; simp
  match k, (show k ≤ 3 by omega) with
  | 0, _ =>
    rw [oIx_ref g0 (d := .ref S1.length) (by simp), W_ok]
    refine fin _ (by omega) _ (by rw [← hG]; simp; rfl) (by simp) (by simp) fun d hd => ?_
    simp at hd
    rcases hd with rfl | rfl | rfl | rfl
    · exact .inl rfl
    · exact .inr ⟨_, rfl, by omega, by omega⟩
    · exact .inr ⟨_, rfl, by omega, by omega⟩
    · exact .inr ⟨_, rfl, by omega, by omega⟩
  | 1, _ =>
    rw [oIx_ref g0 (d := .ref (S1.length + 1)) (by simp), W_ok]
    exact fin _ (by omega) _ (by rw [← hG]; simp; rfl) (by simp) (by simp) (by simp [KOK])
  | 2, _ =>
    rw [oIx_ref g0 (d := .ref (S1.length + 2)) (by simp), W_ok]
    exact fin _ (by omega) _ (by rw [← hG]; simp; rfl) (by simp) (by simp) (by simp [KOK])
  | 3, _ =>
    rw [oIx_ref g0 (d := .ref (S1.length + 3)) (by rw [atI_int (by omega)]; rfl), W_ok]
    exact fin _ (by omega) _ (by rw [← hG]; simp; rfl) (by simp) (by simp) (by simp [KOK])
theorem mixed_ok (h : DC B T S) {n : Nat} {xs : List D} (hb : B + xs.length < 1000000000000) (hn : S[n]? = some (.lst xs)) (h5 : 3 ≤ n) (hcl : clDs S.length xs = true) (h1 : xs.length < 16777216)
    (hP : ∀ (zs : List D) S', zs.Perm xs → DC (B + xs.length) (T ++ [.lst zs]) S' → S'[S.length]? = some (.lst zs) → P (.ref S.length) S') : (F__law_mixed [.ref 2, .ref n] S).W P := by
  refine W_runF rfl ?_
  have hS := h.len
  have hnl := (List.getElem?_eq_some_iff.mp hn).1
  have n1 : (S ++ [Ob.lst xs, Ob.lst []])[n]? = some (.lst xs) := by rw [List.getElem?_append_left hnl]; exact hn
  simp [b__law_mixed, b__law_mixed_0, b__law_mixed_1, b__law_mixed_2, qD_ref hn, qD_ref n1, Nat.add_assoc]
  rw [W_kRg (by decide) (by simp [rgB]; omega)]
  obtain ⟨I, hI⟩ : ∃ I : Nat → Loc → Sto → Prop, ∀ i l S', I i l S' ↔ ∃ v rs fs, l = [some (.ref 2), some (.ref n), some (.ref S.length), some (.ref (S.length + 1)), v] ∧ rs.length + i = xs.length ∧ (fs ++ rs).Perm xs ∧ DC (B + i) (T ++ [.lst rs, .lst fs]) S' := ⟨_, fun _ _ _ => Iff.rfl⟩
  refine W_forL I _ 0 ((hI _ _ _).2 ⟨none, xs, [], rfl, rfl, .refl _, h.app _⟩) ?_ ?_
  · intro i x l S' hx q
    obtain ⟨v, rs, fs, rfl, e1, e2, h'⟩ := (hI _ _ _).1 q
    refine ⟨trivial, _, rfl, ?_⟩
    have hi := (List.getElem?_eq_some_iff.mp hx).1
    rw [rgD_len] at hi
    have f0 : ∀ S1 rs fs B, DC B (T ++ [.lst rs, .lst fs]) S1 → S1[S.length]? = some (.lst rs) := fun S1 rs fs B q => by rw [q.get (by omega), hS]; simp
    have f1 : ∀ S1 rs fs B, DC B (T ++ [.lst rs, .lst fs]) S1 → S1[S.length + 1]? = some (.lst fs) := fun S1 rs fs B q => by rw [q.get (by omega), hS, show T.length + 3 + 1 - 3 = T.length + 1 by omega]; simp
    simp [W_isL (f1 _ _ _ _ h'), W_isL (f0 _ _ _ _ h'), qD_ref (f0 _ _ _ _ h')]
    refine draw_ok h' (m := rs.length) (by omega) (by simp at hi; omega) (by omega) fun r S1 h2 h3 h4 => ?_
    have hr : r.toNat < rs.length := by omega
    rw [oPopAt_ref (y := rs[r.toNat]) (f0 _ _ _ _ h4) h2 (by simp [hr]) (by omega)]
    have h6 := h4.set (.lst (rs.eraseIdx r.toNat)) (n := S.length) (by omega)
    have e6 : (T ++ [Ob.lst rs, Ob.lst fs]).set (S.length - 3) (Ob.lst (rs.eraseIdx r.toNat)) = T ++ [Ob.lst (rs.eraseIdx r.toNat), Ob.lst fs] := by rw [hS]; simp
    rw [e6] at h6
    have el : fs.length + rs.length = xs.length := by simpa using e2.length_eq
    rw [W_ok, oApp_ref (f1 _ _ _ _ h6) (by simp only [sizeLine]; omega), W_ok]
    have h7 := h6.set (.lst (fs ++ [rs[r.toNat]])) (n := S.length + 1) (by omega)
    have e7 : (T ++ [Ob.lst (rs.eraseIdx r.toNat), Ob.lst fs]).set (S.length + 1 - 3) (Ob.lst (fs ++ [rs[r.toNat]])) = T ++ [Ob.lst (rs.eraseIdx r.toNat), Ob.lst (fs ++ [rs[r.toNat]])] := by
      rw [hS, show T.length + 3 + 1 - 3 = T.length + 1 by omega]; simp
    rw [e7] at h7
    refine (hI _ _ _).2 ⟨_, _, _, rfl, ?_, ?_, h7.le (by omega)⟩
    · rw [List.length_eraseIdx_of_lt hr]; omega
    · refine List.Perm.trans ?_ e2
      rw [List.append_assoc]
      exact List.Perm.append_left _ (perm_eraseIdx hr)
  · intro l S' q
    obtain ⟨v, rs, fs, rfl, e1, e2, h'⟩ := (hI _ _ _).1 q
    refine ⟨trivial, ?_⟩
    simp
    have hrs : rs = [] := List.eq_nil_of_length_eq_zero (by rw [rgD_len] at e1; omega)
    subst hrs
    rw [List.append_nil] at e2
    refine h.gcL h' (o := .lst fs) (by rw [h'.get (by omega), hS, show T.length + 3 + 1 - 3 = T.length + 1 by omega]; simp) (by omega) ?_ fun S2 h2 => ?_
    · simp only [clO]
      exact clDs_perm e2.symm hcl
    · have h2 := h2.le (B' := B + xs.length) (by rw [rgD_len]; omega)
      exact hP fs S2 e2 h2 (h.new h2)
theorem renumbered_eq {w : List Stp} (hw : ∀ s ∈ w, StpOk w.length s) {row : List Nat} (p : row.Perm (List.range w.length)) (hl : w.length ≤ 1000) {a n : Nat} (ha : S[a]? = some (.lst (w.map encS))) (hn : S[n]? = some (.lst (encI row))) : F__law_renumbered [.ref a, .ref n] S = .ok (encW (renum w row)) S := by
  refine eq_Wf (F := F__law_renumbered) fun P hP => ?_
  refine W_runF rfl ?_
  have rl : row.length = w.length := by rw [p.length_eq, List.length_range]
  simp [b__law_renumbered, b__law_renumbered_0]
  rw [kD_ref hn]
  simp
  refine ⟨by simp only [encI_len, sizeLine]; omega, ?_⟩
  refine W_lcT (fun i : Nat => D.int i) (fun s => encS ((stp w s).1, (stp w s).2.map fun one => row.idxOf one)) (bs := row) (by simpa using hn) (fun b hb => ?_) ?_
  · have hb' := (perm_range_mem p).mp hb
    have gt : w[b]? = some (stp w b) := stp_get hb'
    have ok := hw _ (List.mem_of_getElem? gt)
    generalize hs : stp w b = s at *
    have ix : oIx (.ref a) (.int (b : Nat)) S = .ok (encS s) S := oIx_ref ha (by rw [atI_nat, List.getElem?_map, gt]; rfl)
    refine ⟨_, rfl, ?_⟩
    have i0 : ∀ S, oIx (encS s) (.int 0) S = .ok s.1 S := fun S => oIx_tup (by simp)
    have i1 : ∀ S, oIx (encS s) (.int 1) S = .ok (.tup (encI s.2)) S := fun S => oIx_tup (by simp)
    simp [wipeL, ix, i0, i1]
    refine ⟨by have := ok.1.le; simp only [encI_len, sizeLine]; omega, ?_⟩
    refine W_lcT (fun i : Nat => D.int i) (fun i => D.int (row.idxOf i : Nat)) trivial (fun x hx => ?_) ?_
    · refine ⟨_, rfl, ?_⟩
      simp [W_isL hn]
      rw [oIndex_nat hn ((perm_range_mem p).mpr (ok.2 x hx))]
      exact W_ok.2 ⟨rfl, rfl⟩
    · simp [encS, encI, List.map_map, Function.comp_def]
  · simp
    have e : (D.tup (List.map (fun s => encS ((stp w s).1, (stp w s).2.map fun one => row.idxOf one)) row)) = encW (renum w row) := by simp [encW, renum, List.map_map, Function.comp_def]
    rw [e]
    exact hP
/-! weaving: what is taken off the pile (the queue), what stays -/
def wTake (q : Bool) (k : Nat) (pl : List Nat) : List Nat := if q then pl.take k else pl.drop (pl.length - k)
def wRest (q : Bool) (k : Nat) (pl : List Nat) : List Nat := if q then pl.drop k else pl.take (pl.length - k)
inductive Wov (q : Bool) : List Stp → List Nat → Prop
  | nil : Wov q [] []
  | step {ws : List Stp} {pl : List Nat} {d : D} {is : List Nat} {c : Nat} (h : Wov q ws pl) (hl : is.length ≤ pl.length) (hk : KOK d is.length) (hp : is.Perm (wTake q is.length pl)) (hc : c ≤ 3) : Wov q (ws ++ [(d, is)]) (wRest q is.length pl ++ List.replicate c ws.length)
theorem wTake_mem {q : Bool} {k x : Nat} {pl : List Nat} (h : x ∈ wTake q k pl) : x ∈ pl := by
  unfold wTake at h
  split at h
  · exact List.mem_of_mem_take h
  · exact List.mem_of_mem_drop h
theorem wRest_mem {q : Bool} {k x : Nat} {pl : List Nat} (h : x ∈ wRest q k pl) : x ∈ pl := by
  unfold wRest at h
  split at h
  · exact List.mem_of_mem_drop h
  · exact List.mem_of_mem_take h
theorem wTake_len {q : Bool} {k : Nat} {pl : List Nat} (h : k ≤ pl.length) : (wTake q k pl).length = k := by
  unfold wTake
  split <;> simp <;> omega
theorem wRest_len {q : Bool} {k : Nat} {pl : List Nat} (h : k ≤ pl.length) : (wRest q k pl).length = pl.length - k := by
  unfold wRest
  split <;> simp <;> omega
theorem Wov.lt {q : Bool} {ws : List Stp} {pl : List Nat} (h : Wov q ws pl) : ∀ x ∈ pl, x < ws.length := by
  induction h with
  | nil => exact fun _ h => nomatch h
  | step h hl hk hp hc ih =>
    intro x hx
    rw [List.length_append]
    rcases List.mem_append.mp hx with hx | hx
    · have := ih x (wRest_mem hx); simp; omega
    · rw [List.eq_of_mem_replicate hx]; simp
theorem Wov.stp {q : Bool} {ws : List Stp} {pl : List Nat} (h : Wov q ws pl) : ∀ t s, ws[t]? = some s → StpOk t s := by
  induction h with
  | nil => exact fun t s h => by simp at h
  | step h hl hk hp hc ih =>
    rename_i ws pl d is c
    intro t s e
    by_cases ht : t < ws.length
    · rw [List.getElem?_append_left ht] at e; exact ih t s e
    · have hz := (List.getElem?_eq_some_iff.mp e).1
      simp at hz
      have : t = ws.length := by omega
      subst this
      simp at e
      subst e
      exact ⟨hk, fun x hx => h.lt x (wTake_mem (hp.subset hx))⟩
theorem Wov.len {q : Bool} {ws : List Stp} {pl : List Nat} (h : Wov q ws pl) : pl.length ≤ 3 * ws.length := by
  induction h with
  | nil => exact Nat.le_refl _
  | step h hl hk hp hc ih =>
    rw [List.length_append, wRest_len hl]
    simp; omega
theorem grown_all {ws : List Stp} (h : ∀ t s, ws[t]? = some s → StpOk t s) : ∀ s ∈ ws, StpOk ws.length s := (Web.of_grown h).ok
theorem woven_ok (h : DC B T S) (hb : B + 1000 < 1000000000000) {most : Int} (h1 : 1 ≤ most) (h2 : most ≤ 50) {q : Bool}
    (hP : ∀ ws pl (is : List Nat) S', Wov q ws pl → 1 ≤ ws.length → ws.length ≤ most.toNat → is.Perm (List.range ws.length) → DC (B + 1000) T S' → P (.tup [encW (renum ws is), .tup (encI ((List.range ws.length).map fun k => is.idxOf k))]) S') : (F__law_woven [.ref 2, .int most, .bl q] S).W P := by
  refine W_runF rfl ?_
  have hS := h.len
  simp [b__law_woven, b__law_woven_0, b__law_woven_1, Nat.add_assoc]
  refine draw_ok (h.app [.lst [], .lst []]) (by omega) (by omega) (by omega) fun r S1 r1 r2 g1 => ?_
  simp
  rw [W_kRg (by decide) (rgB_small (by omega) (by omega))]
  obtain ⟨I, hI⟩ : ∃ I : Nat → Loc → Sto → Prop, ∀ i l S', I i l S' ↔ ∃ (pn : Nat) (v5 v6 v7 : Option D) (G : Sto) (ws : List Stp) (pl : List Nat), l = [some (.ref 2), some (.int most), some (.bl q), some (.ref pn), some (.ref (S.length + 1)), v5, v6, v7, none] ∧ DC (B + 1 + 7 * i) (T ++ G) S' ∧ S'[S.length + 1]? = some (.lst (ws.map encS)) ∧ S'[pn]? = some (.lst (encI pl)) ∧ S.length ≤ pn ∧ pn ≠ S.length + 1 ∧
    ws.length = i ∧ Wov q ws pl := ⟨_, fun _ _ _ => Iff.rfl⟩
  refine W_forL I _ 0 ((hI _ _ _).2 ⟨S.length, none, none, none, _, [], [], rfl, g1, by rw [g1.get (by omega), hS, show T.length + 3 + 1 - 3 = T.length + 1 by omega]; simp, by rw [g1.get (by omega), hS]; simp; rfl, by omega, by omega, rfl, .nil⟩) ?_ ?_
  · intro i x l S' hx z
    obtain ⟨pn, v5, v6, v7, G, ws, pl, rfl, g, hf, hp, hpn, hpn2, l1, wv⟩ := (hI _ _ _).1 z
    obtain ⟨rfl, hi⟩ := rgD_get hx
    have hS' := g.len
    have l4 := wv.len
    refine ⟨trivial, _, rfl, ?_⟩
    simp [b__law_woven_1_0]
    refine one_ok (n := S'.length) (xs := [.int 0, .int 0, .int 1, .int 2, .int 2, .int 3]) (g.app [.lst [.int 0, .int 0, .int 1, .int 2, .int 2, .int 3]]) (by omega) (by simp) (by simp at hS'; omega) (by simp) (by simp) fun d S2 hd g2 => ?_
    obtain ⟨e, rfl, e1, e2⟩ : ∃ k : Int, d = .int k ∧ 0 ≤ k ∧ k ≤ 3 := by
      simp at hd
      rcases hd with rfl | rfl | rfl | rfl <;> exact ⟨_, rfl, by omega, by omega⟩
    have p2 := g.keep g2 (by omega) hp
    have f2 := g.keep g2 (by omega) hf
    obtain ⟨k, hk⟩ : ∃ k : Nat, k = min e.toNat pl.length := ⟨_, rfl⟩
    simp [qD_ref p2, encI_len]
    have em : (if (pl.length : Int) < e then (pl.length : Int) else e) = (k : Int) := by split <;> omega
    rw [em]
    have kl : k ≤ pl.length := by omega
    have k3 : k ≤ 3 := by omega
    have hS2 := g2.len
    -- taken
    have tk : ∀ (N Y Z : Loc → Sto → Prop), N [some (.ref 2), some (.int most), some (.bl q), some (.ref pn), some (.ref (S.length + 1)), some (.int (i : Nat)), some (.int (k : Nat)), some (.ref S2.length), none] (S2 ++ [.lst (encI (wTake q k pl))]) →
        (b__law_woven_1_1 [some (.ref 2), some (.int most), some (.bl q), some (.ref pn), some (.ref (S.length + 1)), some (.int (i : Nat)), some (.int (k : Nat)), v7, none] S2).W N (fun d S' => (gc S d S').W P) Y Z := fun N Y Z hN => by
      cases q with
      | true =>
        simp [b__law_woven_1_1, oSl_ref p2]
        rw [cutL_to (by omega) (by rw [encI_len]; omega)]
        have e : List.take (k : Int).toNat (encI pl) = encI (wTake true k pl) := by simp [wTake, encI, List.map_take]
        rw [e]
        simpa using hN
      | false =>
        simp [b__law_woven_1_1, oSl_ref p2, qD_ref p2, encI_len]
        rw [cutL_from (by omega) (by rw [encI_len]; omega)]
        have e : List.drop ((pl.length : Int) - k).toNat (encI pl) = encI (wTake false k pl) := by
          rw [show ((pl.length : Int) - k).toNat = pl.length - k by omega]; simp [wTake, encI, List.map_drop]
        rw [e]
        simpa using hN
    refine tk _ _ _ ?_
    have p3 : (S2 ++ [Ob.lst (encI (wTake q k pl))])[pn]? = some (.lst (encI pl)) := st_old p2
    have f3 : (S2 ++ [Ob.lst (encI (wTake q k pl))])[S.length + 1]? = some (.lst (ws.map encS)) := st_old f2
    have t3 : (S2 ++ [Ob.lst (encI (wTake q k pl))])[S2.length]? = some (.lst (encI (wTake q k pl))) := by simp
    have g3 := g2.app [.lst (encI (wTake q k pl))]
    have hS3 : (S2 ++ [Ob.lst (encI (wTake q k pl))]).length = S2.length + 1 := by simp
    have hSS : S.length + 1 < S2.length := (List.getElem?_eq_some_iff.mp f2).1
    generalize hS3' : S2 ++ [Ob.lst (encI (wTake q k pl))] = S3 at *
    rw [List.append_assoc] at g3
    have rs : ∀ (N Y Z : Loc → Sto → Prop), N [some (.ref 2), some (.int most), some (.bl q), some (.ref S3.length), some (.ref (S.length + 1)), some (.int (i : Nat)), some (.int (k : Nat)), some (.ref S2.length), none] (S3 ++ [.lst (encI (wRest q k pl))]) →
        (b__law_woven_1_2 [some (.ref 2), some (.int most), some (.bl q), some (.ref pn), some (.ref (S.length + 1)), some (.int (i : Nat)), some (.int (k : Nat)), some (.ref S2.length), none] S3).W N (fun d S' => (gc S d S').W P) Y Z := fun N Y Z hN => by
      cases q with
      | true =>
        simp [b__law_woven_1_2, oSl_ref p3]
        rw [cutL_from (by omega) (by rw [encI_len]; omega)]
        have e : List.drop (k : Int).toNat (encI pl) = encI (wRest true k pl) := by simp [wRest, encI, List.map_drop]
        rw [e]
        simpa using hN
      | false =>
        simp [b__law_woven_1_2, oSl_ref p3, qD_ref p3, encI_len]
        rw [cutL_to (by omega) (by rw [encI_len]; omega)]
        have e : List.take ((pl.length : Int) - k).toNat (encI pl) = encI (wRest false k pl) := by
          rw [show ((pl.length : Int) - k).toNat = pl.length - k by omega]; simp [wRest, encI, List.map_take]
        rw [e]
        simpa using hN
    refine rs _ _ _ ?_
    have f4 : (S3 ++ [Ob.lst (encI (wRest q k pl))])[S.length + 1]? = some (.lst (ws.map encS)) := st_old f3
    have t4 : (S3 ++ [Ob.lst (encI (wRest q k pl))])[S2.length]? = some (.lst (encI (wTake q k pl))) := st_old t3
    have r4 : (S3 ++ [Ob.lst (encI (wRest q k pl))])[S3.length]? = some (.lst (encI (wRest q k pl))) := by simp
    have g4 := g3.app [.lst (encI (wRest q k pl))]
    rw [List.append_assoc, List.append_assoc] at g4
    generalize hS4' : S3 ++ [Ob.lst (encI (wRest q k pl))] = S4 at *
    have hS4 : S4.length = S3.length + 1 := by rw [← hS4']; simp
    simp [b__law_woven_1_3, W_isL f4]
    refine kind_ok g4 (by omega) (by omega) (by omega) fun d S5 hd g5 => ?_
    rw [Int.toNat_natCast] at hd
    have f5 := g4.keep0 g5 (by omega) f4
    have t5 := g4.keep0 g5 (by omega) t4
    have r5 := g4.keep0 g5 (by omega) r4
    have tl := wTake_len (q := q) kl
    have rl := wRest_len (q := q) kl
    refine mixed_ok g5 (by rw [encI_len]; omega) t5 (by omega) (encI_cl _ _) (by rw [encI_len]; omega) fun zs S6 pz g6 i6 => ?_
    obtain ⟨is, rfl, pi⟩ := perm_encI pz
    have f6 := g5.keep g6 (by omega) f5
    have r6 := g5.keep g6 (by omega) r5
    have il : is.length = k := by rw [pi.length_eq, tl]
    simp [qD_ref i6]
    rw [oApp_ref f6 (by simp [sizeLine]; omega), W_ok]
    rw [encI_len, tl] at g6
    obtain ⟨G7, g7⟩ : ∃ G', DC (B + 1 + 7 * (0 + i) + 1 + 2 + k) (T ++ G') (S6.set (S.length + 1) (.lst (ws.map encS ++ [.tup [d, .tup (encI is)]]))) := by
      rw [List.append_assoc] at g6
      exact g6.setG _ (by omega)
    have r7 : (S6.set (S.length + 1) (.lst (ws.map encS ++ [.tup [d, .tup (encI is)]])))[S3.length]? = some (.lst (encI (wRest q k pl))) := by rw [List.getElem?_set_ne (by omega)]; exact r6
    have f7 : (S6.set (S.length + 1) (.lst (ws.map encS ++ [.tup [d, .tup (encI is)]])))[S.length + 1]? = some (.lst ((ws ++ [(d, is)]).map encS)) := by
      rw [List.getElem?_set_self (List.getElem?_eq_some_iff.mp f6).1]; simp [encS]
    have hS7 : (S6.set (S.length + 1) (.lst (ws.map encS ++ [.tup [d, .tup (encI is)]]))).length = S6.length := by simp
    generalize S6.set (S.length + 1) (.lst (ws.map encS ++ [.tup [d, .tup (encI is)]])) = S7 at *
    have hS5 := g5.len
    have hS6 := g6.len
    have g7l := g7.len
    have h47 : S3.length < S7.length := (List.getElem?_eq_some_iff.mp r7).1
    simp [b__law_woven_1_4]
    refine draw_ok g7 (by omega) (by omega) (by omega) fun c S8 c0 c1 g8 => ?_
    have f8 := g7.keep0 g8 (by omega) f7
    have r8 := g7.keep0 g8 (by omega) r7
    have cl : ([D.int (i : Nat)].length * c.toNat) ≤ sizeLine := by simp [sizeLine]; omega
    rw [W_olRep get_tmp (by simp [sizeLine]; omega), W_olCat (get_at r8) get_tmp (by simp [encI_len, sizeLine]; omega)]
    have el2 : encI (wRest q k pl) ++ (List.replicate c.toNat [D.int (i : Nat)]).flatten = encI (wRest q k pl ++ List.replicate c.toNat i) := by
      rw [encI_app]; simp [encI]
    rw [el2]
    simp
    have g9 := g8.app [.lst (encI (wRest q k pl ++ List.replicate c.toNat i))]
    rw [List.append_assoc] at g9
    have hS8 := g8.len
    refine (hI _ _ _).2 ⟨S8.length, _, _, _, _, ws ++ [(d, is)], wRest q k pl ++ List.replicate c.toNat i, rfl, g9.le (by omega), st_old f8, by simp, by omega, by omega, by simp [l1], ?_⟩
    have := Wov.step (d := d) (is := is) (c := c.toNat) wv (by omega) (by rw [il]; exact hd) (by rw [il]; exact pi) (by omega)
    rw [il, l1, Nat.zero_add] at this
    exact this
  · intro l S' z
    obtain ⟨pn, v5, v6, v7, G, ws, pl, rfl, g, hf, hp, hpn, hpn2, l1, wv⟩ := (hI _ _ _).1 z
    refine ⟨trivial, ?_⟩
    have g := g.le (B' := B + 400) (by rw [rgD_len]; omega)
    rw [rgD_len] at l1
    have hS' := g.len
    simp [b__law_woven_2, qD_ref hf]
    rw [W_lRg (rgOk_small (by omega) (by omega) (by omega) (by omega)), rgD_encI]
    simp
    refine mixed_ok (n := S'.length) (xs := encI (List.range ws.length)) (g.app [.lst (encI (List.range ws.length))]) (by rw [encI_len, List.length_range]; omega) (by simp) (by omega) (encI_cl _ _) (by rw [encI_len]; simp; omega) fun zs S6 pz g6 i6 => ?_
    obtain ⟨is, rfl, pi⟩ := perm_encI pz
    have f6 : S6[S.length + 1]? = some (.lst (ws.map encS)) := (g.app [.lst (encI (List.range ws.length))]).keep g6 (by omega) (st_old hf)
    simp at i6
    have ok := grown_all wv.stp
    simp [b__law_woven_3]
    rw [renumbered_eq ok pi (by omega) f6 i6, W_ok]
    simp [qD_ref f6]
    rw [W_kRg (by decide) (rgB_small (by omega) (by omega)), rgD_encI]
    refine ⟨by simp only [encI_len, List.length_range, sizeLine]; omega, ?_⟩
    refine W_lcT (fun i : Nat => D.int i) (fun i => D.int (is.idxOf i : Nat)) trivial (fun x hx => ?_) ?_
    · refine ⟨_, rfl, ?_⟩
      simp [wipeL, W_isL i6]
      rw [oIndex_nat i6 ((perm_range_mem pi).mpr (List.mem_range.mp hx))]
      exact W_ok.2 ⟨rfl, rfl⟩
    · simp
      rw [List.append_assoc, List.append_assoc, encI_len, List.length_range] at g6
      have web := (Web.of_grown wv.stp).renum pi
      have e : List.map (fun i => D.int (is.idxOf i : Nat)) (List.range ws.length) = encI ((List.range ws.length).map fun k => is.idxOf k) := by simp [encI, List.map_map, Function.comp_def]
      rw [e]
      refine h.gcW (g6.le (B' := B + 1000) (by omega)) (by simp [clD, clDs, encI_cl]; exact web.cl) fun S'' h5 => hP ws pl is S'' wv (by omega) (by omega) pi h5
theorem deck_ok {ns : List Int} (hn : ns.length ≤ 63) {P : D → Sto → Prop} (hP : ∀ S', DC 0 [] S' → P (.ref 2) S') : (F__law_deck [.rl (ns.map D.int)] []).W P := by
  refine W_runF rfl ?_
  simp [b__law_deck, b__law_deck_0]
  rw [cutL_toO (by simp; omega)]
  have k0 : kD (.ref 0) [Ob.lst (ns.map D.int)] = .ok ⟨ns.map D.int, atGd 0 (ns.map D.int)⟩ [Ob.lst (ns.map D.int)] := kD_ref rfl
  simp [k0]
  refine ⟨by simp [sizeLine]; omega, ?_⟩
  refine W_lcT (fun i : Int => D.int i) (fun i => D.int (if i < 0 then -i else i)) (by simp) (fun b hb => ⟨_, rfl, ?_⟩) ?_
  · simp [wipeL]
  simp
  generalize hA : ns.map (fun i : Int => if i < 0 then -i else i) = A
  have eA : ns.map (fun i : Int => D.int (if i < 0 then -i else i)) = A.map D.int := by rw [← hA]; simp [Function.comp_def]
  simp only [eA]
  have gcE : gc [] (.ref 2) [Ob.lst (ns.map D.int), Ob.lst (A.map D.int), Ob.lst [.ref 1, .int 0]] = .ok (.ref 2) [Ob.lst (ns.map D.int), Ob.lst (A.map D.int), Ob.lst [.ref 1, .int 0]] := by
    unfold gc
    rw [if_neg (by simp [clD])]
    simp [clO, clDs, clD]
  rw [gcE, W_ok]
  exact hP _ ⟨ns, A, 0, by omega, by omega, by simp [dc]⟩
end
end Pz

set_option Elab.async false
set_option linter.all false
set_option maxRecDepth 100000
set_option maxHeartbeats 4000000
/-! Gw: the webs of the family C that are drawn at random. -/
namespace Pz
open PySem PySem.Spec PyProof.Rows L2
section
variable {B B' : Nat} {T S : Sto} {m : Int}
theorem web_ok (h : DC B T S) (hb : B + 1000 < 1000000000000) {most : Int} (h1 : 1 ≤ most) (h2 : most ≤ 50) (hP : ∀ w S', Web w → 1 ≤ w.length → w.length ≤ most.toNat → DC (B + 1000) T S' → P (encW w) S') : (F__law_web [.ref 2, .int most] S).W P := by
  refine W_runF rfl ?_
  have hS := h.len
  simp [b__law_web, b__law_web_0, b__law_web_1, Nat.add_assoc]
  refine draw_ok (h.app [.lst []]) (by omega) (by omega) (by omega) fun r S1 r1 r2 g1 => ?_
  simp
  rw [W_kRg (by decide) (rgB_small (by omega) (by omega))]
  obtain ⟨I, hI⟩ : ∃ I : Nat → Loc → Sto → Prop, ∀ i l S', I i l S' ↔ ∃ (v3 v4 : Option D) (G : Sto) (ws : List Stp), l = [some (.ref 2), some (.int most), some (.ref S.length), v3, v4, none] ∧ DC (B + 1 + 7 * i) (T ++ G) S' ∧ S'[S.length]? = some (.lst (ws.map encS)) ∧
    ws.length = i ∧ ∀ t s, ws[t]? = some s → StpOk t s := ⟨_, fun _ _ _ => Iff.rfl⟩
  refine W_forL I _ 0 ((hI _ _ _).2 ⟨none, none, _, [], rfl, g1, by rw [g1.get (by omega), hS]; simp, rfl, by simp⟩) ?_ ?_
  · intro i x l S' hx z
    obtain ⟨v3, v4, G, ws, rfl, g, hf, l1, l2⟩ := (hI _ _ _).1 z
    obtain ⟨rfl, hi⟩ := rgD_get hx
    have hS' := g.len
    refine ⟨trivial, _, rfl, ?_⟩
    simp [b__law_web_1_0]
    obtain ⟨M, hM⟩ : ∃ M : D → Sto → Prop, ∀ d S2, M d S2 ↔ ∃ (k : Nat) (G : Sto), d = .int (k : Nat) ∧ k ≤ 3 ∧ (i = 0 → k = 0) ∧ DC (B + 1 + 7 * i + 1) (T ++ G) S2 ∧ S2[S.length]? = some (.lst (ws.map encS)) := ⟨_, fun _ _ => Iff.rfl⟩
    have go : ∀ d S2, M d S2 → (b__law_web_1_1 [some (.ref 2), some (.int most), some (.ref S.length), some (.int (i : Nat)), some d, none] S2).W (I (i + 1)) (fun d S' => (gc S d S').W P) (fun l S_1 => (b__law_web_2 l S_1).W (fun x S' => (gc S D.non S').W P) (fun d S' => (gc S d S').W P) (fun x x_1 => False) fun x x_1 => False) (I (i + 1)) := by
      intro d S2 q
      obtain ⟨k, G2, rfl, k3, k0, g2, f2⟩ := (hM _ _).1 q
      simp [b__law_web_1_1, W_isL f2]
      refine kind_ok g2 (by omega) (by omega) (by omega) fun d S3 hd g3 => ?_
      rw [Int.toNat_natCast] at hd
      have f3 := g2.keep0 g3 (by omega) f2
      rw [W_kRg (by decide) (rgB_small (by omega) (by omega))]
      refine ⟨by simp only [rgD_len, sizeLine]; omega, ?_⟩
      obtain ⟨J, hJ⟩ : ∃ J : Nat → List D → Sto → Prop, ∀ j acc S', J j acc S' ↔ ∃ js : List Nat, acc = encI js ∧ js.length = j ∧ (∀ x ∈ js, x < i) ∧ DC (B + 1 + 7 * i + 1 + 2 + j) (T ++ G2) S' := ⟨_, fun _ _ _ => Iff.rfl⟩
      refine W_lcL J _ 0 ((hJ _ _ _).2 ⟨[], rfl, rfl, by simp, g3⟩) ?_ ?_
      · intro j x acc S4 hx q
        obtain ⟨js, rfl, e1, e2, g4⟩ := (hJ _ _ _).1 q
        have hj := (List.getElem?_eq_some_iff.mp hx).1
        rw [rgD_len] at hj
        refine ⟨trivial, _, rfl, ?_⟩
        have hi0 : i ≠ 0 := fun e => by have := k0 e; omega
        simp [wipeL]
        refine draw_ok g4 (by omega) (by omega) (by omega) fun c S5 c0 c1 g5 => ?_
        refine (hJ _ _ _).2 ⟨js ++ [c.toNat], by simp [encI]; omega, by simp [e1], fun x hx => ?_, g5.le (by omega)⟩
        rcases List.mem_append.mp hx with hx | hx
        · exact e2 x hx
        · rw [List.mem_singleton.mp hx]; omega
      · intro acc S4 q
        obtain ⟨js, rfl, e1, e2, g4⟩ := (hJ _ _ _).1 q
        refine ⟨trivial, ?_⟩
        rw [rgD_len] at e1
        have g4 := g4.le (B' := B + 1 + 7 * (i + 1)) (by rw [rgD_len]; omega)
        have f4 : S4[S.length]? = some (.lst (ws.map encS)) := by rw [g4.get (by omega), ← g3.get (by omega)]; exact f3
        simp
        rw [oApp_ref f4 (by simp [sizeLine]; omega), W_ok]
        obtain ⟨G5, g5⟩ := g4.setG (n := S.length) (.lst (ws.map encS ++ [.tup [d, .tup (encI js)]])) (by omega)
        refine (hI _ _ _).2 ⟨_, _, G5, ws ++ [(d, js)], rfl, g5, ?_, by simp [l1], ?_⟩
        · rw [List.getElem?_set_self (List.getElem?_eq_some_iff.mp f4).1]; simp [encS]
        · intro t s e
          by_cases ht : t < ws.length
          · rw [List.getElem?_append_left ht] at e; exact l2 t s e
          · have hl := (List.getElem?_eq_some_iff.mp e).1
            simp at hl
            have : t = ws.length := by omega
            subst this
            simp at e
            subst e
            refine ⟨?_, fun x hx => ?_⟩
            · show KOK d js.length
              rw [e1]; simpa using hd
            · have := e2 x hx; omega
    rw [Nat.zero_add] at g
    by_cases hi0 : 0 < i
    · rw [if_pos hi0]
      refine one_ok (n := S'.length) (xs := [.int 0, .int 0, .int 1, .int 2, .int 2, .int 3]) (g.app [.lst [.int 0, .int 0, .int 1, .int 2, .int 2, .int 3]]) (by omega) (by simp) (by simp at hS'; omega) (by simp) (by simp) fun d S2 hd g2 => ?_
      obtain ⟨e, rfl, e1, e2⟩ : ∃ k : Int, d = .int k ∧ 0 ≤ k ∧ k ≤ 3 := by
        simp at hd
        rcases hd with rfl | rfl | rfl | rfl <;> exact ⟨_, rfl, by omega, by omega⟩
      have f2 := g.keep g2 (by omega) hf
      rw [List.append_assoc] at g2
      exact go _ _ ((hM _ _).2 ⟨e.toNat, _, by rw [show ((e.toNat : Nat) : Int) = e by omega], by omega, by omega, g2, f2⟩)
    · rw [if_neg hi0]
      exact go _ _ ((hM _ _).2 ⟨0, _, rfl, by omega, by omega, g.le (by omega), hf⟩)
  · intro l S' z
    obtain ⟨v3, v4, G, ws, rfl, g, hf, l1, l2⟩ := (hI _ _ _).1 z
    refine ⟨trivial, ?_⟩
    have g := g.le (B' := B + 400) (by rw [rgD_len]; omega)
    rw [rgD_len] at l1
    have hS' := g.len
    simp [b__law_web_2, qD_ref hf]
    rw [W_lRg (rgOk_small (by omega) (by omega) (by omega) (by omega)), rgD_encI]
    simp
    refine mixed_ok (n := S'.length) (xs := encI (List.range ws.length)) (g.app [.lst (encI (List.range ws.length))]) (by rw [encI_len, List.length_range]; omega) (by simp) (by omega) (encI_cl _ _) (by rw [encI_len]; simp; omega) fun zs S6 pz g6 i6 => ?_
    obtain ⟨is, rfl, pi⟩ := perm_encI pz
    have f6 : S6[S.length]? = some (.lst (ws.map encS)) := (g.app [.lst (encI (List.range ws.length))]).keep g6 (by omega) (st_old hf)
    have ok := Web.of_grown l2
    rw [renumbered_eq ok.ok pi (by omega) f6 i6, W_ok]
    rw [List.append_assoc, List.append_assoc, encI_len, List.length_range] at g6
    have rl : (renum ws is).length = ws.length := by simp [renum, pi.length_eq]
    exact h.gcW (g6.le (B' := B + 1000) (by omega)) (ok.renum pi).cl fun S'' h5 => hP _ S'' (ok.renum pi) (by omega) (by omega) h5
theorem some_web_ok (h : DC B T S) (hb : B + 1002 < 1000000000000) {most : Int} (h1 : 1 ≤ most) (h2 : most ≤ 50) (hP : ∀ w S', Web w → 1 ≤ w.length → w.length ≤ most.toNat → DC (B + 1002) T S' → P (encW w) S') : (F__law_some_web [.ref 2, .int most] S).W P := by
  refine W_runF rfl ?_
  simp [b__law_some_web, b__law_some_web_0]
  refine draw_ok h (by omega) (by omega) (by omega) fun r S1 r1 r2 g1 => ?_
  simp
  by_cases hr : r = 0
  · subst hr
    simp
    refine web_ok g1 (by omega) h1 h2 fun w S2 hw l1 l2 g2 => ?_
    exact h.gcW0 (g2.le (B' := B + 1002) (by omega)) (hP w S2 hw l1 l2 (g2.le (by omega)))
  · simp [hr, b__law_some_web_1]
    refine draw_ok g1 (by omega) (by omega) (by omega) fun e S2 e1 e2 g2 => ?_
    simp
    refine woven_ok g2 (by omega) h1 h2 fun ws pl is S3 wv l1 l2 pi g3 => ?_
    have hw := (Web.of_grown wv.stp).renum pi
    have rl : (renum ws is).length = ws.length := by simp [renum, pi.length_eq]
    rw [oIx_tup (d := encW (renum ws is)) (by simp), W_ok]
    exact h.gcW0 g3 (hP _ S3 hw (by omega) (by omega) (g3.le (by omega)))
end
end Pz

set_option Elab.async false
set_option linter.all false
set_option maxRecDepth 100000
set_option maxHeartbeats 4000000
/-! Lot: the text of a web, and texts otherwise. -/
namespace Pz
open PySem PySem.Spec PyProof.Rows L2
theorem law_text_eq {S : Sto} {w : List Stp} (hl : w.length ≤ 10) (h : ∀ s ∈ w, KOK s.1 s.2.length ∧ ∀ i ∈ s.2, i < 10) : F__law_text [encW w] S = .ok (.str (textW w)) S := by
  refine eq_Wf (F := F__law_text) fun P hP => ?_
  refine W_runF rfl ?_
  have kw : ∀ S, kD (encW w) S = .ok ⟨w.map encS, noGd⟩ S := fun S => rfl
  simp [b__law_text, b__law_text_0, kw]
  refine ⟨by simp [sizeLine]; omega, ?_⟩
  refine W_lcT encS (fun s => D.str (lineS s)) trivial (fun s hs => ⟨_, rfl, ?_⟩) ?_
  · obtain ⟨k1, k2⟩ := h s hs
    simp [wipeL, kindT_of k1]
    refine ⟨by have := k1.le; simp [encI_len, sizeLine]; omega, ?_⟩
    refine W_lcT (fun i : Nat => D.int i) (fun i => D.str (numT i)) trivial (fun i hi => ⟨_, rfl, ?_⟩) ?_
    · simp [wipeL, numT_str (k2 i hi)]
    · rw [W_olCat get_tmp get_tmp (by have := k1.le; simp [sizeLine]; omega)]
      simp
      rw [join_parts k1 k2]
      simp
  · simp
    have h1 := lines_sum h
    have e : w.map (fun s => D.str (lineS s)) = (w.map lineS).map D.str := by simp [Function.comp_def]
    rw [e, oJoin_str (by rw [okBreak.2.2, List.length_map]; omega)]
    simpa [textW] using hP
/-- a text of signs that can be shown -/
def Sgn (n : Nat) (z : Str) : Prop := z.length ≤ n ∧ ∀ c ∈ z.cps.toList, c < 200
theorem Sgn.le {n n' : Nat} {z : Str} (h : Sgn n z) (hn : n ≤ n') : Sgn n' z := ⟨Nat.le_trans h.1 hn, h.2⟩
theorem Sgn.app {n k : Nat} {x y : Str} (h : Sgn n x) (h' : Sgn k y) : Sgn (n + k) (x ++ y) := by
  obtain ⟨e1, e2⟩ := app_len (x := x) (y := y)
  refine ⟨by rw [e1]; exact Nat.add_le_add h.1 h'.1, fun c hc => ?_⟩
  rw [e2] at hc
  exact (List.mem_append.mp hc).elim (h.2 c) (h'.2 c)
theorem Sgn.cut {n : Nat} {z : Str} (h : Sgn n z) {i j : Option Int} : Sgn n (cutS z i j) := ⟨Nat.le_trans cutS_len.1 h.1, fun c hc => h.2 c (cutS_len.2 c hc)⟩
def signL : List Str := ["0", "1", "9", "-", " ", "\n", "i", "n", "+", "*", "  ", "00", "\n\n"]
def lineL1 : List Str := ["in", "", "0", "-0", "00", "-99", "100", "+ 0 0", "neg 12", "pick 0 0 0", "neg", "in 0", "- 1", "-"]
def lineL2 : List Str := ["neg 00", "IN", "Neg 0", "PICK 0 0 0", "** 0 0", "neg 1_0", "1_0", "neg .", "+5", "neg +1"]
theorem small_all : (signL ++ (lineL1 ++ lineL2)).all (fun s => decide (s.length ≤ 10) && s.cps.toList.all fun c => decide (c < 200)) = true := by decide +kernel
theorem small_of {s : Str} (h : s ∈ signL ++ (lineL1 ++ lineL2)) : Sgn 10 s := by
  have := List.all_eq_true.mp small_all s h
  simp only [Bool.and_eq_true, decide_eq_true_eq, List.all_eq_true] at this
  exact this
theorem sub_sum {a b : List Nat} (h : a.Sublist b) : a.sum ≤ b.sum := by
  induction h with
  | slnil => exact Nat.le_refl _
  | cons x h ih => simp; omega
  | cons_cons x h ih => simp; omega
section
variable {S T : Sto} {B n : Nat} {z : Str}
theorem other_ok (h : DC B T S) (hb : B + 10 < 1000000000000) (hz : Sgn n z) (hn : n ≤ 1000) {P : D → Sto → Prop}
    (hP : ∀ z' S', Sgn (2 * n + 20) z' → DC (B + 10) T S' → P (.str z') S') : (F__law_other [.ref 2, .str z] S).W P := by
  refine W_runF rfl ?_
  have zl := hz.1
  have zs : z.length ≤ sizeLine := by simp only [sizeLine]; omega
  have fin : ∀ (z' : Str) G S', DC (B + 4) (T ++ G) S' → Sgn (2 * n + 20) z' → (gc S (.str z') S').W P := fun z' G S' g hs =>
    h.gcW g (by simp [clD]) fun S2 g2 => hP z' S2 hs (g2.le (by omega))
  simp [b__law_other, b__law_other_0, oLenS_str zs]
  refine draw_ok h (by omega) (by omega) (by omega) fun a S1 a0 a1 g1 => ?_
  refine draw_ok g1 (by omega) (by omega) (by omega) fun b S2 b0 b1 g2 => ?_
  simp [b__law_other_1]
  have e1 : [D.str (Str.ofString "0"), D.str (Str.ofString "1"), D.str (Str.ofString "9"), D.str (Str.ofString "-"), D.str (Str.ofString " "), D.str (Str.ofString "\n"), D.str (Str.ofString "i"), D.str (Str.ofString "n"), D.str (Str.ofString "+"), D.str (Str.ofString "*"), D.str (Str.ofString "  "), D.str (Str.ofString "00"), D.str (Str.ofString "\n\n")] = signL.map .str := rfl
  rw [e1]
  have g3 := g2.app [.lst (signL.map .str)]
  refine one_ok g3 (by omega) (n := S2.length) (xs := signL.map .str) (by simp) (by have := g2.len; omega) (by simp [signL]) (by simp [signL]) fun d S3 hd g4 => ?_
  obtain ⟨s, hs, rfl⟩ := List.mem_map.mp hd
  have ss : Sgn 10 s := small_of (List.mem_append.mpr (.inl hs))
  have sl := ss.1
  have ad : ∀ (x y : Str) S, x.length ≤ 3000 → y.length ≤ 3000 → oAdd (.str x) (.str y) S = .ok (.str (x ++ y)) S := fun x y S hx hy => by simp only [oAdd]; rw [if_pos (by simp only [sizeLine]; omega)]
  have cl : ∀ i j, Sgn n (cutS z i j) := fun i j => hz.cut
  have c1 : ∀ i j, (cutS z i j).length ≤ 1000 := fun i j => Nat.le_trans (cl i j).1 hn
  have al : ∀ x y : Str, (x ++ y).length = x.length + y.length := fun x y => app_len.1
  simp [b__law_other_2]
  by_cases hb2 : b < 2
  · rw [if_pos hb2]
    simp [oSl_str zs]
    rw [ad _ _ _ (by have := c1 none (some a); omega) (by omega), W_ok]
    rw [ad _ _ _ (by rw [al]; have := c1 none (some a); omega) (by have := c1 (some a) none; omega), W_ok]
    exact fin _ _ _ (g4.le (by omega)) ((((cl _ _).app ss).app (cl _ _)).le (by omega))
  · rw [if_neg hb2]
    simp [b__law_other_3]
    by_cases hb4 : b < 4
    · rw [if_pos hb4]
      by_cases hb22 : b = 2
      · rw [if_pos hb22]
        simp [oSl_str zs]
        rw [ad _ _ _ (by have := c1 none (some a); omega) (by have := c1 (some (a + 1)) none; omega), W_ok]
        exact fin _ _ _ (g4.le (by omega)) (((cl _ _).app (cl _ _)).le (by omega))
      · rw [if_neg hb22]
        simp [oSl_str zs]
        rw [ad _ _ _ (by have := c1 none (some a); omega) (by omega), W_ok]
        rw [ad _ _ _ (by rw [al]; have := c1 none (some a); omega) (by have := c1 (some (a + 1)) none; omega), W_ok]
        exact fin _ _ _ (g4.le (by omega)) ((((cl _ _).app ss).app (cl _ _)).le (by omega))
    · rw [if_neg hb4]
      simp [b__law_other_4]
      rw [oSplit_str (by rw [okBreak.2.2]; omega) (by simp only [sizeLine]; omega)]
      have sp := (PyProof.Rows.fact_split z "\n").2
      have ssum := split_sum (x := z) okBreak.1 okBreak.2.1
      have smem : ∀ y ∈ Txt.split z "\n", ∀ c ∈ y.cps.toList, c < 200 := fun y hy c hc => hz.2 c (split_mem okBreak.1 okBreak.2.1 hy hc)
      have sne : Txt.split z "\n" ≠ [] := split_ne
      generalize Txt.split z "\n" = ls at *
      simp only [W_ok, oeL_tmp]
      simp [b__law_other_5]
      have g5 := g4.app [.lst (ls.map .str)]
      obtain ⟨S5, hS5⟩ : ∃ S5 : Sto, S5 = S3 ++ [Ob.lst (ls.map D.str)] := ⟨_, rfl⟩
      have n5 : S5[S3.length]? = some (.lst (ls.map .str)) := by rw [hS5]; exact st_get0
      have l3 := g4.len
      rw [← hS5] at g5 ⊢
      rw [qD_ref n5, W_ok]
      simp
      have lp : 0 < ls.length := List.length_pos_iff.mpr sne
      refine draw_ok g5 (by omega) (by omega) (by omega) fun k S6 k0 k1 g6 => ?_
      have n6 := g5.keep (G := []) (by rw [List.append_nil]; exact g6) (by omega) n5
      simp [b__law_other_6]
      have e6 : [D.str (Str.ofString "in"), D.str (Str.ofString ""), D.str (Str.ofString "0"), D.str (Str.ofString "-0"), D.str (Str.ofString "00"), D.str (Str.ofString "-99"), D.str (Str.ofString "100"), D.str (Str.ofString "+ 0 0"), D.str (Str.ofString "neg 12"), D.str (Str.ofString "pick 0 0 0"), D.str (Str.ofString "neg"), D.str (Str.ofString "in 0"), D.str (Str.ofString "- 1"), D.str (Str.ofString "-")] = lineL1.map .str := rfl
      rw [e6]
      have g7 := g6.app [.lst (lineL1.map .str)]
      obtain ⟨S7, hS7⟩ : ∃ S7 : Sto, S7 = S6 ++ [Ob.lst (lineL1.map D.str)] := ⟨_, rfl⟩
      have n7 : S7[S6.length]? = some (.lst (lineL1.map .str)) := by rw [hS7]; exact st_get0
      have n7' : S7[S3.length]? = some (.lst (ls.map .str)) := by rw [hS7]; exact st_old n6
      rw [← hS7] at g7 ⊢
      simp [b__law_other_7]
      have e7 : [D.str (Str.ofString "neg 00"), D.str (Str.ofString "IN"), D.str (Str.ofString "Neg 0"), D.str (Str.ofString "PICK 0 0 0"), D.str (Str.ofString "** 0 0"), D.str (Str.ofString "neg 1_0"), D.str (Str.ofString "1_0"), D.str (Str.ofString "neg ."), D.str (Str.ofString "+5"), D.str (Str.ofString "neg +1")] = lineL2.map .str := rfl
      rw [e7, W_olCat (get_at n7) get_tmp (by simp [sizeLine, lineL1, lineL2])]
      have e8 : lineL1.map D.str ++ lineL2.map D.str = (lineL1 ++ lineL2).map .str := by rw [List.map_append]
      rw [e8, oeL_tmp, W_ok]
      have g8 := g7.app [.lst ((lineL1 ++ lineL2).map .str)]
      obtain ⟨S8, hS8⟩ : ∃ S8 : Sto, S8 = S7 ++ [Ob.lst ((lineL1 ++ lineL2).map D.str)] := ⟨_, rfl⟩
      have n8 : S8[S7.length]? = some (.lst ((lineL1 ++ lineL2).map .str)) := by rw [hS8]; exact st_get0
      have n8' : S8[S3.length]? = some (.lst (ls.map .str)) := by rw [hS8]; exact st_old n7'
      rw [← hS8] at g8 ⊢
      simp [b__law_other_8]
      rw [olSlR_ref n8', W_ok]
      refine one_ok g8 (by omega) (n := S7.length) (xs := (lineL1 ++ lineL2).map .str) n8 (by have := g7.len; omega) (by simp [lineL1]) (by simp [lineL1, lineL2]) fun d S9 hd g9 => ?_
      have n9 := g8.keep (G := []) (by rw [List.append_nil]; exact g9) (by omega) n8'
      obtain ⟨s9, hs9, rfl⟩ := List.mem_map.mp hd
      have ss9 : Sgn 10 s9 := small_of (List.mem_append.mpr (.inr hs9))
      have cm : ∀ i j, cutL (ls.map D.str) i j = (cutL ls i j).map .str := fun i j => by unfold cutL; simp [List.map_drop, List.map_take]
      have cml : ∀ i j, (cutL ls i j).length ≤ ls.length := fun i j => by unfold cutL; simp; omega
      have cms : ∀ i j, ((cutL ls i j).map (·.length)).sum ≤ (ls.map (·.length)).sum := fun i j => by
        unfold cutL
        exact sub_sum (((List.take_sublist _ _).trans (List.drop_sublist _ _)).map _)
      have cmm : ∀ i j, ∀ y ∈ cutL ls i j, ∀ c ∈ y.cps.toList, c < 200 := fun i j y hy => smem y (by unfold cutL at hy; exact List.mem_of_mem_drop (List.mem_of_mem_take hy))
      have oi : ∀ S, oInt (.bl (decide (b = 4))) S = .ok (.int (if b = 4 then 1 else 0)) S := fun S => by by_cases q : b = 4 <;> simp [q, oInt]
      rw [cm, W_olCat get_tmp get_tmp (by have := cml none (some k); simp [sizeLine]; omega), oi, W_ok]
      rw [oAdd_int, W_ok, asI_int, olSlR_ref n9, W_ok, cm, W_olCat get_tmp get_tmp (by have := cml none (some k); have := cml (some (k + if b = 4 then 1 else 0)) none; simp [sizeLine]; omega)]
      generalize hi : (k + if b = 4 then 1 else 0) = k2
      have ej : (cutL ls none (some k)).map D.str ++ [D.str s9] ++ (cutL ls (some k2) none).map D.str = (cutL ls none (some k) ++ [s9] ++ cutL ls (some k2) none).map .str := by simp
      rw [qL_tmp, W_ok, ej]
      have k2b : 0 ≤ k2 ∧ k ≤ k2 ∧ k2 ≤ ls.length := by rw [← hi]; split <;> omega
      rw [cutL_to k0 (by omega), cutL_from k2b.1 k2b.2.2]
      have sub : (ls.take k.toNat ++ ls.drop k2.toNat).Sublist ls := by
        have e := List.take_append_drop k.toNat ls
        conv => rhs; rw [← e]
        refine (List.Sublist.refl _).append ?_
        have : k2.toNat = k.toNat + (k2.toNat - k.toNat) := by omega
        rw [this, ← List.drop_drop]
        exact List.drop_sublist _ _
      have s1 := sub_sum (sub.map (·.length))
      have s2 := sub.length_le
      have s3 := ss9.1
      simp only [List.map_append, List.sum_append, List.length_append] at s1 s2
      have jl : ((ls.take k.toNat ++ [s9] ++ ls.drop k2.toNat).map (·.length)).sum ≤ z.length + 10 := by
        simp only [List.map_append, List.map_cons, List.map_nil, List.sum_append, List.sum_cons, List.sum_nil]
        omega
      have jc : (ls.take k.toNat ++ [s9] ++ ls.drop k2.toNat).length ≤ z.length + 3 := by
        simp only [List.length_append, List.length_cons, List.length_nil]
        omega
      have jm : ∀ y ∈ ls.take k.toNat ++ [s9] ++ ls.drop k2.toNat, ∀ c ∈ y.cps.toList, c < 200 := by
        intro y hy
        rcases List.mem_append.mp hy with q | q
        · rcases List.mem_append.mp q with q | q
          · exact smem y (List.mem_of_mem_take q)
          · rw [List.mem_singleton.mp q]; exact ss9.2
        · exact smem y (List.mem_of_mem_drop q)
      generalize ls.take k.toNat ++ [s9] ++ ls.drop k2.toNat = ys at *
      rw [oJoin_str (by rw [okBreak.2.2]; omega), W_ok]
      have jj := join_len "\n" ys
      rw [okBreak.2.2] at jj
      have g9' : DC (B + 10) (T ++ ([Ob.lst (signL.map .str)] ++ [Ob.lst (ls.map .str)] ++ [Ob.lst (lineL1.map .str)] ++ [Ob.lst ((lineL1 ++ lineL2).map .str)])) S9 := by
        have := g9.le (B' := B + 10) (by omega)
        simpa only [List.append_assoc] using this
      exact h.gcW g9' (by simp [clD]) fun S2 g2 => hP _ S2 ⟨by rw [TL.join_eq]; omega, by rw [TL.join_eq]; exact join_forall (fun c => c < 200) _ (by rw [break_tl]; simp) _ jm⟩ g2
end
end Pz

set_option Elab.async false
set_option linter.all false
set_option maxRecDepth 100000
set_option maxHeartbeats 4000000
/-! L_k46: texts that are wrong. -/
namespace Pz
open PySem PySem.Spec PyProof.Rows L2
theorem stepW_oneof {n : Int} {d : D} {w : Str} (h : stepW n d = some w) : w ∈ (["kind", "input", "many", "step"] : List Str) := by
  unfold stepW at h
  repeat' split at h
  all_goals first | (cases h; simp; done) | cases h
theorem firstBad_oneof {n : Int} : ∀ {xs : List D} {k i : Nat} {w : Str}, firstBad n k xs = some (i, w) → i < k + xs.length ∧ w ∈ (["kind", "input", "many", "step"] : List Str)
  | [], _, _, _, h => by cases h
  | x :: xs, k, i, w, h => by
    unfold firstBad at h
    split at h
    · rename_i w' e
      cases h
      exact ⟨by simp, stepW_oneof e⟩
    · have := firstBad_oneof h
      exact ⟨by have := this.1; simp; omega, this.2⟩
theorem errD_okd {N : Nat} {U : Sto} (hN : 10 ^ 30 ≤ N) (d : D) : Ok N U 1 20 (errD d) := by
  have o : ∀ e : D, okB (10 ^ 30) 1 20 e = true → Ok N U 1 20 e := fun e h => (Ok.of_okB h).more hN
  unfold errD
  split
  · rename_i xs
    split
    · rename_i hl
      split
      · rename_i i w e
        obtain ⟨h1, h2⟩ := firstBad_oneof e
        have hi : i ≤ 10 := by omega
        have oi : Ok N U 0 0 (.int (i : Nat)) := .int (Nat.le_trans (show ((i : Nat) : Int).natAbs ≤ 10 by omega) (Nat.le_trans (by decide) hN))
        have ow : Ok N U 0 10 (.str w) := by
          have all : ∀ s ∈ (["kind", "input", "many", "step"] : List Str), okB (10 ^ 30) 0 10 (.str s) = true := by decide +kernel
          exact (Ok.of_okB (all w h2)).more hN
        exact ((OkL.cons (m := 20) (a := 0) (b := 11) oi (OkL.cons (a := 10) (b := 0) ow .nil (by omega)) (by omega)).tup)
      · split
        · exact o _ (by decide +kernel)
        · exact o _ (by decide +kernel)
    · exact o _ (by decide +kernel)
  · exact o _ (by decide +kernel)
theorem rdL_okd {N : Nat} {U : Sto} (hN : 10 ^ 30 ≤ N) {z : Str} (hl : z.length ≤ 2000) : OkL N U 3 70000 (rdL z) := by
  have o : ∀ e : D, okB (10 ^ 30) 3 20 e = true → Ok N U 3 20 e := fun e h => (Ok.of_okB h).more hN
  have sl := (PyProof.Rows.fact_split z "\n").2
  have ln : (stepsS z).length ≤ 2002 := by simp [stepsS]; omega
  have ob : Ok N U 3 20 (.bl true) := o _ (by decide +kernel)
  have o3 : ∀ {x y : D} {a b : Nat}, Ok N U 3 a x → Ok N U 3 b y → a + b ≤ 60000 → OkL N U 3 70000 [x, y, .bl true] := fun {x y a b} hx hy hab => OkL.cons (a := a) (b := b + 1 + 21) hx (OkL.cons (a := b) (b := 21) hy (OkL.cons (a := 20) (b := 0) ob .nil (by omega)) (by omega)) (by omega)
  unfold rdL
  rcases findIdx_cases (stepsS z) with ⟨i, h1, h2, h3⟩ | ⟨h1, h2⟩
  · rw [h1]
    have hi := (List.getElem?_eq_some_iff.mp h2).1
    exact o3 (a := 20) (b := 0) (o _ (by decide +kernel)) (.int (Nat.le_trans (show ((i : Nat) : Int).natAbs ≤ 2002 by omega) (Nat.le_trans (by decide) hN))) (by omega)
  · rw [h1]
    simp only
    split
    · have h5 := (prsL_okd (N := N) (U := U) hN (steps_some h2)).tup
      have l2 : (stepsD z).length ≤ 2002 := by simpa [stepsD] using ln
      exact OkL.cons (a := 20) (b := 31 * (stepsD z).length + 1) (o _ (by decide +kernel)) (OkL.cons (a := 31 * (stepsD z).length) (b := 0) h5 .nil (by omega)) (by omega)
    · exact o3 (a := 20) (b := 20) (o _ (by decide +kernel)) ((errD_okd hN _).mono (by omega) (by omega)) (by omega)
section
variable {S : Sto} {P : D → Sto → Prop}
/-- both sides shown -/
theorem chk46 {z : Str} (hl : z.length ≤ 2000) {l : Loc} {i : Nat} (hi : l[i]? = some (some (.str z))) {N : Loc → Sto → Prop} {R : D → Sto → Prop} {B C : Loc → Sto → Prop} (hP : ∀ G, N l (S ++ G)) :
    (sIf (eT (e2 oNe (eB1 oRepr (eCall F__law_told (aC (eV i) (aN)))) (eB1 oRepr (eCall F__law_due (aC (eV i) (aN)))))) (sRet (eC (.bl false))) (sNx) l S).W N R B C := by
  obtain ⟨t, ht⟩ := repr_lst (N := 10 ^ 30) (k := 3) (m := 70000) (L := rdL z) (by decide) (by omega) (by omega) (rdL_okd (Nat.le_refl _) hl)
  rw [W_sIf, W_eT, W_e2, W_eB1, W_eCall, W_aC, W_eV]
  refine ⟨_, hi, ?_⟩
  rw [W_aN]
  refine told46_ok hl ?_
  rw [oRepr_of (ht _ _ st_get0), W_ok, W_eB1, W_eCall, W_aC, W_eV]
  refine ⟨_, hi, ?_⟩
  rw [W_aN]
  refine due_ok hl ?_
  rw [oRepr_of (ht _ _ st_get0), W_ok, oNe_str, W_ok, decide_eq_true rfl]
  simp
  exact hP _
theorem chk46_odd {d : D} (hs : ∀ G, oIsi "str" d (S ++ G) = .ok (.bl false) (S ++ G)) {l : Loc} {i : Nat} (hi : l[i]? = some (some d)) {N : Loc → Sto → Prop} {R : D → Sto → Prop} {B C : Loc → Sto → Prop} (hP : ∀ G, N l (S ++ G)) :
    (sIf (eT (e2 oNe (eB1 oRepr (eCall F__law_told (aC (eV i) (aN)))) (eB1 oRepr (eCall F__law_due (aC (eV i) (aN)))))) (sRet (eC (.bl false))) (sNx) l S).W N R B C := by
  obtain ⟨t, ht⟩ := repr_lst (N := 10 ^ 30) (k := 3) (m := 200) (L := oddL) (by decide) (by omega) (by omega) (by
    have o : ∀ e : D, okB (10 ^ 30) 3 20 e = true → Ok (10 ^ 30) [] 3 20 e := fun e h => Ok.of_okB h
    exact OkL.cons (a := 20) (b := 100) (o _ (by decide +kernel)) (OkL.cons (a := 20) (b := 50) (o _ (by decide +kernel)) (OkL.cons (a := 20) (b := 0) (o _ (by decide +kernel)) .nil (by omega)) (by omega)) (by omega))
  rw [W_sIf, W_eT, W_e2, W_eB1, W_eCall, W_aC, W_eV]
  refine ⟨_, hi, ?_⟩
  rw [W_aN]
  refine told46_odd hs ?_
  rw [oRepr_of (ht _ _ st_get0), W_ok, W_eB1, W_eCall, W_aC, W_eV]
  refine ⟨_, hi, ?_⟩
  rw [W_aN]
  refine due_odd (hs _) ?_
  rw [oRepr_of (ht _ _ st_get0), W_ok, oNe_str, W_ok, decide_eq_true rfl]
  simp
  exact hP _
end
theorem law_true (ns : List Int) (hn : ns.length ≤ 63) : ∃ S, F_law [.rl (ns.map D.int)] [] = .ok (.bl true) S := by
  suffices h : (F_law [.rl (ns.map D.int)] []).W fun d _ => d = .bl true by
    obtain ⟨d, S', e, rfl⟩ := h.ok
    exact ⟨S', e⟩
  generalize hP : (fun (d : D) (_ : Sto) => d = D.bl true) = P
  have hT : ∀ S S', (gc S (.bl true) S').W P := by
    intro S S'
    unfold gc
    split
    · rw [W_ok, ← hP]
    · rw [W_ok, ← hP]
  refine W_runF rfl ?_
  simp [b_law, b_law_0]
  refine deck_ok hn fun S1 g1 => ?_
  simp [b_law_1]
  rw [W_kRg (by decide) (by decide)]
  obtain ⟨I, hI⟩ : ∃ I : Nat → Loc → Sto → Prop, ∀ i l S', I i l S' ↔ ∃ (T : Sto) (v0 v2 v3 v4 v5 v6 : Option D), l = [v0, some (.ref 2), v2, v3, v4, v5, v6] ∧ DC (10000 * i) T S' := ⟨_, fun _ _ _ => Iff.rfl⟩
  refine W_forL I _ 0 ((hI _ _ _).2 ⟨[], _, _, _, _, _, _, rfl, g1⟩) ?_ ?_
  · intro i x l S3 hx q
    obtain ⟨T, v0, v2, v3, v4, v5, v6, rfl, g⟩ := (hI _ _ _).1 q
    have hi := (List.getElem?_eq_some_iff.mp hx).1
    simp only [rgD_len] at hi
    rw [Nat.zero_add] at g
    refine ⟨trivial, _, rfl, ?_⟩
    simp [b_law_1_0]
    refine some_web_ok g (by omega) (by omega) (by omega) fun w S4 hw w1 w2 g4 => ?_
    have lw : w.length ≤ 10 := by simpa using w2
    have sm := hw.small lw
    have sg : Sgn 120 (textW w) := ⟨textW_len lw sm, textW_small sm⟩
    rw [law_text_eq lw sm, W_ok]
    generalize textW w = z0 at sg
    simp [b_law_1_1, b_law_1_2]
    rw [W_kRg (by decide) (by decide)]
    obtain ⟨I2, hI2⟩ : ∃ I : Nat → Loc → Sto → Prop, ∀ k l S', I k l S' ↔ ∃ (G : Sto) (v5 : Option D) (z : Str), l = [v0, some (.ref 2), some x, some (.str z0), some (.str z), v5, v6] ∧ DC (10000 * i + 2000 + 10 * k) (T ++ G) S' ∧ (k ≤ 3 → Sgn 260 z) ∧ (k ≤ 4 → Sgn 540 z) ∧ Sgn 1100 z := ⟨_, fun _ _ _ => Iff.rfl⟩
    refine W_forL I2 _ 0 ((hI2 _ _ _).2 ⟨[], _, _, rfl, by rw [List.append_nil]; exact g4.le (by omega), fun _ => sg.le (by omega), fun _ => sg.le (by omega), sg.le (by omega)⟩) ?_ ?_
    · intro k y l S5 hy q2
      obtain ⟨G, v5, z, rfl, g5, z1, z2, z3⟩ := (hI2 _ _ _).1 q2
      obtain ⟨e, hk⟩ := rgD_get hy
      rw [Nat.zero_add] at *
      refine ⟨trivial, _, rfl, ?_⟩
      rw [e]
      simp [b_law_1_2_0]
      have fin : ∀ (BB : Loc → Sto → Prop) (n : Nat) (zi : Str), Sgn n zi → n ≤ 540 → (k + 1 ≤ 3 → 2 * n + 20 ≤ 260) → (k + 1 ≤ 4 → 2 * n + 20 ≤ 540) → (F__law_other [.ref 2, .str zi] S5).W fun d S1 => (b_law_1_2_1 [v0, some (.ref 2), some x, some (.str z0), some d, some (.int (k : Nat)), v6] S1).W (I2 (k + 1)) (fun d S' => (gc [] d S').W P) BB (I2 (k + 1)) := by
        intro BB n zi sz hn h1 h2
        refine other_ok g5 (by omega) sz (by omega) fun z' S6 sz' g6 => ?_
        rw [b_law_1_2_1]
        refine chk46 (z := z') (by have := sz'.1; omega) rfl fun G' => ?_
        refine (hI2 _ _ _).2 ⟨G ++ G', _, _, rfl, by rw [← List.append_assoc]; exact (g6.app G').le (by omega), fun q => sz'.le (h1 q), fun q => sz'.le (h2 q), sz'.le (by omega)⟩
      by_cases hk3 : k < 3
      · rw [if_pos (by omega)]
        exact fin _ 120 z0 sg (by omega) (by omega) (by omega)
      · rw [if_neg (by omega)]
        by_cases hk4 : k = 3
        · exact fin _ 260 z (z1 (by omega)) (by omega) (by omega) (by omega)
        · exact fin _ 540 z (z2 (by omega)) (by omega) (by omega) (by omega)
    · intro l S5 q2
      obtain ⟨G, v5, z, rfl, g5, z1, z2, z3⟩ := (hI2 _ _ _).1 q2
      simp only [rgD_len] at g5
      refine ⟨trivial, ?_⟩
      simp [b_law_1_3]
      have nl : Sgn 1 (Str.ofString "\n") := (by
        have : ("\n" : Str).length ≤ 1 ∧ ∀ c ∈ ("\n" : Str).cps.toList, c < 200 := by decide +kernel
        exact this)
      have lz := sg.1
      have ln := nl.1
      rw [show ∀ S, oAdd (.str z0) (.str (Str.ofString "\n")) S = .ok (.str (z0 ++ Str.ofString "\n")) S from fun S => by simp only [oAdd]; rw [if_pos (by simp only [sizeLine]; omega)], W_ok]
      have sz1 : Sgn 121 (z0 ++ Str.ofString "\n") := sg.app nl
      generalize z0 ++ Str.ofString "\n" = z1' at sz1
      obtain ⟨L, hL⟩ : ∃ L : List D, L = [D.non, D.int 5, D.bl true, D.ref (List.length S5), D.tup [D.str z0], D.ref (List.length S5 + 1), D.str (Str.ofString ""), D.str (Str.ofString "\n"), D.str (Str.ofString "in\n"), D.str (Str.ofString " in"), D.str z1'] := ⟨_, rfl⟩
      rw [← hL]
      have l5 := g5.len
      have g7 := g5.app [Ob.lst [D.str z0], Ob.dk []]
      obtain ⟨S7, hS7⟩ : ∃ S7 : Sto, S7 = S5 ++ [Ob.lst [D.str z0], Ob.dk []] := ⟨_, rfl⟩
      have n7 : S7[S5.length]? = some (.lst [D.str z0]) := by rw [hS7]; exact st_get0
      have m7 : S7[S5.length + 1]? = some (.dk []) := by rw [hS7, st_get]; rfl
      have l7 : S7.length = S5.length + 2 := by rw [hS7]; simp
      rw [← hS7] at g7 ⊢
      have g8 := g7.app [.lst L]
      have ll : L.length = 11 := by rw [hL]; rfl
      have n8 : (S7 ++ [Ob.lst L])[S5.length]? = some (.lst [D.str z0]) := st_old n7
      have m8 : (S7 ++ [Ob.lst L])[S5.length + 1]? = some (.dk []) := st_old m7
      refine one_ok g8 (by omega) (n := S7.length) (xs := L) (by simp) (by omega) (fun q => by rw [q] at ll; simp at ll) (by omega) fun d S9 hd g9 => ?_
      have n9 := g8.keep0 g9 (by omega) n8
      have m9 := g8.keep0 g9 (by omega) m8
      have fin : ∀ G', I (i + 1) [v0, some (.ref 2), some x, some (.str z0), some (.str z), v5, some d] (S9 ++ G') := fun G' => (hI _ _ _).2 ⟨_, _, _, _, _, _, _, rfl, (g9.app G').le (by omega)⟩
      have st : ∀ z2 : Str, d = .str z2 → z2.length ≤ 2000 → _ := fun z2 e h2 => chk46 (S := S9) (z := z2) h2 (l := [v0, some (.ref 2), some x, some (.str z0), some (.str z), v5, some d]) (i := 6) (by rw [e]; rfl) (N := I (i + 1)) (R := fun d S' => (gc [] d S').W P) (B := fun l S => (b_law_2 l S).W (fun x S' => (gc [] D.non S').W P) (fun d S' => (gc [] d S').W P) (fun _ _ => False) fun _ _ => False) (C := I (i + 1)) fin
      have od : (∀ G, oIsi "str" d (S9 ++ G) = .ok (.bl false) (S9 ++ G)) → _ := fun hs => chk46_odd (S := S9) (d := d) hs (l := [v0, some (.ref 2), some x, some (.str z0), some (.str z), v5, some d]) (i := 6) rfl (N := I (i + 1)) (R := fun d S' => (gc [] d S').W P) (B := fun l S => (b_law_2 l S).W (fun x S' => (gc [] D.non S').W P) (fun d S' => (gc [] d S').W P) (fun _ _ => False) fun _ _ => False) (C := I (i + 1)) fin
      rw [b_law_1_4]
      have e4 : ∀ s ∈ (["", "\n", "in\n", " in"] : List Str), s.length ≤ 2000 := by decide +kernel
      rw [hL] at hd
      simp only [List.mem_cons, List.not_mem_nil, or_false] at hd
      rcases hd with h | h | h | h | h | h | h | h | h | h | h
      · exact od fun G => by rw [h]; rfl
      · exact od fun G => by rw [h]; rfl
      · exact od fun G => by rw [h]; rfl
      · exact od fun G => by rw [h]; exact oIsi_of (t := "list") (by simp only [tyD, st_old n9])
      · exact od fun G => by rw [h]; rfl
      · exact od fun G => by rw [h]; exact oIsi_of (t := "dict") (by simp only [tyD, st_old m9])
      · exact st _ h (e4 _ (by simp))
      · exact st _ h (e4 _ (by simp))
      · exact st _ h (e4 _ (by simp))
      · exact st _ h (e4 _ (by simp))
      · exact st _ h (by have := sz1.1; omega)
  · intro l S3 q
    obtain ⟨T, v0, v2, v3, v4, v5, v6, rfl, g⟩ := (hI _ _ _).1 q
    refine ⟨trivial, ?_⟩
    simp [b_law_2]
    exact hT _ _
end Pz

open PySem PySem.W PyProof.Rows in
set_option maxRecDepth 100000 in
set_option maxHeartbeats 0 in
theorem PySem.Challenge.cw_pilepass_k46_texts_that_are_wrong_holds : PySem.Challenge.rw_pilepass_k46_texts_that_are_wrong.Holds := by
  w_on; o_law; k_head; (case hw => w_witness2)
  k_fill
  refine Pz.law_walk (l := PySem.Challenge.rw_pilepass_k46_texts_that_are_wrong) (k := 7) (x := "script") (F := Pz.F_law) rfl (by decide) rfl ⟨rfl, by decide, by decide⟩ (by kernel_rfl) (fun w h Y => PySem.W.kIn_of Y) ?hk1 ?G Pz.law_true
  case hk1 => (intro w; kernel_rfl)
  case G =>
    intro w mg fa h KX G hmg
    have T : Pz.TxtAt KX mg := by
      show Pz.Txt _ mg
      refine ⟨?g_abs, ?g_all, ?g_any, ?g_bool, ?g_enumerate, ?g_int, ?g_isinstance, ?g_len, ?g_list, ?g_min, ?g_range, ?g_repr, ?g_str, ?g_tuple, ?c_BREAK, ?c_DIGITS, ?c_IN, ?c_MAX_STEPS, ?c_MOST_CONSTANT, ?c_MOST_DIGITS, ?c_NEG, ?c_PICK, ?c_SIGNS, ?t__law_deck, ?t__law_text, ?t__law_draw, ?t__law_one, ?t__law_renumbered, ?t__law_mixed, ?t__law_kind, ?t__law_web, ?t__law_woven, ?t__law_some_web, ?t__law_other, ?t_is_integer, ?t_inputs_of, ?t_step_word, ?t_reached_from, ?t_web_error, ?t_number_of, ?t_kind_of, ?t_step_of, ?t_read_web, ?t__law_told, ?t__law_whole, ?t__law_is_kind, ?t__law_many, ?t__law_fault, ?t__law_web_error, ?t__law_number, ?t__law_step, ?t__law_due, ?x_BadText, ?x_BadWeb, ?w_WebError, ?n_BadText, ?n_BadWeb, ?n_WebError, ?e_BadWeb, ?e_BadText, ?xm_BadText_BadWeb⟩
      (case g_abs => (refine PySem.W.mg_none_of KX G ?zzq; (case zzq => k_is)))
      (case g_all => (refine PySem.W.mg_none_of KX G ?zzq; (case zzq => k_is)))
      (case g_any => (refine PySem.W.mg_none_of KX G ?zzq; (case zzq => k_is)))
      (case g_bool => (refine PySem.W.mg_none_of KX G ?zzq; (case zzq => k_is)))
      (case g_enumerate => (refine PySem.W.mg_none_of KX G ?zzq; (case zzq => k_is)))
      (case g_int => (refine PySem.W.mg_none_of KX G ?zzq; (case zzq => k_is)))
      (case g_isinstance => (refine PySem.W.mg_none_of KX G ?zzq; (case zzq => k_is)))
      (case g_len => (refine PySem.W.mg_none_of KX G ?zzq; (case zzq => k_is)))
      (case g_list => (refine PySem.W.mg_none_of KX G ?zzq; (case zzq => k_is)))
      (case g_min => (refine PySem.W.mg_none_of KX G ?zzq; (case zzq => k_is)))
      (case g_range => (refine PySem.W.mg_none_of KX G ?zzq; (case zzq => k_is)))
      (case g_repr => (refine PySem.W.mg_none_of KX G ?zzq; (case zzq => k_is)))
      (case g_str => (refine PySem.W.mg_none_of KX G ?zzq; (case zzq => k_is)))
      (case g_tuple => (refine PySem.W.mg_none_of KX G ?zzq; (case zzq => k_is)))
      (case c_BREAK => (refine' Pz.cst_str KX G ?zzq; (case zzq => k_is)))
      (case c_DIGITS => (refine' Pz.cst_str KX G ?zzq; (case zzq => k_is)))
      (case c_IN => (refine' Pz.cst_str KX G ?zzq; (case zzq => k_is)))
      (case c_MAX_STEPS => (refine' Pz.cst_int KX G ?zzq; (case zzq => k_is)))
      (case c_MOST_CONSTANT => (refine' Pz.cst_int KX G ?zzq; (case zzq => k_is)))
      (case c_MOST_DIGITS => (refine' Pz.cst_int KX G ?zzq; (case zzq => k_is)))
      (case c_NEG => (refine' Pz.cst_str KX G ?zzq; (case zzq => k_is)))
      (case c_PICK => (refine' Pz.cst_str KX G ?zzq; (case zzq => k_is)))
      (case c_SIGNS => (refine' Pz.cst_tup KX G ?zzq ?zzr ?zzz ?zzv; (case zzq => k_is); (case zzr => k_is); (case zzz => decide); (case zzv => exact ⟨[.str "+", .str "-", .str "*"], .cons ⟨_, rfl⟩ (.cons ⟨_, rfl⟩ (.cons ⟨_, rfl⟩ (.nil))), fun _ _ => by simp [Pz.VRs, Pz.VR]⟩)))
      (case t__law_deck => (refine' Pz.tx_mk KX G (fun _ _ _ _ _ _ us hl => match us, hl with | [_], _ => rfl) ?zza ?zzl ?zzc ?zzk; (case zza => k_is); (case zzl => k_is); (case zzc => k_is); (case zzk => k_is)))
      (case t__law_text => (refine' Pz.tx_mk KX G (fun _ _ _ _ _ _ us hl => match us, hl with | [_], _ => rfl) ?zza ?zzl ?zzc ?zzk; (case zza => k_is); (case zzl => k_is); (case zzc => k_is); (case zzk => k_is)))
      (case t__law_draw => (refine' Pz.tx_mk KX G (fun _ _ _ _ _ _ us hl => match us, hl with | [_, _], _ => rfl) ?zza ?zzl ?zzc ?zzk; (case zza => k_is); (case zzl => k_is); (case zzc => k_is); (case zzk => k_is)))
      (case t__law_one => (refine' Pz.tx_mk KX G (fun _ _ _ _ _ _ us hl => match us, hl with | [_, _], _ => rfl) ?zza ?zzl ?zzc ?zzk; (case zza => k_is); (case zzl => k_is); (case zzc => k_is); (case zzk => k_is)))
      (case t__law_renumbered => (refine' Pz.tx_mk KX G (fun _ _ _ _ _ _ us hl => match us, hl with | [_, _], _ => rfl) ?zza ?zzl ?zzc ?zzk; (case zza => k_is); (case zzl => k_is); (case zzc => k_is); (case zzk => k_is)))
      (case t__law_mixed => (refine' Pz.tx_mk KX G (fun _ _ _ _ _ _ us hl => match us, hl with | [_, _], _ => rfl) ?zza ?zzl ?zzc ?zzk; (case zza => k_is); (case zzl => k_is); (case zzc => k_is); (case zzk => k_is)))
      (case t__law_kind => (refine' Pz.tx_mk KX G (fun _ _ _ _ _ _ us hl => match us, hl with | [_, _], _ => rfl) ?zza ?zzl ?zzc ?zzk; (case zza => k_is); (case zzl => k_is); (case zzc => k_is); (case zzk => k_is)))
      (case t__law_web => (refine' Pz.tx_mk KX G (fun _ _ _ _ _ _ us hl => match us, hl with | [_, _], _ => rfl) ?zza ?zzl ?zzc ?zzk; (case zza => k_is); (case zzl => k_is); (case zzc => k_is); (case zzk => k_is)))
      (case t__law_woven => (refine' Pz.tx_mk KX G (fun _ _ _ _ _ _ us hl => match us, hl with | [_, _, _], _ => rfl) ?zza ?zzl ?zzc ?zzk; (case zza => k_is); (case zzl => k_is); (case zzc => k_is); (case zzk => k_is)))
      (case t__law_some_web => (refine' Pz.tx_mk KX G (fun _ _ _ _ _ _ us hl => match us, hl with | [_, _], _ => rfl) ?zza ?zzl ?zzc ?zzk; (case zza => k_is); (case zzl => k_is); (case zzc => k_is); (case zzk => k_is)))
      (case t__law_other => (refine' Pz.tx_mk KX G (fun _ _ _ _ _ _ us hl => match us, hl with | [_, _], _ => rfl) ?zza ?zzl ?zzc ?zzk; (case zza => k_is); (case zzl => k_is); (case zzc => k_is); (case zzk => k_is)))
      (case t_is_integer => (refine' Pz.tx_mk KX G (fun _ _ _ _ _ _ us hl => match us, hl with | [_, _, _], _ => rfl) ?zza ?zzl ?zzc ?zzk; (case zza => k_is); (case zzl => k_is); (case zzc => k_is); (case zzk => k_is)))
      (case t_inputs_of => (refine' Pz.tx_mk KX G (fun _ _ _ _ _ _ us hl => match us, hl with | [_], _ => rfl) ?zza ?zzl ?zzc ?zzk; (case zza => k_is); (case zzl => k_is); (case zzc => k_is); (case zzk => k_is)))
      (case t_step_word => (refine' Pz.tx_mk KX G (fun _ _ _ _ _ _ us hl => match us, hl with | [_, _], _ => rfl) ?zza ?zzl ?zzc ?zzk; (case zza => k_is); (case zzl => k_is); (case zzc => k_is); (case zzk => k_is)))
      (case t_reached_from => (refine' Pz.tx_mk KX G (fun _ _ _ _ _ _ us hl => match us, hl with | [_, _], _ => rfl) ?zza ?zzl ?zzc ?zzk; (case zza => k_is); (case zzl => k_is); (case zzc => k_is); (case zzk => k_is)))
      (case t_web_error => (refine' Pz.tx_mk KX G (fun _ _ _ _ _ _ us hl => match us, hl with | [_], _ => rfl) ?zza ?zzl ?zzc ?zzk; (case zza => k_is); (case zzl => k_is); (case zzc => k_is); (case zzk => k_is)))
      (case t_number_of => (refine' Pz.tx_mk KX G (fun _ _ _ _ _ _ us hl => match us, hl with | [_], _ => rfl) ?zza ?zzl ?zzc ?zzk; (case zza => k_is); (case zzl => k_is); (case zzc => k_is); (case zzk => k_is)))
      (case t_kind_of => (refine' Pz.tx_mk KX G (fun _ _ _ _ _ _ us hl => match us, hl with | [_], _ => rfl) ?zza ?zzl ?zzc ?zzk; (case zza => k_is); (case zzl => k_is); (case zzc => k_is); (case zzk => k_is)))
      (case t_step_of => (refine' Pz.tx_mk KX G (fun _ _ _ _ _ _ us hl => match us, hl with | [_], _ => rfl) ?zza ?zzl ?zzc ?zzk; (case zza => k_is); (case zzl => k_is); (case zzc => k_is); (case zzk => k_is)))
      (case t_read_web => (refine' Pz.tx_mk KX G (fun _ _ _ _ _ _ us hl => match us, hl with | [_], _ => rfl) ?zza ?zzl ?zzc ?zzk; (case zza => k_is); (case zzl => k_is); (case zzc => k_is); (case zzk => k_is)))
      (case t__law_told => (refine' Pz.tx_mk KX G (fun _ _ _ _ _ _ us hl => match us, hl with | [_], _ => rfl) ?zza ?zzl ?zzc ?zzk; (case zza => k_is); (case zzl => k_is); (case zzc => k_is); (case zzk => k_is)))
      (case t__law_whole => (refine' Pz.tx_mk KX G (fun _ _ _ _ _ _ us hl => match us, hl with | [_, _, _], _ => rfl) ?zza ?zzl ?zzc ?zzk; (case zza => k_is); (case zzl => k_is); (case zzc => k_is); (case zzk => k_is)))
      (case t__law_is_kind => (refine' Pz.tx_mk KX G (fun _ _ _ _ _ _ us hl => match us, hl with | [_], _ => rfl) ?zza ?zzl ?zzc ?zzk; (case zza => k_is); (case zzl => k_is); (case zzc => k_is); (case zzk => k_is)))
      (case t__law_many => (refine' Pz.tx_mk KX G (fun _ _ _ _ _ _ us hl => match us, hl with | [_], _ => rfl) ?zza ?zzl ?zzc ?zzk; (case zza => k_is); (case zzl => k_is); (case zzc => k_is); (case zzk => k_is)))
      (case t__law_fault => (refine' Pz.tx_mk KX G (fun _ _ _ _ _ _ us hl => match us, hl with | [_, _], _ => rfl) ?zza ?zzl ?zzc ?zzk; (case zza => k_is); (case zzl => k_is); (case zzc => k_is); (case zzk => k_is)))
      (case t__law_web_error => (refine' Pz.tx_mk KX G (fun _ _ _ _ _ _ us hl => match us, hl with | [_], _ => rfl) ?zza ?zzl ?zzc ?zzk; (case zza => k_is); (case zzl => k_is); (case zzc => k_is); (case zzk => k_is)))
      (case t__law_number => (refine' Pz.tx_mk KX G (fun _ _ _ _ _ _ us hl => match us, hl with | [_], _ => rfl) ?zza ?zzl ?zzc ?zzk; (case zza => k_is); (case zzl => k_is); (case zzc => k_is); (case zzk => k_is)))
      (case t__law_step => (refine' Pz.tx_mk KX G (fun _ _ _ _ _ _ us hl => match us, hl with | [_], _ => rfl) ?zza ?zzl ?zzc ?zzk; (case zza => k_is); (case zzl => k_is); (case zzc => k_is); (case zzk => k_is)))
      (case t__law_due => (refine' Pz.tx_mk KX G (fun _ _ _ _ _ _ us hl => match us, hl with | [_], _ => rfl) ?zza ?zzl ?zzc ?zzk; (case zza => k_is); (case zzl => k_is); (case zzc => k_is); (case zzk => k_is)))
      (case x_BadText => (refine' Pz.txx_mk KX G ?zaC (fun _ _ _ _ _ _ us hl => match us, hl with | [_, _], _ => rfl) ?zxL ?zsa ?zeC ?ztC ?zkC ?za1 ?zt1 ?zl ?zc ?zk ?zno; (case zaC => k_is); (case zxL => k_is); (case zsa => k_is); (case zeC => k_is); (case ztC => k_is); (case zkC => k_is); (case za1 => k_is); (case zt1 => k_is); (case zl => k_is); (case zc => k_is); (case zk => k_is); (case zno => k_is)))
      (case x_BadWeb => (refine' Pz.txx_mk KX G ?zaC (fun _ _ _ _ _ _ us hl => match us, hl with | [_, _], _ => rfl) ?zxL ?zsa ?zeC ?ztC ?zkC ?za1 ?zt1 ?zl ?zc ?zk ?zno; (case zaC => k_is); (case zxL => k_is); (case zsa => k_is); (case zeC => k_is); (case ztC => k_is); (case zkC => k_is); (case za1 => k_is); (case zt1 => k_is); (case zl => k_is); (case zc => k_is); (case zk => k_is); (case zno => k_is)))
      (case w_WebError => (refine' Pz.baseX_mk KX G ?zaC ?zrd ?zga ?zin; (case zaC => k_is); (case zrd => k_is); (case zga => k_is); (case zin => k_is)))
      (case n_BadText => (refine' Pz.mgC_mk KX G ?zaC; (case zaC => k_is)))
      (case n_BadWeb => (refine' Pz.mgC_mk KX G ?zaC; (case zaC => k_is)))
      (case n_WebError => (refine' Pz.mgC_mk KX G ?zaC; (case zaC => k_is)))
      (case e_BadWeb => (rw [Pz.clsA_of (C := "WebError") ?zaB]; (case zaB => k_is); refine' Pz.errT_mk ?zaC ?zhg ?zhk ?zhs ?zhd ?zha ?zhn ?zht ?zhm ?zno ?zkit; (case zaC => k_is); (case zhg => k_is); (case zhk => k_is); (case zhs => k_is); (case zhd => k_is); (case zha => k_is); (case zhn => k_is); (case zht => k_is); (case zhm => k_is); (case zno => k_is); (case zkit => kit_is)))
      (case e_BadText => (rw [Pz.clsA_of (C := "WebError") ?zaB]; (case zaB => k_is); refine' Pz.errT_mk ?zaC ?zhg ?zhk ?zhs ?zhd ?zha ?zhn ?zht ?zhm ?zno ?zkit; (case zaC => k_is); (case zhg => k_is); (case zhk => k_is); (case zhs => k_is); (case zhd => k_is); (case zha => k_is); (case zhn => k_is); (case zht => k_is); (case zhm => k_is); (case zno => k_is); (case zkit => kit_is)))
      (case xm_BadText_BadWeb => (refine Pz.xmL_2 ?y0 ?y1 ?y2 ?y3; (case y0 => (refine' Pz.exm_mk ?zaC ?zaB ?z1 ?z2 ?z3 ?z4 ?z5; (case zaC => k_is); (case zaB => k_is); (case z1 => k_is); (case z2 => k_is); (case z3 => k_is); (case z4 => k_is); (case z5 => decide +kernel))); (case y1 => (refine' Pz.exm_mk ?zaC ?zaB ?z1 ?z2 ?z3 ?z4 ?z5; (case zaC => k_is); (case zaB => k_is); (case z1 => k_is); (case z2 => k_is); (case z3 => k_is); (case z4 => k_is); (case z5 => decide +kernel))); (case y2 => (refine' Pz.exm_mk ?zaC ?zaB ?z1 ?z2 ?z3 ?z4 ?z5; (case zaC => k_is); (case zaB => k_is); (case z1 => k_is); (case z2 => k_is); (case z3 => k_is); (case z4 => k_is); (case z5 => decide +kernel))); (case y3 => (refine' Pz.exm_mk ?zaC ?zaB ?z1 ?z2 ?z3 ?z4 ?z5; (case zaC => k_is); (case zaB => k_is); (case z1 => k_is); (case z2 => k_is); (case z3 => k_is); (case z4 => k_is); (case z5 => decide +kernel)))))
    refine' Pz.law_fn (F := Pz.F_law) (st := Pz.s_law) KX G hmg (fun _ _ _ _ _ _ _ _ => .of_eq rfl) (fun F base hK hG => Pz.fnG_law T F) ?zza ?zzl ?zzc ?zzk
    (case zza => k_is)
    (case zzl => k_is)
    (case zzc => k_is)
    (case zzk => k_is)

