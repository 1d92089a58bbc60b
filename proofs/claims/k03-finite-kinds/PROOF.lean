import PyProof.Rows.All
import HandS.ForMost
import HandS.IsInst
import HandS.Walk
import HandS.TupAny
import HandS.TupMul
import HandS.Conv
import HandS.Style
import HandS.Flow
import HandS.TryOnly
import KE.DataFind
import KE.DataEq
import KE.DataIsa
import KE.GoesMore
import KE.GoesEnum
import HandS.Zip
import HandS.ForExc
import HandS.ExcInit
import HandS.ExcField
import HandS.TryMany
import HandS.Text
import PyProof.StrBlock2
import HandS.Wide
import KE.KExcIs
import HandS.ExcIs
import HandS.Dict
import HandS.SetKeys
import HandS.Strs
import HandS.Iter
import KE.KRevSl
import HandS.SortInts
import HandS.More
import KE.DataCmp
import KE.SortData
import HandS.Replace
import HandS.List
import PyProof.DelItemList
import PyProof.SliceList
import HandS.DictComp
import PySem.Challenge.RW_closestfit_k03_whole_finite_kinds
set_option Elab.async false
set_option linter.all false
set_option maxRecDepth 100000
set_option maxHeartbeats 4000000
set_option synthInstance.maxSize 100000
set_option synthInstance.maxHeartbeats 400000
namespace L3
open PySem PySem.Spec PyProof.Rows L2

abbrev D := PyData
abbrev St := L2.St

/-- a key of a dict -/
def keyD : Key → PyData
  | .inl i => .int i
  | .inr x => .str x
/-- an object without a dict and slots of its own -/
def Pln (o : Obj) : Prop := o.dict = none ∧ o.slots = #[]
/-- a tuple without a dict of its own -/
def TupN (K : PySem.W.Frag) (H : Hp) (a : Addr) (xs : List V) : Prop :=
  (∃ o, H a = some (.frz o (.tup xs)) ∧ Pln o) ∨ ∃ (o : Obj) (its : Array Value) (n : Nat), K.lookup a = some o ∧ o.cls = .type "tuple" ∧ Pln o ∧ o.data = .seq its n ∧ its.size ≤ sizeLine ∧ Vals xs its.toList
theorem TupN.sq {K : PySem.W.Frag} {H : Hp} {a : Addr} {xs : List V} (h : TupN K H a xs) : SqT K H a xs := by
  rcases h with ⟨o, h, _⟩ | ⟨o, its, n, h1, h2, _, h3⟩
  · exact .inl (.inr ⟨o, h⟩)
  · exact .inr ⟨o, its, n, h1, h2, h3⟩
theorem TupN.of {K : PySem.W.Frag} {H : Hp} {a : Addr} {xs : List V} {o : Obj} (h : H a = some (.frz o (.tup xs))) (hd : Pln o) : TupN K H a xs := .inl ⟨o, h, hd⟩
theorem TupN.mono {K : PySem.W.Frag} {H H' : Hp} {a : Addr} {xs : List V} (e : Same H H') (h : TupN K H a xs) : TupN K H' a xs := by
  rcases h with ⟨o, h, d⟩ | h
  · exact .inl ⟨o, e _ _ h, d⟩
  · exact .inr h
mutual
inductive Rp (K : PySem.W.Frag) (I : Hp) : V → PyData → Prop
  | non : Rp K I .non .none
  | bl (b : Bool) : Rp K I (.bl b) (.bool b)
  | int (i : Int) : Rp K I (.int i) (.int i)
  | str (x : Str) : Rp K I (.str x) (.str x)
  | lst {a : Addr} {xs : List V} {ds : List PyData} : I a = some (.lst xs) → RpA K I xs ds → Rp K I (.ref a) (.list ds)
  | tup {a : Addr} {xs : List V} {ds : List PyData} : TupN K I a xs → RpA K I xs ds → Rp K I (.ref a) (.tuple ds)
  | wtu {a : Addr} {xs : List V} {ds : List PyData} : SqT K I a xs → RpA K I xs ds → Rp K I (.ref a) (.dict [(.none, .tuple ds)])
  | dct {a : Addr} {kvs : List (Key × V)} {ps : List (PyData × PyData)} : I a = some (.dK kvs) → RpK K I kvs ps → Rp K I (.ref a) (.dict ps)
  | scr {a : Addr} {xs : List V} {ds : List PyData} : SqL K I a xs → RpA K I xs ds → Rp K I (.ref a) (.dict [(.none, .list ds)])
  | exc (a : Addr) : Rp K I (.ref a) (.dict [(.none, .int (a : Nat))])
inductive RpA (K : PySem.W.Frag) (I : Hp) : List V → List PyData → Prop
  | nil : RpA K I [] []
  | cons {v : V} {vs : List V} {d : PyData} {ds : List PyData} : Rp K I v d → RpA K I vs ds → RpA K I (v :: vs) (d :: ds)
inductive RpK (K : PySem.W.Frag) (I : Hp) : List (Key × V) → List (PyData × PyData) → Prop
  | nil : RpK K I [] []
  | cons {k : Key} {v : V} {d : PyData} {kvs : List (Key × V)} {ps : List (PyData × PyData)} : Rp K I v d → RpK K I kvs ps → RpK K I ((k, v) :: kvs) ((keyD k, d) :: ps)
end
theorem same_tup {K : PySem.W.Frag} {H H' : Hp} {a : Addr} {xs : List V} (e : Same H H') (h : SqT K H a xs) : SqT K H' a xs := by
  rcases h with (h | ⟨o, h⟩) | h
  · exact .inl (.inl (e _ _ h))
  · exact .inl (.inr ⟨o, e _ _ h⟩)
  · exact .inr h
section
variable {K : PySem.W.Frag} {I I' : Hp}
mutual
theorem Rp.mono (s : Same I I') : ∀ {v : V} {d : PyData}, Rp K I v d → Rp K I' v d
  | _, _, .non => .non
  | _, _, .bl b => .bl b
  | _, _, .int i => .int i
  | _, _, .str x => .str x
  | _, _, .lst e r => .lst (s _ _ e) (RpA.mono s r)
  | _, _, .tup e r => .tup (e.mono s) (RpA.mono s r)
  | _, _, .wtu e r => .wtu (same_tup s e) (RpA.mono s r)
  | _, _, .dct e r => .dct (s _ _ e) (RpK.mono s r)
  | _, _, .scr e r => .scr (s.seq e) (RpA.mono s r)
  | _, _, .exc a => .exc a
theorem RpA.mono (s : Same I I') : ∀ {vs : List V} {ds : List PyData}, RpA K I vs ds → RpA K I' vs ds
  | _, _, .nil => .nil
  | _, _, .cons h t => .cons (Rp.mono s h) (RpA.mono s t)
theorem RpK.mono (s : Same I I') : ∀ {kvs : List (Key × V)} {ps : List (PyData × PyData)}, RpK K I kvs ps → RpK K I' kvs ps
  | _, _, .nil => .nil
  | _, _, .cons h t => .cons (Rp.mono s h) (RpK.mono s t)
end
theorem RpA.length : ∀ {vs : List V} {ds : List PyData}, RpA K I vs ds → vs.length = ds.length
  | _, _, .nil => rfl
  | _, _, .cons _ t => by simp [RpA.length t]
theorem RpA.append : ∀ {vs ws : List V} {ds es : List PyData}, RpA K I vs ds → RpA K I ws es → RpA K I (vs ++ ws) (ds ++ es)
  | _, _, _, _, .nil, h => h
  | _, _, _, _, .cons r t, h => .cons r (RpA.append t h)
theorem RpA.get : ∀ {vs : List V} {ds : List PyData} {i : Nat} {d : PyData}, RpA K I vs ds → ds[i]? = some d → ∃ v, vs[i]? = some v ∧ Rp K I v d
  | _, _, _, _, .nil, e => by simp at e
  | _, _, 0, _, .cons r _, e => by simp at e; subst e; exact ⟨_, rfl, r⟩
  | _, _, i + 1, _, .cons _ t, e => by
    obtain ⟨v, h1, h2⟩ := RpA.get (i := i) t (by simpa using e)
    exact ⟨v, by simpa using h1, h2⟩
theorem RpA.get' : ∀ {vs : List V} {ds : List PyData} {i : Nat} {v : V}, RpA K I vs ds → vs[i]? = some v → ∃ d, ds[i]? = some d ∧ Rp K I v d
  | _, _, _, _, .nil, e => by simp at e
  | _, _, 0, _, .cons r _, e => by simp at e; subst e; exact ⟨_, rfl, r⟩
  | _, _, i + 1, _, .cons _ t, e => by
    obtain ⟨v, h1, h2⟩ := RpA.get' (i := i) t (by simpa using e)
    exact ⟨v, by simpa using h1, h2⟩
theorem RpA.drop : ∀ {vs : List V} {ds : List PyData} (n : Nat), RpA K I vs ds → RpA K I (vs.drop n) (ds.drop n)
  | _, _, 0, r => r
  | _, _, _ + 1, .nil => .nil
  | _, _, n + 1, .cons _ t => RpA.drop n t
theorem RpA.take : ∀ {vs : List V} {ds : List PyData} (n : Nat), RpA K I vs ds → RpA K I (vs.take n) (ds.take n)
  | _, _, 0, _ => .nil
  | _, _, _ + 1, .nil => .nil
  | _, _, n + 1, .cons r t => .cons r (RpA.take n t)
theorem RpA.set : ∀ {vs : List V} {ds : List PyData} {v : V} {d : PyData} (i : Nat), Rp K I v d → RpA K I vs ds → RpA K I (vs.set i v) (ds.set i d)
  | _, _, _, _, _, _, .nil => .nil
  | _, _, _, _, 0, q, .cons _ t => .cons q t
  | _, _, _, _, i + 1, q, .cons r t => .cons r (RpA.set i q t)
theorem RpA.dropLast : ∀ {vs : List V} {ds : List PyData}, RpA K I vs ds → RpA K I vs.dropLast ds.dropLast := fun {vs ds} h => by
  rw [List.dropLast_eq_take, List.dropLast_eq_take, h.length]
  exact h.take _
theorem RpA.rep {vs : List V} {ds : List PyData} (h : RpA K I vs ds) : ∀ k : Nat, RpA K I (List.replicate k vs).flatten (List.replicate k ds).flatten
  | 0 => .nil
  | k + 1 => by
    rw [List.replicate_succ, List.replicate_succ, List.flatten_cons, List.flatten_cons]
    exact h.append (RpA.rep h k)
theorem RpA.ints : ∀ {ns : List Int} {vs : List V}, RpA K I vs (ns.map PyData.int) → vs = ns.map V.int
  | [], _, h => by cases h; rfl
  | n :: ns, _, h => by
    cases h with
    | cons r t => cases r; rw [RpA.ints t]; rfl
theorem RpA.bls : ∀ {ns : List Bool} {vs : List V}, RpA K I vs (ns.map PyData.bool) → vs = ns.map V.bl
  | [], _, h => by cases h; rfl
  | n :: ns, _, h => by
    cases h with
    | cons r t => cases r; rw [RpA.bls t]; rfl
theorem rpA_ints : ∀ (ns : List Int), RpA K I (ns.map V.int) (ns.map PyData.int)
  | [] => .nil
  | n :: ns => .cons (.int n) (rpA_ints ns)
end

section
variable {X : Cx} {pins : List (Addr × Obj)} {σ : St} {H : Hp} {s : Shared}
mutual
theorem Rp.reads (I : Inv X pins σ H s) : ∀ {v : V} {d : PyData} (u : Value), Rp X.K H v d → d.plain = true → RelV v u → ∃ as, Reads s.heap u d as
  | _, _, _, .non, _, r => by cases r; exact ⟨_, Reads.none⟩
  | _, _, _, .bl b, _, r => by cases r; exact ⟨_, Reads.bool b⟩
  | _, _, _, .int i, _, r => by obtain ⟨t, rfl⟩ := r; exact ⟨_, Reads.int i t⟩
  | _, _, _, .str x, _, r => by obtain ⟨t, rfl⟩ := r; exact ⟨_, Reads.str x t⟩
  | _, _, _, .lst e ra, pl, r => by
    cases r
    obtain ⟨its, rv, ⟨o, n, ho, hc, _, hd⟩, _⟩ := I.list (SqL.of e)
    obtain ⟨as, hr⟩ := RpA.reads I its ra (by simpa [PyData.plain] using pl) rv
    exact ⟨_, Reads.list ho hc hd hr⟩
  | _, _, _, .tup e ra, pl, r => by
    cases r
    obtain ⟨its, rv, ⟨o, ho, hc, n, hd⟩, _⟩ := I.tuple e.sq
    obtain ⟨as, hr⟩ := RpA.reads I its ra (by simpa [PyData.plain] using pl) rv
    exact ⟨_, Reads.tuple ho hc hd hr⟩
  | _, _, _, .wtu e ra, pl, _ => by simp [PyData.plain] at pl
  | _, _, _, .dct e _, pl, _ => by simp [PyData.plain] at pl
  | _, _, _, .scr e ra, pl, _ => by simp [PyData.plain] at pl
theorem RpA.reads (I : Inv X pins σ H s) : ∀ {vs : List V} {ds : List PyData} (us : List Value), RpA X.K H vs ds → PyData.plainAll ds = true → Vals vs us → ∃ as, ReadsAll s.heap us ds as
  | _, _, _, .nil, _, r => by cases r; exact ⟨_, ReadsAll.nil⟩
  | _, _, _, .cons h t, pl, r => by
    simp only [PyData.plainAll, Bool.and_eq_true] at pl
    cases r with
    | cons r1 r2 =>
      obtain ⟨as, q1⟩ := Rp.reads I _ h pl.1 r1
      obtain ⟨bs, q2⟩ := RpA.reads I _ t pl.2 r2
      exact ⟨_, ReadsAll.cons q1 q2⟩
end
end

def NewT (H : Hp) (Q : VK) (xs : List V) : Prop := ∀ (p : Addr) (o : Obj), H p = none → Pln o → Q (.ref p) (upd H p (.frz o (.tup xs)))
theorem _root_.L2.Inv.tupN {X : Cx} {pins : List (Addr × Obj)} {σ : St} {H : Hp} {s : Shared} {xs : List V} {us : List Value} {Q : VK} (I : Inv X pins σ H s) (r : Vals xs us) (hz : xs.length ≤ sizeLine) (q : NewT H Q xs) :
    ∃ x H', Inv X pins σ H' { s with heap := s.heap.push { cls := .type "tuple", data := .seq us.toArray } } ∧ RelV x (.ref s.heap.objs.size) ∧ Q x H' :=
  ⟨.ref s.heap.objs.size, _, I.laid (t' := s.toks) (o := .frz { cls := .type "tuple", data := .seq us.toArray } (.tup xs)) (fun b ob q => Heap.get?_push_of_some _ q) (Nat.le_refl _)
    ⟨Heap.get?_push_size _ rfl, hz, us, r, IsTup.new _ _⟩, rfl, q _ _ (I.hok.fresh (Nat.le_refl _)) ⟨rfl, rfl⟩⟩
def tTupN (t : TA) : TE := fun σ H Q => t σ H fun xs H1 => xs.length ≤ sizeLine ∧ NewT H1 Q xs
theorem pe_tupN {X : Cx} {es : List Expr} {t : TA} {pos : Pos} {x1} (h : PA X es t) : PE X (.Tuple es x1 pos) (tTupN t) := by
  refine ⟨fun pins s σ H Q I hq => ?_⟩
  refine wpAny_Tuple_spliced (thn (h.run pos pins s σ H _ I hq) fun us s1 ⟨xs, H1, I1, r, z, q⟩ => ⟨by rw [← r.length]; exact z, ?_⟩)
  exact I1.tupN r z q
def rCatN (K : PySem.W.Frag) : R2 := fun x y H Q => ∃ a b xs ys, x = .ref a ∧ y = .ref b ∧ SqT K H a xs ∧ SqT K H b ys ∧ xs.length + ys.length ≤ sizeLine ∧ (xs = [] → Q (.ref b) H) ∧ (xs ≠ [] → ys = [] → Q (.ref a) H) ∧ (xs ≠ [] → ys ≠ [] → NewT H Q (xs ++ ys))
section
variable {X : Cx}
theorem op_catN : OpR X (binaryOp .Add) (rCatN X.K) := by
  intro pins s σ H x y v u Q I rx ry h
  obtain ⟨a, b, xs, ys, rfl, rfl, ha, hb, hz, q0, q1, q2⟩ := h
  cases rx
  cases ry
  obtain ⟨its, r1, p1, _⟩ := I.tuple ha
  obtain ⟨its2, r2, p2, _⟩ := I.tuple hb
  by_cases hx : xs = []
  · subst hx
    cases r1
    exact cat_tup0 p1 p2 ⟨.ref b, H, I, rfl, q0 rfl⟩
  · refine HT.cat_tup p1 p2 (fun z => hx (r1.nil_iff.mp z)) (fun z => ⟨.ref a, H, I, rfl, q1 hx (r2.nil_iff.mp z)⟩) (fun z => ?_) (by rw [← r1.length, ← r2.length]; exact hz)
    exact I.tupN (r1.append r2) (by rw [List.length_append]; exact hz) (q2 hx fun w => z (r2.nil_iff.mpr w))
def rSlN (K : PySem.W.Frag) : V → Option Int → Option Int → Hp → VK → Prop := fun x lo hi H Q => ∃ a xs, x = .ref a ∧ SqT K H a xs ∧
  (HT.sIx xs.length 0 lo = 0 ∧ HT.sIx xs.length xs.length hi = xs.length → Q (.ref a) H) ∧ (¬ (HT.sIx xs.length 0 lo = 0 ∧ HT.sIx xs.length xs.length hi = xs.length) → NewT H Q (cutV xs lo hi))
theorem sl_tupN : SlR X (rSlN X.K) := by
  intro pins s σ H x v vl vu lo hi sl Q I rx hs pl pu h
  obtain ⟨a, xs, rfl, hx, q1, q2⟩ := h
  cases rx
  obtain ⟨its, r, ht, hz⟩ := I.tuple hx
  have hlen : its.toArray.size = xs.length := by rw [List.size_toArray]; exact r.length.symm
  refine ⟨"tuple", _, PyProof.Rows.slot_tuple_getitem.lookup, ht.typeIs, ?_⟩
  by_cases hw : HT.sIx xs.length 0 lo = 0 ∧ HT.sIx xs.length xs.length hi = xs.length
  · exact getItem_tuple_whole ht hs pl pu (by rw [hlen]; exact hw) ⟨.ref a, H, I, rfl, q1 hw⟩
  · refine HT.getItem_tuple_cut ht hs pl pu (by rw [hlen]; exact hw) ?_ (by rw [hlen]; exact hz)
    rw [hlen]
    exact I.tupN ((r.drop (HT.sIx xs.length 0 lo)).take (HT.sIx xs.length xs.length hi - HT.sIx xs.length 0 lo)) (Nat.le_trans (cutV_length xs lo hi) hz) (q2 hw)
theorem call_tupleN : CallR X (.type "tuple") (fun xs H Q => ∃ p ys, xs = [.ref p] ∧ ((SqL X.K H p ys ∧ NewT H Q ys) ∨ (SqT X.K H p ys ∧ Q (.ref p) H))) := by
  intro pins s σ H xs us Q I r h
  obtain ⟨p, ys, rfl, h⟩ := h
  obtain ⟨u, rfl, rx⟩ := vals1 r
  cases rx
  rcases h with ⟨hq, q⟩ | ⟨hq, q⟩
  · obtain ⟨its, r', pl, hz⟩ := I.list hq
    have hlen := r'.length
    refine call_tuple_list pl.isList (fun h' kp => ?_) (by simp only [List.size_toArray] <;> omega)
    have I1 : Inv X pins σ H { s with heap := h' } := I.kept (t' := s.toks) kp
    exact I1.tupN r' hz q
  · obtain ⟨its, r', pl, hz⟩ := I.tuple hq
    exact call_tuple_same pl ⟨.ref p, H, I, rfl, q⟩
def rRepN (K : PySem.W.Frag) : R2 := fun x y H Q => ∃ l k xs, x = .ref l ∧ y = .int k ∧ SqT K H l xs ∧ xs ≠ [] ∧ 2 ≤ k ∧ k ≤ 1000 ∧ xs.length ≤ 1000 ∧ NewT H Q (List.replicate k.toNat xs).flatten
theorem op_repN : OpR X (binaryOp .Mult) (rRepN X.K) := by
  intro pins s σ H x y v u Q I rx ry h
  obtain ⟨l, k, xs, rfl, rfl, hT, hne, h1, h2, hz, q⟩ := h
  cases rx
  obtain ⟨t, rfl⟩ := ry
  obtain ⟨its, r, ⟨⟨cls, dd, data, sl⟩, ho, hc, n, hd⟩, hs⟩ := I.tuple hT
  simp only at hc hd
  subst hc hd
  have hle : its.length = xs.length := r.length.symm
  have hn : its ≠ [] := fun e => hne (by
    rw [e] at hle
    exact List.eq_nil_of_length_eq_zero hle.symm)
  have hi : its.toArray.isEmpty = false := by
    cases its with
    | nil => exact absurd rfl hn
    | cons a b => rfl
  have hsz0 : its.toArray.size = xs.length := by rw [List.size_toArray, hle]
  have hm : ((its.toArray.size : Nat) : Int) * k ≤ 1000000 := by
    rw [hsz0]
    have a1 : ((xs.length : Nat) : Int) * k ≤ 1000 * k := Int.mul_le_mul_of_nonneg_right (by omega) (by omega)
    omega
  have fl : k.toNat * xs.length ≤ 1000 * 1000 := Nat.mul_le_mul (by omega) hz
  have flen : (List.replicate k.toNat its).flatten.length ≤ sizeLine := by
    rw [PyProof.Rows.lm_len_rep_flat, hle, sizeLine_eq]
    omega
  have c4 : Builtin.Tuple.tupleTooMany (((its.toArray.size : Nat) : Int) * k) = false := by
    unfold Builtin.Tuple.tupleTooMany
    rw [sizeLine_eq]
    exact decide_eq_false (by omega)
  refine wpAny_binaryOp_repeat_ref (T := "tuple") (U := "int") (by decide) ⟨_, ho, rfl⟩ (fun s' => typeIs_int s' k t) noFill_tuple_mul F.fills_int_mul F.slot_int_rmul repeat_tuple F.slot_int_index.lookup
    (call_meets F.slot_int_rmul (typeIs_int s k t) F.entry_int_rmul (F.args_int_rmul_2 _ _) (int_rmul_tuple k t l its.toArray n dd sl)
      ⟨ho, rfl, ⟨_, ho, rfl⟩, call_meets F.slot_tuple_mul ⟨_, ho, rfl⟩ F.entry_tuple_mul (F.args_tuple_mul_2 _ _) (tuple_mulW l its.toArray n dd sl k t (by rw [decide_eq_false (by omega), decide_eq_false (by omega)] <;> rfl) (by rw [hi, Bool.false_or]; exact beq_eq_false_iff_ne.mpr (by omega)) (by rw [hi, Bool.or_false]; exact decide_eq_false (by omega)) (by omega) c4 (by rw [size_rep, List.size_toArray]; exact flen)) ⟨ho, ?_⟩⟩)
  rw [size_rep]
  exact I.tupN (r.rep k.toNat) (by rw [PyProof.Rows.lm_len_rep_flat, sizeLine_eq]; omega) q
end

/-- a slot holds a datum, or a list of its own (some k: the k-th list that the caller handed in) -/
inductive S where
  | val (d : D)
  | own (b : Option Nat) (l : List D)
abbrev SS := List (Option S)
/-- an expression's value: a datum, or the own list of a slot -/
inductive EV where
  | d (x : D)
  | o (i : Nat)
/-- what a def hands back: a datum, or a new list that nobody else has -/
inductive RV where
  | d (x : D)
  | n (l : List D)
@[reducible] def RV.toD : RV → D
  | .d x => x
  | .n l => .list l
structure Fx where
  I0 : Hp
  H0 : Hp
  W : List Addr
/-- some 0: the list that the caller handed in; some 1: a dict of the def's own; some 2: the second list that the caller handed in; none: a list of the def's own -/
def dkB : Option Nat → Bool
  | some 1 => true
  | _ => false
def tagN : Option Nat → Option Nat
  | some 0 => some 0
  | some (k + 2) => some (k + 1)
  | _ => none
theorem tag_dk : ∀ {b : Option Nat}, dkB b = true → tagN b = none
  | none, h => by cases h
  | some 0, h => by cases h
  | some 1, _ => rfl
  | some (_ + 2), h => by cases h
def Tag (F : Fx) (b : Option Nat) (a : Addr) : Prop := match tagN b with
  | some i => F.W[i]? = some a
  | none => F.H0 a = none
/-- what stands at the address of an own thing -/
def ObO (K : PySem.W.Frag) (I : Hp) (b : Option Nat) (l : List D) (o : HO) : Prop :=
  (dkB b = false ∧ ∃ vs, o = .lst vs ∧ RpA K I vs l) ∨ (dkB b = true ∧ ∃ kvs ps, o = .dK kvs ∧ l = [.dict ps] ∧ RpK K I kvs ps)
theorem ObO.mono {K : PySem.W.Frag} {I I' : Hp} {b : Option Nat} {l : List D} {o : HO} (h : ObO K I b l o) (s : Same I I') : ObO K I' b l o := by
  rcases h with ⟨h, vs, e, r⟩ | ⟨h, kvs, ps, e, e2, r⟩
  · exact .inl ⟨h, vs, e, r.mono s⟩
  · exact .inr ⟨h, kvs, ps, e, e2, r.mono s⟩
class LB (b : Option Nat) : Prop where
  e : dkB b = false
instance : LB none := ⟨rfl⟩
instance : LB (some 0) := ⟨rfl⟩
instance : LB (some 2) := ⟨rfl⟩
def IsOwn (z : SS) (σ : St) (a : Addr) : Prop := ∃ (i : Nat) (b : Option Nat) (l : List D), z[i]? = some (some (S.own b l)) ∧ σ[i]? = some (some (.ref a))
structure Ok (K : PySem.W.Frag) (F : Fx) (z : SS) (σ : St) (I H : Hp) : Prop where
  len : z.length = σ.length
  val : ∀ (i : Nat) (d : D), z[i]? = some (some (.val d)) → ∃ v, σ[i]? = some (some v) ∧ Rp K I v d
  own : ∀ (i : Nat) (b : Option Nat) (l : List D), z[i]? = some (some (.own b l)) → ∃ (a : Addr) (o : HO), σ[i]? = some (some (.ref a)) ∧ H a = some o ∧ I a = none ∧ ObO K I b l o ∧ Tag F b a
  dis : ∀ (i j : Nat) (b b' : Option Nat) (l l' : List D) (a : Addr), z[i]? = some (some (.own b l)) → z[j]? = some (some (.own b' l')) → σ[i]? = some (some (.ref a)) → σ[j]? = some (some (.ref a)) → i = j
  sub : Same I H
  base : Same F.I0 I
  new : ∀ a o, I a = some o → F.I0 a = some o ∨ F.H0 a = none
  keep : ∀ a o, F.H0 a = some o → a ∉ F.W → H a = some o
  wf : ∀ a ∈ F.W, I a = none ∧ F.H0 a ≠ none ∧ ∃ vs, H a = some (.lst vs)
structure Step (z : SS) (σ : St) (I H : Hp) (z' : SS) (I' H' : Hp) : Prop where
  imm : Same I I'
  new : ∀ a o, I' a = some o → I a = some o ∨ H a = none ∨ IsOwn z σ a
  keep : ∀ a o, H a = some o → ¬ IsOwn z σ a → H' a = some o
  osub : ∀ (i : Nat) (b : Option Nat) (l : List D), z'[i]? = some (some (.own b l)) → ∃ l' : List D, z[i]? = some (some (.own b l'))
  there : ∀ a, H' a = none → H a = none
section
variable {K : PySem.W.Frag} {F : Fx} {z z' z1 : SS} {σ : St} {I I' I1 H H' H1 : Hp}
theorem Step.refl : Step z σ I H z I H := ⟨fun _ _ h => h, fun _ _ h => .inl h, fun _ _ h _ => h, fun _ _ l h => ⟨l, h⟩, fun _ h => h⟩
theorem Step.own (s : Step z σ I H z' I' H') {a : Addr} (h : IsOwn z' σ a) : IsOwn z σ a := by
  obtain ⟨i, b, l, e1, e2⟩ := h
  obtain ⟨l', e⟩ := s.osub i b l e1
  exact ⟨i, b, l', e, e2⟩
theorem Step.trans (s : Step z σ I H z1 I1 H1) (t : Step z1 σ I1 H1 z' I' H') : Step z σ I H z' I' H' where
  imm := s.imm.trans t.imm
  new := fun a o h => by
    rcases t.new a o h with h | h | h
    · exact s.new a o h
    · by_cases ho : IsOwn z σ a
      · exact .inr (.inr ho)
      · refine .inr (.inl ?_)
        cases q : H a with
        | none => rfl
        | some u => rw [s.keep a u q ho] at h; cases h
    · exact .inr (.inr (s.own h))
  keep := fun a o h hn => t.keep a o (s.keep a o h hn) fun q => hn (s.own q)
  osub := fun i b l h => by
    obtain ⟨l1, h1⟩ := t.osub i b l h
    exact s.osub i b l1 h1
  there := fun a h => s.there a (t.there a h)
theorem Ok.h0 (ok : Ok K F z σ I H) {p : Addr} (hp : H p = none) : F.H0 p = none ∧ p ∉ F.W := by
  have hw : p ∉ F.W := fun hw => by
    obtain ⟨_, _, vs, e⟩ := ok.wf p hw
    rw [hp] at e; cases e
  refine ⟨?_, hw⟩
  cases q : F.H0 p with
  | none => rfl
  | some o => rw [ok.keep p o q hw] at hp; cases hp
theorem Ok.i0 (ok : Ok K F z σ I H) {p : Addr} (hp : H p = none) : I p = none := by
  cases q : I p with
  | none => rfl
  | some o => rw [ok.sub p o q] at hp; cases hp
theorem Ok.nown (ok : Ok K F z σ I H) {p : Addr} (hp : H p = none) : ¬ IsOwn z σ p := fun ⟨i, b, l, e1, e2⟩ => by
  obtain ⟨a, vs, f1, f2, _⟩ := ok.own i b l e1
  rw [e2] at f1; cases f1
  rw [hp] at f2; cases f2
theorem Ok.ownL (ok : Ok K F z σ I H) {i : Nat} {b : Option Nat} {l : List D} (h : z[i]? = some (some (.own b l))) (hb : dkB b = false) : ∃ (a : Addr) (vs : List V), σ[i]? = some (some (.ref a)) ∧ H a = some (.lst vs) ∧ I a = none ∧ RpA K I vs l ∧ Tag F b a := by
  obtain ⟨a, o, e1, e2, e3, r, t⟩ := ok.own i b l h
  rcases r with ⟨_, vs, rfl, r⟩ | ⟨h2, _⟩
  · exact ⟨a, vs, e1, e2, e3, r, t⟩
  · rw [hb] at h2; cases h2
theorem Ok.ownD (ok : Ok K F z σ I H) {i : Nat} {b : Option Nat} {l : List D} (h : z[i]? = some (some (.own b l))) (hb : dkB b = true) : ∃ (a : Addr) (kvs : List (Key × V)) (ps : List (D × D)), σ[i]? = some (some (.ref a)) ∧ H a = some (.dK kvs) ∧ I a = none ∧ l = [.dict ps] ∧ RpK K I kvs ps ∧ Tag F b a := by
  obtain ⟨a, o, e1, e2, e3, r, t⟩ := ok.own i b l h
  rcases r with ⟨h2, _⟩ | ⟨_, kvs, ps, rfl, rfl, r⟩
  · rw [hb] at h2; cases h2
  · exact ⟨a, kvs, ps, e1, e2, e3, rfl, r, t⟩
theorem same_upd {H : Hp} {p : Addr} {o : HO} (h : H p = none) : Same H (upd H p o) := fun b x e => by
  rw [upd_ne (ne_of_none e h)]
  exact e
/-- a new thing that never changes -/
theorem Ok.alloc (ok : Ok K F z σ I H) {p : Addr} (o : HO) (hp : H p = none) : Ok K F z σ (upd I p o) (upd H p o) ∧ Step z σ I H z (upd I p o) (upd H p o) := by
  have ip := ok.i0 hp
  have si := same_upd (o := o) ip
  have sh := same_upd (o := o) hp
  refine ⟨⟨ok.len, fun i d h => ?_, fun i b l h => ?_, ok.dis, fun a u h => ?_, ok.base.trans si, fun a u h => ?_, fun a u h hw => sh _ _ (ok.keep a u h hw), fun a hw => ?_⟩, si, fun a u h => ?_, fun a u h _ => sh _ _ h, fun _ _ l h => ⟨l, h⟩, fun a h => sh.free h⟩
  · obtain ⟨v, e, r⟩ := ok.val i d h
    exact ⟨v, e, r.mono si⟩
  · obtain ⟨a, vs, e1, e2, e3, r, t⟩ := ok.own i b l h
    exact ⟨a, vs, e1, sh _ _ e2, by rw [upd_ne (ne_of_none e2 hp)]; exact e3, r.mono si, t⟩
  · by_cases e : a = p
    · subst e; rw [upd_same] at h ⊢; exact h
    · rw [upd_ne e] at h ⊢; exact ok.sub a u h
  · by_cases e : a = p
    · subst e; exact .inr (ok.h0 hp).1
    · rw [upd_ne e] at h; exact ok.new a u h
  · obtain ⟨e1, e0, vs, e2⟩ := ok.wf a hw
    exact ⟨by rw [upd_ne (ne_of_none e2 hp)]; exact e1, e0, vs, sh _ _ e2⟩
  · by_cases e : a = p
    · subst e; exact .inr (.inl hp)
    · rw [upd_ne e] at h; exact .inl h
/-- a new list, not yet anyone's -/
theorem Ok.fresh (ok : Ok K F z σ I H) {p : Addr} (o : HO) (hp : H p = none) : Ok K F z σ I (upd H p o) ∧ Step z σ I H z I (upd H p o) := by
  have sh := same_upd (o := o) hp
  refine ⟨⟨ok.len, ok.val, fun i b l h => ?_, ok.dis, ok.sub.trans sh, ok.base, ok.new, fun a u h hw => sh _ _ (ok.keep a u h hw), fun a hw => ?_⟩, fun _ _ h => h, fun a u h => .inl h, fun a u h _ => sh _ _ h, fun _ _ l h => ⟨l, h⟩, fun a h => sh.free h⟩
  · obtain ⟨a, vs, e1, e2, e3, r, t⟩ := ok.own i b l h
    exact ⟨a, vs, e1, sh _ _ e2, e3, r, t⟩
  · obtain ⟨e1, e0, vs, e2⟩ := ok.wf a hw
    exact ⟨e1, e0, vs, sh _ _ e2⟩
/-- a list that nobody has becomes a datum -/
theorem Ok.freezeAt (ok : Ok K F z σ I H) {p : Addr} {vs : List V} (hp : H p = some (.lst vs)) (ip : I p = none) (h0 : F.H0 p = none) (hn : ¬ IsOwn z σ p) : Ok K F z σ (upd I p (.lst vs)) H := by
  have si := same_upd (o := HO.lst vs) ip
  refine ⟨ok.len, fun i d h => ?_, fun i b l h => ?_, ok.dis, fun a u h => ?_, ok.base.trans si, fun a u h => ?_, ok.keep, fun a hw => ?_⟩
  · obtain ⟨v, e, r⟩ := ok.val i d h
    exact ⟨v, e, r.mono si⟩
  · obtain ⟨a, ws, e1, e2, e3, r, t⟩ := ok.own i b l h
    have ne : a ≠ p := fun e => hn ⟨i, b, l, h, by rw [e1, e]⟩
    exact ⟨a, ws, e1, e2, by rw [upd_ne ne]; exact e3, r.mono si, t⟩
  · by_cases e : a = p
    · subst e; rw [upd_same] at h; rw [hp]; exact h
    · rw [upd_ne e] at h; exact ok.sub a u h
  · by_cases e : a = p
    · subst e; exact .inr h0
    · rw [upd_ne e] at h; exact ok.new a u h
  · obtain ⟨e1, e0, ws, e2⟩ := ok.wf a hw
    have ne : a ≠ p := fun e => e0 (by rw [e]; exact h0)
    exact ⟨by rw [upd_ne ne]; exact e1, e0, ws, e2⟩
end
end L3
namespace L3
open PySem PySem.Spec PyProof.Rows L2

def EvOk (K : PySem.W.Frag) (I : Hp) (σ : St) (e : EV) (v : V) : Prop := match e with
  | .d x => Rp K I v x
  | .o i => σ[i]? = some (some v)
theorem EvOk.mono {K : PySem.W.Frag} {I I' : Hp} {σ : St} {e : EV} {v : V} (s : Same I I') (h : EvOk K I σ e v) : EvOk K I' σ e v := by
  cases e with
  | d x => exact Rp.mono s h
  | o i => exact h
abbrev WE := SS → (EV → SS → Prop) → Prop
abbrev WA := SS → (List EV → SS → Prop) → Prop
abbrev WT := SS → (Bool → SS → Prop) → Prop
def Post (K : PySem.W.Frag) (F : Fx) (z : SS) (σ : St) (I H : Hp) (Q : VK) : EV → SS → Prop := fun e z' => ∀ v I' H', Ok K F z' σ I' H' → Step z σ I H z' I' H' → EvOk K I' σ e v → Q v H'
def PostA (K : PySem.W.Frag) (F : Fx) (z : SS) (σ : St) (I H : Hp) (Q : List V → Hp → Prop) : List EV → SS → Prop := fun es z' => ∀ vs I' H', Ok K F z' σ I' H' → Step z σ I H z' I' H' → Paired (EvOk K I' σ) es vs → Q vs H'
def PostT (K : PySem.W.Frag) (F : Fx) (z : SS) (σ : St) (I H : Hp) (Q : Bool → Hp → Prop) : Bool → SS → Prop := fun b z' => ∀ I' H', Ok K F z' σ I' H' → Step z σ I H z' I' H' → Q b H'
def liftE (K : PySem.W.Frag) (F : Fx) (t : WE) : TE := fun σ H Q => ∃ z I, Ok K F z σ I H ∧ t z (Post K F z σ I H Q)
def liftA (K : PySem.W.Frag) (F : Fx) (t : WA) : TA := fun σ H Q => ∃ z I, Ok K F z σ I H ∧ t z (PostA K F z σ I H Q)
def liftT (K : PySem.W.Frag) (F : Fx) (t : WT) : TT := fun σ H Q => ∃ z I, Ok K F z σ I H ∧ t z (PostT K F z σ I H Q)
def Mono {α : Type} (t : SS → (α → SS → Prop) → Prop) : Prop := ∀ z R R', (∀ e z', R e z' → R' e z') → t z R → t z R'
structure XE (X : Cx) (F : Fx) (e : Expr) (t : WE) : Prop where
  mono : Mono t
  run : PE X e (liftE X.K F t)
structure XA (X : Cx) (F : Fx) (es : List Expr) (t : WA) : Prop where
  mono : Mono t
  run : PA X es (liftA X.K F t)
structure XT (X : Cx) (F : Fx) (e : Expr) (t : WT) : Prop where
  mono : Mono t
  run : PT X e (liftT X.K F t)
structure XW (X : Cx) (F : Fx) (e : Expr) (t : WT) : Prop where
  mono : Mono t
  run : PW X e (liftT X.K F t)
theorem pe_imp {X : Cx} {e : Expr} {t t' : TE} (h : PE X e t) (i : ∀ σ H Q, t' σ H Q → t σ H Q) : PE X e t' := ⟨fun pins s σ H Q I q => h.run pins s σ H Q I (i σ H Q q)⟩
theorem pa_imp {X : Cx} {e : List Expr} {t t' : TA} (h : PA X e t) (i : ∀ σ H Q, t' σ H Q → t σ H Q) : PA X e t' := ⟨fun pos pins s σ H Q I q => h.run pos pins s σ H Q I (i σ H Q q)⟩
theorem pt_imp {X : Cx} {e : Expr} {t t' : TT} (h : PT X e t) (i : ∀ σ H Q, t' σ H Q → t σ H Q) : PT X e t' := ⟨fun pins s σ H Q I q => h.run pins s σ H Q I (i σ H Q q)⟩
theorem pw_imp {X : Cx} {e : Expr} {t t' : TT} (h : PW X e t) (i : ∀ σ H Q, t' σ H Q → t σ H Q) : PW X e t' := ⟨fun wh pins s σ H Q I q => h.run wh pins s σ H Q I (i σ H Q q)⟩
theorem Post.step {K : PySem.W.Frag} {F : Fx} {z z1 : SS} {σ : St} {I I1 H H1 : Hp} {Q : VK} {e : EV} {z' : SS} (s : Step z σ I H z1 I1 H1) (h : Post K F z σ I H Q e z') : Post K F z1 σ I1 H1 Q e z' := fun v I' H' ok st ev => h v I' H' ok (s.trans st) ev
theorem PostA.step {K : PySem.W.Frag} {F : Fx} {z z1 : SS} {σ : St} {I I1 H H1 : Hp} {Q : List V → Hp → Prop} {e : List EV} {z' : SS} (s : Step z σ I H z1 I1 H1) (h : PostA K F z σ I H Q e z') : PostA K F z1 σ I1 H1 Q e z' := fun v I' H' ok st ev => h v I' H' ok (s.trans st) ev
theorem PostT.step {K : PySem.W.Frag} {F : Fx} {z z1 : SS} {σ : St} {I I1 H H1 : Hp} {Q : Bool → Hp → Prop} {e : Bool} {z' : SS} (s : Step z σ I H z1 I1 H1) (h : PostT K F z σ I H Q e z') : PostT K F z1 σ I1 H1 Q e z' := fun I' H' ok st => h I' H' ok (s.trans st)
section
variable {X : Cx} {F : Fx} {z : SS} {σ : St} {I H : Hp} {e : Expr}
/-- use an expression's rule in the middle -/
theorem XE.at {t : WE} (h : XE X F e t) {R : EV → SS → Prop} {Q : VK} (ok : Ok X.K F z σ I H) (w : t z R) (k : ∀ ev z' v I' H', R ev z' → Ok X.K F z' σ I' H' → Step z σ I H z' I' H' → EvOk X.K I' σ ev v → Q v H') : liftE X.K F t σ H Q :=
  ⟨z, I, ok, h.mono _ _ _ (fun ev z' r v I' H' o s e => k ev z' v I' H' r o s e) w⟩
theorem XA.at {es : List Expr} {t : WA} (h : XA X F es t) {R : List EV → SS → Prop} {Q : List V → Hp → Prop} (ok : Ok X.K F z σ I H) (w : t z R) (k : ∀ ev z' v I' H', R ev z' → Ok X.K F z' σ I' H' → Step z σ I H z' I' H' → Paired (EvOk X.K I' σ) ev v → Q v H') : liftA X.K F t σ H Q :=
  ⟨z, I, ok, h.mono _ _ _ (fun ev z' r v I' H' o s e => k ev z' v I' H' r o s e) w⟩
theorem XT.at {t : WT} (h : XT X F e t) {R : Bool → SS → Prop} {Q : Bool → Hp → Prop} (ok : Ok X.K F z σ I H) (w : t z R) (k : ∀ b z' I' H', R b z' → Ok X.K F z' σ I' H' → Step z σ I H z' I' H' → Q b H') : liftT X.K F t σ H Q :=
  ⟨z, I, ok, h.mono _ _ _ (fun b z' r I' H' o s => k b z' I' H' r o s) w⟩
theorem XW.at {t : WT} (h : XW X F e t) {R : Bool → SS → Prop} {Q : Bool → Hp → Prop} (ok : Ok X.K F z σ I H) (w : t z R) (k : ∀ b z' I' H', R b z' → Ok X.K F z' σ I' H' → Step z σ I H z' I' H' → Q b H') : liftT X.K F t σ H Q :=
  ⟨z, I, ok, h.mono _ _ _ (fun b z' r I' H' o s => k b z' I' H' r o s) w⟩
end

def lstOf (z : SS) : EV → Option (List D)
  | .d (.list l) => some l
  | .d _ => none
  | .o i => match z[i]? with
    | some (some (.own b l)) => if dkB b = true then none else some l
    | _ => none
def dkHd : List D → Option D
  | [.dict ps] => some (.dict ps)
  | _ => none
def evD (z : SS) : EV → Option D
  | .d x => some x
  | .o i => match z[i]? with
    | some (some (.own b l)) => if dkB b = true then dkHd l else some (.list l)
    | _ => none
theorem evD_o {z : SS} {i : Nat} {d : D} (h : evD z (.o i) = some d) : (∃ b l, z[i]? = some (some (.own b l)) ∧ dkB b = false ∧ d = .list l) ∨ ∃ b ps, z[i]? = some (some (.own b [.dict ps])) ∧ dkB b = true ∧ d = .dict ps := by
  unfold evD at h
  simp only at h
  split at h
  · rename_i b l e
    cases hb : dkB b with
    | false =>
      rw [hb, if_neg (by decide)] at h
      cases h
      exact .inl ⟨b, l, e, hb, rfl⟩
    | true =>
      rw [hb, if_pos rfl] at h
      unfold dkHd at h
      split at h
      · cases h
        exact .inr ⟨b, _, e, hb, rfl⟩
      · cases h
  · cases h
theorem lst_of_ev {z : SS} {e : EV} {l : List D} (h : evD z e = some (.list l)) : lstOf z e = some l := by
  cases e with
  | d y => cases h; rfl
  | o i =>
    rcases evD_o h with ⟨b, l', e, hb, h⟩ | ⟨b, ps, e, hb, h⟩
    · cases h
      unfold lstOf
      simp only [e, hb, Bool.false_eq_true, if_false]
    · cases h
/-- a list's or tuple's items -/
def seqOf (z : SS) (e : EV) : Option (List D) := match evD z e with
  | some (.list l) => some l
  | some (.tuple l) => some l
  | _ => none
theorem ev_of_lst {z : SS} {e : EV} {l : List D} (h : lstOf z e = some l) : evD z e = some (.list l) := by
  cases e with
  | d y =>
    cases y <;> simp [lstOf] at h
    subst h; rfl
  | o i =>
    unfold lstOf at h
    simp only at h
    split at h
    · rename_i b l' e
      cases hb : dkB b with
      | true => rw [hb, if_pos rfl] at h; cases h
      | false =>
        rw [hb, if_neg (by decide)] at h
        cases h
        unfold evD
        simp only [e, hb, Bool.false_eq_true, if_false]
    · cases h
theorem seq_o {z : SS} {i : Nat} {l : List D} (h : seqOf z (.o i) = some l) : lstOf z (.o i) = some l := by
  unfold seqOf at h
  cases he : evD z (.o i) with
  | none => rw [he] at h; cases h
  | some d =>
    rcases evD_o he with ⟨b, l', e, hb, rfl⟩ | ⟨b, ps, e, hb, rfl⟩
    · rw [he] at h
      cases h
      exact lst_of_ev he
    · rw [he] at h
      cases h
theorem lst_seq {z : SS} {x : EV} {l m : List D} (hl : lstOf z x = some m) (h : seqOf z x = some l) : m = l := by
  cases x with
  | d y => cases y <;> simp [lstOf, seqOf, evD] at hl h <;> exact hl.symm.trans h
  | o i =>
    have := seq_o h
    rw [hl] at this
    exact Option.some.inj this
theorem no_dk {K : PySem.W.Frag} {I : Hp} {kvs : List (Key × V)} {d : D} {r : List (D × D)} (h : RpK K I kvs ((.none, d) :: r)) : False := by
  generalize e : (((PyData.none, d) :: r) : List (D × D)) = q at h
  cases h with
  | nil => cases e
  | @cons k v d' kvs ps _ _ =>
    injection e with e _
    injection e with e _
    cases k <;> cases e
section
variable {K : PySem.W.Frag} {F : Fx} {z : SS} {σ : St} {I H : Hp}
theorem Ok.ev (ok : Ok K F z σ I H) {e : EV} {v : V} {x : D} (h : EvOk K I σ e v) (hx : evD z e = some x) : Rp K H v x := by
  cases e with
  | d y => cases hx; exact Rp.mono ok.sub h
  | o i =>
    unfold evD at hx
    simp only at hx
    split at hx
    · rename_i b l e1
      cases hb : dkB b with
      | false =>
        rw [hb, if_neg (by decide)] at hx
        cases hx
        obtain ⟨a, vs, e2, e3, e4, r, t⟩ := ok.ownL e1 hb
        rw [show σ[i]? = some (some v) from h] at e2
        cases e2
        exact .lst e3 (r.mono ok.sub)
      | true =>
        rw [hb, if_pos rfl] at hx
        obtain ⟨a, kvs, ps, e2, e3, e4, rfl, r, t⟩ := ok.ownD e1 hb
        cases hx
        rw [show σ[i]? = some (some v) from h] at e2
        cases e2
        exact .dct e3 (r.mono ok.sub)
    · cases hx
theorem Ok.lst (ok : Ok K F z σ I H) {e : EV} {v : V} {l : List D} (h : EvOk K I σ e v) (hx : lstOf z e = some l) : ∃ a vs, v = .ref a ∧ H a = some (.lst vs) ∧ RpA K I vs l := by
  cases e with
  | d y =>
    cases y <;> simp [lstOf] at hx
    subst hx
    cases h with
    | lst e r => exact ⟨_, _, rfl, ok.sub _ _ e, r⟩
  | o i =>
    unfold lstOf at hx
    simp only at hx
    split at hx
    · rename_i b l e1
      cases hb : dkB b with
      | false =>
        rw [hb, if_neg (by decide)] at hx
        cases hx
        obtain ⟨a, vs, e2, e3, e4, r, t⟩ := ok.ownL e1 hb
        rw [show σ[i]? = some (some v) from h] at e2
        cases e2
        exact ⟨_, _, rfl, e3, r⟩
      | true =>
        rw [hb, if_pos rfl] at hx
        cases hx
    · cases hx
theorem Ok.seq (ok : Ok K F z σ I H) {e : EV} {v : V} {l : List D} (h : EvOk K I σ e v) (hx : seqOf z e = some l) : ∃ a vs, v = .ref a ∧ (SqL K H a vs ∨ SqT K H a vs) ∧ RpA K I vs l := by
  cases e with
  | d y =>
    cases y <;> simp [seqOf, evD] at hx
    · subst hx
      cases h with
      | lst e r => exact ⟨_, _, rfl, .inl (SqL.of (ok.sub _ _ e)), r⟩
    · subst hx
      cases h with
      | tup e r => exact ⟨_, _, rfl, .inr (same_tup ok.sub e.sq), r⟩
  | o i =>
    have hx' : lstOf z (.o i) = some l := by
      cases hz : z[i]? with
      | none => simp [seqOf, evD, hz] at hx
      | some y =>
        cases y with
        | none => simp [seqOf, evD, hz] at hx
        | some y =>
          cases y with
          | val d => simp [seqOf, evD, hz] at hx
          | own b l' =>
            cases hb : dkB b with
            | false =>
              simp only [seqOf, evD, hz, hb, Bool.false_eq_true, if_false] at hx
              simp only [lstOf, hz, hb, Bool.false_eq_true, if_false]
              exact hx
            | true =>
              obtain ⟨a, kvs, ps, e2, e3, e4, rfl, r, t⟩ := ok.ownD hz hb
              simp only [seqOf, evD, hz, hb, if_true, dkHd] at hx
              cases hx
    obtain ⟨a, vs, e1, e2, r⟩ := ok.lst h hx'
    exact ⟨a, vs, e1, .inl (SqL.of e2), r⟩
end

def wVar (i : Nat) : WE := fun z R => match z[i]? with
  | some (some (.val d)) => R (.d d) z
  | some (some (.own _ _)) => R (.o i) z
  | _ => False
def wC (d : D) : WE := fun z R => R (.d d) z
section
variable {X : Cx} {F : Fx} {pos : Pos}
theorem xe_v (i : Nat) {x : Str} (hN : X.N[i]? = some x := by rfl) (hv : Vis X.env.scope x := by first | exact Or.inl rfl | exact Or.inr (Or.inl rfl) | exact Or.inr (Or.inr rfl)) (hd : (x == ("__debug__" : Str)) = false := by decide)
    (hcd : (x == ("__classdict__" : Str)) = false := by decide) : XE X F (.Name x pos) (wVar i) where
  mono := fun z R R' h w => by
    unfold wVar at w ⊢
    split at w
    · exact h _ _ w
    · exact h _ _ w
    · exact w
  run := pe_imp (pv i hN hv hd hcd) fun σ H Q ⟨z, I, ok, w⟩ => by
    unfold wVar at w
    split at w
    · rename_i d e
      obtain ⟨v, e2, r⟩ := ok.val i d e
      exact ⟨v, e2, w v I H ok .refl r⟩
    · rename_i b l e
      obtain ⟨a, vs, e2, _⟩ := ok.own i b l e
      exact ⟨.ref a, e2, w _ I H ok .refl e2⟩
    · exact w.elim
theorem xe_c {e : Expr} {v : V} {d : D} (h : PE X e (tC v)) (r : ∀ I, Rp X.K I v d) : XE X F e (wC d) where
  mono := fun z R R' h w => h _ _ w
  run := pe_imp h fun σ H Q ⟨z, I, ok, w⟩ => w v I H ok .refl (r I)
theorem xe_int {i : Int} {j} : XE X F (.Constant (.int i) j pos) (wC (.int i)) := xe_c pe_int fun _ => .int i
theorem xe_bl {b : Bool} {j} : XE X F (.Constant (.bool b) j pos) (wC (.bool b)) := xe_c pe_bl fun _ => .bl b
theorem xe_non {j} : XE X F (.Constant .none j pos) (wC .none) := xe_c pe_non fun _ => .non
theorem xe_str {x : Str} {j} : XE X F (.Constant (.str x) j pos) (wC (.str x)) := xe_c pe_str fun _ => .str x
/-- a module's constant -/
theorem xe_glob {x : Str} {v : V} {u : Value} {d : D} (hg : Gl X x) (hm : X.mg x = some u) (r : RelV v u) (q : ∀ I, Rp X.K I v d) (hd : (x == ("__debug__" : Str)) = false := by decide) : XE X F (.Name x pos) (wC d) := xe_c (pe_glob hg hm r hd) q
end

abbrev F2 := SS → EV → EV → (RV → Prop) → Prop
def PostD (K : PySem.W.Frag) (F : Fx) (z : SS) (σ : St) (I H : Hp) (Q : VK) : D → Prop := fun d => ∀ v I' H', Ok K F z σ I' H' → Step z σ I H z I' H' → Rp K I' v d → Q v H'
/-- a new list at a, not yet anyone's, as seen from H -/
structure New (K : PySem.W.Frag) (F : Fx) (z : SS) (σ : St) (I H H' : Hp) (a : Addr) (l : List D) : Prop where
  was : H a = none
  at_ : ∃ vs, H' a = some (.lst vs) ∧ RpA K I vs l
  imm : I a = none
  h0 : F.H0 a = none
  nown : ¬ IsOwn z σ a
def PostR (K : PySem.W.Frag) (F : Fx) (z : SS) (σ : St) (I H : Hp) (Q : VK) : RV → Prop
  | .d d => PostD K F z σ I H Q d
  | .n l => ∀ a I' H', Ok K F z σ I' H' → Step z σ I H z I' H' → New K F z σ I' H H' a l → Q (.ref a) H'
theorem New.frz {K : PySem.W.Frag} {F : Fx} {z0 z : SS} {σ : St} {I0 I H H' : Hp} {a : Addr} {l : List D} (n : New K F z σ I H H' a l) (ok : Ok K F z σ I H') (st : Step z0 σ I0 H z I H') :
    ∃ I', Ok K F z σ I' H' ∧ Step z0 σ I0 H z I' H' ∧ Rp K I' (.ref a) (.list l) := by
  obtain ⟨vs, e, r⟩ := n.at_
  have si := same_upd (o := HO.lst vs) n.imm
  refine ⟨upd I a (.lst vs), ok.freezeAt e n.imm n.h0 n.nown, ⟨st.imm.trans si, fun b o h => ?_, st.keep, st.osub, st.there⟩, .lst upd_same (r.mono si)⟩
  by_cases eb : b = a
  · subst eb; exact .inr (.inl n.was)
  · rw [upd_ne eb] at h; exact st.new b o h
structure VR2 (X : Cx) (F : Fx) (r : R2) (f : F2) : Prop where
  mono : ∀ z x y k k', (∀ d, k d → k' d) → f z x y k → f z x y k'
  run : ∀ {σ : St} {z : SS} {I H : Hp} {x y : EV} {vx vy : V} {Q : VK}, Ok X.K F z σ I H → EvOk X.K I σ x vx → EvOk X.K I σ y vy → f z x y (PostR X.K F z σ I H Q) → r vx vy H Q
/-- expressions that may make a new list of nobody's -/
abbrev WR := SS → (RV → SS → Prop) → Prop
def PostX (K : PySem.W.Frag) (F : Fx) (z : SS) (σ : St) (I H : Hp) (Q : VK) : RV → SS → Prop
  | .d d, z' => ∀ v I' H', Ok K F z' σ I' H' → Step z σ I H z' I' H' → Rp K I' v d → Q v H'
  | .n l, z' => ∀ a I' H', Ok K F z' σ I' H' → Step z σ I H z' I' H' → New K F z' σ I' H H' a l → Q (.ref a) H'
def liftR (K : PySem.W.Frag) (F : Fx) (t : WR) : TE := fun σ H Q => ∃ z I, Ok K F z σ I H ∧ t z (PostX K F z σ I H Q)
structure XR (X : Cx) (F : Fx) (e : Expr) (t : WR) : Prop where
  mono : Mono t
  run : PE X e (liftR X.K F t)
def wFrz (t : WR) : WE := fun z R => t z fun r z' => R (.d r.toD) z'
theorem PostX.frz {K : PySem.W.Frag} {F : Fx} {z z' : SS} {σ : St} {I H : Hp} {Q : VK} {r : RV} (q : Post K F z σ I H Q (.d r.toD) z') : PostX K F z σ I H Q r z' := by
  cases r with
  | d x => exact fun v I' H' o s r => q v I' H' o s r
  | n l =>
    intro a I' H' o s n
    have ⟨I2, o2, s2, r2⟩ := n.frz o s
    exact q _ I2 H' o2 s2 r2
theorem XR.xe {X : Cx} {F : Fx} {e : Expr} {t : WR} (h : XR X F e t) : XE X F e (wFrz t) where
  mono := fun z R R' k w => h.mono _ _ _ (fun r z' q => k _ _ q) w
  run := pe_imp h.run fun σ H Q ⟨z, I, ok, w⟩ => ⟨z, I, ok, h.mono _ _ _ (fun r z' q => PostX.frz q) w⟩
theorem New.back {K : PySem.W.Frag} {F : Fx} {z0 z1 z : SS} {σ : St} {I0 I1 I H0 H1 H' : Hp} {a : Addr} {l : List D} (n : New K F z σ I H1 H' a l) (s : Step z0 σ I0 H0 z1 I1 H1) : New K F z σ I H0 H' a l := ⟨s.there a n.was, n.at_, n.imm, n.h0, n.nown⟩
theorem PostR.of {K : PySem.W.Frag} {F : Fx} {z z1 : SS} {σ : St} {I I1 H H1 : Hp} {Q : VK} (s : Step z σ I H z1 I1 H1) {r : RV} (k : PostX K F z σ I H Q r z1) : PostR K F z1 σ I1 H1 Q r := by
  cases r with
  | d x => exact fun v I' H' o t r => k v I' H' o (s.trans t) r
  | n l => exact fun a I' H' o t n => k a I' H' o (s.trans t) (n.back s)
def wBinR (f : F2) (ta tb : WE) : WR := fun z R => ta z fun x z1 => tb z1 fun y z2 => f z2 x y fun d => R d z2
def wBin (f : F2) (ta tb : WE) : WE := fun z R => ta z fun x z1 => tb z1 fun y z2 => f z2 x y fun d => R (.d d.toD) z2
section
variable {X : Cx} {F : Fx} {pos : Pos} {a b : Expr} {ta tb : WE}
theorem wBinR_mono {f : F2} {r : R2} (hf : VR2 X F r f) (ha : Mono ta) (hb : Mono tb) : Mono (wBinR f ta tb) := fun z R R' h w =>
  ha _ _ _ (fun x z1 w => hb _ _ _ (fun y z2 w => hf.mono _ _ _ _ _ (fun d q => h _ _ q) w) w) w
theorem wBin_mono {f : F2} {r : R2} (hf : VR2 X F r f) (ha : Mono ta) (hb : Mono tb) : Mono (wBin f ta tb) := fun z R R' h w =>
  ha _ _ _ (fun x z1 w => hb _ _ _ (fun y z2 w => hf.mono _ _ _ _ _ (fun d q => h _ _ q) w) w) w
theorem bin_runR {f : F2} {r : R2} (hf : VR2 X F r f) (ha : XE X F a ta) (hb : XE X F b tb) : ∀ σ H Q, liftR X.K F (wBinR f ta tb) σ H Q → tOp r (liftE X.K F ta) (liftE X.K F tb) σ H Q := fun σ H Q ⟨z, I, ok, w⟩ =>
  ha.at ok w fun x z1 v1 I1 H1 w ok1 s1 e1 => hb.at ok1 w fun y z2 v2 I2 H2 w ok2 s2 e2 =>
    hf.run ok2 (e1.mono s2.imm) e2 (hf.mono _ _ _ _ _ (fun d q => PostR.of (s1.trans s2) q) w)
theorem xr_op {op : Operator} {f : F2} {r : R2} (ho : OpR X (binaryOp op) r) (hf : VR2 X F r f) (ha : XE X F a ta) (hb : XE X F b tb) : XR X F (.BinOp a op b pos) (wBinR f ta tb) :=
  ⟨wBinR_mono hf ha.mono hb.mono, pe_imp (pe_op ho ha.run hb.run) (bin_runR hf ha hb)⟩
theorem xe_op {op : Operator} {f : F2} {r : R2} (ho : OpR X (binaryOp op) r) (hf : VR2 X F r f) (ha : XE X F a ta) (hb : XE X F b tb) : XE X F (.BinOp a op b pos) (wBin f ta tb) := (xr_op ho hf ha hb).xe
theorem xr_cmp {op : CmpOp} {f : F2} {r : R2} (ho : OpR X (compareOp op) r) (hf : VR2 X F r f) (ha : XE X F a ta) (hb : XE X F b tb) (hm : behindInMarks op b = false) : XR X F (.Compare a [op] [b] pos) (wBinR f ta tb) :=
  ⟨wBinR_mono hf ha.mono hb.mono, pe_imp (pe_cmpR ho ha.run hb.run hm) (bin_runR hf ha hb)⟩
theorem xe_cmp {op : CmpOp} {f : F2} {r : R2} (ho : OpR X (compareOp op) r) (hf : VR2 X F r f) (ha : XE X F a ta) (hb : XE X F b tb) (hm : behindInMarks op b = false) : XE X F (.Compare a [op] [b] pos) (wBin f ta tb) := (xr_cmp ho hf ha hb hm).xe
def wTest (t : WE) : WT := fun z R => t z fun x z1 => ∃ c, x = .d (.bool c) ∧ R c z1
theorem wTest_mono {t : WE} (h : Mono t) : Mono (wTest t) := fun z R R' k w => h _ _ _ (fun x z1 ⟨c, e, q⟩ => ⟨c, e, k _ _ q⟩) w
theorem xt_cmp {op : CmpOp} {f : F2} {r : R2} (ho : OpR X (compareOp op) r) (hf : VR2 X F r f) (ha : XE X F a ta) (hb : XE X F b tb) (hm : behindInMarks op b = false) : XT X F (.Compare a [op] [b] pos) (wTest (wBin f ta tb)) :=
  ⟨wTest_mono (wBin_mono hf ha.mono hb.mono), pt_imp (pt_cmpR ho ha.run hb.run hm) fun σ H Q ⟨z, I, ok, w⟩ => by
    refine bin_runR hf ha hb σ H _ ⟨z, I, ok, wBin_mono hf ha.mono hb.mono _ _ _ (fun x z1 q => q) w |> fun w => wBinR_mono (X := X) (F := F) hf ha.mono hb.mono _ (fun rv z1 => ∃ c, EV.d rv.toD = .d (.bool c) ∧ PostT X.K F z σ I H Q c z1) _ (fun rv z1 q => ?_) w⟩
    obtain ⟨c, e, q⟩ := q
    cases rv with
    | d x =>
      have e' : x = .bool c := by injection e
      subst e'
      intro v I' H' o s r
      cases r
      exact ⟨c, rfl, q I' H' o s⟩
    | n l =>
      have e' : PyData.list l = .bool c := by injection e
      cases e'⟩
/-- an expression that gives True or False, as a test -/
theorem xt_val {t : WE} (h : XE X F a t) (he : ∀ whole, isTrue a X.env whole = (do let v ← whole; standAt a.pos; holding [v] (truthy v)) := by intro _; rfl) : XT X F a (wTest t) :=
  ⟨wTest_mono h.mono, pt_imp (pt_val h.run he) fun σ H Q ⟨z, I, ok, w⟩ => h.at ok w fun x z1 v I' H' ⟨c, e, q⟩ o s ev => by
    subst e
    cases ev
    exact ⟨c, rfl, q I' H' o s⟩⟩
def wAnd (t u : WT) : WT := fun z R => t z fun c z1 => if c = true then u z1 R else R false z1
def wOr (t u : WT) : WT := fun z R => t z fun c z1 => if c = true then R true z1 else u z1 R
def wNot (t : WT) : WT := fun z R => t z fun c z1 => R (!c) z1
theorem wAnd_mono {t u : WT} (h : Mono t) (g : Mono u) : Mono (wAnd t u) := fun z R R' k w => h _ _ _ (fun c z1 q => by
  cases c with
  | true => exact g _ _ _ k q
  | false => exact k _ _ q) w
theorem wOr_mono {t u : WT} (h : Mono t) (g : Mono u) : Mono (wOr t u) := fun z R R' k w => h _ _ _ (fun c z1 q => by
  cases c with
  | true => exact k _ _ q
  | false => exact g _ _ _ k q) w
theorem XW.xt {e : Expr} {t : WT} (h : XW X F e t) : XT X F e t := ⟨h.mono, h.run.pt⟩
variable {t u : WT} {rest : List Expr}
theorem xw_and1 (h : XT X F a t) : XW X F (.BoolOp .And [a] pos) t := ⟨h.mono, pw_imp (pw_and1 h.run) fun _ _ _ q => q⟩
theorem xw_or1 (h : XT X F a t) : XW X F (.BoolOp .Or [a] pos) t := ⟨h.mono, pw_imp (pw_or1 h.run) fun _ _ _ q => q⟩
theorem xw_and (ha : XT X F a t) (hb : XW X F (.BoolOp .And (b :: rest) pos) u) : XW X F (.BoolOp .And (a :: b :: rest) pos) (wAnd t u) :=
  ⟨wAnd_mono ha.mono hb.mono, pw_imp (pw_and ha.run hb.run) fun σ H Q ⟨z, I, ok, w⟩ => ha.at ok w fun c z1 I1 H1 q o s => by
    cases c with
    | true => exact hb.at o q fun c2 z2 I2 H2 q2 o2 s2 => q2 I2 H2 o2 (s.trans s2)
    | false => exact q I1 H1 o s⟩
theorem xw_or (ha : XT X F a t) (hb : XW X F (.BoolOp .Or (b :: rest) pos) u) : XW X F (.BoolOp .Or (a :: b :: rest) pos) (wOr t u) :=
  ⟨wOr_mono ha.mono hb.mono, pw_imp (pw_or ha.run hb.run) fun σ H Q ⟨z, I, ok, w⟩ => ha.at ok w fun c z1 I1 H1 q o s => by
    cases c with
    | true => exact q I1 H1 o s
    | false => exact hb.at o q fun c2 z2 I2 H2 q2 o2 s2 => q2 I2 H2 o2 (s.trans s2)⟩
theorem xt_not (h : XT X F a t) : XT X F (.UnaryOp .Not a pos) (wNot t) :=
  ⟨fun z R R' k w => h.mono _ _ _ (fun c z1 q => k _ _ q) w, pt_imp (pt_not h.run) fun σ H Q ⟨z, I, ok, w⟩ => h.at ok w fun c z1 I1 H1 q o s => q I1 H1 o s⟩
/-- and, or, not as values -/
def wAndV (t u : WE) : WE := fun z R => t z fun x z1 => ∃ c, x = .d (.bool c) ∧ if c = true then u z1 R else R (.d (.bool false)) z1
def wOrV (t u : WE) : WE := fun z R => t z fun x z1 => ∃ c, x = .d (.bool c) ∧ if c = true then R (.d (.bool true)) z1 else u z1 R
def wNotV (t : WE) : WE := fun z R => t z fun x z1 => ∃ c, x = .d (.bool c) ∧ R (.d (.bool (!c))) z1
theorem xe_one {op} (h : XE X F a ta) : XE X F (.BoolOp op [a] pos) ta := ⟨h.mono, pe_imp (pe_one h.run) fun _ _ _ q => q⟩
theorem xe_and (ha : XE X F a ta) (hb : XE X F (.BoolOp .And (b :: rest) pos) tb) : XE X F (.BoolOp .And (a :: b :: rest) pos) (wAndV ta tb) :=
  ⟨fun z R R' k w => ha.mono _ _ _ (fun x z1 ⟨c, e, q⟩ => ⟨c, e, by
    cases c with
    | true => exact hb.mono _ _ _ k q
    | false => exact k _ _ q⟩) w, pe_imp (pe_and ha.run hb.run) fun σ H Q ⟨z, I, ok, w⟩ => ha.at ok w fun x z1 v I1 H1 ⟨c, e, q⟩ o s ev => by
    subst e
    cases ev
    refine ⟨c, rfl, ?_⟩
    cases c with
    | true => exact hb.at o q fun x2 z2 v2 I2 H2 q2 o2 s2 e2 => q2 v2 I2 H2 o2 (s.trans s2) e2
    | false => exact q _ I1 H1 o s (.bl false)⟩
theorem xe_or (ha : XE X F a ta) (hb : XE X F (.BoolOp .Or (b :: rest) pos) tb) : XE X F (.BoolOp .Or (a :: b :: rest) pos) (wOrV ta tb) :=
  ⟨fun z R R' k w => ha.mono _ _ _ (fun x z1 ⟨c, e, q⟩ => ⟨c, e, by
    cases c with
    | true => exact k _ _ q
    | false => exact hb.mono _ _ _ k q⟩) w, pe_imp (pe_or ha.run hb.run) fun σ H Q ⟨z, I, ok, w⟩ => ha.at ok w fun x z1 v I1 H1 ⟨c, e, q⟩ o s ev => by
    subst e
    cases ev
    refine ⟨c, rfl, ?_⟩
    cases c with
    | true => exact q _ I1 H1 o s (.bl true)
    | false => exact hb.at o q fun x2 z2 v2 I2 H2 q2 o2 s2 e2 => q2 v2 I2 H2 o2 (s.trans s2) e2⟩
theorem xe_not (ha : XE X F a ta) : XE X F (.UnaryOp .Not a pos) (wNotV ta) :=
  ⟨fun z R R' k w => ha.mono _ _ _ (fun x z1 ⟨c, e, q⟩ => ⟨c, e, k _ _ q⟩) w, pe_imp (pe_not ha.run) fun σ H Q ⟨z, I, ok, w⟩ => ha.at ok w fun x z1 v I1 H1 ⟨c, e, q⟩ o s ev => by
    subst e
    cases ev
    exact ⟨c, rfl, q _ I1 H1 o s (.bl _)⟩⟩
def wIf (t : WT) (ta tb : WE) : WE := fun z R => t z fun c z1 => if c = true then ta z1 R else tb z1 R
theorem xe_if {c : Expr} (hc : XT X F c t) (ha : XE X F a ta) (hb : XE X F b tb) : XE X F (.IfExp c a b pos) (wIf t ta tb) :=
  ⟨fun z R R' k w => hc.mono _ _ _ (fun c z1 q => by
    cases c with
    | true => exact ha.mono _ _ _ k q
    | false => exact hb.mono _ _ _ k q) w, pe_imp (pe_ifExp hc.run ha.run hb.run) fun σ H Q ⟨z, I, ok, w⟩ => hc.at ok w fun c z1 I1 H1 q o s => by
    cases c with
    | true => exact ha.at o q fun x2 z2 v2 I2 H2 q2 o2 s2 e2 => q2 v2 I2 H2 o2 (s.trans s2) e2
    | false => exact hb.at o q fun x2 z2 v2 I2 H2 q2 o2 s2 e2 => q2 v2 I2 H2 o2 (s.trans s2) e2⟩
/-- a chain of two comparisons -/
def wChain (f g : F2) (ta tb tc : WE) : WE := fun z R => ta z fun x z1 => tb z1 fun y z2 => f z2 x y fun d => ∃ c, d = .d (.bool c) ∧
  if c = true then tc z2 fun w z3 => g z3 y w fun d => R (.d d.toD) z3 else R (.d (.bool false)) z2
end

def wNil : WA := fun z R => R [] z
def wCons (t : WE) (u : WA) : WA := fun z R => t z fun x z1 => u z1 fun xs z2 => R (x :: xs) z2
theorem paired_mono {α β : Type} {A B : α → β → Prop} (h : ∀ a b, A a b → B a b) : ∀ {xs : List α} {ys : List β}, Paired A xs ys → Paired B xs ys
  | _, _, .nil => .nil
  | _, _, .cons r t => .cons (h _ _ r) (paired_mono h t)
section
variable {X : Cx} {F : Fx} {pos : Pos} {e : Expr} {es : List Expr} {t : WE} {u : WA}
theorem xa_nil : XA X F [] wNil := ⟨fun z R R' k w => k _ _ w, pa_imp pa_nil fun σ H Q ⟨z, I, ok, w⟩ => w [] I H ok .refl .nil⟩
theorem xa_cons (ha : XE X F e t) (hr : XA X F es u) (hs : starEach (e :: es) X.env = (false, eval e X.env) :: starEach es X.env := by rfl) : XA X F (e :: es) (wCons t u) :=
  ⟨fun z R R' k w => ha.mono _ _ _ (fun x z1 q => hr.mono _ _ _ (fun xs z2 q => k _ _ q) q) w, pa_imp (pa_cons ha.run hr.run hs) fun σ H Q ⟨z, I, ok, w⟩ =>
    ha.at ok w fun x z1 v I1 H1 q o s ev => hr.at o q fun xs z2 vs I2 H2 q o2 s2 evs => q (v :: vs) I2 H2 o2 (s.trans s2) (.cons (ev.mono s2.imm) evs)⟩
/-- all are data -/
def allD : List EV → Option (List D)
  | [] => some []
  | .d x :: r => (allD r).map (x :: ·)
  | .o _ :: _ => none
theorem allD_ok {K : PySem.W.Frag} {I : Hp} {σ : St} : ∀ {es : List EV} {vs : List V} {ds : List D}, Paired (EvOk K I σ) es vs → allD es = some ds → RpA K I vs ds
  | _, _, _, .nil, h => by cases h; exact .nil
  | _, _, _, .cons (a := .d x) r t, h => by
    unfold allD at h
    obtain ⟨ds, e, rfl⟩ := Option.map_eq_some_iff.mp h
    exact .cons r (allD_ok t e)
  | _, _, _, .cons (a := .o i) r t, h => by cases h
def wTup (u : WA) : WE := fun z R => u z fun es z1 => ∃ ds, allD es = some ds ∧ ds.length ≤ sizeLine ∧ R (.d (.tuple ds)) z1
theorem xe_tup {x1} (h : XA X F es u) : XE X F (.Tuple es x1 pos) (wTup u) :=
  ⟨fun z R R' k w => h.mono _ _ _ (fun es z1 ⟨ds, e, l, q⟩ => ⟨ds, e, l, k _ _ q⟩) w, pe_imp (pe_tupN h.run) fun σ H Q ⟨z, I, ok, w⟩ => h.at ok w fun es z1 vs I1 H1 ⟨ds, e, l, q⟩ o s ev => by
    have r := allD_ok ev e
    refine ⟨by rw [r.length]; exact l, fun p ob hp hd => ?_⟩
    obtain ⟨o2, s2⟩ := o.alloc (.frz ob (.tup vs)) hp
    exact q _ _ _ o2 (s.trans s2) (.tup (TupN.of upd_same hd) (r.mono s2.imm))⟩
end
end L3
namespace L3
open PySem PySem.Spec PyProof.Rows L2 PySem.SeqAt

section
variable {X : Cx} {F : Fx} {σ : St} {z : SS} {I H : Hp} {Q : VK}
/-- a scalar answer -/
theorem PostR.scal {d : D} {v : V} (k : PostR X.K F z σ I H Q (.d d)) (ok : Ok X.K F z σ I H) (r : Rp X.K I v d) : Q v H := k v I H ok .refl r
/-- a new tuple, a new list -/
theorem PostR.tup {ds : List D} {vs : List V} (k : PostR X.K F z σ I H Q (.d (.tuple ds))) (ok : Ok X.K F z σ I H) (r : RpA X.K I vs ds) : NewT H Q vs := fun p ob hp hd => by
  obtain ⟨o2, s2⟩ := ok.alloc (.frz ob (.tup vs)) hp
  exact k _ _ _ o2 s2 (.tup (TupN.of upd_same hd) (r.mono s2.imm))
theorem Ok.newL (ok : Ok X.K F z σ I H) {ds : List D} {vs : List V} {p : Addr} (r : RpA X.K I vs ds) (hp : H p = none) : Ok X.K F z σ I (upd H p (.lst vs)) ∧ Step z σ I H z I (upd H p (.lst vs)) ∧ New X.K F z σ I H (upd H p (.lst vs)) p ds := by
  obtain ⟨o2, s2⟩ := ok.fresh (.lst vs) hp
  exact ⟨o2, s2, hp, ⟨vs, upd_same, r⟩, ok.i0 hp, (ok.h0 hp).1, ok.nown hp⟩
theorem PostR.lst {ds : List D} {vs : List V} {p : Addr} (k : PostR X.K F z σ I H Q (.n ds)) (ok : Ok X.K F z σ I H) (r : RpA X.K I vs ds) (hp : H p = none) : Q (.ref p) (upd H p (.lst vs)) := by
  obtain ⟨o2, s2, n⟩ := ok.newL r hp
  exact k _ _ _ o2 s2 n
end
/-- the lists that stand as data or as own lists -/
def catL (z : SS) (x y : EV) (k : RV → Prop) : Prop := ∃ l m, lstOf z x = some l ∧ lstOf z y = some m ∧ l.length + m.length ≤ sizeLine ∧ k (.n (l ++ m))
def sAdd : F2 := fun z x y k => match x, y with
  | .d (.int i), .d (.int j) => k (.d (.int (i + j)))
  | .d (.str a), .d (.str b) => a.length + b.length ≤ sizeLine ∧ k (.d (.str (a ++ b)))
  | .d (.tuple a), .d (.tuple b) => a.length + b.length ≤ sizeLine ∧ k (.d (.tuple (a ++ b)))
  | x, y => catL z x y k
abbrev rAddX (K : PySem.W.Frag) : R2 := fun x y H Q => ((rI0 fun i j => .int (i + j)) x y H Q ∨ (∃ i j, x = .str i ∧ y = .str j ∧ i.length + j.length ≤ sizeLine ∧ Q (.str (i ++ j)) H)) ∨ (rCat x y H Q ∨ rCatN K x y H Q)
section
variable {X : Cx} {F : Fx}
theorem op_addX : OpR X (binaryOp .Add) (rAddX X.K) := OpR.or (OpR.or op_add op_add_str) (OpR.or op_cat op_catN)
theorem catL_run {σ : St} {z : SS} {I H : Hp} {x y : EV} {vx vy : V} {Q : VK} (ok : Ok X.K F z σ I H) (ex : EvOk X.K I σ x vx) (ey : EvOk X.K I σ y vy) (h : catL z x y (PostR X.K F z σ I H Q)) : rCat vx vy H Q := by
  obtain ⟨l, m, e1, e2, hz, k⟩ := h
  obtain ⟨a, vs, rfl, h1, r1⟩ := ok.lst ex e1
  obtain ⟨b, ws, rfl, h2, r2⟩ := ok.lst ey e2
  exact ⟨a, b, vs, ws, rfl, rfl, h1, h2, by rw [r1.length, r2.length]; exact hz, fun p hp => k.lst ok (r1.append r2) hp⟩
theorem vr_add : VR2 X F (rAddX X.K) sAdd where
  mono := fun z x y k k' h w => by
    unfold sAdd at w ⊢
    split at w
    · exact h _ w
    · exact ⟨w.1, h _ w.2⟩
    · exact ⟨w.1, h _ w.2⟩
    · obtain ⟨l, m, e1, e2, hz, q⟩ := w
      exact ⟨l, m, e1, e2, hz, h _ q⟩
  run := fun {σ z I H x y vx vy Q} ok ex ey w => by
    unfold sAdd at w
    split at w
    · cases ex; cases ey
      exact .inl (.inl ⟨_, _, rfl, rfl, w.scal ok (.int _)⟩)
    · cases ex; cases ey
      exact .inl (.inr ⟨_, _, rfl, rfl, w.1, w.2.scal ok (.str _)⟩)
    · rename_i a b
      cases ex with
      | tup h1 r1 =>
      cases ey with
      | tup h2 r2 =>
      refine .inr (.inr ⟨_, _, _, _, rfl, rfl, same_tup ok.sub h1.sq, same_tup ok.sub h2.sq, by rw [r1.length, r2.length]; exact w.1, fun e => ?_, fun e1 e => ?_, fun e1 e2 => w.2.tup ok (r1.append r2)⟩)
      · subst e
        cases r1
        exact w.2.scal ok (.tup h2 r2)
      · subst e
        cases r2
        have := w.2
        rw [List.append_nil] at this
        exact this.scal ok (.tup h1 r1)
    · exact .inr (.inl (catL_run ok ex ey w))
end
/-- two ints, with a condition -/
def sII (C : Int → Int → Prop) (g : Int → Int → D) : F2 := fun _ x y k => ∃ i j, x = .d (.int i) ∧ y = .d (.int j) ∧ C i j ∧ k (.d (g i j))
def sII0 (g : Int → Int → D) : F2 := fun _ x y k => ∃ i j, x = .d (.int i) ∧ y = .d (.int j) ∧ k (.d (g i j))
section
variable {X : Cx} {F : Fx}
theorem vr_ii {C : Int → Int → Prop} {g : Int → Int → V} {g' : Int → Int → D} (hg : ∀ I i j, Rp X.K I (g i j) (g' i j)) : VR2 X F (rI C g) (sII C g') where
  mono := fun z x y k k' h ⟨i, j, e1, e2, c, q⟩ => ⟨i, j, e1, e2, c, h _ q⟩
  run := fun {σ z I H x y vx vy Q} ok ex ey ⟨i, j, e1, e2, c, w⟩ => by
    subst e1 e2
    cases ex; cases ey
    exact ⟨i, j, rfl, rfl, c, w.scal ok (hg _ _ _)⟩
theorem vr_ii0 {g : Int → Int → V} {g' : Int → Int → D} (hg : ∀ I i j, Rp X.K I (g i j) (g' i j)) : VR2 X F (rI0 g) (sII0 g') where
  mono := fun z x y k k' h ⟨i, j, e1, e2, q⟩ => ⟨i, j, e1, e2, h _ q⟩
  run := fun {σ z I H x y vx vy Q} ok ex ey ⟨i, j, e1, e2, w⟩ => by
    subst e1 e2
    cases ex; cases ey
    exact ⟨i, j, rfl, rfl, w.scal ok (hg _ _ _)⟩
end
abbrev sSub : F2 := sII0 fun i j => .int (i - j)
abbrev sFDiv : F2 := sII CDiv fun i j => .int (i / j)
abbrev sMod : F2 := sII (fun _ j => 0 < j) fun i j => .int (i % j)
abbrev sPow : F2 := sII CPow fun i j => .int (i ^ j.toNat)
abbrev sLt : F2 := sII0 fun i j => .bool (decide (i < j))
abbrev sLe : F2 := sII0 fun i j => .bool (decide (i ≤ j))
abbrev sGt : F2 := sII0 fun i j => .bool (decide (j < i))
abbrev sGe : F2 := sII0 fun i j => .bool (decide (j ≤ i))
/-- *: ints, a list or a tuple times an int -/
def sMul : F2 := fun z x y k => match x, y with
  | .d (.int i), .d (.int j) => CMul i j ∧ k (.d (.int (i * j)))
  | x, .d (.int j) => ∃ l, lstOf z x = some l ∧ -(2 ^ 63) ≤ j ∧ j < 2 ^ 63 ∧ l.length * j.toNat ≤ sizeLine ∧ k (.n (List.replicate j.toNat l).flatten)
  | _, _ => False
section
variable {X : Cx} {F : Fx}
theorem op_mulX : OpR X (binaryOp .Mult) (fun x y H Q => rI CMul (fun i j => .int (i * j)) x y H Q ∨ rRep x y H Q) := OpR.or op_mul op_rep
theorem vr_mul : VR2 X F (fun x y H Q => rI CMul (fun i j => .int (i * j)) x y H Q ∨ rRep x y H Q) sMul where
  mono := fun z x y k k' h w => by
    unfold sMul at w ⊢
    split at w
    · exact ⟨w.1, h _ w.2⟩
    · obtain ⟨l, e, a, b, c, q⟩ := w
      exact ⟨l, e, a, b, c, h _ q⟩
    · exact w
  run := fun {σ z I H x y vx vy Q} ok ex ey w => by
    unfold sMul at w
    split at w
    · cases ex; cases ey
      exact .inl ⟨_, _, rfl, rfl, w.1, w.2.scal ok (.int _)⟩
    · obtain ⟨l, e, a, b, c, q⟩ := w
      obtain ⟨p, vs, rfl, h1, r1⟩ := ok.lst ex e
      cases ey
      exact .inr ⟨p, _, vs, rfl, rfl, h1, a, b, by rw [r1.length]; exact c, fun p hp => q.lst ok (r1.rep _) hp⟩
    · exact w.elim
end
theorem _root_.L2.Room.far {k : Nat} {A : Around} (r : L2.Room k A) (h : 30 ≤ k) : A.units + 640 < cLine := by have := r.un; omega
def sEqG (f : Bool → Bool) : F2 := fun z x y k => ∃ a b, evD z x = some a ∧ evD z y = some b ∧ a.plain = true ∧ b.plain = true ∧ min a.depth b.depth ≤ 600 ∧ k (.d (.bool (f (PyData.eqv a b))))
abbrev sEq : F2 := sEqG id
abbrev sNe : F2 := sEqG not
def rEqP (K : PySem.W.Frag) (f : Bool → Bool) : R2 := fun x y H Q => ∃ a b, Rp K H x a ∧ Rp K H y b ∧ a.plain = true ∧ b.plain = true ∧ min a.depth b.depth ≤ 600 ∧ Q (.bl (f (PyData.eqv a b))) H
/-- a text's signs in another; an item in a list or a tuple -/
def inD (x y : D) (f : Bool → Bool) (k : Bool → Prop) : Prop := match y with
  | .str t => ∃ u, x = .str u ∧ k (f (!(Builtin.Str.occurrences t u 0 t.length 1).isEmpty))
  | .list l => PyData.plainAll l = true ∧ x.plain = true ∧ min (PyData.depthAll l) x.depth ≤ 600 ∧ k (f (l.any fun y => PyData.eqv y x))
  | .tuple l => PyData.plainAll l = true ∧ x.plain = true ∧ min (PyData.depthAll l) x.depth ≤ 600 ∧ k (f (l.any fun y => PyData.eqv y x))
  | _ => False
def sInG (f : Bool → Bool) : F2 := fun z x y k => ∃ a b, evD z x = some a ∧ evD z y = some b ∧ inD a b f fun c => k (.d (.bool c))
abbrev sIn : F2 := sInG id
abbrev sNotIn : F2 := sInG not
def rInP (K : PySem.W.Frag) (f : Bool → Bool) : R2 := fun x y H Q => ∃ a b, Rp K H x a ∧ Rp K H y b ∧ inD a b f fun c => Q (.bl c) H
section
variable {X : Cx} {F : Fx} {A : Around}
theorem op_eqP (hu : X.A.units + 640 < cLine) : OpR X (compareOp .Eq) (rEqP X.K id) := by
  intro pins s σ H x y v u Q I rx ry h
  obtain ⟨d, e, hd, he, pd, pe, m, q⟩ := h
  obtain ⟨as, r1⟩ := hd.reads I v pd rx
  obtain ⟨bs, r2⟩ := he.reads I u pe ry
  exact eq_plain r1 r2 pd pe (by omega) ⟨.bl _, H, I, rfl, q⟩
theorem op_neP (hu : X.A.units + 640 < cLine) : OpR X (compareOp .NotEq) (rEqP X.K not) := by
  intro pins s σ H x y v u Q I rx ry h
  obtain ⟨d, e, hd, he, pd, pe, m, q⟩ := h
  obtain ⟨as, r1⟩ := hd.reads I v pd rx
  obtain ⟨bs, r2⟩ := he.reads I u pe ry
  exact ne_plain r1 r2 pd pe (by omega) ⟨.bl _, H, I, rfl, q⟩
theorem vr_eq {f : Bool → Bool} : VR2 X F (rEqP X.K f) (sEqG f) where
  mono := fun z x y k k' h ⟨a, b, e1, e2, p1, p2, m, q⟩ => ⟨a, b, e1, e2, p1, p2, m, h _ q⟩
  run := fun {σ z I H x y vx vy Q} ok ex ey ⟨a, b, e1, e2, p1, p2, m, w⟩ => ⟨a, b, ok.ev ex e1, ok.ev ey e2, p1, p2, m, w.scal ok (.bl _)⟩
theorem op_inP (hu : X.A.units + 640 < cLine) : OpR X (compareOp .In) (rInP X.K id) := by
  intro pins s σ H x y v u Q I rx ry h
  obtain ⟨d, e, hd, he, q⟩ := h
  unfold inD at q
  split at q
  · obtain ⟨w, rfl, q⟩ := q
    cases hd; cases he
    obtain ⟨t, rfl⟩ := rx
    obtain ⟨t', rfl⟩ := ry
    exact in_str (fin_bl I q rfl)
  · obtain ⟨pl, pd, m, q⟩ := q
    obtain ⟨as, r1⟩ := hd.reads I v pd rx
    obtain ⟨bs, r2⟩ := he.reads I u (by simpa [PyData.plain] using pl) ry
    exact in_list_data r2 r1 pl pd (by omega) ⟨.bl _, H, I, rfl, q⟩
  · obtain ⟨pl, pd, m, q⟩ := q
    obtain ⟨as, r1⟩ := hd.reads I v pd rx
    obtain ⟨bs, r2⟩ := he.reads I u (by simpa [PyData.plain] using pl) ry
    exact in_tuple_data r2 r1 pl pd (by omega) ⟨.bl _, H, I, rfl, q⟩
  · exact q.elim
theorem op_notinP (hu : X.A.units + 640 < cLine) : OpR X (compareOp .NotIn) (rInP X.K not) := by
  intro pins s σ H x y v u Q I rx ry h
  obtain ⟨d, e, hd, he, q⟩ := h
  unfold inD at q
  split at q
  · obtain ⟨w, rfl, q⟩ := q
    cases hd; cases he
    exact op_notin_str pins s σ H _ _ v u Q I rx ry ⟨_, _, rfl, rfl, q⟩
  · obtain ⟨pl, pd, m, q⟩ := q
    obtain ⟨as, r1⟩ := hd.reads I v pd rx
    obtain ⟨bs, r2⟩ := he.reads I u (by simpa [PyData.plain] using pl) ry
    exact notIn_list_data r2 r1 pl pd (by omega) ⟨.bl _, H, I, rfl, q⟩
  · obtain ⟨pl, pd, m, q⟩ := q
    obtain ⟨as, r1⟩ := hd.reads I v pd rx
    obtain ⟨bs, r2⟩ := he.reads I u (by simpa [PyData.plain] using pl) ry
    exact notIn_tuple_data r2 r1 pl pd (by omega) ⟨.bl _, H, I, rfl, q⟩
  · exact q.elim
theorem inD_mono {x y : D} {f : Bool → Bool} {k k' : Bool → Prop} (h : ∀ c, k c → k' c) (w : inD x y f k) : inD x y f k' := by
  unfold inD at w ⊢
  split at w
  · exact ⟨_, w.choose_spec.1, h _ w.choose_spec.2⟩
  · exact ⟨w.1, w.2.1, w.2.2.1, h _ w.2.2.2⟩
  · exact ⟨w.1, w.2.1, w.2.2.1, h _ w.2.2.2⟩
  · exact w
theorem vr_in {f : Bool → Bool} : VR2 X F (rInP X.K f) (sInG f) where
  mono := fun z x y k k' h ⟨a, b, e1, e2, q⟩ => ⟨a, b, e1, e2, inD_mono (fun c => h _) q⟩
  run := fun {σ z I H x y vx vy Q} ok ex ey ⟨a, b, e1, e2, w⟩ => ⟨a, b, ok.ev ex e1, ok.ev ey e2, inD_mono (fun c q => PostR.scal q ok (.bl _)) w⟩
/-- is None, is not None -/
def isNone : D → Bool
  | .none => true
  | _ => false
def sIsN (f : Bool → Bool) : F2 := fun z x y k => y = .d .none ∧ ∃ a, evD z x = some a ∧ k (.d (.bool (f (isNone a))))
theorem rp_non {K : PySem.W.Frag} {H : Hp} {v : V} {a : D} (r : Rp K H v a) : decide (v = .non) = isNone a := by
  cases r <;> rfl
theorem vr_isN : VR2 X F (fun x y H Q => y = .non ∧ Q (.bl (decide (x = .non))) H) (sIsN id) where
  mono := fun z x y k k' h ⟨e, a, e1, q⟩ => ⟨e, a, e1, h _ q⟩
  run := fun {σ z I H x y vx vy Q} ok ex ey ⟨e, a, e1, w⟩ => by
    subst e
    cases ey
    exact ⟨rfl, by rw [rp_non (ok.ev ex e1)]; exact w.scal ok (.bl _)⟩
theorem vr_notN : VR2 X F (fun x y H Q => y = .non ∧ Q (.bl (!decide (x = .non))) H) (sIsN not) where
  mono := fun z x y k k' h ⟨e, a, e1, q⟩ => ⟨e, a, e1, h _ q⟩
  run := fun {σ z I H x y vx vy Q} ok ex ey ⟨e, a, e1, w⟩ => by
    subst e
    cases ey
    exact ⟨rfl, by rw [rp_non (ok.ev ex e1)]; exact w.scal ok (.bl _)⟩
/-- is True, is False -/
def sIsB (f : Bool → Bool) : F2 := fun z x y k => ∃ a b, x = .d (.bool a) ∧ y = .d (.bool b) ∧ k (.d (.bool (f (decide (a = b)))))
theorem vr_isB : VR2 X F rIsB (sIsB id) where
  mono := fun z x y k k' h ⟨a, b, e1, e2, q⟩ => ⟨a, b, e1, e2, h _ q⟩
  run := fun {σ z I H x y vx vy Q} ok ex ey ⟨a, b, e1, e2, w⟩ => by
    subst e1 e2
    cases ex; cases ey
    exact ⟨a, b, rfl, rfl, w.scal ok (.bl _)⟩
end
def sIx : F2 := fun z x y k => ∃ i, y = .d (.int i) ∧ ((∃ l d, seqOf z x = some l ∧ atI l i = some d ∧ k (.d d)) ∨ (∃ t c, x = .d (.str t) ∧ t.length ≤ sizeLine ∧ atI t.cps.toList i = some c ∧ k (.d (.str ⟨#[c]⟩))))
theorem atI_rp {K : PySem.W.Frag} {I : Hp} {vs : List V} {l : List D} {i : Int} {d : D} (r : RpA K I vs l) (h : atI l i = some d) : ∃ v, atI vs i = some v ∧ Rp K I v d := by
  unfold atI at h ⊢
  rw [r.length]
  obtain ⟨j, e1, e2⟩ := Option.bind_eq_some_iff.mp h
  obtain ⟨v, e3, q⟩ := r.get e2
  exact ⟨v, by rw [e1]; exact e3, q⟩
section
variable {X : Cx} {F : Fx}
theorem vr_ix : VR2 X F (rIx X.K) sIx where
  mono := fun z x y k k' h ⟨i, e, q⟩ => ⟨i, e, by
    rcases q with ⟨l, d, e1, e2, q⟩ | ⟨t, c, e1, e2, e3, q⟩
    · exact .inl ⟨l, d, e1, e2, h _ q⟩
    · exact .inr ⟨t, c, e1, e2, e3, h _ q⟩⟩
  run := fun {σ z I H x y vx vy Q} ok ex ey ⟨i, e, w⟩ => by
    subst e
    cases ey
    rcases w with ⟨l, d, e1, e2, q⟩ | ⟨t, c, e1, e2, e3, q⟩
    · obtain ⟨a, vs, rfl, hq, r⟩ := ok.seq ex e1
      obtain ⟨v, e3, rv⟩ := atI_rp r e2
      rcases hq with hq | hq
      · exact .inl ⟨a, vs, i, v, rfl, rfl, hq, e3, q.scal ok rv⟩
      · exact .inr (.inl ⟨a, vs, i, v, rfl, rfl, hq, e3, q.scal ok rv⟩)
    · subst e1
      cases ex
      exact .inr (.inr ⟨t, i, c, rfl, rfl, e2, e3, q.scal ok (.str _)⟩)
theorem xe_ix {a b : Expr} {ta tb : WE} {pos : Pos} (ha : XE X F a ta) (hb : XE X F b tb) (hs : PlainIx b := by intro _ _; rfl) : XE X F (.Subscript a b pos) (wBin sIx ta tb) :=
  XR.xe ⟨wBinR_mono (X := X) (F := F) vr_ix ha.mono hb.mono, pe_imp (pe_ix ix_seq ha.run hb.run hs) (bin_runR vr_ix ha hb)⟩
end
/-- a slice's bounds on a list -/
def cutD {α : Type} (xs : List α) (lo hi : Option Int) : List α := (xs.drop (HT.sIx xs.length 0 lo)).take (HT.sIx xs.length xs.length hi - HT.sIx xs.length 0 lo)
def cutT (t : Str) (lo hi : Option Int) : Str := cutS t lo hi
/-- a slice's part -/
abbrev WO := SS → (Option Int → SS → Prop) → Prop
def liftO (K : PySem.W.Frag) (F : Fx) (t : WO) : TO := fun σ H Q => ∃ z I, Ok K F z σ I H ∧ t z fun o z' => ∀ I' H', Ok K F z' σ I' H' → Step z σ I H z' I' H' → Q o H'
structure XO (X : Cx) (F : Fx) (e : Option Expr) (t : WO) : Prop where
  mono : Mono t
  run : PO X e (liftO X.K F t)
def wNoPart : WO := fun z R => R none z
def wPart (t : WE) : WO := fun z R => t z fun x z1 => ∃ i, x = .d (.int i) ∧ R (some i) z1
theorem po_imp {X : Cx} {e : Option Expr} {t t' : TO} (h : PO X e t) (i : ∀ σ H Q, t' σ H Q → t σ H Q) : PO X e t' := ⟨fun pins s σ H Q I q => h.run pins s σ H Q I (i σ H Q q)⟩
section
variable {X : Cx} {F : Fx} {e : Expr} {t : WE}
theorem xo_none : XO X F none wNoPart := ⟨fun z R R' k w => k _ _ w, po_imp po_none fun σ H Q ⟨z, I, ok, w⟩ => w I H ok .refl⟩
theorem xo_some (h : XE X F e t) : XO X F (some e) (wPart t) := ⟨fun z R R' k w => h.mono _ _ _ (fun x z1 ⟨i, e, q⟩ => ⟨i, e, k _ _ q⟩) w, po_imp (po_some h.run) fun σ H Q ⟨z, I, ok, w⟩ => h.at ok w fun x z1 v I1 H1 ⟨i, e, q⟩ o s ev => by
  subst e
  cases ev
  exact ⟨i, rfl, q I1 H1 o s⟩⟩
theorem RpA.cut {K : PySem.W.Frag} {I : Hp} {vs : List V} {ds : List D} (r : RpA K I vs ds) (lo hi : Option Int) : RpA K I (cutV vs lo hi) (cutD ds lo hi) := by
  unfold cutV cutD
  rw [r.length]
  exact (r.drop _).take _
def sSl : SS → EV → Option Int → Option Int → (RV → Prop) → Prop := fun z x lo hi k => match evD z x with
  | some (.str t) => t.length ≤ sizeLine ∧ k (.d (.str (cutT t lo hi)))
  | some (.tuple l) => k (.d (.tuple (cutD l lo hi)))
  | some (.list l) => k (.n (cutD l lo hi))
  | _ => False
def wSl (te : WE) (tl th : WO) : WR := fun z R => te z fun x z1 => tl z1 fun lo z2 => th z2 fun hi z3 => sSl z3 x lo hi fun d => R d z3
theorem sSl_mono {z : SS} {x : EV} {lo hi : Option Int} {k k' : RV → Prop} (h : ∀ d, k d → k' d) (w : sSl z x lo hi k) : sSl z x lo hi k' := by
  unfold sSl at w ⊢
  split at w
  · exact ⟨w.1, h _ w.2⟩
  · exact h _ w
  · exact h _ w
  · exact w
theorem cutD_all {α : Type} {xs : List α} {lo hi : Option Int} (h : HT.sIx xs.length 0 lo = 0 ∧ HT.sIx xs.length xs.length hi = xs.length) : cutD xs lo hi = xs := by
  unfold cutD
  rw [h.1, h.2, List.drop_zero, Nat.sub_zero, List.take_length]
theorem xr_sl {lo hi : Option Expr} {tl th : WO} {p2 pos : Pos} (he : XE X F e t) (hl : XO X F lo tl) (hu : XO X F hi th) : XR X F (.Subscript e (.Slice lo hi none p2) pos) (wSl t tl th) where
  mono := fun z R R' k w => he.mono _ _ _ (fun x z1 w => hl.mono _ _ _ (fun lo z2 w => hu.mono _ _ _ (fun hi z3 w => sSl_mono (fun d q => k _ _ q) w) w) w) w
  run := pe_imp (pe_slice (SlR.or sl_str (SlR.or sl_tupN sl_list)) he.run hl.run hu.run) fun σ H Q ⟨z, I, ok, w⟩ => he.at ok w fun x z1 v I1 H1 wa o1 s1 ev =>
    ⟨z1, I1, o1, hl.mono _ _ _ (fun lo z2 wb I2 H2 o2 s2 => ⟨z2, I2, o2, hu.mono _ _ _ (fun hi z3 w I3 H3 o3 s3 => by
      have ev3 := (ev.mono s2.imm).mono s3.imm
      have s13 := s1.trans (s2.trans s3)
      unfold sSl at w
      split at w
      · rename_i t e
        have r := o3.ev ev3 e
        cases r
        exact .inl ⟨t, rfl, w.1, w.2 _ _ _ o3 s13 (.str _)⟩
      · rename_i l e
        have hx : x = .d (.tuple l) := by
          cases x with
          | d y => exact congrArg EV.d (Option.some.inj e)
          | o i => rcases evD_o e with ⟨_, _, _, _, h⟩ | ⟨_, _, _, _, h⟩ <;> cases h
        subst hx
        cases ev3 with
        | tup hq r =>
        refine .inr (.inl ⟨_, _, rfl, same_tup o3.sub hq.sq, fun hw => ?_, fun _ p ob hp hd => ?_⟩)
        · have e2 : cutD l lo hi = l := cutD_all (by rw [← r.length]; exact hw)
          rw [e2] at w
          exact w _ _ _ o3 s13 (.tup hq r)
        · obtain ⟨o4, s4⟩ := o3.alloc (.frz ob (.tup (cutV _ lo hi))) hp
          exact w _ _ _ o4 (s13.trans s4) (.tup (TupN.of upd_same hd) ((r.cut lo hi).mono s4.imm))
      · rename_i l e
        have hx : lstOf z3 x = some l := lst_of_ev e
        obtain ⟨a, vs, rfl, hq, r⟩ := o3.lst ev3 hx
        refine .inr (.inr ⟨a, vs, rfl, SqL.of hq, fun p hp => ?_⟩)
        obtain ⟨o4, s4, n⟩ := o3.newL (r.cut lo hi) hp
        exact w _ _ _ o4 (s13.trans s4) (n.back s13)
      · exact w.elim) wb⟩) wa⟩
end
end L3
namespace L3
open PySem PySem.Spec PyProof.Rows L2 PySem.SeqAt

section
variable {X : Cx} {F : Fx} {pos : Pos} {es : List Expr} {u : WA}
def wLst (u : WA) : WR := fun z R => u z fun es z1 => ∃ ds, allD es = some ds ∧ ds.length ≤ sizeLine ∧ R (.n ds) z1
theorem xr_lst (h : XA X F es u) : XR X F (.List es pos) (wLst u) :=
  ⟨fun z R R' k w => h.mono _ _ _ (fun es z1 ⟨ds, e, l, q⟩ => ⟨ds, e, l, k _ _ q⟩) w, pe_imp (pe_lst h.run) fun σ H Q ⟨z, I, ok, w⟩ => h.at ok w fun es z1 vs I1 H1 ⟨ds, e, l, q⟩ o s ev => by
    have r := allD_ok ev e
    refine ⟨by rw [r.length]; exact l, fun p hp => ?_⟩
    obtain ⟨o2, s2, n⟩ := o.newL r hp
    exact q _ _ _ o2 (s.trans s2) (n.back s)⟩
end
abbrev FC := SS → List EV → (RV → Prop) → Prop
structure VC (X : Cx) (F : Fx) (r : List V → Hp → VK → Prop) (f : FC) : Prop where
  mono : ∀ z xs k k', (∀ d, k d → k' d) → f z xs k → f z xs k'
  run : ∀ {σ : St} {z : SS} {I H : Hp} {xs : List EV} {vs : List V} {Q : VK}, Ok X.K F z σ I H → Paired (EvOk X.K I σ) xs vs → f z xs (PostR X.K F z σ I H Q) → r vs H Q
def wCB (f : FC) (u : WA) : WR := fun z R => u z fun es z1 => f z1 es fun r => R r z1
section
variable {X : Cx} {F : Fx} {pos p : Pos} {e : Expr} {es : List Expr} {u : WA} {f : FC} {r : List V → Hp → VK → Prop} {bid T : String} {x : Str}
theorem wCB_mono (hf : VC X F r f) (hu : Mono u) : Mono (wCB f u) := fun z R R' k w => hu _ _ _ (fun es z1 q => hf.mono _ _ _ _ (fun d q => k _ _ q) q) w
theorem cb_run (hf : VC X F r f) (ha : XA X F es u) : ∀ σ H Q, liftR X.K F (wCB f u) σ H Q → tCB r (liftA X.K F u) σ H Q := fun σ H Q ⟨z, I, ok, w⟩ =>
  ha.at ok w fun es z1 vs I1 H1 q o s ev => hf.run o ev (hf.mono _ _ _ _ (fun d q => PostR.of s q) q)
theorem xr_callB (hc : CallR X (.builtin bid) r) (hf : VC X F r f) (hg : Gl X x) (hm : X.mg x = none) (hv : bootBuiltins x = some (.builtin bid)) (ha : XA X F (e :: es) u) (hn : x ≠ "__name__" := by decide) (hdb : (x == ("__debug__" : Str)) = false := by decide)
    (he : starEach (e :: es) X.env = (false, eval e X.env) :: starEach es X.env := by rfl) (hpl : (backTo pos (starEach es X.env)).any (·.1) = false := by rfl) : XR X F (.Call (.Name x p) (e :: es) [] pos) (wCB f u) :=
  ⟨wCB_mono hf ha.mono, pe_imp (pe_callB hc hg hm hv ha.run hn hdb he hpl) (cb_run hf ha)⟩
theorem xr_callT (hc : CallR X (.type T) r) (hf : VC X F r f) (hg : Gl X x) (hm : X.mg x = none) (hv : bootBuiltins x = some (.type T)) (ha : XA X F (e :: es) u) (hn : x ≠ "__name__" := by decide) (hdb : (x == ("__debug__" : Str)) = false := by decide)
    (he : starEach (e :: es) X.env = (false, eval e X.env) :: starEach es X.env := by rfl) (hpl : (backTo pos (starEach es X.env)).any (·.1) = false := by rfl) : XR X F (.Call (.Name x p) (e :: es) [] pos) (wCB f u) :=
  ⟨wCB_mono hf ha.mono, pe_imp (pe_callTy hc hg hm hv ha.run hn hdb he hpl) (cb_run hf ha)⟩
/-- one argument -/
def f1 (g : SS → EV → (RV → Prop) → Prop) : FC := fun z xs k => ∃ x, xs = [x] ∧ g z x k
def f2 (g : SS → EV → EV → (RV → Prop) → Prop) : FC := fun z xs k => ∃ x y, xs = [x, y] ∧ g z x y k
theorem vc_1 {g : SS → EV → (RV → Prop) → Prop} (hm : ∀ z x k k', (∀ d, k d → k' d) → g z x k → g z x k')
    (h : ∀ {σ : St} {z : SS} {I H : Hp} {x : EV} {v : V} {Q : VK}, Ok X.K F z σ I H → EvOk X.K I σ x v → g z x (PostR X.K F z σ I H Q) → r [v] H Q) : VC X F r (f1 g) where
  mono := fun z xs k k' i ⟨x, e, q⟩ => ⟨x, e, hm _ _ _ _ i q⟩
  run := fun {σ z I H xs vs Q} ok ev ⟨x, e, q⟩ => by
    subst e
    cases ev with
    | cons e1 t =>
      cases t
      exact h ok e1 q
theorem vc_2 {g : SS → EV → EV → (RV → Prop) → Prop} (hm : ∀ z x y k k', (∀ d, k d → k' d) → g z x y k → g z x y k')
    (h : ∀ {σ : St} {z : SS} {I H : Hp} {x y : EV} {v w : V} {Q : VK}, Ok X.K F z σ I H → EvOk X.K I σ x v → EvOk X.K I σ y w → g z x y (PostR X.K F z σ I H Q) → r [v, w] H Q) : VC X F r (f2 g) where
  mono := fun z xs k k' i ⟨x, y, e, q⟩ => ⟨x, y, e, hm _ _ _ _ _ i q⟩
  run := fun {σ z I H xs vs Q} ok ev ⟨x, y, e, q⟩ => by
    subst e
    cases ev with
    | cons e1 t =>
      cases t with
      | cons e2 t =>
        cases t
        exact h ok e1 e2 q
/-- len -/
def sLen : SS → EV → (RV → Prop) → Prop := fun z x k => (∃ l, seqOf z x = some l ∧ k (.d (.int l.length))) ∨ (∃ t : Str, x = .d (.str t) ∧ t.length ≤ sizeLine ∧ k (.d (.int t.length))) ∨ (∃ l, x = .d (.dict [(.none, .list l)]) ∧ k (.d (.int l.length)))
theorem vc_len : VC X F (fun xs H Q => (∃ p ys, xs = [.ref p] ∧ (SqL X.K H p ys ∨ SqT X.K H p ys) ∧ Q (.int ys.length) H) ∨ (∃ z, xs = [.str z] ∧ z.length ≤ sizeLine ∧ Q (.int z.length) H)) (f1 sLen) :=
  vc_1 (fun z x k k' h w => by
    rcases w with ⟨l, e, q⟩ | ⟨t, e, l, q⟩ | ⟨l, e, q⟩
    · exact .inl ⟨l, e, h _ q⟩
    · exact .inr (.inl ⟨t, e, l, h _ q⟩)
    · exact .inr (.inr ⟨l, e, h _ q⟩)) fun {σ z I H x v Q} ok ev w => by
    rcases w with ⟨l, e, q⟩ | ⟨t, e, l, q⟩ | ⟨l, e, q⟩
    · obtain ⟨a, vs, rfl, hq, r⟩ := ok.seq ev e
      exact .inl ⟨a, vs, rfl, hq, by rw [r.length]; exact q.scal ok (.int _)⟩
    · subst e
      cases ev
      exact .inr ⟨t, rfl, l, q.scal ok (.int _)⟩
    · subst e
      cases ev with
      | scr hq r => exact .inl ⟨_, _, rfl, .inl (ok.sub.seq hq), by rw [r.length]; exact q.scal ok (.int _)⟩
      | dct _ r => exact (no_dk r).elim
theorem xe_len (hg : Gl X "len") (hm : X.mg "len" = none) (ha : XA X F [e] u) (he : starEach [e] X.env = (false, eval e X.env) :: starEach [] X.env := by rfl) : XE X F (.Call (.Name "len" p) [e] [] pos) (wFrz (wCB (f1 sLen) u)) :=
  (xr_callB (CallR.or call_len_seq call_len_str) vc_len hg hm PySem.boot_len ha (he := he)).xe
/-- abs, int, max, min of two ints -/
def sAbs : SS → EV → (RV → Prop) → Prop := fun z x k => ∃ i, x = .d (.int i) ∧ k (.d (.int (if i < 0 then -i else i)))
theorem vc_abs : VC X F (fun xs H Q => ∃ i, xs = [.int i] ∧ Q (.int (if i < 0 then -i else i)) H) (f1 sAbs) :=
  vc_1 (fun z x k k' h ⟨i, e, q⟩ => ⟨i, e, h _ q⟩) fun {σ z I H x v Q} ok ev ⟨i, e, q⟩ => by
    subst e
    cases ev
    exact ⟨i, rfl, q.scal ok (.int _)⟩
theorem xe_abs (hg : Gl X "abs") (hm : X.mg "abs" = none) (ha : XA X F [e] u) (he : starEach [e] X.env = (false, eval e X.env) :: starEach [] X.env := by rfl) : XE X F (.Call (.Name "abs" p) [e] [] pos) (wFrz (wCB (f1 sAbs) u)) :=
  (xr_callB call_abs vc_abs hg hm (by decide +kernel) ha (he := he)).xe
def sInt : SS → EV → (RV → Prop) → Prop := fun z x k => (∃ i, x = .d (.int i) ∧ k (.d (.int i))) ∨ ∃ b : Bool, x = .d (.bool b) ∧ k (.d (.int (if b then 1 else 0)))
theorem vc_int : VC X F (fun xs H Q => (∃ i, xs = [.int i] ∧ Q (.int i) H) ∨ ∃ k, xs = [.bl k] ∧ Q (.int (if k then 1 else 0)) H) (f1 sInt) :=
  vc_1 (fun z x k k' h w => w.elim (fun ⟨i, e, q⟩ => .inl ⟨i, e, h _ q⟩) fun ⟨b, e, q⟩ => .inr ⟨b, e, h _ q⟩) fun {σ z I H x v Q} ok ev w => by
    rcases w with ⟨i, e, q⟩ | ⟨b, e, q⟩
    · subst e
      cases ev
      exact .inl ⟨i, rfl, q.scal ok (.int _)⟩
    · subst e
      cases ev
      exact .inr ⟨b, rfl, q.scal ok (.int _)⟩
theorem xe_intc (hg : Gl X "int") (hm : X.mg "int" = none) (ha : XA X F [e] u) (he : starEach [e] X.env = (false, eval e X.env) :: starEach [] X.env := by rfl) : XE X F (.Call (.Name "int" p) [e] [] pos) (wFrz (wCB (f1 sInt) u)) :=
  (xr_callT call_int1 vc_int hg hm (by decide +kernel) ha (he := he)).xe
def sMax : SS → EV → EV → (RV → Prop) → Prop := fun z x y k => ∃ i j, x = .d (.int i) ∧ y = .d (.int j) ∧ k (.d (.int (if j > i then j else i)))
def sMin : SS → EV → EV → (RV → Prop) → Prop := fun z x y k => ∃ i j, x = .d (.int i) ∧ y = .d (.int j) ∧ k (.d (.int (if j < i then j else i)))
theorem vc_max : VC X F (fun xs H Q => ∃ i j, xs = [.int i, .int j] ∧ Q (.int (if j > i then j else i)) H) (f2 sMax) :=
  vc_2 (fun z x y k k' h ⟨i, j, e1, e2, q⟩ => ⟨i, j, e1, e2, h _ q⟩) fun {σ z I H x y v w Q} ok ev ew ⟨i, j, e1, e2, q⟩ => by
    subst e1 e2
    cases ev; cases ew
    exact ⟨i, j, rfl, q.scal ok (.int _)⟩
theorem xe_max2 {e' : Expr} (hc : X.calm = true) (hg : Gl X "max") (hm : X.mg "max" = none) (ha : XA X F [e, e'] u) (he : starEach [e, e'] X.env = (false, eval e X.env) :: starEach [e'] X.env := by rfl) (hpl : (backTo pos (starEach [e'] X.env)).any (·.1) = false := by rfl) :
    XE X F (.Call (.Name "max" p) [e, e'] [] pos) (wFrz (wCB (f2 sMax) u)) := (xr_callB (call_max2 hc) vc_max hg hm (by decide +kernel) ha (he := he) (hpl := hpl)).xe
/-- sum of a list of ints; all, any of a list of bools -/
def sSum : SS → EV → (RV → Prop) → Prop := fun z x k => ∃ ns : List Int, lstOf z x = some (ns.map PyData.int) ∧ k (.d (.int ns.sum))
def sAll : SS → EV → (RV → Prop) → Prop := fun z x k => ∃ bs : List Bool, lstOf z x = some (bs.map PyData.bool) ∧ k (.d (.bool (bs.all id)))
def sAny : SS → EV → (RV → Prop) → Prop := fun z x k => ∃ bs : List Bool, lstOf z x = some (bs.map PyData.bool) ∧ k (.d (.bool (bs.any id)))
theorem vc_sum : VC X F (rSum X.K) (f1 sSum) :=
  vc_1 (fun z x k k' h ⟨ns, e, q⟩ => ⟨ns, e, h _ q⟩) fun {σ z I H x v Q} ok ev ⟨ns, e, q⟩ => by
    obtain ⟨a, vs, rfl, hq, r⟩ := ok.lst ev e
    rw [r.ints] at hq
    exact ⟨a, ns, rfl, SqL.of hq, q.scal ok (.int _)⟩
theorem vc_all : VC X F (rAll X.K) (f1 sAll) :=
  vc_1 (fun z x k k' h ⟨ns, e, q⟩ => ⟨ns, e, h _ q⟩) fun {σ z I H x v Q} ok ev ⟨ns, e, q⟩ => by
    obtain ⟨a, vs, rfl, hq, r⟩ := ok.lst ev e
    rw [r.bls] at hq
    exact ⟨a, ns, rfl, SqL.of hq, q.scal ok (.bl _)⟩
theorem vc_any : VC X F (rAny X.K) (f1 sAny) :=
  vc_1 (fun z x k k' h ⟨ns, e, q⟩ => ⟨ns, e, h _ q⟩) fun {σ z I H x v Q} ok ev ⟨ns, e, q⟩ => by
    obtain ⟨a, vs, rfl, hq, r⟩ := ok.lst ev e
    rw [r.bls] at hq
    exact ⟨a, ns, rfl, SqL.of hq, q.scal ok (.bl _)⟩
theorem xe_sum (hc : X.calm = true) (hg : Gl X "sum") (hm : X.mg "sum" = none) (ha : XA X F [e] u) (he : starEach [e] X.env = (false, eval e X.env) :: starEach [] X.env := by rfl) : XE X F (.Call (.Name "sum" p) [e] [] pos) (wFrz (wCB (f1 sSum) u)) := (xr_callB (cr_sum hc) vc_sum hg hm (by decide +kernel) ha (he := he)).xe
theorem xe_all (hc : X.calm = true) (hg : Gl X "all") (hm : X.mg "all" = none) (ha : XA X F [e] u) (he : starEach [e] X.env = (false, eval e X.env) :: starEach [] X.env := by rfl) : XE X F (.Call (.Name "all" p) [e] [] pos) (wFrz (wCB (f1 sAll) u)) := (xr_callB (cr_all hc) vc_all hg hm (by decide +kernel) ha (he := he)).xe
theorem xe_any (hc : X.calm = true) (hg : Gl X "any") (hm : X.mg "any" = none) (ha : XA X F [e] u) (he : starEach [e] X.env = (false, eval e X.env) :: starEach [] X.env := by rfl) : XE X F (.Call (.Name "any" p) [e] [] pos) (wFrz (wCB (f1 sAny) u)) := (xr_callB (cr_any hc) vc_any hg hm (by decide +kernel) ha (he := he)).xe
/-- list(xs), tuple(xs) of a list or a tuple (or of the script) -/
def sListOf : SS → EV → (RV → Prop) → Prop := fun z x k => (∃ l, seqOf z x = some l ∧ k (.n l)) ∨ (∃ l, x = .d (.dict [(.none, .list l)]) ∧ k (.n l))
theorem vc_list : VC X F (fun xs H Q => ∃ p ys, xs = [.ref p] ∧ (SqL X.K H p ys ∨ SqT X.K H p ys) ∧ ∀ l, H l = none → Q (.ref l) (upd H l (.lst ys))) (f1 sListOf) :=
  vc_1 (fun z x k k' h w => by
    rcases w with ⟨l, e, q⟩ | ⟨l, e, q⟩
    · exact .inl ⟨l, e, h _ q⟩
    · exact .inr ⟨l, e, h _ q⟩) fun {σ z I H x v Q} ok ev w => by
    rcases w with ⟨l, e, q⟩ | ⟨l, e, q⟩
    · obtain ⟨a, vs, rfl, hq, r⟩ := ok.seq ev e
      exact ⟨a, vs, rfl, hq, fun p hp => q.lst ok r hp⟩
    · subst e
      cases ev with
      | scr hq r => exact ⟨_, _, rfl, .inl (ok.sub.seq hq), fun p hp => q.lst ok r hp⟩
      | dct _ r => exact (no_dk r).elim
theorem xr_list (hg : Gl X "list") (hm : X.mg "list" = none) (ha : XA X F [e] u) (he : starEach [e] X.env = (false, eval e X.env) :: starEach [] X.env := by rfl) : XR X F (.Call (.Name "list" p) [e] [] pos) (wCB (f1 sListOf) u) := xr_callT call_list_of vc_list hg hm (by decide +kernel) ha (he := he)
def sTupOf : SS → EV → (RV → Prop) → Prop := fun z x k => ∃ l, seqOf z x = some l ∧ k (.d (.tuple l))
theorem vc_tup : VC X F (fun xs H Q => ∃ p ys, xs = [.ref p] ∧ ((SqL X.K H p ys ∧ NewT H Q ys) ∨ (SqT X.K H p ys ∧ Q (.ref p) H))) (f1 sTupOf) :=
  vc_1 (fun z x k k' h ⟨l, e, q⟩ => ⟨l, e, h _ q⟩) fun {σ z I H x v Q} ok ev ⟨l, e, q⟩ => by
    cases hl : lstOf z x with
    | some m =>
      have em : m = l := lst_seq hl e
      subst em
      obtain ⟨a, vs, rfl, hq, r⟩ := ok.lst ev hl
      exact ⟨a, vs, rfl, .inl ⟨SqL.of hq, q.tup ok r⟩⟩
    | none =>
      cases x with
      | d y =>
        cases y <;> simp [lstOf, seqOf, evD] at hl e
        subst e
        cases ev with
        | tup hq r => exact ⟨_, _, rfl, .inr ⟨same_tup ok.sub hq.sq, q.scal ok (.tup hq r)⟩⟩
      | o i =>
        rw [seq_o e] at hl
        cases hl
theorem xe_tuple (hg : Gl X "tuple") (hm : X.mg "tuple" = none) (ha : XA X F [e] u) (he : starEach [e] X.env = (false, eval e X.env) :: starEach [] X.env := by rfl) : XE X F (.Call (.Name "tuple" p) [e] [] pos) (wFrz (wCB (f1 sTupOf) u)) := (xr_callT call_tupleN vc_tup hg hm (by decide +kernel) ha (he := he)).xe
end
def tyName : D → String
  | .none => "NoneType"
  | .bool _ => "bool"
  | .int _ => "int"
  | .str _ => "str"
  | .list _ => "list"
  | .tuple _ => "tuple"
  | .dict _ => "dict"
def isA (T : String) (d : D) : Bool := match d with
  | .none => false
  | .bool _ => T == "bool" || T == "int"
  | .int _ => T == "int"
  | .str _ => T == "str"
  | .list _ => T == "list"
  | .tuple _ => T == "tuple"
  | .dict _ => T == "dict"
def KitOk (T : String) : Prop := ∀ n ∈ ["NoneType", "bool", "int", "str", "list", "tuple", "dict"], kitB n T = some (match n with
  | "NoneType" => false | "bool" => T == "bool" || T == "int" | n => T == n)
instance : Decidable (KitOk T) := by unfold KitOk; infer_instance
theorem kit_d {T : String} (h : KitOk T) (d : D) : kitB (tyName d) T = some (isA T d) := by
  cases d <;> exact h _ (by simp [tyName])
theorem kit_int : KitOk "int" := by decide +kernel
theorem kit_bool : KitOk "bool" := by decide +kernel
theorem kit_str : KitOk "str" := by decide +kernel
theorem kit_list : KitOk "list" := by decide +kernel
theorem kit_tuple : KitOk "tuple" := by decide +kernel
theorem rp_ty {K : PySem.W.Frag} {H : Hp} {v : V} {d : D} (r : Rp K H v d) (hn : ∀ l, d ≠ .dict [(.none, l)]) : TyX K H v (.type (tyName d)) := by
  cases r with
  | non => exact .base .non
  | bl b => exact .base (.bl b)
  | int i => exact .base (.int i)
  | str x => exact .base (.str x)
  | lst e _ => exact .base (.lst e)
  | wtu e _ => exact absurd rfl (hn _)
  | tup e _ =>
    rcases e.sq with (e | ⟨o, e⟩) | ⟨o, its, n, e, c, _⟩
    · exact .base (.tup e)
    · exact .fTuple e
    · exact .kTuple e c
  | dct e _ => exact .base (.dK e)
  | scr e r => exact absurd rfl (hn _)
  | exc a => exact absurd rfl (hn _)
def wIsa (T : String) (t : WE) : WE := fun z R => t z fun x z1 => ∃ d, evD z1 x = some d ∧ (∀ l, d ≠ .dict [(.none, l)]) ∧ R (.d (.bool (isA T d))) z1
theorem xe_isa {X : Cx} {F : Fx} {pos p p2 : Pos} {e : Expr} {t : WE} {T : Str} {n : String} (hk : KitOk n) (hg : Gl X "isinstance") (hm : X.mg "isinstance" = none) (he : XE X F e t) (hT : Gl X T) (hTm : X.mg T = none) (hTv : bootBuiltins T = some (.type n))
    (h1 : starEach [e, .Name T p2] X.env = (false, eval e X.env) :: starEach [.Name T p2] X.env := by rfl) (hpl : (backTo pos (starEach [.Name T p2] X.env)).any (·.1) = false := by rfl) (hn : T ≠ "__name__" := by decide) (hd : (T == ("__debug__" : Str)) = false := by decide) :
    XE X F (.Call (.Name "isinstance" p) [e, .Name T p2] [] pos) (wIsa n t) where
  mono := fun z R R' k w => he.mono _ _ _ (fun x z1 ⟨d, e, n, q⟩ => ⟨d, e, n, k _ _ q⟩) w
  run := pe_imp (pe_callB call_isi hg hm (by decide +kernel) (pa_cons he.run (pa_cons (pe_bltn hT hTm hTv (show RelV (.ty n) (.type n) from rfl) hn hd) pa_nil) h1) (he := h1) (hpl := hpl)) fun σ H Q ⟨z, I, ok, w⟩ =>
    he.at ok w fun x z1 v I1 H1 ⟨d, e, hn, q⟩ o s ev => ⟨v, .ty n, .type (tyName d), .type n, isA n d, rfl, .ty n, rp_ty (o.ev ev e) hn, kit_ty (kit_d hk d), q _ I1 H1 o s (.bl _)⟩

def tyE (T : String) (z : SS) (x : EV) : Prop := (T = "list" ∧ ∃ l, lstOf z x = some l) ∨ (T = "str" ∧ ∃ t, x = .d (.str t))
abbrev FM := SS → EV → List EV → (RV → SS → Prop) → Prop
structure VM (X : Cx) (F : Fx) (r : V → List V → Hp → VK → Prop) (f : FM) : Prop where
  mono : ∀ z x xs k k', (∀ d z', k d z' → k' d z') → f z x xs k → f z x xs k'
  run : ∀ {σ : St} {z : SS} {I H : Hp} {x : EV} {v : V} {xs : List EV} {vs : List V} {Q : VK}, Ok X.K F z σ I H → EvOk X.K I σ x v → Paired (EvOk X.K I σ) xs vs → f z x xs (PostX X.K F z σ I H Q) → r v vs H Q
def wBM (T : String) (f : FM) (t : WE) (u : WA) : WR := fun z R => t z fun x z1 => tyE T z1 x ∧ u z1 fun xs z2 => f z2 x xs R
def wBM0 (T : String) (f : FM) (t : WE) : WR := fun z R => t z fun x z1 => tyE T z1 x ∧ f z1 x [] R
theorem PostX.step {K : PySem.W.Frag} {F : Fx} {z z1 z' : SS} {σ : St} {I I1 H H1 : Hp} {Q : VK} {r : RV} (s : Step z σ I H z1 I1 H1) (k : PostX K F z σ I H Q r z') : PostX K F z1 σ I1 H1 Q r z' := by
  cases r with
  | d x => exact fun v I' H' o t r => k v I' H' o (s.trans t) r
  | n l => exact fun a I' H' o t n => k a I' H' o (s.trans t) (n.back s)
section
variable {X : Cx} {F : Fx} {pos apos : Pos} {o e : Expr} {es : List Expr} {t : WE} {u : WA} {f : FM} {r : V → List V → Hp → VK → Prop} {id T : String} {name : Str}
theorem tyE_ok {z : SS} {σ : St} {I H : Hp} {x : EV} {v : V} (ok : Ok X.K F z σ I H) (ev : EvOk X.K I σ x v) (h : tyE T z x) : tyV X.K T v H := by
  rcases h with ⟨rfl, l, e⟩ | ⟨rfl, s, e⟩
  · obtain ⟨a, vs, rfl, hq, _⟩ := ok.lst ev e
    exact .inl ⟨rfl, vs, SqL.of hq⟩
  · subst e
    cases ev
    exact rfl
theorem xr_bm0 (pa : PlainAttrs T) (slot : Slot T name id) (hty : typeOf (.builtin id) = pure (.type "method_descriptor")) (hm : MtR X id r) (hf : VM X F r f) (ho : XE X F o t)
    (hbase : attributeBase o name X.env (eval o X.env) = eval o X.env := by rfl) (hline : (apos.endLine == pos.line) = true := by rfl) : XR X F (.Call (.Attribute o name apos) [] [] pos) (wBM0 T f t) :=
  ⟨fun z R R' k w => ho.mono _ _ _ (fun x z1 ⟨ty, q⟩ => ⟨ty, hf.mono _ _ _ _ _ k q⟩) w, pe_imp (pe_bm0 pa slot hty hm ho.run hbase hline) fun σ H Q ⟨z, I, ok, w⟩ =>
    ho.at ok w fun x z1 v I1 H1 ⟨ty, q⟩ o s ev => ⟨tyE_ok o ev ty, hf.run o ev .nil (hf.mono _ _ _ _ _ (fun d z' q => PostX.step s q) q)⟩⟩
theorem xr_bm (pa : PlainAttrs T) (slot : Slot T name id) (hty : typeOf (.builtin id) = pure (.type "method_descriptor")) (hm : MtR X id r) (hf : VM X F r f) (ho : XE X F o t) (ha : XA X F (e :: es) u)
    (hbase : attributeBase o name X.env (eval o X.env) = eval o X.env := by rfl) (hfew : ((backTo pos (starEach (e :: es) X.env)).all (fun x => !x.1) && (backToKw pos (keywordEach [] X.env)).all (fun x => x.1.isSome) && decide ((e :: es).length + ([] : List Keyword).length + (if ([] : List Keyword).isEmpty then 0 else 1) < 30)) = true := by rfl)
    (hline : (apos.endLine == pos.line) = true := by rfl) (hs : starEach (e :: es) X.env = (false, eval e X.env) :: starEach es X.env := by rfl) (hplain : (backTo pos (starEach es X.env)).any (·.1) = false := by rfl) :
    XR X F (.Call (.Attribute o name apos) (e :: es) [] pos) (wBM T f t u) :=
  ⟨fun z R R' k w => ho.mono _ _ _ (fun x z1 ⟨ty, q⟩ => ⟨ty, ha.mono _ _ _ (fun xs z2 q => hf.mono _ _ _ _ _ k q) q⟩) w, pe_imp (pe_bm pa slot hty hm ho.run ha.run hbase hfew hline hs hplain) fun σ H Q ⟨z, I, ok, w⟩ =>
    ho.at ok w fun x z1 v I1 H1 ⟨ty, q⟩ o s ev => ⟨tyE_ok o ev ty, ha.at o q fun xs z2 vs I2 H2 q o2 s2 evs => hf.run o2 (ev.mono s2.imm) evs (hf.mono _ _ _ _ _ (fun d z' q => PostX.step (s.trans s2) q) q)⟩⟩
end
/-- the own list of a slot is changed -/
theorem Ok.mutate {K : PySem.W.Frag} {F : Fx} {z : SS} {σ : St} {I H : Hp} {i : Nat} {b : Option Nat} {l l' : List D} {a : Addr} {ob : HO} (ok : Ok K F z σ I H) (h : z[i]? = some (some (.own b l))) (ha : σ[i]? = some (some (.ref a))) (r : ObO K I b l' ob) :
    Ok K F (z.set i (some (.own b l'))) σ I (upd H a ob) ∧ Step z σ I H (z.set i (some (.own b l'))) I (upd H a ob) := by
  obtain ⟨a', ws, e1, e2, e3, r0, tg⟩ := ok.own i b l h
  rw [ha] at e1; cases e1
  have hlt : i < z.length := (List.getElem?_eq_some_iff.mp h).1
  have gs : ∀ (j : Nat) (x : Option S), (z.set i (some (.own b l')))[j]? = some x → (j = i ∧ x = some (.own b l')) ∨ (j ≠ i ∧ z[j]? = some x) := fun j x e => by
    by_cases hj : j = i
    · subst hj; rw [List.getElem?_set_self hlt] at e; exact .inl ⟨rfl, (Option.some.inj e).symm⟩
    · rw [List.getElem?_set_ne (Ne.symm hj)] at e; exact .inr ⟨hj, e⟩
  refine ⟨⟨by rw [List.length_set]; exact ok.len, fun j d e => ?_, fun j b' m e => ?_, fun j k b1 b2 m1 m2 c e f g1 g2 => ?_, fun c o e => ?_, ok.base, ok.new, fun c o e hw => ?_, fun c hw => ?_⟩, fun _ _ e => e, fun _ _ e => .inl e, fun c o e hn => ?_, fun j b' m e => ?_, fun c e => ?_⟩
  · rcases gs j _ e with ⟨_, q⟩ | ⟨_, q⟩
    · cases q
    · exact ok.val j d q
  · rcases gs j _ e with ⟨rfl, q⟩ | ⟨hj, q⟩
    · cases q
      exact ⟨a, ob, ha, upd_same, e3, r, tg⟩
    · obtain ⟨c, us, f1, f2, f3, f4, f5⟩ := ok.own j b' m q
      refine ⟨c, us, f1, ?_, f3, f4, f5⟩
      rw [upd_ne]; exact f2
      rintro rfl
      exact hj (ok.dis _ _ _ _ _ _ _ q h f1 ha)
  · have back : ∀ (j : Nat) (b' : Option Nat) (m : List D), (z.set i (some (.own b l')))[j]? = some (some (.own b' m)) → ∃ b2 m2, z[j]? = some (some (.own b2 m2)) := fun j b' m e => by
      rcases gs j _ e with ⟨rfl, q⟩ | ⟨_, q⟩
      · exact ⟨b, l, h⟩
      · exact ⟨b', m, q⟩
    obtain ⟨_, _, q1⟩ := back j _ _ e
    obtain ⟨_, _, q2⟩ := back k _ _ f
    exact ok.dis j k _ _ _ _ c q1 q2 g1 g2
  · have ne : c ≠ a := fun q => by subst q; rw [e3] at e; cases e
    rw [upd_ne ne]; exact ok.sub c o e
  · have ne : c ≠ a := fun q => by
      subst q
      unfold Tag at tg
      split at tg
      · exact hw (List.mem_of_getElem? tg)
      · rw [tg] at e; cases e
    rw [upd_ne ne]; exact ok.keep c o e hw
  · obtain ⟨f1, f2, us, f3⟩ := ok.wf c hw
    refine ⟨f1, f2, ?_⟩
    by_cases q : c = a
    · subst q
      rcases r with ⟨_, vs, rfl, _⟩ | ⟨hb, _⟩
      · exact ⟨vs, upd_same⟩
      · unfold Tag at tg
        split at tg
        · rename_i et
          rw [tag_dk hb] at et
          cases et
        · exact absurd tg f2
    · exact ⟨us, by rw [upd_ne q]; exact f3⟩
  · have ne : c ≠ a := fun q => hn ⟨i, b, l, h, by rw [ha, q]⟩
    rw [upd_ne ne]; exact e
  · rcases gs j _ e with ⟨rfl, q⟩ | ⟨_, q⟩
    · cases q; exact ⟨l, h⟩
    · exact ⟨m, q⟩
  · by_cases q : c = a
    · subst q; rw [upd_same] at e; cases e
    · rw [upd_ne q] at e; exact e
def mAppend : FM := fun z x xs k => ∃ i b l d, x = .o i ∧ xs = [.d d] ∧ z[i]? = some (some (.own b l)) ∧ (dkB b = false ∧ l.length < sizeLine) ∧ k (.d .none) (z.set i (some (.own b (l ++ [d]))))
def mExtend : FM := fun z x xs k => ∃ i b l y m, x = .o i ∧ xs = [y] ∧ z[i]? = some (some (.own b l)) ∧ lstOf z y = some m ∧ (dkB b = false ∧ l.length + m.length ≤ sizeLine) ∧ k (.d .none) (z.set i (some (.own b (l ++ m))))
def mPop : FM := fun z x xs k => ∃ i b l d, x = .o i ∧ xs = [] ∧ z[i]? = some (some (.own b l)) ∧ (dkB b = false ∧ l[l.length - 1]? = some d) ∧ k (.d d) (z.set i (some (.own b l.dropLast)))
section
variable {X : Cx} {F : Fx}
theorem vm_append : VM X F rAppend mAppend where
  mono := fun z x xs k k' h ⟨i, b, l, d, e1, e2, e3, e4, q⟩ => ⟨i, b, l, d, e1, e2, e3, e4, h _ _ q⟩
  run := fun {σ z I H x v xs vs Q} ok ev evs ⟨i, b, l, d, e1, e2, e3, e4, q⟩ => by
    subst e1 e2
    cases evs with
    | cons e5 t =>
      cases t
      obtain ⟨a, ws, f1, f2, f3, r, tg⟩ := ok.ownL e3 e4.1
      rw [show σ[i]? = some (some v) from ev] at f1; cases f1
      obtain ⟨o2, s2⟩ := ok.mutate e3 ev (.inl ⟨e4.1, _, rfl, r.append (.cons (show Rp X.K I _ d from e5) .nil)⟩)
      exact ⟨a, ws, _, rfl, rfl, f2, by rw [r.length]; exact e4.2, q _ _ _ o2 s2 .non⟩
theorem vm_extend : VM X F rExtend mExtend where
  mono := fun z x xs k k' h ⟨i, b, l, y, m, e1, e2, e3, e4, e5, q⟩ => ⟨i, b, l, y, m, e1, e2, e3, e4, e5, h _ _ q⟩
  run := fun {σ z I H x v xs vs Q} ok ev evs ⟨i, b, l, y, m, e1, e2, e3, e4, e5, q⟩ => by
    subst e1 e2
    cases evs with
    | cons e6 t =>
      cases t
      obtain ⟨a, ws, f1, f2, f3, r, tg⟩ := ok.ownL e3 e5.1
      rw [show σ[i]? = some (some v) from ev] at f1; cases f1
      obtain ⟨c, us, rfl, g2, r2⟩ := ok.lst e6 e4
      obtain ⟨o2, s2⟩ := ok.mutate e3 ev (.inl ⟨e5.1, _, rfl, r.append r2⟩)
      exact ⟨a, c, ws, us, rfl, rfl, f2, g2, by rw [r.length, r2.length]; exact e5.2, q _ _ _ o2 s2 .non⟩
theorem vm_pop : VM X F rPop mPop where
  mono := fun z x xs k k' h ⟨i, b, l, d, e1, e2, e3, e4, q⟩ => ⟨i, b, l, d, e1, e2, e3, e4, h _ _ q⟩
  run := fun {σ z I H x v xs vs Q} ok ev evs ⟨i, b, l, d, e1, e2, e3, e4, q⟩ => by
    subst e1 e2
    cases evs
    obtain ⟨a, ws, f1, f2, f3, r, tg⟩ := ok.ownL e3 e4.1
    rw [show σ[i]? = some (some v) from ev] at f1; cases f1
    obtain ⟨o2, s2⟩ := ok.mutate e3 ev (.inl ⟨e4.1, _, rfl, r.dropLast⟩)
    obtain ⟨y, g1, g2⟩ := r.get e4.2
    exact ⟨a, ws, y, rfl, rfl, f2, by rw [r.length]; exact g1, q _ _ _ o2 s2 g2⟩
variable {pos apos : Pos} {o e : Expr} {t : WE} {u : WA}
theorem xr_append (ho : XE X F o t) (ha : XA X F [e] u) (hbase : attributeBase o "append" X.env (eval o X.env) = eval o X.env := by rfl) (hfew : ((backTo pos (starEach [e] X.env)).all (fun x => !x.1) && (backToKw pos (keywordEach [] X.env)).all (fun x => x.1.isSome)
      && decide ([e].length + ([] : List Keyword).length + (if ([] : List Keyword).isEmpty then 0 else 1) < 30)) = true := by rfl) (hline : (apos.endLine == pos.line) = true := by rfl) (hs : starEach [e] X.env = (false, eval e X.env) :: starEach [] X.env := by rfl) : XR X F (.Call (.Attribute o "append" apos) [e] [] pos) (wBM "list" mAppend t u) :=
  xr_bm PySem.F.plainAttrs_list PySem.F.slot_list_append PySem.F.type_list_append mt_append vm_append ho ha (hbase := hbase) (hfew := hfew) (hline := hline) (hs := hs)
theorem xr_extend (ho : XE X F o t) (ha : XA X F [e] u) (hbase : attributeBase o "extend" X.env (eval o X.env) = eval o X.env := by rfl) (hfew : ((backTo pos (starEach [e] X.env)).all (fun x => !x.1) && (backToKw pos (keywordEach [] X.env)).all (fun x => x.1.isSome)
      && decide ([e].length + ([] : List Keyword).length + (if ([] : List Keyword).isEmpty then 0 else 1) < 30)) = true := by rfl) (hline : (apos.endLine == pos.line) = true := by rfl) (hs : starEach [e] X.env = (false, eval e X.env) :: starEach [] X.env := by rfl) : XR X F (.Call (.Attribute o "extend" apos) [e] [] pos) (wBM "list" mExtend t u) :=
  xr_bm PySem.F.plainAttrs_list PySem.F.slot_list_extend PySem.F.type_list_extend mt_extend vm_extend ho ha (hbase := hbase) (hfew := hfew) (hline := hline) (hs := hs)
theorem xr_pop (ho : XE X F o t) (hbase : attributeBase o "pop" X.env (eval o X.env) = eval o X.env := by rfl) (hline : (apos.endLine == pos.line) = true := by rfl) : XR X F (.Call (.Attribute o "pop" apos) [] [] pos) (wBM0 "list" mPop t) :=
  xr_bm0 PySem.F.plainAttrs_list PySem.F.slot_list_pop PySem.F.type_list_pop mt_pop vm_pop ho hbase hline
end
end L3
namespace L3
open PySem PySem.Spec PyProof.Rows L2 PySem.SeqAt

section
variable {K : PySem.W.Frag} {F : Fx} {z : SS} {σ : St} {I H : Hp}
theorem get_set {α : Type} {l : List α} {i j : Nat} {x y : α} (h : (l.set i x)[j]? = some y) : (j = i ∧ y = x ∧ i < l.length) ∨ (j ≠ i ∧ l[j]? = some y) := by
  by_cases hj : j = i
  · subst hj
    by_cases hl : j < l.length
    · rw [List.getElem?_set_self hl] at h; exact .inl ⟨rfl, (Option.some.inj h).symm, hl⟩
    · rw [List.getElem?_eq_none (by rw [List.length_set]; omega)] at h; cases h
  · rw [List.getElem?_set_ne (Ne.symm hj)] at h; exact .inr ⟨hj, h⟩
/-- a slot is given a datum -/
theorem Ok.set (ok : Ok K F z σ I H) {i : Nat} {v : V} {d : D} (r : Rp K I v d) : Ok K F (z.set i (some (.val d))) (σ.set i (some v)) I H := by
  refine ⟨by simp [ok.len], fun j x e => ?_, fun j b l e => ?_, fun j k b b' l l' a e f g h => ?_, ok.sub, ok.base, ok.new, ok.keep, ok.wf⟩
  · rcases get_set e with ⟨rfl, q, hl⟩ | ⟨hj, q⟩
    · cases q
      exact ⟨v, by rw [List.getElem?_set_self (by rw [← ok.len]; exact hl)], r⟩
    · obtain ⟨w, e2, r2⟩ := ok.val j x q
      exact ⟨w, by rw [List.getElem?_set_ne (Ne.symm hj)]; exact e2, r2⟩
  · rcases get_set e with ⟨rfl, q, hl⟩ | ⟨hj, q⟩
    · cases q
    · obtain ⟨a, vs, e2, r2⟩ := ok.own j b l q
      exact ⟨a, vs, by rw [List.getElem?_set_ne (Ne.symm hj)]; exact e2, r2⟩
  · rcases get_set e with ⟨rfl, q, hl⟩ | ⟨hj, q⟩
    · cases q
    rcases get_set f with ⟨rfl, q', hl⟩ | ⟨hk, q'⟩
    · cases q'
    rw [List.getElem?_set_ne (Ne.symm hj)] at g
    rw [List.getElem?_set_ne (Ne.symm hk)] at h
    exact ok.dis j k b b' l l' a q q' g h
/-- a slot is forgotten -/
theorem Ok.kill (ok : Ok K F z σ I H) (i : Nat) : Ok K F (z.set i none) σ I H := by
  have back : ∀ (j : Nat) (x : S), (z.set i none)[j]? = some (some x) → z[j]? = some (some x) := fun j x e => by
    rcases get_set e with ⟨rfl, q, hl⟩ | ⟨hj, q⟩
    · cases q
    · exact q
  exact ⟨by simp [ok.len], fun j x e => ok.val j x (back _ _ e), fun j b l e => ok.own j b l (back _ _ e), fun j k b b' l l' a e f g h => ok.dis j k b b' l l' a (back _ _ e) (back _ _ f) g h, ok.sub, ok.base, ok.new, ok.keep, ok.wf⟩
/-- the same slots, other places: those that z does not know may be anything -/
theorem Ok.slots {σ' : St} (ok : Ok K F z σ I H) (hl : σ'.length = σ.length) (h : ∀ (i : Nat) (s : S), z[i]? = some (some s) → σ'[i]? = σ[i]?) : Ok K F z σ' I H := by
  refine ⟨by rw [ok.len, hl], fun j x e => ?_, fun j b l e => ?_, fun j k b b' l l' a e f g g' => ?_, ok.sub, ok.base, ok.new, ok.keep, ok.wf⟩
  · rw [h j _ e]; exact ok.val j x e
  · rw [h j _ e]; exact ok.own j b l e
  · rw [h j _ e] at g; rw [h k _ f] at g'
    exact ok.dis j k b b' l l' a e f g g'
/-- a slot is given a new list of its own -/
theorem Ok.setOwnO (ok : Ok K F z σ I H) {i : Nat} {a : Addr} {b0 : Option Nat} {ob : HO} {l : List D} (ha : H a = some ob) (r : ObO K I b0 l ob) (hi : I a = none) (h0 : Tag F b0 a) (hn : ¬ IsOwn z σ a) : Ok K F (z.set i (some (.own b0 l))) (σ.set i (some (.ref a))) I H := by
  refine ⟨by simp [ok.len], fun j x e => ?_, fun j b m e => ?_, fun j k b b' m m' c e f g h => ?_, ok.sub, ok.base, ok.new, ok.keep, ok.wf⟩
  · rcases get_set e with ⟨rfl, q, hl⟩ | ⟨hj, q⟩
    · cases q
    · obtain ⟨w, e2, r2⟩ := ok.val j x q
      exact ⟨w, by rw [List.getElem?_set_ne (Ne.symm hj)]; exact e2, r2⟩
  · rcases get_set e with ⟨rfl, q, hl⟩ | ⟨hj, q⟩
    · cases q
      exact ⟨a, ob, by rw [List.getElem?_set_self (by rw [← ok.len]; exact hl)], ha, hi, r, h0⟩
    · obtain ⟨c, ws, e2, r2⟩ := ok.own j b m q
      exact ⟨c, ws, by rw [List.getElem?_set_ne (Ne.symm hj)]; exact e2, r2⟩
  · rcases get_set e with ⟨rfl, q, hl⟩ | ⟨hj, q⟩
    · rcases get_set f with ⟨rfl, q', hl'⟩ | ⟨hk, q'⟩
      · rfl
      · rw [List.getElem?_set_self (by rw [← ok.len]; exact hl)] at g
        rw [List.getElem?_set_ne (Ne.symm hk)] at h
        cases g
        exact absurd ⟨k, _, _, q', h⟩ hn
    · rw [List.getElem?_set_ne (Ne.symm hj)] at g
      rcases get_set f with ⟨rfl, q', hl'⟩ | ⟨hk, q'⟩
      · rw [List.getElem?_set_self (by rw [← ok.len]; exact hl')] at h
        cases h
        exact absurd ⟨j, _, _, q, g⟩ hn
      · rw [List.getElem?_set_ne (Ne.symm hk)] at h
        exact ok.dis j k b b' m m' c q q' g h
theorem Ok.setOwn (ok : Ok K F z σ I H) {i : Nat} {a : Addr} {vs : List V} {l : List D} (ha : H a = some (.lst vs)) (r : RpA K I vs l) (hi : I a = none) (h0 : F.H0 a = none) (hn : ¬ IsOwn z σ a) : Ok K F (z.set i (some (.own none l))) (σ.set i (some (.ref a))) I H :=
  ok.setOwnO ha (.inl ⟨rfl, vs, rfl, r⟩) hi h0 hn
end

structure En where
  nx : SS → Prop
  rt : RV → SS → Prop
  bk : SS → Prop := fun _ => False
  ct : SS → Prop := fun _ => False
structure En.le (E E' : En) : Prop where
  nx : ∀ z, E.nx z → E'.nx z
  rt : ∀ r z, E.rt r z → E'.rt r z
  bk : ∀ z, E.bk z → E'.bk z
  ct : ∀ z, E.ct z → E'.ct z
abbrev WS := En → SS → Prop
def MonoS (t : WS) : Prop := ∀ E E' z, E.le E' → t E z → t E' z
/-- a new list that goes out -/
structure Out (K : PySem.W.Frag) (F : Fx) (z : SS) (σ : St) (I H : Hp) (a : Addr) (l : List D) : Prop where
  at_ : ∃ vs, H a = some (.lst vs) ∧ RpA K I vs l
  imm : I a = none
  h0 : F.H0 a = none
  nown : ¬ IsOwn z σ a
def RtOf (K : PySem.W.Frag) (F : Fx) (I : Hp) (Q : VK) : RV → SS → Prop
  | .d d, z => ∀ v σ I' H, Ok K F z σ I' H → Same I I' → Rp K I' v d → Q v H
  | .n l, z => ∀ a σ I' H, Ok K F z σ I' H → Same I I' → Out K F z σ I' H a l → Q (.ref a) H
def NxOf (K : PySem.W.Frag) (F : Fx) (I : Hp) (Q : St → Hp → Prop) : SS → Prop := fun z => ∀ σ I' H, Ok K F z σ I' H → Same I I' → Q σ H
def endsOf (K : PySem.W.Frag) (F : Fx) (I : Hp) (D : Ends) : En := ⟨NxOf K F I D.nx, RtOf K F I D.rt, NxOf K F I D.bk, NxOf K F I D.ct⟩
def liftS (K : PySem.W.Frag) (F : Fx) (t : WS) : TS := fun D σ H => ∃ z I, Ok K F z σ I H ∧ t (endsOf K F I D) z
structure XS (X : Cx) (F : Fx) (st : Stmt) (t : WS) : Prop where
  mono : MonoS t
  run : PS X st (liftS X.K F t)
structure XSs (X : Cx) (F : Fx) (st : List Stmt) (t : WS) : Prop where
  mono : MonoS t
  run : PSs X st (liftS X.K F t)
theorem ps_imp {X : Cx} {e : Stmt} {t t' : TS} (h : PS X e t) (i : ∀ D σ H, t' D σ H → t D σ H) : PS X e t' := ⟨fun pins s σ H D I q => h.run pins s σ H D I (i D σ H q)⟩
theorem pss_imp {X : Cx} {e : List Stmt} {t t' : TS} (h : PSs X e t) (i : ∀ D σ H, t' D σ H → t D σ H) : PSs X e t' := ⟨fun pins s σ H D I q => h.run pins s σ H D I (i D σ H q)⟩
section
variable {K : PySem.W.Frag} {F : Fx} {I I' : Hp}
theorem NxOf.later {Q : St → Hp → Prop} {z : SS} (s : Same I I') (h : NxOf K F I Q z) : NxOf K F I' Q z := fun σ I2 H ok t => h σ I2 H ok (s.trans t)
theorem RtOf.later {Q : VK} {r : RV} {z : SS} (s : Same I I') (h : RtOf K F I Q r z) : RtOf K F I' Q r z := by
  cases r with
  | d x => exact fun v σ I2 H ok t r => h v σ I2 H ok (s.trans t) r
  | n l => exact fun a σ I2 H ok t o => h a σ I2 H ok (s.trans t) o
theorem endsOf.later {D : Ends} (s : Same I I') : (endsOf K F I D).le (endsOf K F I' D) := ⟨fun _ h => h.later s, fun _ _ h => h.later s, fun _ h => h.later s, fun _ h => h.later s⟩
theorem En.le.refl {E : En} : E.le E := ⟨fun _ h => h, fun _ _ h => h, fun _ h => h, fun _ h => h⟩
end
section
variable {X : Cx} {F : Fx} {st : Stmt} {rest : List Stmt} {t u : WS} {pos : Pos} {e : Expr} {te : WE} {tr : WR}
theorem XS.at {z : SS} {σ : St} {I I0 H : Hp} {E : En} {D : Ends} (h : XS X F st t) (ok : Ok X.K F z σ I H) (w : t E z) (le : E.le (endsOf X.K F I D)) : liftS X.K F t D σ H := ⟨z, I, ok, h.mono _ _ _ le w⟩
def wNext : WS := fun E z => E.nx z
def wSeq (t u : WS) : WS := fun E z => t { E with nx := fun z' => u E z' } z
theorem xss_nil : XSs X F [] wNext := ⟨fun E E' z l w => l.nx z w, pss_imp pss_nil fun D σ H ⟨z, I, ok, w⟩ => w σ I H ok (Same.refl _)⟩
theorem xss_one (h : XS X F st t) : XSs X F [st] t := ⟨h.mono, pss_imp (pss_one h.run) fun D σ H w => w⟩
theorem xss_cons (h : XS X F st t) (g : XSs X F rest u) : XSs X F (st :: rest) (wSeq t u) :=
  ⟨fun E E' z l w => h.mono { E with nx := fun z' => u E z' } _ _ ⟨fun z' w => g.mono _ _ _ l w, l.rt, l.bk, l.ct⟩ w, pss_imp (pss_cons h.run g.run) fun D σ H ⟨z, I, ok, w⟩ =>
    ⟨z, I, ok, h.mono { endsOf X.K F I D with nx := fun z' => u (endsOf X.K F I D) z' } _ _ ⟨fun z' w σ' I' H' ok' s => ⟨z', I', ok', g.mono _ _ _ (endsOf.later s) w⟩, fun _ _ q => q, fun _ q => q, fun _ q => q⟩ w⟩⟩
theorem xs_never : XS X F st (fun _ _ => False) := ⟨fun _ _ _ _ w => w, ps_imp ps_never fun D σ H ⟨z, I, ok, w⟩ => w⟩
/-- slots forgotten behind a statement -/
def killAll : List Nat → SS → SS
  | [], z => z
  | i :: r, z => killAll r (z.set i none)
theorem Ok.killAll {K : PySem.W.Frag} {σ : St} {I H : Hp} : ∀ {is : List Nat} {z : SS}, Ok K F z σ I H → Ok K F (killAll is z) σ I H
  | [], _, ok => ok
  | i :: r, _, ok => Ok.killAll (is := r) (ok.kill i)
def wKill (is : List Nat) (t : WS) : WS := fun E z => t { E with nx := fun z' => E.nx (killAll is z'), ct := fun z' => E.ct (killAll is z') } z
theorem NxOf.kill {K : PySem.W.Frag} {I : Hp} {Q : St → Hp → Prop} {is : List Nat} {z : SS} (h : NxOf K F I Q (killAll is z)) : NxOf K F I Q z := fun σ I' H ok s => h σ I' H ok.killAll s
theorem xss_kill (is : List Nat) (h : XSs X F rest t) : XSs X F rest (wKill is t) :=
  ⟨fun E E' z l w => h.mono { E with nx := fun z' => E.nx (killAll is z'), ct := fun z' => E.ct (killAll is z') } _ _ ⟨fun z' q => l.nx _ q, l.rt, l.bk, fun z' q => l.ct _ q⟩ w, pss_imp h.run fun D σ H ⟨z, I, ok, w⟩ =>
    ⟨z, I, ok, h.mono { endsOf X.K F I D with nx := fun z' => (endsOf X.K F I D).nx (killAll is z'), ct := fun z' => (endsOf X.K F I D).ct (killAll is z') } _ _ ⟨fun z' q => q.kill, fun _ _ q => q, fun _ q => q, fun z' q => q.kill⟩ w⟩⟩
/-- an own list becomes a datum -/
def frzS (i : Nat) (z : SS) : Option SS := match z[i]? with
  | some (some (.own none l)) => some (z.set i (some (.val (.list l))))
  | _ => none
theorem Ok.frzS {K : PySem.W.Frag} {σ : St} {I H : Hp} {i : Nat} {z z' : SS} (ok : Ok K F z σ I H) (h : frzS i z = some z') : ∃ I', Ok K F z' σ I' H ∧ Same I I' := by
  unfold L3.frzS at h
  split at h
  · rename_i l e
    cases h
    obtain ⟨a, vs, e1, e2, e3, r, tg⟩ := ok.ownL e rfl
    have k := ok.kill i
    have hn : ¬ IsOwn (z.set i none) σ a := fun ⟨j, b, m, f1, f2⟩ => by
      rcases get_set f1 with ⟨rfl, q, hl⟩ | ⟨hj, q⟩
      · cases q
      · exact hj (ok.dis _ _ _ _ _ _ _ q e f2 e1)
    have k2 := k.freezeAt e2 e3 tg hn
    have si := same_upd (o := HO.lst vs) e3
    have k3 := k2.set (i := i) (v := .ref a) (d := .list l) (.lst upd_same (r.mono si))
    rw [List.set_set] at k3
    have hs : σ.set i (some (.ref a)) = σ := by
      apply List.ext_getElem?
      intro j
      by_cases hj : j = i
      · subst hj
        rw [List.getElem?_set_self (List.getElem?_eq_some_iff.mp e1).1, e1]
      · rw [List.getElem?_set_ne (Ne.symm hj)]
    rw [hs] at k3
    exact ⟨_, k3, si⟩
  · cases h
def wFreeze (i : Nat) (t : WS) : WS := fun E z => ∃ z', frzS i z = some z' ∧ t E z'
theorem xs_freeze (i : Nat) (h : XS X F st t) : XS X F st (wFreeze i t) :=
  ⟨fun E E' z l ⟨z', e, w⟩ => ⟨z', e, h.mono _ _ _ l w⟩, ps_imp h.run fun D σ H ⟨z, I, ok, z', e, w⟩ => by
    obtain ⟨I', ok', s⟩ := ok.frzS e
    exact ⟨z', I', ok', h.mono _ _ _ (endsOf.later s) w⟩⟩
/-- expressions as statements; return -/
def wDrop (t : WE) : WS := fun E z => t z fun _ z' => E.nx z'
theorem xs_expr (h : XE X F e te) (hs : swapsWith e none pos.line X.env = pure false := by rfl) : XS X F (.Expr e pos) (wDrop te) :=
  ⟨fun E E' z l w => h.mono _ _ _ (fun _ _ q => l.nx _ q) w, ps_imp (ps_expr h.run hs) fun D σ H ⟨z, I, ok, w⟩ => h.at ok w fun _ z' v I' H' q o s _ => q σ I' H' o s.imm⟩
def wRet (t : WE) : WS := fun E z => t z fun ev z' => ∃ d, ev = .d d ∧ E.rt (.d d) z'
theorem xs_ret (h : XE X F e te) : XS X F (.Return (some e) pos) (wRet te) :=
  ⟨fun E E' z l w => h.mono _ _ _ (fun _ _ ⟨d, e, q⟩ => ⟨d, e, l.rt _ _ q⟩) w, ps_imp (ps_ret h.run) fun D σ H ⟨z, I, ok, w⟩ => h.at ok w fun ev z' v I' H' ⟨d, e, q⟩ o s r => by
    subst e
    exact q v σ I' H' o s.imm r⟩
def wRetR (t : WR) : WS := fun E z => t z fun r z' => E.rt r z'
theorem xs_retR (h : XR X F e tr) : XS X F (.Return (some e) pos) (wRetR tr) :=
  ⟨fun E E' z l w => h.mono _ _ _ (fun _ _ q => l.rt _ _ q) w, ps_imp (ps_ret h.run) fun D σ H ⟨z, I, ok, w⟩ => ⟨z, I, ok, h.mono _ _ _ (fun r z' q => by
    cases r with
    | d x => exact fun v I' H' o s r => q v σ I' H' o s.imm r
    | n l => exact fun a I' H' o s n => q a σ I' H' o s.imm ⟨n.at_, n.imm, n.h0, n.nown⟩) w⟩⟩
/-- return of an own list: it goes out -/
def wRetO (i : Nat) : WS := fun E z => ∃ l, z[i]? = some (some (.own none l)) ∧ E.rt (.n l) (z.set i none)
theorem xs_retO (i : Nat) {x : Str} {p : Pos} (hN : X.N[i]? = some x := by rfl) (hv : Vis X.env.scope x := by first | exact Or.inl rfl | exact Or.inr (Or.inl rfl) | exact Or.inr (Or.inr rfl)) (hd : (x == ("__debug__" : Str)) = false := by decide)
    (hcd : (x == ("__classdict__" : Str)) = false := by decide) : XS X F (.Return (some (.Name x p)) pos) (wRetO i) :=
  ⟨fun E E' z l ⟨m, e, q⟩ => ⟨m, e, l.rt _ _ q⟩, ps_imp (ps_ret (pv i hN hv hd hcd)) fun D σ H ⟨z, I, ok, l, e, q⟩ => by
    obtain ⟨a, vs, e1, e2, e3, r, tg⟩ := ok.ownL e rfl
    refine ⟨.ref a, e1, q a σ I H (ok.kill i) (Same.refl _) ⟨⟨vs, e2, r⟩, e3, tg, fun ⟨j, b, m, f1, f2⟩ => ?_⟩⟩
    rcases get_set f1 with ⟨rfl, q, hl⟩ | ⟨hj, q⟩
    · cases q
    · exact hj (ok.dis _ _ _ _ _ _ _ q e f2 e1)⟩
def wIfS (c : WT) (t u : WS) : WS := fun E z => c z fun b z' => if b = true then t E z' else u E z'
theorem xs_if {c : Expr} {a b : List Stmt} {tc : WT} (hc : XT X F c tc) (ha : XSs X F a t) (hb : XSs X F b u) : XS X F (.If c a b pos) (wIfS tc t u) :=
  ⟨fun E E' z l w => hc.mono _ _ _ (fun b z' q => by
    cases b with
    | true => exact ha.mono _ _ _ l q
    | false => exact hb.mono _ _ _ l q) w, ps_imp (ps_if hc.run ha.run hb.run) fun D σ H ⟨z, I, ok, w⟩ => hc.at ok w fun b z' I' H' q o s => by
    cases b with
    | true => exact ⟨z', I', o, ha.mono _ _ _ (endsOf.later s.imm) q⟩
    | false => exact ⟨z', I', o, hb.mono _ _ _ (endsOf.later s.imm) q⟩⟩
end

abbrev GS := D → SS → Option SS
structure Tgt (is : List Nat) (z : SS) (σ : St) (z' : SS) (σ' : St) : Prop where
  wp : ∀ vs : List Nat, (∀ i ∈ is, i ∈ vs) → wipe σ' vs = wipe σ vs
  own : ∀ a, IsOwn z' σ' a → IsOwn z σ a
  idx : ∀ (i : Nat) (b : Option Nat) (l : List D), z'[i]? = some (some (.own b l)) → z[i]? = some (some (.own b l))
structure XG (X : Cx) (F : Fx) (tg : Expr) (is : List Nat) (g : GS) : Prop where
  run : PG X tg (fun v σ H Q => ∃ z I d z', Ok X.K F z σ I H ∧ Rp X.K I v d ∧ g d z = some z' ∧ ∀ σ', Ok X.K F z' σ' I H → Tgt is z σ z' σ' → Q σ' H)
structure XGs (X : Cx) (F : Fx) (tgs : List Expr) (is : List Nat) (g : List D → SS → Option SS) : Prop where
  run : PGs X tgs (fun vs σ H Q => ∃ z I ds z', Ok X.K F z σ I H ∧ RpA X.K I vs ds ∧ g ds z = some z' ∧ ∀ σ', Ok X.K F z' σ' I H → Tgt is z σ z' σ' → Q σ' H)
theorem wipe_set {σ : St} {i : Nat} {x : Option V} : ∀ {vs : List Nat}, i ∈ vs → wipe (σ.set i x) vs = wipe σ vs
  | v :: vs, h => by
    unfold wipe
    by_cases e : i = v
    · subst e
      by_cases hm : i ∈ vs
      · rw [wipe_set hm]
      · have out : ∀ (ws : List Nat), i ∉ ws → wipe (σ.set i x) ws = (wipe σ ws).set i x := by
          intro ws
          induction ws with
          | nil => intro _; rfl
          | cons w ws ih =>
            intro hw
            unfold wipe
            rw [ih (fun q => hw (List.mem_cons_of_mem _ q)), List.set_comm _ _ (fun q => hw (by rw [q]; exact List.mem_cons_self))]
        rw [out vs hm, List.set_set]
    · rw [wipe_set (List.mem_of_ne_of_mem e h)]
def gNm (i : Nat) : GS := fun d z => some (z.set i (some (.val d)))
def gAll : List GS → List D → SS → Option SS
  | [], [], z => some z
  | g :: gs, d :: ds, z => (g d z).bind (gAll gs ds)
  | _, _, _ => none
def gTp (gs : List GS) : GS := fun d z => match d with
  | .tuple ds => gAll gs ds z
  | .list ds => gAll gs ds z
  | .dict [(.none, .tuple ds)] => gAll gs ds z
  | _ => none
section
variable {X : Cx} {F : Fx} {pos : Pos}
theorem xg_name {i : Nat} {x : Str} (hN : X.N.Nodup) (hi : X.N[i]? = some x) (hx : Loc X.env.scope x) (hf : X.fn x = true ∨ X.env.scope.names.lookup x = some .local := by first | exact .inl rfl | exact .inr rfl | assumption) : XG X F (.Name x pos) [i] (gNm i) :=
  ⟨⟨fun pins s σ H v u Q I r ⟨z, I1, d, z', ok, rv, e, q⟩ => (pg_name hN hi hx hf).run pins s σ H v u Q I r (by
    cases e
    refine q _ (ok.set rv) ⟨fun vs h => wipe_set (h i (by simp)), fun a ⟨j, b, l, e1, e2⟩ => ?_, fun j b l e1 => ?_⟩
    · rcases get_set e1 with ⟨rfl, q, hl⟩ | ⟨hj, q⟩
      · cases q
      · rw [List.getElem?_set_ne fun e => hj e.symm] at e2
        exact ⟨j, b, l, q, e2⟩
    · rcases get_set e1 with ⟨rfl, q, hl⟩ | ⟨hj, q⟩
      · cases q
      · exact q)⟩⟩
theorem xgs_nil : XGs X F [] [] (gAll []) := ⟨⟨fun pins s σ H vs us Q I r ⟨z, I1, ds, z', ok, rv, e, q⟩ => by
  refine pgs_nil.run pins s σ H vs us Q I r ?_
  cases rv with
  | nil =>
    cases e
    exact ⟨rfl, q σ ok ⟨fun _ _ => rfl, fun _ h => h, fun _ _ _ h => h⟩⟩
  | cons _ _ => cases e⟩⟩
theorem xgs_cons {e : Expr} {es : List Expr} {is js : List Nat} {g : GS} {gs : List GS} (h1 : XG X F e is g) (h2 : XGs X F es js (gAll gs))
    (hs : (assignEach (e :: es) X.env).map (·.2) = assign e X.env :: (assignEach es X.env).map (·.2) := by rfl) : XGs X F (e :: es) (is ++ js) (gAll (g :: gs)) := ⟨⟨fun pins s σ H vs us Q I r ⟨z, I1, ds, z', ok, rv, e, q⟩ => by
  refine (pgs_cons h1.run h2.run hs).run pins s σ H vs us Q I r ?_
  cases rv with
  | nil => cases e
  | cons r1 rr =>
    obtain ⟨z1, e1, e2⟩ := Option.bind_eq_some_iff.mp e
    refine ⟨_, _, rfl, z, I1, _, z1, ok, r1, e1, fun σ1 ok1 w1 => ⟨z1, I1, _, z', ok1, rr, e2, fun σ2 ok2 w2 => q σ2 ok2 ⟨fun vs h => ?_, fun a h => w1.own a (w2.own a h), fun i b l h => w1.idx i b l (w2.idx i b l h)⟩⟩⟩
    rw [w2.wp vs fun i hi => h i (List.mem_append_right _ hi), w1.wp vs fun i hi => h i (List.mem_append_left _ hi)]⟩⟩
theorem xg_tup {es : List Expr} {k : Nat} {is : List Nat} {gs : List GS} (hc : X.calm = true) (h : XGs X F es is (gAll gs)) (hl : gs.length = es.length := by rfl)
    (hn : (assignEach es X.env).length = es.length := by rfl) (hst : (assignEach es X.env).findIdx? (·.1) = none := by rfl) : XG X F (.Tuple es k pos) is (gTp gs) := ⟨⟨fun pins s σ H v u Q I r ⟨z, I1, d, z', ok, rv, e, q⟩ => by
  have len : ∀ (gs : List GS) (ds : List D) (z z' : SS), gAll gs ds z = some z' → gs.length = ds.length := by
    intro gs
    induction gs with
    | nil => intro ds z z' e; cases ds with
      | nil => rfl
      | cons _ _ => cases e
    | cons g gs ih => intro ds z z' e; cases ds with
      | nil => cases e
      | cons d ds =>
        obtain ⟨z1, _, e2⟩ := Option.bind_eq_some_iff.mp e
        simp [ih ds z1 z' e2]
  cases d with
  | tuple ds =>
    cases rv with
    | tup hq ra =>
      have e2 : gAll gs ds z = some z' := e
      exact (pg_tup hc h.run hn hst).run pins s σ H _ u Q I r ⟨_, _, rfl, same_tup ok.sub hq.sq, by rw [ra.length, ← len gs ds z z' e2, hl], z, I1, ds, z', ok, ra, e2, q⟩
  | list ds =>
    cases rv with
    | lst hq ra =>
      have e2 : gAll gs ds z = some z' := e
      exact (pg_lst hc h.run hn hst).run pins s σ H _ u Q I r ⟨_, _, rfl, SqL.of (ok.sub _ _ hq), by rw [ra.length, ← len gs ds z z' e2, hl], z, I1, ds, z', ok, ra, e2, q⟩
  | none => cases e
  | bool _ => cases e
  | int _ => cases e
  | str _ => cases e
  | dict ps =>
    have hps : ∃ ds, ps = [(.none, .tuple ds)] := by
      unfold gTp at e
      split at e
      · rename_i h; cases h
      · rename_i h; cases h
      · rename_i ds h; cases h; exact ⟨_, rfl⟩
      · cases e
    obtain ⟨ds, rfl⟩ := hps
    cases rv with
    | wtu hq ra =>
      have e2 : gAll gs ds z = some z' := e
      exact (pg_tup hc h.run hn hst).run pins s σ H _ u Q I r ⟨_, _, rfl, same_tup ok.sub hq, by rw [ra.length, ← len gs ds z z' e2, hl], z, I1, ds, z', ok, ra, e2, q⟩
    | dct _ rk => exact (no_dk rk).elim⟩⟩
end

section
variable {X : Cx} {F : Fx} {pos pos' : Pos} {e tg : Expr} {te : WE} {tr : WR}
def wAsg (t : WE) (g : GS) : WS := fun E z => t z fun ev z1 => ∃ d z2, ev = .d d ∧ g d z1 = some z2 ∧ E.nx z2
theorem xs_asg {is : List Nat} {g : GS} (h : XE X F e te) (hg : XG X F tg is g) (hs : swapsWithSole [tg] e pos.line X.env = pure false := by rfl) (hw : swappedStores [tg] e X.env = pure none := by rfl)
    (h1 : (assignEach [tg] X.env).map (·.2) = [assign tg X.env] := by rfl) : XS X F (.Assign [tg] e pos) (wAsg te g) :=
  ⟨fun E E' z l w => h.mono _ _ _ (fun ev z1 ⟨d, z2, e, f, q⟩ => ⟨d, z2, e, f, l.nx _ q⟩) w, ps_imp (ps_asg h.run hg.run hs hw h1) fun D σ H ⟨z, I, ok, w⟩ => h.at ok w fun ev z1 v I1 H1 ⟨d, z2, e, f, q⟩ o s r => by
    subst e
    exact ⟨z1, I1, d, z2, o, r, f, fun σ' ok' _ => q σ' I1 H1 ok' s.imm⟩⟩
def wSet (i : Nat) (t : WE) : WS := fun E z => t z fun ev z1 => ∃ d, ev = .d d ∧ E.nx (z1.set i (some (.val d)))
theorem xs_set {i : Nat} {x : Str} (hN : X.N.Nodup) (hi : X.N[i]? = some x) (hx : Loc X.env.scope x) (h : XE X F e te) (hs : swapsWith e (some (.Name x pos')) pos.line X.env = pure false := by rfl) (hf : X.fn x = true ∨ X.env.scope.names.lookup x = some .local := by first | exact .inl rfl | exact .inr rfl | assumption) :
    XS X F (.Assign [.Name x pos'] e pos) (wSet i te) :=
  ⟨fun E E' z l w => h.mono _ _ _ (fun ev z1 ⟨d, e, q⟩ => ⟨d, e, l.nx _ q⟩) w, ps_imp (ps_set hN hi hx h.run hs hf) fun D σ H ⟨z, I, ok, w⟩ => h.at ok w fun ev z1 v I1 H1 ⟨d, e, q⟩ o s r => by
    subst e
    exact q _ I1 H1 (o.set r) s.imm⟩
/-- name = a new list: its own -/
def wSetO (i : Nat) (t : WR) : WS := fun E z => t z fun r z1 => ∃ l, r = .n l ∧ E.nx (z1.set i (some (.own none l)))
theorem xs_setO {i : Nat} {x : Str} (hN : X.N.Nodup) (hi : X.N[i]? = some x) (hx : Loc X.env.scope x) (h : XR X F e tr) (hs : swapsWith e (some (.Name x pos')) pos.line X.env = pure false := by rfl) (hf : X.fn x = true ∨ X.env.scope.names.lookup x = some .local := by first | exact .inl rfl | exact .inr rfl | assumption) :
    XS X F (.Assign [.Name x pos'] e pos) (wSetO i tr) :=
  ⟨fun E E' z l w => h.mono _ _ _ (fun r z1 ⟨d, e, q⟩ => ⟨d, e, l.nx _ q⟩) w, ps_imp (ps_set hN hi hx h.run hs hf) fun D σ H ⟨z, I, ok, w⟩ => ⟨z, I, ok, h.mono _ _ _ (fun r z1 ⟨l, e, q⟩ => by
    subst e
    intro a I1 H1 o s n
    obtain ⟨vs, f1, f2⟩ := n.at_
    exact q _ I1 H1 (o.setOwn f1 f2 n.imm n.h0 n.nown) s.imm) w⟩⟩
/-- own[i] = e -/
def wPut (t to ti : WE) : WS := fun E z => t z fun ev z1 => to z1 fun o z2 => ti z2 fun i z3 => ∃ d s k b l j, ev = .d d ∧ o = .o s ∧ i = .d (.int k) ∧ z3[s]? = some (some (.own b l)) ∧ (dkB b = false ∧ ixN l.length k = some j) ∧ E.nx (z3.set s (some (.own b (l.set j d))))
theorem xs_put {o i : Expr} {to ti : WE} (h : XE X F e te) (ho : XE X F o to) (hi : XE X F i ti)
    (ha : ∀ v, assign (.Subscript o i pos') X.env v = (do
      let a0 ← holding [v] (eval o X.env)
      let a1 ← holding [v, a0] (eval i X.env)
      standAt pos'
      holding [v, a0, a1] (setItem a0 a1 v)
      release [v, a0, a1] []) := by intro _; rfl) (hs : swapsWithSole [.Subscript o i pos'] e pos.line X.env = pure false := by rfl) (hw : swappedStores [.Subscript o i pos'] e X.env = pure none := by rfl)
    (h1 : (assignEach [.Subscript o i pos'] X.env).map (·.2) = [assign (.Subscript o i pos') X.env] := by rfl) : XS X F (.Assign [.Subscript o i pos'] e pos) (wPut te to ti) :=
  ⟨fun E E' z l w => h.mono _ _ _ (fun _ _ w => ho.mono _ _ _ (fun _ _ w => hi.mono _ _ _ (fun _ _ ⟨d, s, k, b, m, j, e1, e2, e3, e4, e5, q⟩ => ⟨d, s, k, b, m, j, e1, e2, e3, e4, e5, l.nx _ q⟩) w) w) w,
    ps_imp (ps_asg h.run (pg_sub ho.run hi.run set_list ha) hs hw h1) fun D σ H ⟨z, I, ok, w⟩ => h.at ok w fun ev z1 v I1 H1 w o1 s1 r1 => ho.at o1 w fun ov z2 v2 I2 H2 w o2 s2 r2 => hi.at o2 w fun iv z3 v3 I3 H3 ⟨d, sl, k, b, m, j, e1, e2, e3, e4, e5, q⟩ o3 s3 r3 => by
      subst e1 e2 e3
      cases r3
      obtain ⟨a, ws, f1, f2, f3, r, tg⟩ := o3.ownL e4 e5.1
      rw [show σ[sl]? = some (some v2) from r2] at f1; cases f1
      obtain ⟨o4, s4⟩ := o3.mutate e4 r2 (.inl ⟨e5.1, _, rfl, r.set j (Rp.mono s3.imm (Rp.mono s2.imm r1))⟩)
      exact ⟨a, ws, k, j, rfl, rfl, f2, by rw [r.length]; exact e5.2, q σ I3 _ o4 ((s1.imm.trans s2.imm).trans s3.imm)⟩⟩
end

section
variable {X : Cx} {F : Fx} {pos : Pos}
end
end L3
namespace L3
open PySem PySem.Spec PyProof.Rows L2 PySem.SeqAt

def Serves (K : PySem.W.Frag) (F : Fx) (J : It) (items : List D) (I1 : Hp) : Prop := ∀ (z : SS) (σ : St) (I H : Hp), Ok K F z σ I H → Same I1 I →
  (∀ i, i < items.length → J.go i H) ∧ J.stop items.length H ∧ ∀ i x H', i < items.length → J.yld i H x H' → ∃ I' d, items[i]? = some d ∧ Ok K F z σ I' H' ∧ Step z σ I H z I' H' ∧ Rp K I' x d
abbrev WI := SS → (List D → SS → Prop) → Prop
def liftI (K : PySem.W.Frag) (F : Fx) (t : WI) : TI := fun σ H R => ∃ z I, Ok K F z σ I H ∧ t z fun items z' => ∀ J I' H', Ok K F z' σ I' H' → Step z σ I H z' I' H' → Serves K F J items I' → R J H'
structure XI (X : Cx) (F : Fx) (tg iter : Expr) (t : WI) : Prop where
  mono : Mono t
  run : PI X tg iter (liftI X.K F t)
theorem pi_imp {X : Cx} {tg e : Expr} {t t' : TI} (h : PI X tg e t) (i : ∀ σ H R, t' σ H R → t σ H R) : PI X tg e t' := ⟨fun pins s σ H R I q => h.run pins s σ H R I (i σ H R q)⟩
section
variable {K : PySem.W.Frag} {F : Fx}
theorem serves_list {a : Addr} {vs : List V} {l : List D} {I1 : Hp} (ha : I1 a = some (.lst vs)) (r : RpA K I1 vs l) : Serves K F (Itl K a) l I1 := fun z σ I H ok s => by
  have hq : SqL K H a vs := SqL.of (ok.sub _ _ (s _ _ ha))
  refine ⟨fun i hi => ?_, ⟨vs, hq, by rw [r.length]; exact Nat.le_refl _⟩, fun i x H' hi y => ?_⟩
  · have hi' : i < vs.length := by rw [r.length]; exact hi
    exact ⟨vs, vs[i], hq, by simp [hi']⟩
  · obtain ⟨rfl, y⟩ := y
    obtain ⟨d, e, rd⟩ := r.get' (y vs hq)
    exact ⟨I, d, e, ok, .refl, rd.mono s⟩
theorem serves_tup {a : Addr} {vs : List V} {l : List D} {I1 : Hp} (ha : SqT K I1 a vs) (r : RpA K I1 vs l) : Serves K F (Itt K a) l I1 := fun z σ I H ok s => by
  have hq : SqT K H a vs := same_tup ok.sub (same_tup s ha)
  refine ⟨fun i hi => ?_, ⟨vs, hq, by rw [r.length]; exact Nat.le_refl _⟩, fun i x H' hi y => ?_⟩
  · have hi' : i < vs.length := by rw [r.length]; exact hi
    exact ⟨vs, vs[i], hq, by simp [hi']⟩
  · obtain ⟨rfl, y⟩ := y
    obtain ⟨d, e, rd⟩ := r.get' (y vs hq)
    exact ⟨I, d, e, ok, .refl, rd.mono s⟩
def signs (t : Str) : List D := t.cps.toList.map fun c => .str ⟨#[c]⟩
theorem serves_str {t : Str} {I1 : Hp} : Serves K F (Its t) (signs t) I1 := fun z σ I H ok s => by
  have hl : (signs t).length = t.cps.size := by simp [signs]
  refine ⟨fun i hi => by rw [hl] at hi; exact hi, by rw [hl]; exact Nat.le_refl _, fun i x H' hi y => ?_⟩
  obtain ⟨rfl, c, e, rfl⟩ := y
  exact ⟨I, .str ⟨#[c]⟩, by simp [signs, e], ok, .refl, .str _⟩
def rangeD (lo hi : Int) : List D := (List.range (hi - lo).toNat).map fun (i : Nat) => .int (lo + (i : Int))
theorem serves_range {lo : Int} {n : Nat} {I1 : Hp} : Serves K F (Itr lo n) ((List.range n).map fun (i : Nat) => PyData.int (lo + i)) I1 := fun z σ I H ok s => by
  have hl : ((List.range n).map fun (i : Nat) => PyData.int (lo + i)).length = n := by simp
  refine ⟨fun i hi => by rw [hl] at hi; exact hi, by rw [hl]; exact Nat.le_refl _, fun i x H' hi y => ?_⟩
  rw [hl] at hi
  obtain ⟨rfl, rfl⟩ := y
  exact ⟨I, .int (lo + i), by simp [hi], ok, .refl, .int _⟩
end
def srcOf : EV → Option (List D)
  | .d (.list l) => some l
  | .d (.tuple l) => some l
  | .d (.str t) => some (signs t)
  | _ => none
section
variable {X : Cx} {F : Fx} {tg e : Expr} {t : WE} {te : TE}
theorem pi_any (he : PE X e te) : PI X tg e (fun σ H R => te σ H fun x K1 => (∃ a xs, x = .ref a ∧ SqL X.K K1 a xs ∧ R (Itl X.K a) K1) ∨ (∃ a xs, x = .ref a ∧ SqT X.K K1 a xs ∧ R (Itt X.K a) K1) ∨ (∃ t, x = .str t ∧ R (Its t) K1)) := by
  refine ⟨fun ps0 s σ H R I h => ?_⟩
  refine thn (he.run ps0 s σ H _ I h) fun v u1 ⟨x, K1, J1, m1, q1⟩ => ?_
  rcases q1 with ⟨a, xs, rfl, hq, q⟩ | ⟨a, xs, rfl, hq, q⟩ | ⟨y, rfl, q⟩
  · cases m1
    obtain ⟨cs0, rv0, p, hz0⟩ := J1.list hq
    refine wpAny_pyIter_list p.isList ?_
    refine ⟨u1.heap.objs.size, [u1.heap.objs.size], _, _, K1, rfl, J1.kept (t' := u1.toks) fun b o e => Heap.get?_push_of_some _ e, turn_list a _, ⟨_, Heap.get?_push_size _ rfl, rfl, rfl⟩, fun b hb0 => ?_, q⟩
    have e : b = u1.heap.objs.size := by simpa using hb0
    subst e
    exact J1.fpOk (Nat.le_refl _) (J1.hok.fresh (Nat.le_refl _))
  · cases m1
    obtain ⟨cs0, rv0, p, hz0⟩ := J1.tuple hq
    refine wpAny_pyIter_tuple (show u1.heap.IsTuple a cs0.toArray from p) ?_
    refine ⟨u1.heap.objs.size, [u1.heap.objs.size], _, _, K1, rfl, J1.kept (t' := u1.toks) fun b o e => Heap.get?_push_of_some _ e, turn_tuple a _, ⟨_, Heap.get?_push_size _ rfl, rfl, rfl⟩, fun b hb0 => ?_, q⟩
    have e : b = u1.heap.objs.size := by simpa using hb0
    subst e
    exact J1.fpOk (Nat.le_refl _) (J1.hok.fresh (Nat.le_refl _))
  · obtain ⟨t, rfl⟩ := m1
    cases ha : y.cps.all (· < 128)
    · exact wpAny_pyIter_wide ha (pi_one (tk := u1.toks) J1 _ (turn_str _ y t "str_iterator" (.inr rfl)) ⟨_, Heap.get?_push_size _ rfl, rfl, rfl⟩ q)
    · exact wpAny_pyIter_ascii ha (pi_one (tk := u1.toks) J1 _ (turn_str _ y t "str_ascii_iterator" (.inl rfl)) ⟨_, Heap.get?_push_size _ rfl, rfl, rfl⟩ q)
def wSrc (t : WE) : WI := fun z R => t z fun ev z1 => ∃ l, srcOf ev = some l ∧ R l z1
theorem xi_any (he : XE X F e t) : XI X F tg e (wSrc t) :=
  ⟨fun z R R' k w => he.mono _ _ _ (fun ev z1 ⟨l, e, q⟩ => ⟨l, e, k _ _ q⟩) w, pi_imp (pi_any he.run) fun σ H R ⟨z, I, ok, w⟩ => he.at ok w fun ev z1 v I1 H1 ⟨l, e, q⟩ o s r => by
    cases ev with
    | o i => cases e
    | d y =>
      cases y <;> simp [srcOf] at e
      · subst e
        cases r
        exact .inr (.inr ⟨_, rfl, q _ I1 H1 o s serves_str⟩)
      · subst e
        cases r with
        | lst h ra => exact .inl ⟨_, _, rfl, SqL.of (o.sub _ _ h), q _ I1 H1 o s (serves_list h ra)⟩
      · subst e
        cases r with
        | tup h ra => exact .inr (.inl ⟨_, _, rfl, same_tup o.sub h.sq, q _ I1 H1 o s (serves_tup h.sq ra)⟩)⟩
/-- ranges -/
def wRng1 (u : WA) : WI := fun z R => u z fun es z1 => ∃ j, es = [.d (.int j)] ∧ -(2 ^ 62) ≤ j ∧ j < 2 ^ 62 ∧ R (rangeD 0 j) z1
def wRng2 (u : WA) : WI := fun z R => u z fun es z1 => ∃ i j, es = [.d (.int i), .d (.int j)] ∧ (-(2 ^ 62) ≤ i ∧ i < 2 ^ 62 ∧ -(2 ^ 62) ≤ j ∧ j < 2 ^ 62) ∧ R (rangeD i j) z1
theorem xi_range1 {a : Expr} {u : WA} {p pos : Pos} (hg : Gl X "range") (hm : X.mg "range" = none) (ha : XA X F [a] u) (hs : starEach [a] X.env = [(false, eval a X.env)] := by rfl) : XI X F tg (.Call (.Name "range" p) [a] [] pos) (wRng1 u) :=
  ⟨fun z R R' k w => ha.mono _ _ _ (fun es z1 ⟨j, e, a, b, q⟩ => ⟨j, e, a, b, k _ _ q⟩) w, pi_imp (pi_range1 hg hm ha.run hs) fun σ H R ⟨z, I, ok, w⟩ => ha.at ok w fun es z1 vs I1 H1 ⟨j, e, a, b, q⟩ o s ev => by
    subst e
    cases ev with
    | cons e1 t =>
      cases t
      cases e1
      refine ⟨j, rfl, a, b, q _ I1 H1 o s ?_⟩
      have := @serves_range X.K F 0 j.toNat I1
      unfold rangeD
      rw [Int.sub_zero]
      exact this⟩
/-- list(range(..)) -/
def wLRg (lo : WE) : WR := fun z R => lo z fun x z1 => ∃ j, x = .d (.int j) ∧ RgOk 0 j ∧ R (.n (rangeD 0 j)) z1
theorem rgV_rp {K : PySem.W.Frag} {I : Hp} (a b : Int) : RpA K I (rgV a b) (rangeD a b) := by
  have h : ∀ (n : Nat), RpA K I ((List.range n).map fun (i : Nat) => V.int (a + i)) ((List.range n).map fun (i : Nat) => PyData.int (a + i)) := fun n => by
    induction n with
    | zero => exact .nil
    | succ n ih =>
      rw [List.range_succ, List.map_append, List.map_append]
      exact ih.append (.cons (.int _) .nil)
  have e : rgV a b = (List.range (b - a).toNat).map fun (i : Nat) => V.int (a + i) := by
    unfold rgV
    first | rfl | simp
  rw [e]
  exact h _
theorem xr_listrg {a : Expr} {t : WE} {p p2 pos pos2 : Pos} (hc : X.calm = true) (hg : Gl X "list") (hm : X.mg "list" = none) (hg2 : Gl X "range") (hm2 : X.mg "range" = none) (ha : XE X F a t) (na : starEach [a] X.env = (false, eval a X.env) :: starEach [] X.env := by rfl)
    (nb : starEach [.Call (.Name "range" p2) [a] [] pos2] X.env = (false, eval (.Call (.Name "range" p2) [a] [] pos2) X.env) :: starEach [] X.env := by rfl) : XR X F (.Call (.Name "list" p) [.Call (.Name "range" p2) [a] [] pos2] [] pos) (wLRg t) :=
  ⟨fun z R R' k w => ha.mono _ _ _ (fun x z1 ⟨j, e, c, q⟩ => ⟨j, e, c, k _ _ q⟩) w, pe_imp (pe_listRg hc hg hm (prg_1 hg2 hm2 ha.run na) nb) fun σ H Q ⟨z, I, ok, w⟩ => ha.at ok w fun x z1 v I1 H1 ⟨j, e, c, q⟩ o s ev => by
    subst e
    cases ev
    refine ⟨j, rfl, c, fun p hp => ?_⟩
    obtain ⟨o2, s2, n⟩ := o.newL (rgV_rp 0 j) hp
    exact q _ _ _ o2 (s.trans s2) (n.back s)⟩
end
def tupItO (l : Addr) : Obj := { cls := .type "tuple_iterator", data := .fields #[.ref l, .int 0 0] }
def enumO (n : Addr) : Obj := { cls := .type "enumerate", data := .fields #[.none, .bool false, .ref n, rawInt 0, .none, .none] }
theorem meets_enumerate_newT (l : Addr) (items : Array Value) : Meets (Builtin.«enumerate.__new__» ⟨[.type "enumerate", .ref l], []⟩) fun _ R s =>
    s.heap.IsTuple l items ∧ R (.ok (.ret (.ref (s.heap.push (tupItO l)).objs.size))) { s with heap := (s.heap.push (tupItO l)).push (enumO s.heap.objs.size) } := by
  refine .of_wp fun P W Ar Rr u hu => ?_
  obtain ⟨hp0, gl, dd, tk, os⟩ := u
  obtain ⟨isT0, hu⟩ := hu
  have hsub := sub_enumerate
  have isT : Heap.IsTuple (Shared.heap ⟨hp0, gl, dd, tk, os⟩) l items := isT0
  wp_walk
  refine wpAny_stack_any fun _ => wpAny_pure ?_
  split
  · rename_i c _ _ _ _ _
    generalize (c == Value.type "enumerate") = cb
    cases cb <;> (wp_walk using wpAny_pyIter_tuple isT; exact ⟨_, rfl, hu⟩)
  · wp_walk using wpAny_pyIter_tuple isT
    exact ⟨_, rfl, hu⟩
theorem call_enumerate_tup {P : Program} {W : World} {Ar : Around} {Ex : Value → Shared → Prop} {u : Shared} {l : Addr} {cells : Array Value} {Q : Value → Shared → Prop} (isT : u.heap.IsTuple l cells)
    (h : ∀ hh, IsEnum hh (u.heap.objs.size + 1) u.heap.objs.size 0 .none → hh.IsTupleIter u.heap.objs.size l 0 → hh.objs.size = u.heap.objs.size + 2 → (∀ b o, u.heap.get? b = some o → hh.get? b = some o) → Q (.ref (u.heap.objs.size + 1)) { u with heap := hh }) :
    wpAny (model P W) Ar (call (.type "enumerate") [.ref l]) Q Ex u := by
  have sz : (u.heap.push (tupItO l)).objs.size = u.heap.objs.size + 1 := Heap.size_push ..
  have isE : IsEnum ((u.heap.push (tupItO l)).push (enumO u.heap.objs.size)) (u.heap.objs.size + 1) u.heap.objs.size 0 .none := by
    have g := Heap.get?_push_size (u.heap.push (tupItO l)) (o := enumO u.heap.objs.size) rfl
    rw [sz] at g
    exact g
  have fin := h _ isE ⟨_, Heap.get?_push_of_some _ (Heap.get?_push_size _ rfl), rfl, rfl⟩ (by rw [Heap.size_push, sz]) fun b o x => Heap.get?_push_of_some _ (Heap.get?_push_of_some _ x)
  refine callType_new F.called_enumerate (by decide) (F.typeCall_enumerate_1 _) (F.newCall_enumerate_1 _)
    (fun obj => F.args_object_init_2 obj _) F.entry_enumerate_new (meets_enumerate_newT l cells) ⟨isT, ?_⟩
  show _ ∧ _
  rw [sz]
  exact ⟨⟨_, isE, rfl⟩, fin⟩
def IteT (K : PySem.W.Frag) (a : Addr) : It :=
  ⟨fun i H => ∃ (xs : List V) (x : V), SqT K H a xs ∧ xs[i]? = some x, fun i H v H' => ∃ T x, v = .ref T ∧ H T = none ∧ H' = upd H T (.tup [.int (i : Nat), x]) ∧ ∀ xs, SqT K H a xs → xs[i]? = some x, fun i H => ∃ xs : List V, SqT K H a xs ∧ xs.length = i⟩
theorem turn_enumT {P : Program} {w : World} {K : PySem.W.Frag} {elts : List Expr} {kk : Nat} {tpos : Pos} (a e it : Addr) :
    Turn P w K (.Tuple elts kk tpos) (IteT K a) [e, it] e (fun i h => (∃ was, IsEnum h e it ((i : Nat) : Int) was) ∧ h.IsTupleIter it a i ∧ e ≠ it ∧ a ≠ it) where
  mem := by simp
  obj := fun i h stt b hb0 => by
    obtain ⟨⟨was, isE⟩, ⟨o, ob, oc, od⟩, _⟩ := stt
    have e' : b = e ∨ b = it := by simpa using hb0
    rcases e' with z | z
    · rw [z]; exact ⟨_, isE, fun v q => nomatch q⟩
    · rw [z]; exact ⟨o, ob, fun v q => by rw [od] at q; cases q⟩
  keep := fun i h hh1 stt k => let ⟨⟨was, isE⟩, hi, dI⟩ := stt; ⟨⟨was, k e (by simp) _ isE⟩, hi.at fun o q => k it (by simp) o q, dI⟩
  item := by
    intro X hP hw hK oc i ps0 s σ H E J fps stt gv
    subst hP hw hK
    obtain ⟨⟨was, isE⟩, isI, dI, dA⟩ := stt
    obtain ⟨xs, x, hq, hxx⟩ := gv
    obtain ⟨cs0, rv0, p, hz0⟩ := J.tuple hq
    obtain ⟨u, hu, ru⟩ := rv0.get hxx
    have ltE : e < s.heap.objs.size := Heap.lt_size isE
    have ltI : it < s.heap.objs.size := by obtain ⟨_, q, _⟩ := isI; exact Heap.lt_size q
    have neE : a ≠ e := fun q => by
      obtain ⟨o, ob, oc', _⟩ := id p
      rw [q] at ob
      rw [show s.heap.get? e = some _ from isE] at ob
      cases ob
      simp at oc'
    have pT : s.heap.IsTuple a cs0.toArray := p
    refine wpAny_pyNext_enum_itemD (Draws.tuple (prog := X.prog) (w := X.w) (A := X.A.in1) (show X.A.in1.handled = none from J.ok.hd oc) it a dA cs0.toArray) isE ⟨isI, pT⟩ (n := cs0.toArray.size) (by have := (List.getElem?_eq_some_iff.mp hu).1; simpa using this) dI (by simp [dI, Ne.symm neE]) fun y hh1 tk hy ob hst' hT hsz hkk => ?_
    have ey : y = u := by
      have hy' : cs0.toArray[i]? = some y := hy
      simp at hy'
      rw [hu] at hy'
      exact (Option.some.inj hy').symm
    subst ey
    refine ⟨_, rfl, wpAny_letOwnedTupleGo_enum (s := { s with heap := hh1, toks := tk + 1 }) ob fun h'' isE' sbx => ?_⟩
    have hT2 : h''.get? s.heap.objs.size = some { cls := .type "tuple", data := .seq #[.int i tk, y] } := (sbx.2 _ (Nat.ne_of_gt ltE)).trans hT
    have nw : ObjOk X.prog X.w (upd H s.heap.objs.size (.tup [.int (i : Nat), x])) h'' s.heap.objs.size (.tup [.int (i : Nat), x]) :=
      ⟨by show 2 ≤ sizeLine; decide, [.int i tk, y], .cons ⟨_, rfl⟩ (.cons ru .nil), ⟨_, hT2, rfl, _, rfl⟩⟩
    have J1 : Inv X ps0 σ (upd H s.heap.objs.size (.tup [.int (i : Nat), x])) { s with heap := h'', toks := tk + 1 } :=
      J.turnedNew (ch := [e, it]) (fun b ob hb0 q => (sbx.2 b (fun z => hb0 (by simp [z]))).trans (hkk b ob (fun z => hb0 (by simp [z])) (fun z => hb0 (by simp [z])) q)) fps (Nat.le_refl _) nw
    refine ⟨.ref s.heap.objs.size, _, J1, rfl, ⟨_, x, rfl, J.hok.fresh (Nat.le_refl _), rfl, fun ys hy => by rw [J.tuple_inj hy hq]; exact hxx⟩, ⟨⟨y, ?_⟩, hst'.1.at fun o q => (sbx.2 it (Ne.symm dI)).trans q, dI, dA⟩, fun b hb0 => ?_⟩
    · rw [show ((i + 1 : Nat) : Int) = (i : Int) + 1 from by omega]; exact isE'
    · have ltb : b < s.heap.objs.size := by
        have e' : b = e ∨ b = it := by simpa using hb0
        rcases e' with z | z
        · rw [z]; exact ltE
        · rw [z]; exact ltI
      rw [upd_ne (Nat.ne_of_lt ltb)]
      exact (fps b hb0).1
  done := by
    intro X hP hw hK oc i ps0 s σ H E J fps stt gv
    subst hP hw hK
    obtain ⟨⟨was, isE⟩, isI, dI, dA⟩ := stt
    obtain ⟨xs, hq, hxx⟩ := gv
    obtain ⟨cs0, rv0, p, hz0⟩ := J.tuple hq
    obtain ⟨f0, f1, f2, f3, f4, f5⟩ := fps it (by simp)
    have hl := rv0.length
    have pT : s.heap.IsTuple a cs0.toArray := p
    have ei : i = cs0.toArray.size := by rw [List.size_toArray, ← hl, hxx]
    subst ei
    exact wpAny_pyNext_enum_endD (Draws.tuple (prog := X.prog) (w := X.w) (A := X.A.in1) (show X.A.in1.handled = none from J.ok.hd oc) it a dA cs0.toArray) isE ⟨isI, pT⟩ fun hh1 eb => ⟨rfl, J.turned (t' := s.toks) (fun b o hb0 q => eb b o hb0 q) f0 f1 f3 f4 f5⟩
  self := fun A i s Q E stt h => let ⟨⟨_, isE⟩, _⟩ := stt; wpAny_pyIter_enum isE h
theorem pi_enumT {X : Cx} {e : Expr} {ta : TA} {p pos tpos : Pos} {elts : List Expr} {kk : Nat} (gv : Gl X "enumerate") (hm : X.mg "enumerate" = none) (ha : PA X [e] ta) (hs : starEach [e] X.env = [(false, eval e X.env)] := by rfl) :
    PI X (.Tuple elts kk tpos) (.Call (.Name "enumerate" p) [e] [] pos) (fun σ H R => ta σ H fun vs K1 => ∃ a xs, vs = [.ref a] ∧ ((SqL X.K K1 a xs ∧ R (Ite X.K a) K1) ∨ (SqT X.K K1 a xs ∧ R (IteT X.K a) K1))) := by
  refine ⟨fun ps0 s σ H R J h => ?_⟩
  refine Call_ (ld_blt J gv hm boot_enumerate (PyProof.Rows.callWith_type1 (thn (ha.run pos ps0 s σ H _ J h) fun us u1 ⟨vs, K1, J1, r1, q1⟩ => ?_) hs rfl))
  obtain ⟨a, xs, ex, q1⟩ := q1
  subst ex
  cases r1 with
  | cons r rr =>
    cases rr
    cases r
    have fr : ∀ b ∈ [u1.heap.objs.size + 1, u1.heap.objs.size], FpOk X ps0 K1 b := fun b hb0 => by
      have e' : b = u1.heap.objs.size + 1 ∨ b = u1.heap.objs.size := by simpa using hb0
      have hle : u1.heap.objs.size ≤ b := by
        rcases e' with z | z
        · rw [z]; exact Nat.le_add_right _ _
        · rw [z]; exact Nat.le_refl _
      exact J1.fpOk hle (J1.hok.fresh hle)
    rcases q1 with ⟨hq, q⟩ | ⟨hq, q⟩
    · obtain ⟨cs0, rv0, p', hz0⟩ := J1.list hq
      refine call_enumerate_list p'.isList fun hh1 isE isI hsz hkk => wpAny_pyIter_enum isE ?_
      have J2 : Inv X ps0 σ K1 { u1 with heap := hh1 } := J1.kept (t' := u1.toks) hkk
      exact ⟨u1.heap.objs.size + 1, [u1.heap.objs.size + 1, u1.heap.objs.size], _, _, K1, rfl, J2, turn_enum a (u1.heap.objs.size + 1) u1.heap.objs.size, ⟨⟨.none, isE⟩, isI, Nat.succ_ne_self _⟩, fr, q⟩
    · obtain ⟨cs0, rv0, p', hz0⟩ := J1.tuple hq
      have hal : a < u1.heap.objs.size := by
        obtain ⟨o, ob, _⟩ := id p'
        exact Heap.lt_size ob
      refine call_enumerate_tup (show u1.heap.IsTuple a cs0.toArray from p') fun hh1 isE isI hsz hkk => wpAny_pyIter_enum isE ?_
      have J2 : Inv X ps0 σ K1 { u1 with heap := hh1 } := J1.kept (t' := u1.toks) hkk
      exact ⟨u1.heap.objs.size + 1, [u1.heap.objs.size + 1, u1.heap.objs.size], _, _, K1, rfl, J2, turn_enumT a (u1.heap.objs.size + 1) u1.heap.objs.size, ⟨⟨.none, isE⟩, isI, Nat.succ_ne_self _, Nat.ne_of_lt hal⟩, fr, q⟩
/-- a tuple that a walk hands out -/
def wt (l : List D) : D := .dict [(.none, .tuple l)]
def enumD (l : List D) : List D := l.zipIdx.map fun p => wt [.int (p.2 : Nat), p.1]
theorem enumD_len (l : List D) : (enumD l).length = l.length := by simp [enumD]
theorem enumD_get {l : List D} {i : Nat} {d : D} (h : l[i]? = some d) : (enumD l)[i]? = some (wt [.int (i : Nat), d]) := by
  simp [enumD, h]
section
variable {K : PySem.W.Frag} {F : Fx}
theorem pair_ok {z : SS} {σ : St} {I H : Hp} {T : Addr} {x : V} {d : D} {n : Nat} (ok : Ok K F z σ I H) (hT : H T = none) (r : Rp K I x d) :
    ∃ I', Ok K F z σ I' (upd H T (.tup [.int n, x])) ∧ Step z σ I H z I' (upd H T (.tup [.int n, x])) ∧ Rp K I' (.ref T) (wt [.int n, d]) := by
  obtain ⟨o2, s2⟩ := ok.alloc (.tup [.int n, x]) hT
  exact ⟨_, o2, s2, .wtu (SqT.of upd_same) (.cons (.int _) (.cons (r.mono s2.imm) .nil))⟩
theorem serves_enum {a : Addr} {vs : List V} {l : List D} {I1 : Hp} (ha : I1 a = some (.lst vs)) (r : RpA K I1 vs l) : Serves K F (Ite K a) (enumD l) I1 := fun z σ I H ok s => by
  have hq : SqL K H a vs := SqL.of (ok.sub _ _ (s _ _ ha))
  rw [enumD_len]
  refine ⟨fun i hi => ?_, ⟨vs, hq, by rw [r.length]; exact Nat.le_refl _⟩, fun i x H' hi y => ?_⟩
  · have hi' : i < vs.length := by rw [r.length]; exact hi
    exact ⟨vs, vs[i], hq, by simp [hi']⟩
  · obtain ⟨T, x', rfl, hT, rfl, y⟩ := y
    obtain ⟨d, e, rd⟩ := r.get' (y vs hq)
    obtain ⟨I', o2, s2, r2⟩ := pair_ok (n := i) ok hT (rd.mono s)
    exact ⟨I', _, enumD_get e, o2, s2, r2⟩
theorem serves_enumT {a : Addr} {vs : List V} {l : List D} {I1 : Hp} (ha : SqT K I1 a vs) (r : RpA K I1 vs l) : Serves K F (IteT K a) (enumD l) I1 := fun z σ I H ok s => by
  have hq : SqT K H a vs := same_tup ok.sub (same_tup s ha)
  rw [enumD_len]
  refine ⟨fun i hi => ?_, ⟨vs, hq, r.length⟩, fun i x H' hi y => ?_⟩
  · have hi' : i < vs.length := by rw [r.length]; exact hi
    exact ⟨vs, vs[i], hq, by simp [hi']⟩
  · obtain ⟨T, x', rfl, hT, rfl, y⟩ := y
    obtain ⟨d, e, rd⟩ := r.get' (y vs hq)
    obtain ⟨I', o2, s2, r2⟩ := pair_ok (n := i) ok hT (rd.mono s)
    exact ⟨I', _, enumD_get e, o2, s2, r2⟩
end
def itemsD : D → Option (List D)
  | .list l => some l
  | .tuple l => some l
  | _ => none
def wEnum (u : WA) : WI := fun z R => u z fun es z1 => ∃ d l, es = [.d d] ∧ itemsD d = some l ∧ R (enumD l) z1
theorem xi_enum {X : Cx} {F : Fx} {e : Expr} {u : WA} {p pos tpos : Pos} {elts : List Expr} {kk : Nat} (hg : Gl X "enumerate") (hm : X.mg "enumerate" = none) (ha : XA X F [e] u) (hs : starEach [e] X.env = [(false, eval e X.env)] := by rfl) :
    XI X F (.Tuple elts kk tpos) (.Call (.Name "enumerate" p) [e] [] pos) (wEnum u) :=
  ⟨fun z R R' k w => ha.mono _ _ _ (fun es z1 ⟨d, l, e1, e2, q⟩ => ⟨d, l, e1, e2, k _ _ q⟩) w, pi_imp (pi_enumT hg hm ha.run hs) fun σ H R ⟨z, I, ok, w⟩ => ha.at ok w fun es z1 vs I1 H1 ⟨d, l, e1, e2, q⟩ o s ev => by
    subst e1
    cases ev with
    | cons r t =>
      cases t
      cases d <;> simp [itemsD] at e2
      · subst e2
        cases r with
        | lst h ra => exact ⟨_, _, rfl, .inl ⟨SqL.of (o.sub _ _ h), q _ I1 H1 o s (serves_enum h ra)⟩⟩
      · subst e2
        cases r with
        | tup h ra => exact ⟨_, _, rfl, .inr ⟨same_tup o.sub h.sq, q _ I1 H1 o s (serves_enumT h.sq ra)⟩⟩⟩
end L3
namespace L3
open PySem PySem.Spec PyProof.Rows L2 PySem.SeqAt

def wForL (g : GS) (t : WS) (E : En) : List D → SS → Prop
  | [], z => E.nx z
  | x :: xs, z => ∃ z1, g x z = some z1 ∧ t { nx := fun z' => wForL g t E xs z', rt := E.rt, bk := E.nx, ct := fun z' => wForL g t E xs z' } z1
def wFor (s : WI) (g : GS) (t : WS) : WS := fun E z => s z fun items z1 => wForL g t E items z1
theorem wForL_mono {g : GS} {t : WS} (h : MonoS t) {E E' : En} (le : E.le E') : ∀ (l : List D) (z : SS), wForL g t E l z → wForL g t E' l z
  | [], z, w => le.nx z w
  | x :: xs, z, ⟨z1, e, w⟩ => ⟨z1, e, h { nx := fun z' => wForL g t E xs z', rt := E.rt, bk := E.nx, ct := fun z' => wForL g t E xs z' } _ _ ⟨fun z' q => wForL_mono h le xs z' q, le.rt, le.nx, fun z' q => wForL_mono h le xs z' q⟩ w⟩
section
variable {X : Cx} {F : Fx} {pos : Pos} {tg iter : Expr} {body : List Stmt} {s : WI} {g : GS} {t : WS} {is : List Nat}
theorem xs_for (hp : PassesOwn (model X.prog X.w) X.A X.env X.xe) (hc : X.calm = true) (hi : XI X F tg iter s) (hg : XG X F tg is g) (hb : XSs X F body t)
    (hs : ∀ x, foldedSetIterable iter X.env x = pure x := by intro _; rfl) : XS X F (.For tg iter body [] pos) (wFor s g t) :=
  ⟨fun E E' z l w => hi.mono _ _ _ (fun items z1 q => wForL_mono hb.mono l items z1 q) w, ps_imp (ps_for hp hc hi.run hg.run hb.run hs) fun D σ H ⟨z, I, ok, w⟩ => ⟨z, I, ok, hi.mono _ _ _ (fun items z1 w J I1 H1 ok1 s1 sv => by
    refine ⟨fun i m σ H => m = items.length - i ∧ i ≤ items.length ∧ ∃ z I', Ok X.K F z σ I' H ∧ Same I1 I' ∧ wForL g t (endsOf X.K F I D) (items.drop i) z, ⟨items.length, by simp, Nat.zero_le _, z1, I1, ok1, Same.refl _, by simpa using w⟩, ?_⟩
    rintro i m σ2 H2 ⟨rfl, hi, z2, I2, ok2, s2, w2⟩
    obtain ⟨go, stop, yld⟩ := sv z2 σ2 I2 H2 ok2 s2
    by_cases hlt : i < items.length
    · refine .inr ⟨go i hlt, fun σ' H' => ∃ z I', Ok X.K F z σ' I' H' ∧ Same I1 I' ∧ wForL g t (endsOf X.K F I D) (items.drop (i + 1)) z, fun σ' H' ⟨z', I', a, b, c⟩ => ⟨items.length - (i + 1), by omega, rfl, hlt, z', I', a, b, c⟩, fun x H' y => ?_⟩
      obtain ⟨I3, d, e, ok3, s3, r⟩ := yld i x H' hlt y
      have ed : items.drop i = d :: items.drop (i + 1) := by
        rw [List.drop_eq_getElem_cons hlt]
        rw [List.getElem?_eq_getElem hlt] at e
        rw [Option.some.inj e]
      rw [ed] at w2
      obtain ⟨z4, e4, w4⟩ := w2
      refine ⟨z2, I3, d, z4, ok3, r, e4, fun σ' ok' _ => ⟨z4, I3, ok', hb.mono { nx := fun z' => wForL g t (endsOf X.K F I D) (items.drop (i + 1)) z', rt := (endsOf X.K F I D).rt, bk := (endsOf X.K F I D).nx, ct := fun z' => wForL g t (endsOf X.K F I D) (items.drop (i + 1)) z' } _ _ ?_ w4⟩⟩
      have s13 := s2.trans s3.imm
      have s03 := s1.imm.trans s13
      exact ⟨fun z' q σ' I' H' ok' s' => ⟨z', I', ok', s13.trans s', q⟩, fun _ _ q => q.later s03, fun _ q => q.later s03, fun z' q σ' I' H' ok' s' => ⟨z', I', ok', s13.trans s', q⟩⟩
    · have e : i = items.length := by omega
      subst e
      refine .inl ⟨stop, ?_⟩
      rw [List.drop_length] at w2
      exact w2 σ2 I2 H2 ok2 (s1.imm.trans s2)) w⟩⟩
end

structure CI (K : PySem.W.Frag) (F : Fx) (zb : SS) (σb : St) (Ib Hb : Hp) (a : Addr) (z : SS) (σ : St) (I H : Hp) (acc : List D) : Prop where
  ok : Ok K F z σ I H
  imm : Same Ib I
  new : ∀ c o, I c = some o → Ib c = some o ∨ Hb c = none ∨ IsOwn zb σb c
  keep : ∀ c o, Hb c = some o → ¬ IsOwn zb σb c → H c = some o
  own : ∀ c, IsOwn z σ c → IsOwn zb σb c
  osub : ∀ (i : Nat) (b : Option Nat) (l : List D), z[i]? = some (some (.own b l)) → ∃ l' : List D, zb[i]? = some (some (.own b l'))
  there : ∀ c, H c = none → Hb c = none
  acc : ∃ vs, H a = some (.lst vs) ∧ RpA K I vs acc
  dI : I a = none
  d0 : F.H0 a = none
  dW : a ∉ F.W
  dB : Hb a = none
  dO : ¬ IsOwn zb σb a
section
variable {K : PySem.W.Frag} {F : Fx} {zb z z' : SS} {σb σ σ' : St} {Ib Hb I H I' H' : Hp} {a : Addr} {acc : List D}
theorem CI.step (c : CI K F zb σb Ib Hb a z σ I H acc) (ok : Ok K F z' σ I' H') (s : Step z σ I H z' I' H') : CI K F zb σb Ib Hb a z' σ I' H' acc where
  ok := ok
  imm := c.imm.trans s.imm
  new := fun b o h => by
    rcases s.new b o h with h | h | h
    · exact c.new b o h
    · exact .inr (.inl (c.there b h))
    · exact .inr (.inr (c.own b h))
  keep := fun b o h hn => s.keep b o (c.keep b o h hn) fun q => hn (c.own b q)
  own := fun b h => c.own b (s.own h)
  osub := fun i b l h => by
    obtain ⟨l1, h1⟩ := s.osub i b l h
    exact c.osub i b l1 h1
  there := fun b h => c.there b (s.there b h)
  acc := by
    obtain ⟨vs, e, r⟩ := c.acc
    exact ⟨vs, s.keep a _ e fun q => c.dO (c.own a q), r.mono s.imm⟩
  dI := by
    cases q : I' a with
    | none => rfl
    | some o =>
      rcases s.new a o q with h | h | h
      · rw [c.dI] at h; cases h
      · obtain ⟨vs, e, _⟩ := c.acc
        rw [h] at e; cases e
      · exact absurd (c.own a h) c.dO
  d0 := c.d0
  dW := c.dW
  dB := c.dB
  dO := c.dO
theorem CI.app (c : CI K F zb σb Ib Hb a z σ I H acc) {d : D} {v : V} (r : Rp K I v d) : ∃ vs, H a = some (.lst vs) ∧ vs.length = acc.length ∧ CI K F zb σb Ib Hb a z σ I (upd H a (.lst (vs ++ [v]))) (acc ++ [d]) := by
  obtain ⟨vs, e, ra⟩ := c.acc
  have hn : ¬ IsOwn z σ a := fun q => c.dO (c.own a q)
  refine ⟨vs, e, ra.length, ⟨⟨c.ok.len, c.ok.val, fun i b l h => ?_, c.ok.dis, fun b o h => ?_, c.ok.base, c.ok.new, fun b o h hw => ?_, fun b hw => ?_⟩, c.imm, c.new, fun b o h hn => ?_, c.own, c.osub, fun b h => ?_, ⟨_, upd_same, ra.append (.cons r .nil)⟩, c.dI, c.d0, c.dW, c.dB, c.dO⟩⟩
  · obtain ⟨p, ws, e1, e2, e3⟩ := c.ok.own i b l h
    have ne : p ≠ a := fun q => hn ⟨i, b, l, h, by rw [e1, q]⟩
    exact ⟨p, ws, e1, by rw [upd_ne ne]; exact e2, e3⟩
  · have ne : b ≠ a := fun q => by subst q; rw [c.dI] at h; cases h
    rw [upd_ne ne]; exact c.ok.sub b o h
  · have ne : b ≠ a := fun q => by subst q; rw [c.d0] at h; cases h
    rw [upd_ne ne]; exact c.ok.keep b o h hw
  · obtain ⟨f1, f2, ws, f3⟩ := c.ok.wf b hw
    have ne : b ≠ a := fun q => c.dW (by rw [← q]; exact hw)
    exact ⟨f1, f2, ws, by rw [upd_ne ne]; exact f3⟩
  · have ne : b ≠ a := fun q => by subst q; rw [c.dB] at h; cases h
    rw [upd_ne ne]; exact c.keep b o h hn
  · by_cases q : b = a
    · subst q; exact c.dB
    · rw [upd_ne q] at h; exact c.there b h
theorem killAll_get : ∀ {is : List Nat} {z : SS} {j : Nat} {x : S}, (killAll is z)[j]? = some (some x) → j ∉ is ∧ z[j]? = some (some x)
  | [], _, _, _, h => ⟨by simp, h⟩
  | i :: r, z, j, x, h => by
    unfold killAll at h
    obtain ⟨h1, h2⟩ := killAll_get h
    rcases get_set h2 with ⟨rfl, q, hl⟩ | ⟨hj, q⟩
    · cases q
    · exact ⟨by simp [hj, h1], q⟩
/-- the block's own names forgotten -/
theorem CI.wiped (c : CI K F zb σb Ib Hb a z σ' I H acc) {vs : List Nat} (hw : wipe σ' vs = wipe σ vs) : CI K F zb σb Ib Hb a (killAll vs z) (wipe σ vs) I H acc := by
  have hl : (wipe σ vs).length = σ'.length := by rw [← hw, wipe_length]
  have ok2 : Ok K F (killAll vs z) (wipe σ vs) I H := (c.ok.killAll (is := vs)).slots hl fun i s h => by
    rw [← hw]; exact wipe_out (killAll_get h).1
  refine ⟨ok2, c.imm, c.new, c.keep, fun b ⟨i, t, l, e1, e2⟩ => ?_, fun i b l h => c.osub i b l (killAll_get h).2, c.there, c.acc, c.dI, c.d0, c.dW, c.dB, c.dO⟩
  obtain ⟨h1, h2⟩ := killAll_get e1
  rw [← hw, wipe_out h1] at e2
  exact c.own b ⟨i, t, l, h2, e2⟩
theorem CI.tgt {is : List Nat} (c : CI K F zb σb Ib Hb a z σ I H acc) (ok : Ok K F z' σ' I H) (t : Tgt is z σ z' σ') : CI K F zb σb Ib Hb a z' σ' I H acc :=
  ⟨ok, c.imm, c.new, c.keep, fun b h => c.own b (t.own b h), fun i b l h => c.osub i b l (t.idx i b l h), c.there, c.acc, c.dI, c.d0, c.dW, c.dB, c.dO⟩
end
def restS : List Nat → SS → SS → SS
  | [], _, z' => z'
  | i :: r, z, z' => (restS r z z').set i (match z[i]? with
    | some (some (.val d)) => some (.val d)
    | _ => none)
theorem restS_len : ∀ (is : List Nat) (z z' : SS), (restS is z z').length = z'.length
  | [], _, _ => rfl
  | i :: r, z, z' => by unfold restS; rw [List.length_set, restS_len r]
theorem restS_get : ∀ {is : List Nat} {z z' : SS} {j : Nat} {x : S}, (restS is z z')[j]? = some (some x) → (j ∉ is ∧ z'[j]? = some (some x)) ∨ (∃ d, x = .val d ∧ z[j]? = some (some (.val d)))
  | [], _, _, _, _, h => .inl ⟨by simp, h⟩
  | i :: r, z, z', j, x, h => by
    unfold restS at h
    rcases get_set h with ⟨rfl, q, hl⟩ | ⟨hj, q⟩
    · split at q
      · rename_i d e
        cases q
        exact .inr ⟨d, rfl, e⟩
      · cases q
    · rcases restS_get q with ⟨h1, h2⟩ | h2
      · exact .inl ⟨by simp [hj, h1], h2⟩
      · exact .inr h2
section
variable {K : PySem.W.Frag} {F : Fx} {zb z : SS} {σ : St} {Ib Hb I H : Hp} {a : Addr} {acc : List D}
/-- the comprehension is made -/
theorem CI.done (c : CI K F zb σ Ib Hb a z (wipe σ vs) I H acc) (okb : Ok K F zb σ Ib Hb) : Ok K F (restS vs zb z) σ I H ∧ Step zb σ Ib Hb (restS vs zb z) I H ∧ New K F (restS vs zb z) σ I Hb H a acc := by
  have hl : z.length = σ.length := by rw [c.ok.len, wipe_length]
  have owns : ∀ (i : Nat) (b : Option Nat) (l : List D), (restS vs zb z)[i]? = some (some (.own b l)) → i ∉ vs ∧ z[i]? = some (some (.own b l)) := fun i b l h => by
    rcases restS_get h with h | ⟨d, q, _⟩
    · exact h
    · cases q
  have isown : ∀ p, IsOwn (restS vs zb z) σ p → IsOwn z (wipe σ vs) p := fun p ⟨i, b, l, e1, e2⟩ => by
    obtain ⟨h1, h2⟩ := owns i b l e1
    exact ⟨i, b, l, h2, by rw [wipe_out h1]; exact e2⟩
  refine ⟨⟨by rw [restS_len, hl], fun i d h => ?_, fun i b l h => ?_, fun i j b b' l l' p e f g h => ?_, c.ok.sub, c.ok.base, c.ok.new, c.ok.keep, c.ok.wf⟩, ⟨c.imm, c.new, c.keep, fun i b l h => c.osub i b l (owns i b l h).2, c.there⟩, ⟨c.dB, c.acc, c.dI, c.d0, fun q => c.dO (c.own a (isown a q))⟩⟩
  · rcases restS_get h with ⟨h1, h2⟩ | ⟨d', q, h2⟩
    · obtain ⟨v, e, r⟩ := c.ok.val i d h2
      exact ⟨v, by rw [← wipe_out h1]; exact e, r⟩
    · cases q
      obtain ⟨v, e, r⟩ := okb.val i _ h2
      exact ⟨v, e, r.mono c.imm⟩
  · obtain ⟨h1, h2⟩ := owns i b l h
    obtain ⟨p, ws, e1, e2⟩ := c.ok.own i b l h2
    exact ⟨p, ws, by rw [← wipe_out h1]; exact e1, e2⟩
  · obtain ⟨h1, h2⟩ := owns i b l e
    obtain ⟨h3, h4⟩ := owns j b' l' f
    exact c.ok.dis i j b b' l l' p h2 h4 (by rw [wipe_out h1]; exact g) (by rw [wipe_out h3]; exact h)
/-- a comprehension begins -/
theorem Ok.begin (ok : Ok K F z σ I H) (hp : H a = none) (vs : List Nat) : CI K F z σ I H a (L3.killAll vs z) (wipe σ vs) I (upd H a (.lst [])) [] := by
  obtain ⟨o2, s2⟩ := ok.fresh (.lst []) hp
  have c : CI K F z σ I H a z σ I (upd H a (.lst [])) [] := ⟨o2, s2.imm, s2.new, s2.keep, fun _ h => h, s2.osub, s2.there, ⟨[], upd_same, .nil⟩, ok.i0 hp, (ok.h0 hp).1, (ok.h0 hp).2, hp, ok.nown hp⟩
  exact c.wiped rfl
end
structure XTs (X : Cx) (F : Fx) (ifs : List Expr) (t : WT) : Prop where
  mono : Mono t
  run : PTs X ifs (liftT X.K F t)
theorem pts_imp {X : Cx} {e : List Expr} {t t' : TT} (h : PTs X e t) (i : ∀ σ H Q, t' σ H Q → t σ H Q) : PTs X e t' := ⟨fun pins s σ H Q I q => h.run pins s σ H Q I (i σ H Q q)⟩
def wYes : WT := fun z R => R true z
theorem xts_nil {X : Cx} {F : Fx} : XTs X F [] wYes := ⟨fun z R R' k w => k _ _ w, pts_imp pts_nil fun σ H Q ⟨z, I, ok, w⟩ => w I H ok .refl⟩
theorem xts_one {X : Cx} {F : Fx} {c : Expr} {t : WT} (h : XT X F c t) : XTs X F [c] t := ⟨h.mono, pts_one h.run⟩
def wLcL (g : GS) (own : List Nat) (tt : WT) (te : WE) (k : List D → SS → Prop) : List D → List D → SS → Prop
  | [], acc, z => k acc z
  | x :: xs, acc, z => ∃ z1, g x z = some z1 ∧ tt z1 fun b z2 => if b = true then te z2 fun ev z3 => ∃ d, ev = .d d ∧ acc.length < sizeLine ∧ wLcL g own tt te k xs (acc ++ [d]) (killAll own z3) else wLcL g own tt te k xs acc (killAll own z2)
theorem wLcL_mono {g : GS} {own : List Nat} {tt : WT} {te : WE} {k k' : List D → SS → Prop} (ht : Mono tt) (he : Mono te) (hk : ∀ acc z, k acc z → k' acc z) : ∀ (l acc : List D) (z : SS), wLcL g own tt te k l acc z → wLcL g own tt te k' l acc z
  | [], acc, z, w => hk acc z w
  | x :: xs, acc, z, ⟨z1, e, w⟩ => ⟨z1, e, ht _ _ _ (fun b z2 q => by
    cases b with
    | true => exact he _ _ _ (fun ev z3 ⟨d, e, l, q⟩ => ⟨d, e, l, wLcL_mono ht he hk xs _ _ q⟩) q
    | false => exact wLcL_mono ht he hk xs _ _ q) w⟩
def wLc (s : WI) (g : GS) (own : List Nat) (tt : WT) (te : WE) : WR := fun z R => s z fun items z1 => wLcL g own tt te (fun acc z' => R (.n acc) (restS own z1 z')) items [] (killAll own z1)
def wLcL2 (g : GS) (own : List Nat) (tt : WT) (s1 : WI) (g1 : GS) (vs1 : List Nat) (tt1 : WT) (te : WE) (k : List D → SS → Prop) : List D → List D → SS → Prop
  | [], acc, z => k acc z
  | x :: xs, acc, z => ∃ z1, g x z = some z1 ∧ tt z1 fun b z2 => if b = true then s1 z2 fun items z3 => wLcL g1 vs1 tt1 te (fun acc' z4 => wLcL2 g own tt s1 g1 vs1 tt1 te k xs acc' (killAll own z4)) items acc (killAll vs1 z3) else wLcL2 g own tt s1 g1 vs1 tt1 te k xs acc (killAll own z2)
def wLc2 (s : WI) (g : GS) (own : List Nat) (tt : WT) (s1 : WI) (g1 : GS) (vs1 : List Nat) (tt1 : WT) (te : WE) : WR := fun z R => s z fun items z1 => wLcL2 g own tt s1 g1 vs1 tt1 te (fun acc z' => R (.n acc) (restS own z1 z')) items [] (killAll own z1)
section
variable {X : Cx} {F : Fx} {tg iter elt : Expr} {g : GS} {tt : WT} {te : WE} {vs : List Nat}
/-- one clause's loop -/
theorem lc_loop {is : List Nat} {ifs : List Expr} {J : It} {items acc : List D} {I1 : Hp} {zb : SS} {σb : St} {Ib Hb : Hp} {a : Addr} {k : List D → SS → Prop} {Fin : Hp → Prop} {z : SS} {σ : St} {I H : Hp} {gt : TG} {t1 : TT} {t2 : TE}
    (hg : ∀ v σ H Q, (∃ z I d z', Ok X.K F z σ I H ∧ Rp X.K I v d ∧ g d z = some z' ∧ ∀ σ', Ok X.K F z' σ' I H → Tgt is z σ z' σ' → Q σ' H) → gt v σ H Q) (hv : ∀ i ∈ is, i ∈ vs)
    (ht : ∀ σ H Q, liftT X.K F tt σ H Q → t1 σ H Q) (mt : Mono tt) (he : ∀ σ H Q, liftE X.K F te σ H Q → t2 σ H Q) (me : Mono te)
    (sv : Serves X.K F J items I1) (c : CI X.K F zb σb Ib Hb a z (wipe σ vs) I H acc) (hI : Same I1 I) (w : wLcL g vs tt te k items acc z)
    (fin : ∀ z I H acc, CI X.K F zb σb Ib Hb a z (wipe σ vs) I H acc → k acc z → Fin H) :
    ∃ W : Nat → Nat → Hp → Prop, (∃ m, W 0 m H) ∧ ∀ i m H, W i m H →
      (J.stop i H ∧ Fin H) ∨ (J.go i H ∧ ∃ Nx : Hp → Prop, (∀ H', Nx H' → ∃ m', m' < m ∧ W (i + 1) m' H') ∧ ∀ x H', J.yld i H x H' → gt x (wipe σ vs) H' fun σ2 H2 => wipe σ2 vs = wipe σ vs ∧ t1 σ2 H2 fun b H3 =>
        if b = true then t2 σ2 H3 fun y H4 => ∃ acc, H4 a = some (.lst acc) ∧ acc.length < sizeLine ∧ Nx (upd H4 a (.lst (acc ++ [y]))) else Nx H3) := by
  refine ⟨fun i m H => m = items.length - i ∧ i ≤ items.length ∧ ∃ z I acc, CI X.K F zb σb Ib Hb a z (wipe σ vs) I H acc ∧ Same I1 I ∧ wLcL g vs tt te k (items.drop i) acc z, ⟨items.length, by simp, Nat.zero_le _, z, I, acc, c, hI, by simpa using w⟩, ?_⟩
  rintro i m H2 ⟨rfl, hi, z2, I2, acc2, c2, s2, w2⟩
  obtain ⟨go, stop, yld⟩ := sv z2 _ I2 H2 c2.ok s2
  by_cases hlt : i < items.length
  · refine .inr ⟨go i hlt, fun H' => ∃ z I acc, CI X.K F zb σb Ib Hb a z (wipe σ vs) I H' acc ∧ Same I1 I ∧ wLcL g vs tt te k (items.drop (i + 1)) acc z, fun H' ⟨z', I', acc', p, q, r⟩ => ⟨items.length - (i + 1), by omega, rfl, hlt, z', I', acc', p, q, r⟩, fun x H' y => ?_⟩
    obtain ⟨I3, d, e, ok3, s3, r⟩ := yld i x H' hlt y
    have ed : items.drop i = d :: items.drop (i + 1) := by
      rw [List.drop_eq_getElem_cons hlt]
      rw [List.getElem?_eq_getElem hlt] at e
      rw [Option.some.inj e]
    rw [ed] at w2
    obtain ⟨z4, e4, w4⟩ := w2
    have c3 := c2.step ok3 s3
    refine hg _ _ _ _ ⟨z2, I3, d, z4, ok3, r, e4, fun σ' ok' tg => ⟨?_, ?_⟩⟩
    · have := tg.wp vs hv
      rw [this]
      have hww : ∀ (ws : List Nat), wipe (wipe σ ws) ws = wipe σ ws := by
        intro ws
        have hs : ∀ (us : List Nat), (∀ i ∈ us, i ∈ ws) → wipe (wipe σ us) ws = wipe σ ws := by
          intro us
          induction us with
          | nil => intro _; rfl
          | cons u us ih =>
            intro hm
            show wipe ((wipe σ us).set u none) ws = _
            rw [wipe_set (hm u List.mem_cons_self), ih fun i hi => hm i (List.mem_cons_of_mem _ hi)]
        exact hs ws fun _ h => h
      rw [hww]
    · have hw' : wipe σ' vs = wipe σ vs := by
        have := tg.wp vs hv
        rw [this]
        have hs : ∀ (us : List Nat), (∀ i ∈ us, i ∈ vs) → wipe (wipe σ us) vs = wipe σ vs := by
          intro us
          induction us with
          | nil => intro _; rfl
          | cons u us ih =>
            intro hm
            show wipe ((wipe σ us).set u none) vs = _
            rw [wipe_set (hm u List.mem_cons_self), ih fun i hi => hm i (List.mem_cons_of_mem _ hi)]
        exact hs vs fun _ h => h
      have c4 := c3.tgt ok' tg
      refine ht _ _ _ ⟨z4, I3, ok', mt _ _ _ (fun b z5 q I5 H5 o5 s5 => ?_) w4⟩
      have c5 := c4.step o5 s5
      cases b with
      | true =>
        simp only [if_true] at q ⊢
        refine he _ _ _ ⟨z5, I5, o5, me _ _ _ (fun ev z6 ⟨d', e', hl, q⟩ v I6 H6 o6 s6 r6 => ?_) q⟩
        subst e'
        obtain ⟨ws, f1, f2, c7⟩ := (c5.step o6 s6).app r6
        exact ⟨ws, f1, by rw [f2]; exact hl, _, I6, _, c7.wiped hw', ((s2.trans s3.imm).trans s5.imm).trans s6.imm, q⟩
      | false =>
        simp only [Bool.false_eq_true, if_false] at q ⊢
        exact ⟨_, I5, _, c5.wiped hw', (s2.trans s3.imm).trans s5.imm, q⟩
  · have e : i = items.length := by omega
    subst e
    rw [List.drop_length] at w2
    exact .inl ⟨stop, fin z2 I2 H2 acc2 c2 w2⟩
variable {ifs : List Expr} {scope : Scope} {own : List (Str × Nat)} {pos : Pos} {s : WI} {is : List Nat}
theorem lc_run {σ : St} {H : Hp} {Q : VK} (hi : Mono s) (hv : ∀ i ∈ is, i ∈ own.map (·.2)) (mt : Mono tt) (me : Mono te) (h : liftR X.K F (wLc s g (own.map (·.2)) tt te) σ H Q) :
    tLc (liftI X.K F s) (fun v σ H Q => ∃ z I d z', Ok X.K F z σ I H ∧ Rp X.K I v d ∧ g d z = some z' ∧ ∀ σ', Ok X.K F z' σ' I H → Tgt is z σ z' σ' → Q σ' H) (liftT X.K F tt) (liftE X.K F te) (own.map (·.2)) σ H Q := by
  obtain ⟨z, I, ok, w⟩ := h
  refine ⟨z, I, ok, hi _ _ _ (fun items z1 w J I1 H1 ok1 s1 sv a ha => ?_) w⟩
  refine lc_loop (X := X) (ifs := []) (fun _ _ _ _ q => q) hv (fun _ _ _ q => q) mt (fun _ _ _ q => q) me sv (ok1.begin ha (own.map (·.2))) (Same.refl _) w fun z2 I2 H2 acc c q => ?_
  obtain ⟨o3, s3, n⟩ := c.done ok1
  exact q a I2 H2 o3 (s1.trans s3) (n.back s1)
theorem xr_lc (hc : X.calm = true) (hN : X.N.Nodup) (hi : XI X F tg iter s) (ok : BlkOk X.N X.env.scope scope own) (hv : ∀ i ∈ is, i ∈ own.map (·.2))
    (hg : ∀ (s : Shared) (H : Hp) (C : Addr) (cl : List (Str × Addr)) (fp : List Addr), XG (X.blk s H scope (compEnvC scope cl C X.env) fp) F tg is g) (ht : ∀ (s : Shared) (H : Hp) (C : Addr) (cl : List (Str × Addr)) (fp : List Addr), XTs (X.blk s H scope (compEnvC scope cl C X.env) fp) F ifs tt)
    (he : ∀ (s : Shared) (H : Hp) (C : Addr) (cl : List (Str × Addr)) (fp : List Addr), XE (X.blk s H scope (compEnvC scope cl C X.env) fp) F elt te) (mt : Mono tt) (me : Mono te) (hs : ∀ x, foldedSetIterable iter X.env x = pure x := by intro _; rfl) :
    XR X F (.ListComp elt [⟨tg, iter, ifs, 0⟩] scope pos) (wLc s g (own.map (·.2)) tt te) :=
  ⟨fun z R R' k w => hi.mono _ _ _ (fun items z1 q => wLcL_mono mt me (fun acc z q => k _ _ q) _ _ _ q) w,
    pe_imp (pe_lc hc hN hi.run ok (fun s H C cl fp => (hg s H C cl fp).run) (fun s H C cl fp => (ht s H C cl fp).run) (fun s H C cl fp => (he s H C cl fp).run) hs) fun σ H Q h => lc_run hi.mono hv mt me h⟩
/-- name = [..] -/
def wLcSet (i : Nat) (t : WR) : WS := fun E z => t z fun r z1 => E.nx (z1.set i (some (.val r.toD)))
theorem xs_setLc {i : Nat} {y : Str} {py spos : Pos} (hc : X.calm = true) (hN : X.N.Nodup) (hy : X.N[i]? = some y) (hyl : X.env.scope.names.lookup y = some .local)
    (hsw : swapsWith (.ListComp elt [⟨tg, iter, ifs, 0⟩] scope pos) (some (.Name y py)) spos.line X.env = pure true) (hi : XI X F tg iter s) (ok : BlkOk X.N X.env.scope scope own) (hv : ∀ i ∈ is, i ∈ own.map (·.2))
    (hg : ∀ (s : Shared) (H : Hp) (C : Addr) (cl : List (Str × Addr)) (fp : List Addr), XG (X.blk s H scope (compEnvC scope cl C X.env) fp) F tg is g) (ht : ∀ (s : Shared) (H : Hp) (C : Addr) (cl : List (Str × Addr)) (fp : List Addr), XTs (X.blk s H scope (compEnvC scope cl C X.env) fp) F ifs tt)
    (he : ∀ (s : Shared) (H : Hp) (C : Addr) (cl : List (Str × Addr)) (fp : List Addr), XE (X.blk s H scope (compEnvC scope cl C X.env) fp) F elt te) (mt : Mono tt) (me : Mono te) (hs : ∀ x, foldedSetIterable iter X.env x = pure x := by intro _; rfl) :
    XS X F (.Assign [.Name y py] (.ListComp elt [⟨tg, iter, ifs, 0⟩] scope pos) spos) (wLcSet i (wLc s g (own.map (·.2)) tt te)) :=
  ⟨fun E E' z l w => hi.mono _ _ _ (fun items z1 q => wLcL_mono mt me (fun acc z q => l.nx _ q) _ _ _ q) w,
    ps_imp (ps_setLc hc hN hy hyl hsw hi.run ok (fun s H C cl fp => (hg s H C cl fp).run) (fun s H C cl fp => (ht s H C cl fp).run) (fun s H C cl fp => (he s H C cl fp).run) hs) fun D σ H ⟨z, I, o, w⟩ => by
      refine lc_run (X := X) (Q := fun x H1 => gName i x σ H1 D.nx) hi.mono hv mt me ⟨z, I, o, hi.mono _ _ _ (fun items z1 q => wLcL_mono mt me (fun acc z' q => ?_) _ _ _ q) w⟩
      refine PostX.frz fun v I' H' o' s' r => ?_
      exact q _ I' H' (o'.set r) s'.imm⟩
end
end L3
namespace L3
open PySem PySem.Spec PyProof.Rows L2 PySem.SeqAt

section
variable {X : Cx} {F : Fx} {tg iter tg1 iter1 elt : Expr} {g g1 : GS} {tt tt1 : WT} {te : WE} {vs1 : List Nat}
variable {ifs ifs1 : List Expr} {scope : Scope} {own : List (Str × Nat)} {pos : Pos} {s s1 : WI} {is is1 : List Nat}
theorem wLcL2_mono {k k' : List D → SS → Prop} {own : List Nat} (ht : Mono tt) (hs : Mono s1) (ht1 : Mono tt1) (he : Mono te) (hk : ∀ acc z, k acc z → k' acc z) : ∀ (l acc : List D) (z : SS), wLcL2 g own tt s1 g1 vs1 tt1 te k l acc z → wLcL2 g own tt s1 g1 vs1 tt1 te k' l acc z
  | [], acc, z, w => hk acc z w
  | x :: xs, acc, z, ⟨z1, e, w⟩ => ⟨z1, e, ht _ _ _ (fun b z2 q => by
    cases b with
    | true => exact hs _ _ _ (fun items z3 q => wLcL_mono ht1 he (fun acc' z4 q => wLcL2_mono ht hs ht1 he hk xs _ _ q) _ _ _ q) q
    | false => exact wLcL2_mono ht hs ht1 he hk xs _ _ q) w⟩
theorem wipe_wipe {σ : St} {us ws : List Nat} (h : ∀ i ∈ us, i ∈ ws) : wipe (wipe σ us) ws = wipe σ ws := by
  induction us with
  | nil => rfl
  | cons u us ih =>
    show wipe ((wipe σ us).set u none) ws = _
    rw [wipe_set (h u List.mem_cons_self), ih fun i hi => h i (List.mem_cons_of_mem _ hi)]
theorem lc2_run {σ : St} {Hz : Hp} {Q : VK} (hi : Mono s) (hv : ∀ i ∈ is, i ∈ own.map (·.2)) (hv1 : ∀ i ∈ is1, i ∈ vs1) (hvo : ∀ i ∈ vs1, i ∈ own.map (·.2)) (mt : Mono tt) (ms : Mono s1) (mt1 : Mono tt1) (me : Mono te) (h : liftR X.K F (wLc2 s g (own.map (·.2)) tt s1 g1 vs1 tt1 te) σ Hz Q) :
    tLc2 (liftI X.K F s) (fun v σ H Q => ∃ z I d z', Ok X.K F z σ I H ∧ Rp X.K I v d ∧ g d z = some z' ∧ ∀ σ', Ok X.K F z' σ' I H → Tgt is z σ z' σ' → Q σ' H) (liftT X.K F tt) (liftI X.K F s1)
      (fun v σ H Q => ∃ z I d z', Ok X.K F z σ I H ∧ Rp X.K I v d ∧ g1 d z = some z' ∧ ∀ σ', Ok X.K F z' σ' I H → Tgt is1 z σ z' σ' → Q σ' H) (liftT X.K F tt1) (liftE X.K F te) (own.map (·.2)) vs1 σ Hz Q := by
  obtain ⟨zz, Iz, okz, w⟩ := h
  refine ⟨zz, Iz, okz, hi _ _ _ (fun items z1 w J I1 H1 ok1 st1 sv a ha => ?_) w⟩
  generalize hvs : own.map (·.2) = vs at *
  refine ⟨fun i m H => m = items.length - i ∧ i ≤ items.length ∧ ∃ z I acc, CI X.K F z1 σ I1 H1 a z (wipe σ vs) I H acc ∧ Same I1 I ∧ wLcL2 g vs tt s1 g1 vs1 tt1 te (fun acc z' => PostX X.K F zz σ Iz Hz Q (.n acc) (restS vs z1 z')) (items.drop i) acc z,
    ⟨items.length, by simp, Nat.zero_le _, _, I1, [], ok1.begin ha vs, Same.refl _, by simpa using w⟩, ?_⟩
  rintro i m H2 ⟨rfl, hi, z2, I2, acc2, c2, s2, w2⟩
  obtain ⟨go, stop, yld⟩ := sv z2 _ I2 H2 c2.ok s2
  by_cases hlt : i < items.length
  · refine .inr ⟨go i hlt, fun H' => ∃ z I acc, CI X.K F z1 σ I1 H1 a z (wipe σ vs) I H' acc ∧ Same I1 I ∧ wLcL2 g vs tt s1 g1 vs1 tt1 te (fun acc z' => PostX X.K F zz σ Iz Hz Q (.n acc) (restS vs z1 z')) (items.drop (i + 1)) acc z, fun H' ⟨z', I', acc', p, q, r⟩ => ⟨items.length - (i + 1), by omega, rfl, hlt, z', I', acc', p, q, r⟩, fun x H' y => ?_⟩
    obtain ⟨I3, d, e, ok3, s3, r⟩ := yld i x H' hlt y
    have ed : items.drop i = d :: items.drop (i + 1) := by
      rw [List.drop_eq_getElem_cons hlt]
      rw [List.getElem?_eq_getElem hlt] at e
      rw [Option.some.inj e]
    rw [ed] at w2
    obtain ⟨z4, e4, w4⟩ := w2
    have c3 := c2.step ok3 s3
    refine ⟨z2, I3, d, z4, ok3, r, e4, fun σ' ok' tg => ⟨?_, ?_⟩⟩
    · rw [tg.wp vs hv, wipe_wipe fun _ h => h]
    · have hw' : wipe σ' vs = wipe σ vs := by rw [tg.wp vs hv, wipe_wipe fun _ h => h]
      have c4 := c3.tgt ok' tg
      refine ⟨z4, I3, ok', mt _ _ _ (fun b z5 q I5 H5 o5 s5 => ?_) w4⟩
      have c5 := c4.step o5 s5
      cases b with
      | true =>
        simp only [if_true] at q ⊢
        refine ⟨z5, I5, o5, ms _ _ _ (fun items1 z6 q J1 I6 H6 o6 s6 sv1 => ?_) q⟩
        have c6 := c5.step o6 s6
        refine lc_loop (X := X) (ifs := []) (is := is1) (k := fun acc' z4 => wLcL2 g vs tt s1 g1 vs1 tt1 te (fun acc z' => PostX X.K F zz σ Iz Hz Q (.n acc) (restS vs z1 z')) (items.drop (i + 1)) acc' (killAll vs z4)) (fun _ _ _ _ q => q) hv1 (fun _ _ _ q => q) mt1 (fun _ _ _ q => q) me sv1 (c6.wiped rfl) (Same.refl _) q fun z7 I7 H7 acc7 c7 q7 => ?_
        have c8 := c7.wiped (vs := vs) (σ := σ) (by rw [wipe_wipe hvo, hw'])
        exact ⟨_, I7, _, c8, c8.imm, q7⟩
      | false =>
        simp only [Bool.false_eq_true, if_false] at q ⊢
        exact ⟨_, I5, _, c5.wiped hw', (s2.trans s3.imm).trans s5.imm, q⟩
  · have e : i = items.length := by omega
    subst e
    rw [List.drop_length] at w2
    obtain ⟨o3, s3, n⟩ := c2.done ok1
    exact .inl ⟨stop, w2 a I2 H2 o3 (st1.trans s3) (n.back st1)⟩
theorem xr_lc2 (hc : X.calm = true) (hN : X.N.Nodup) (hi : XI X F tg iter s) (ok : BlkOk X.N X.env.scope scope own) (hv : ∀ i ∈ is, i ∈ own.map (·.2)) (hv1 : ∀ i ∈ is1, i ∈ vs1) (hvo : ∀ i ∈ vs1, i ∈ own.map (·.2))
    (hg : ∀ (s : Shared) (H : Hp) (C : Addr) (cl : List (Str × Addr)) (fp : List Addr), XG (X.blk s H scope (compEnvC scope cl C X.env) fp) F tg is g) (ht : ∀ (s : Shared) (H : Hp) (C : Addr) (cl : List (Str × Addr)) (fp : List Addr), XTs (X.blk s H scope (compEnvC scope cl C X.env) fp) F ifs tt)
    (hi1 : ∀ (s : Shared) (H : Hp) (C : Addr) (cl : List (Str × Addr)) (fp : List Addr), XI (X.blk s H scope (compEnvC scope cl C X.env) fp) F tg1 iter1 s1)
    (hg1 : ∀ (s : Shared) (H : Hp) (C : Addr) (cl : List (Str × Addr)) (fp : List Addr), XG (X.blk s H scope (compEnvC scope cl C X.env) fp) F tg1 is1 g1) (ht1 : ∀ (s : Shared) (H : Hp) (C : Addr) (cl : List (Str × Addr)) (fp : List Addr), XTs (X.blk s H scope (compEnvC scope cl C X.env) fp) F ifs1 tt1)
    (he : ∀ (s : Shared) (H : Hp) (C : Addr) (cl : List (Str × Addr)) (fp : List Addr), XE (X.blk s H scope (compEnvC scope cl C X.env) fp) F elt te) (mt : Mono tt) (ms : Mono s1) (mt1 : Mono tt1) (me : Mono te) (hs : ∀ x, foldedSetIterable iter X.env x = pure x := by intro _; rfl) (hs1 : ∀ env x, foldedSetIterable iter1 env x = pure x := by intro _ _; rfl) :
    XR X F (.ListComp elt [⟨tg, iter, ifs, 0⟩, ⟨tg1, iter1, ifs1, 0⟩] scope pos) (wLc2 s g (own.map (·.2)) tt s1 g1 vs1 tt1 te) :=
  ⟨fun z R R' k w => hi.mono _ _ _ (fun items z1 q => wLcL2_mono mt ms mt1 me (fun acc z q => k _ _ q) _ _ _ q) w,
    pe_imp (pe_lc2 hc hN hi.run ok hvo (fun s H C cl fp => (hg s H C cl fp).run) (fun s H C cl fp => (ht s H C cl fp).run) (fun s H C cl fp => (hi1 s H C cl fp).run) (fun s H C cl fp => (hg1 s H C cl fp).run) (fun s H C cl fp => (ht1 s H C cl fp).run) (fun s H C cl fp => (he s H C cl fp).run) hs hs1) fun σ H Q h => lc2_run hi.mono hv hv1 hvo mt ms mt1 me h⟩
theorem xs_setLc2 {i : Nat} {y : Str} {py spos : Pos} (hc : X.calm = true) (hN : X.N.Nodup) (hy : X.N[i]? = some y) (hyl : X.env.scope.names.lookup y = some .local)
    (hsw : swapsWith (.ListComp elt [⟨tg, iter, ifs, 0⟩, ⟨tg1, iter1, ifs1, 0⟩] scope pos) (some (.Name y py)) spos.line X.env = pure true) (hi : XI X F tg iter s) (ok : BlkOk X.N X.env.scope scope own) (hv : ∀ i ∈ is, i ∈ own.map (·.2)) (hv1 : ∀ i ∈ is1, i ∈ vs1) (hvo : ∀ i ∈ vs1, i ∈ own.map (·.2))
    (hg : ∀ (s : Shared) (H : Hp) (C : Addr) (cl : List (Str × Addr)) (fp : List Addr), XG (X.blk s H scope (compEnvC scope cl C X.env) fp) F tg is g) (ht : ∀ (s : Shared) (H : Hp) (C : Addr) (cl : List (Str × Addr)) (fp : List Addr), XTs (X.blk s H scope (compEnvC scope cl C X.env) fp) F ifs tt)
    (hi1 : ∀ (s : Shared) (H : Hp) (C : Addr) (cl : List (Str × Addr)) (fp : List Addr), XI (X.blk s H scope (compEnvC scope cl C X.env) fp) F tg1 iter1 s1)
    (hg1 : ∀ (s : Shared) (H : Hp) (C : Addr) (cl : List (Str × Addr)) (fp : List Addr), XG (X.blk s H scope (compEnvC scope cl C X.env) fp) F tg1 is1 g1) (ht1 : ∀ (s : Shared) (H : Hp) (C : Addr) (cl : List (Str × Addr)) (fp : List Addr), XTs (X.blk s H scope (compEnvC scope cl C X.env) fp) F ifs1 tt1)
    (he : ∀ (s : Shared) (H : Hp) (C : Addr) (cl : List (Str × Addr)) (fp : List Addr), XE (X.blk s H scope (compEnvC scope cl C X.env) fp) F elt te) (mt : Mono tt) (ms : Mono s1) (mt1 : Mono tt1) (me : Mono te) (hs : ∀ x, foldedSetIterable iter X.env x = pure x := by intro _; rfl) (hs1 : ∀ env x, foldedSetIterable iter1 env x = pure x := by intro _ _; rfl) :
    XS X F (.Assign [.Name y py] (.ListComp elt [⟨tg, iter, ifs, 0⟩, ⟨tg1, iter1, ifs1, 0⟩] scope pos) spos) (wLcSet i (wLc2 s g (own.map (·.2)) tt s1 g1 vs1 tt1 te)) :=
  ⟨fun E E' z l w => hi.mono _ _ _ (fun items z1 q => wLcL2_mono mt ms mt1 me (fun acc z q => l.nx _ q) _ _ _ q) w,
    ps_imp (ps_setLc2 hc hN hy hyl hsw hi.run ok hvo (fun s H C cl fp => (hg s H C cl fp).run) (fun s H C cl fp => (ht s H C cl fp).run) (fun s H C cl fp => (hi1 s H C cl fp).run) (fun s H C cl fp => (hg1 s H C cl fp).run) (fun s H C cl fp => (ht1 s H C cl fp).run) (fun s H C cl fp => (he s H C cl fp).run) hs hs1) fun D σ H ⟨z, I, o, w⟩ => by
      refine lc2_run (X := X) (Q := fun x H1 => gName i x σ H1 D.nx) hi.mono hv hv1 hvo mt ms mt1 me ⟨z, I, o, hi.mono _ _ _ (fun items z1 q => wLcL2_mono mt ms mt1 me (fun acc z' q => ?_) _ _ _ q) w⟩
      refine PostX.frz fun v I' H' o' s' r => ?_
      exact q _ I' H' (o'.set r) s'.imm⟩
end

/-- an argument: a datum, or a list of the caller's own that the def may change -/
inductive AV where
  | val (d : D)
  | own (l : List D)
/-- what a def promises: from its arguments, what its answer and the list behind it (where it has one) are to satisfy -/
abbrev FS := List AV → (RV → Option (List D) → Prop) → Prop
def MonoF (p : FS) : Prop := ∀ as R R', (∀ r o, R r o → R' r o) → p as R → p as R'
inductive ArgsOk (K : PySem.W.Frag) (I H : Hp) : List V → List AV → Option Addr → Prop
  | nil : ArgsOk K I H [] [] none
  | val {v : V} {d : D} {vs : List V} {as : List AV} {w : Option Addr} : Rp K I v d → ArgsOk K I H vs as w → ArgsOk K I H (v :: vs) (.val d :: as) w
  | own {a : Addr} {ws : List V} {l : List D} {vs : List V} {as : List AV} : H a = some (.lst ws) → I a = none → RpA K I ws l → ArgsOk K I H vs as none → ArgsOk K I H (.ref a :: vs) (.own l :: as) (some a)
def OutOk (K : PySem.W.Frag) (I' H' : Hp) : Option Addr → Option (List D) → Prop
  | some a, some l => I' a = none ∧ ∃ ws, H' a = some (.lst ws) ∧ RpA K I' ws l
  | none, none => True
  | _, _ => False
def RvOk (K : PySem.W.Frag) (I' H H' : Hp) (v : V) : RV → Prop
  | .d d => Rp K I' v d
  | .n l => ∃ a vs, v = .ref a ∧ H' a = some (.lst vs) ∧ RpA K I' vs l ∧ I' a = none ∧ H a = none
structure RetOk (K : PySem.W.Frag) (I H : Hp) (w : Option Addr) (rv : RV) (out : Option (List D)) (v : V) (I' H' : Hp) : Prop where
  imm : Same I I'
  sub : Same I' H'
  new : ∀ a o, I' a = some o → I a = some o ∨ H a = none
  keep : ∀ a o, H a = some o → w ≠ some a → H' a = some o
  out : OutOk K I' H' w out
  rv : RvOk K I' H H' v rv
def spOf (K : PySem.W.Frag) (p : FS) : Sp := fun vs H Q _ => ∃ I as w, ArgsOk K I H vs as w ∧ Same I H ∧ p as fun rv out => ∀ v I' H', RetOk K I H w rv out v I' H' → Q v H'
def argsOf (z : SS) : List EV → Option (List AV × Option Nat)
  | [] => some ([], none)
  | .d x :: r => (argsOf z r).map fun p => (.val x :: p.1, p.2)
  | .o i :: r => match z[i]?, argsOf z r with
    | some (some (.own b l)), some (as, none) => if dkB b = true then none else some (.own l :: as, some i)
    | _, _ => none
def putOut (z : SS) : Option Nat → Option (List D) → Option SS
  | none, none => some z
  | some j, some l => match z[j]? with
    | some (some (.own b _)) => some (z.set j (some (.own b l)))
    | _ => none
  | _, _ => none
def wCall (p : FS) (u : WA) : WR := fun z R => u z fun es z1 => ∃ as j, argsOf z1 es = some (as, j) ∧ p as fun rv out => ∃ z2, putOut z1 j out = some z2 ∧ R rv z2
section
variable {K : PySem.W.Frag} {F : Fx} {z z2 : SS} {σ : St} {I H I' H' : Hp}
def SameArg (z : SS) (σ : St) : Option Nat → Option Addr → Prop
  | some i, some a => σ[i]? = some (some (.ref a)) ∧ ∃ b l, dkB b = false ∧ z[i]? = some (some (.own b l))
  | none, none => True
  | _, _ => False
theorem args_ok (ok : Ok K F z σ I H) : ∀ {es : List EV} {vs : List V} {as : List AV} {j : Option Nat}, Paired (EvOk K I σ) es vs → argsOf z es = some (as, j) → ∃ w, ArgsOk K I H vs as w ∧ SameArg z σ j w
  | _, _, _, _, .nil, h => by cases h; exact ⟨none, .nil, trivial⟩
  | _, _, _, _, .cons (a := .d x) r t, h => by
    unfold argsOf at h
    obtain ⟨⟨as, j⟩, e, q⟩ := Option.map_eq_some_iff.mp h
    cases q
    obtain ⟨w, h1, h2⟩ := args_ok ok t e
    exact ⟨w, .val r h1, h2⟩
  | _, _, _, _, .cons (a := .o i) r t, h => by
    unfold argsOf at h
    split at h
    · rename_i b l as e1 e2
      cases hb : dkB b with
      | true => rw [hb, if_pos rfl] at h; cases h
      | false =>
        rw [hb, if_neg (by decide)] at h
        cases h
        obtain ⟨w, h1, h2⟩ := args_ok ok t e2
        obtain ⟨a, ws, f1, f2, f3, f4, f5⟩ := ok.ownL e1 hb
        rw [show σ[i]? = some (some _) from r] at f1; cases f1
        cases w with
        | some _ => exact h2.elim
        | none => exact ⟨some a, .own f2 f3 f4 h1, r, b, l, hb, e1⟩
    · cases h
/-- behind a call -/
theorem Ok.called (ok : Ok K F z σ I H) {j : Option Nat} {w : Option Addr} {out : Option (List D)} {rv : RV} {v : V} (sa : SameArg z σ j w) (r : RetOk K I H w rv out v I' H') (hp : putOut z j out = some z2) :
    Ok K F z2 σ I' H' ∧ Step z σ I H z2 I' H' := by
  have inew : ∀ a, H a ≠ none → I a = none → I' a = none := fun a h1 h2 => by
    cases q : I' a with
    | none => rfl
    | some o =>
      rcases r.new a o q with h | h
      · rw [h2] at h; cases h
      · exact absurd h h1
  have fh0 : ∀ a, H a = none → F.H0 a = none := fun a h => (ok.h0 h).1
  have wown : ∀ a, w = some a → IsOwn z σ a := fun a e => by
    subst e
    cases j with
    | none => exact sa.elim
    | some i => exact ⟨i, sa.2.choose, sa.2.choose_spec.choose, sa.2.choose_spec.choose_spec.2, sa.1⟩
  have there : ∀ a, H' a = none → H a = none := fun a h => by
    cases q : H a with
    | none => rfl
    | some o =>
      by_cases e : w = some a
      · subst e
        cases out with
        | none => exact r.out.elim
        | some l =>
          obtain ⟨_, ws, e2, _⟩ := r.out
          rw [h] at e2; cases e2
      · rw [r.keep a o q e] at h; cases h
  -- the slots behind
  have slot : ∀ (i : Nat) (b : Option Nat) (l : List D), z2[i]? = some (some (.own b l)) → ∃ l0 a, z[i]? = some (some (.own b l0)) ∧ σ[i]? = some (some (.ref a)) ∧ ∃ ws, H' a = some ws ∧ ObO K I' b l ws := fun i b l h => by
    cases j with
    | none =>
      cases out with
      | some _ => cases hp
      | none =>
        cases hp
        obtain ⟨a, ws, f1, f2, f3, f4, f5⟩ := ok.own i b l h
        cases w with
        | some _ => exact sa.elim
        | none => exact ⟨l, a, h, f1, ws, r.keep a _ f2 (by simp), f4.mono r.imm⟩
    | some k =>
      cases out with
      | none => cases hp
      | some l' =>
        cases w with
        | none => exact sa.elim
        | some c =>
          obtain ⟨s1, b', l0, sb, s2⟩ := sa
          unfold putOut at hp
          simp only [s2] at hp
          cases hp
          rcases get_set h with ⟨rfl, q, hl⟩ | ⟨hk, q⟩
          · cases q
            obtain ⟨_, ws, e1, e2⟩ := r.out
            exact ⟨l0, c, s2, s1, _, e1, .inl ⟨sb, ws, rfl, e2⟩⟩
          · obtain ⟨a, ws, f1, f2, f3, f4, f5⟩ := ok.own i b l q
            refine ⟨l, a, q, f1, ws, r.keep a _ f2 fun e => hk ?_, f4.mono r.imm⟩
            cases e
            exact ok.dis _ _ _ _ _ _ _ q s2 f1 s1
  have vals : ∀ (i : Nat) (d : D), z2[i]? = some (some (.val d)) → z[i]? = some (some (.val d)) := fun i d h => by
    unfold putOut at hp
    split at hp
    · cases hp; exact h
    · split at hp
      · cases hp
        rcases get_set h with ⟨rfl, q, hl⟩ | ⟨hk, q⟩
        · cases q
        · exact q
      · cases hp
    · cases hp
  have len : z2.length = z.length := by
    unfold putOut at hp
    split at hp
    · cases hp; rfl
    · split at hp
      · cases hp; simp
      · cases hp
    · cases hp
  refine ⟨⟨by rw [len, ok.len], fun i d h => ?_, fun i b l h => ?_, fun i k b b' l l' a e f g h => ?_, r.sub, ok.base.trans r.imm, fun a o h => ?_, fun a o h hw => ?_, fun a hw => ?_⟩, ⟨r.imm, fun a o h => ?_, fun a o h hn => ?_, fun i b l h => ?_, there⟩⟩
  · obtain ⟨v, e, rr⟩ := ok.val i d (vals i d h)
    exact ⟨v, e, rr.mono r.imm⟩
  · obtain ⟨l0, a, e1, e2, ws, e3, e4⟩ := slot i b l h
    obtain ⟨a', us, f1, f2, f3, f4, f5⟩ := ok.own i b l0 e1
    rw [e2] at f1; cases f1
    exact ⟨a, ws, e2, e3, inew a (by rw [f2]; simp) f3, e4, f5⟩
  · obtain ⟨_, _, e1, _⟩ := slot i b l e
    obtain ⟨_, _, e2, _⟩ := slot k b' l' f
    exact ok.dis i k _ _ _ _ a e1 e2 g h
  · rcases r.new a o h with h | h
    · exact ok.new a o h
    · exact .inr (fh0 a h)
  · refine r.keep a o (ok.keep a o h hw) fun e => ?_
    obtain ⟨i, b, l, e1, e2⟩ := wown a e
    obtain ⟨a', us, f1, f2, f3, f4, f5⟩ := ok.own i b l e1
    rw [e2] at f1; cases f1
    unfold Tag at f5
    split at f5
    · exact hw (List.mem_of_getElem? f5)
    · rw [f5] at h; cases h
  · obtain ⟨f1, f2, ws, f3⟩ := ok.wf a hw
    refine ⟨inew a (by rw [f3]; simp) f1, f2, ?_⟩
    by_cases e : w = some a
    · subst e
      cases out with
      | none => exact r.out.elim
      | some l =>
        obtain ⟨_, us, e2, _⟩ := r.out
        exact ⟨us, e2⟩
    · exact ⟨ws, r.keep a _ f3 e⟩
  · rcases r.new a o h with h | h
    · exact .inl h
    · exact .inr (.inl h)
  · exact r.keep a o h fun e => hn (wown a e)
  · obtain ⟨l0, a, e1, _⟩ := slot i b l h
    exact ⟨l0, e1⟩
end
section
variable {X : Cx} {k : Nat} {f : Addr} {fd : FuncData} {ps : List Str} {p : FS} {x : Str} {pp pos : Pos} {F : Fx} {e : Expr} {es : List Expr} {u : WA}
theorem call_run (hp : MonoF p) (ha : XA X F es u) {σ : St} {H : Hp} {Q : VK} {E : XK} (h : liftR X.K F (wCall p u) σ H Q) : tCall (spOf X.K p) [] E (liftA X.K F u) σ H Q := by
  obtain ⟨z, I, ok, w⟩ := h
  refine ha.at ok w fun es z1 vs I1 H1 ⟨as, j, ea, q⟩ o s ev => ?_
  obtain ⟨w', ao, sa⟩ := args_ok o ev ea
  show spOf X.K p (vs ++ []) H1 Q E
  rw [List.append_nil]
  refine ⟨I1, as, w', ao, o.sub, hp _ _ _ (fun rv out ⟨z2, e2, q⟩ v I' H' r => ?_) q⟩
  obtain ⟨o2, s2⟩ := o.called sa r e2
  have st := s.trans s2
  cases rv with
  | d x => exact q v I' H' o2 st r.rv
  | n l =>
    obtain ⟨a, ws, rfl, e3, e4, e5, e6⟩ := r.rv
    refine q a I' H' o2 st ⟨s.there a e6, ⟨ws, e3, e4⟩, e5, (o.h0 e6).1, fun hn => ?_⟩
    obtain ⟨i, b, m, g1, g2⟩ := hn
    obtain ⟨l0, g3⟩ := s2.osub i b m g1
    obtain ⟨a', us, f1, f2, _⟩ := o.own i b l0 g3
    rw [g2] at f1; cases f1
    rw [e6] at f2; cases f2
theorem wCall_mono (hp : MonoF p) (hu : Mono u) : Mono (wCall p u) := fun z R R' k w => hu _ _ _ (fun es z1 ⟨as, j, e, q⟩ => ⟨as, j, e, hp _ _ _ (fun rv out ⟨z2, e2, q⟩ => ⟨z2, e2, k _ _ q⟩) q⟩) w
theorem xr_call (hp : MonoF p) (Fn : FnOk X.prog X.w X.K X.mg X.base CX0 k f fd ps (spOf X.K p)) (hr : Room k X.A) (hg : Gl X x) (hm : X.mg x = some (.ref f)) (hk : PySem.W.keepIn X.K (.ref f) = true) (hb : Binds X.K fd ps [])
    (ha : XA X F (e :: es) u) (hdb : (x == ("__debug__" : Str)) = false := by decide) (he : starEach (e :: es) X.env = (false, eval e X.env) :: starEach es X.env := by rfl) (hpl : (backTo pos (starEach es X.env)).any (·.1) = false := by rfl) :
    XR X F (.Call (.Name x pp) (e :: es) [] pos) (wCall p u) :=
  ⟨wCall_mono hp ha.mono, pe_imp (pe_call Fn hr hg hm hk hb .nil pass0 ha.run hdb he hpl) fun σ H Q h => call_run hp ha h⟩
end

def startS (n : Nat) (as : List AV) : SS := (as.map fun a => match a with
  | .val d => some (.val d)
  | .own l => some (.own (some 0) l)) ++ List.replicate (n - as.length) none
def findOwn : SS → Option (List D)
  | [] => none
  | some (.own (some 0) l) :: _ => some l
  | _ :: r => findOwn r
def hasOwn : List AV → Bool
  | [] => false
  | .own _ :: _ => true
  | .val _ :: r => hasOwn r
def outOf (o : Bool) (z : SS) : Option (Option (List D)) := if o then (findOwn z).map some else some none
def retEn (o : Bool) (R : RV → Option (List D) → Prop) : En where
  nx := fun z => ∃ out, outOf o z = some out ∧ R (.d .none) out
  rt := fun rv z => ∃ out, outOf o z = some out ∧ R rv out
theorem findOwn_at : ∀ {z : SS} {l : List D}, findOwn z = some l → ∃ (i : Nat), z[i]? = some (some (.own (some 0) l))
  | [], _, h => by cases h
  | some (.own (some 0) m) :: r, l, h => by
    cases h
    exact ⟨0, rfl⟩
  | some (.own (some (k + 1)) m) :: r, l, h => by
    obtain ⟨i, e⟩ := findOwn_at (z := r) h
    exact ⟨i + 1, e⟩
  | none :: r, l, h => by
    obtain ⟨i, e⟩ := findOwn_at (z := r) h
    exact ⟨i + 1, e⟩
  | some (.val d) :: r, l, h => by
    obtain ⟨i, e⟩ := findOwn_at (z := r) h
    exact ⟨i + 1, e⟩
  | some (.own none m) :: r, l, h => by
    obtain ⟨i, e⟩ := findOwn_at (z := r) h
    exact ⟨i + 1, e⟩
section
variable {K : PySem.W.Frag} {I H : Hp}
theorem ArgsOk.len : ∀ {vs : List V} {as : List AV} {w : Option Addr}, ArgsOk K I H vs as w → vs.length = as.length
  | _, _, _, .nil => rfl
  | _, _, _, .val _ t => by simp [ArgsOk.len t]
  | _, _, _, .own _ _ _ t => by simp [ArgsOk.len t]
theorem ArgsOk.has : ∀ {vs : List V} {as : List AV} {w : Option Addr}, ArgsOk K I H vs as w → hasOwn as = w.isSome
  | _, _, _, .nil => rfl
  | _, _, _, .val _ t => by
    have := ArgsOk.has t
    exact this
  | _, _, _, .own _ _ _ t => rfl
theorem args_val : ∀ {vs : List V} {as : List AV} {w : Option Addr} {i : Nat} {d : D}, ArgsOk K I H vs as w → as[i]? = some (.val d) → ∃ v, vs[i]? = some v ∧ Rp K I v d
  | _, _, _, _, _, .nil, h => by simp at h
  | _, _, _, 0, _, .val r t, h => by simp at h; subst h; exact ⟨_, rfl, r⟩
  | _, _, _, i + 1, _, .val r t, h => by
    obtain ⟨v, e, q⟩ := args_val (i := i) t (by simpa using h)
    exact ⟨v, by simpa using e, q⟩
  | _, _, _, 0, _, .own _ _ _ t, h => by simp at h
  | _, _, _, i + 1, _, .own _ _ _ t, h => by
    obtain ⟨v, e, q⟩ := args_val (i := i) t (by simpa using h)
    exact ⟨v, by simpa using e, q⟩
theorem args_own : ∀ {vs : List V} {as : List AV} {w : Option Addr} {i : Nat} {l : List D}, ArgsOk K I H vs as w → as[i]? = some (.own l) → ∃ a ws, w = some a ∧ vs[i]? = some (.ref a) ∧ H a = some (.lst ws) ∧ I a = none ∧ RpA K I ws l
  | _, _, _, _, _, .nil, h => by simp at h
  | _, _, _, 0, _, .val r t, h => by simp at h
  | _, _, _, i + 1, _, .val r t, h => by
    obtain ⟨a, ws, e1, e2, q⟩ := args_own (i := i) t (by simpa using h)
    exact ⟨a, ws, e1, by simpa using e2, q⟩
  | _, _, _, 0, _, .own h1 h2 h3 t, h => by simp at h; subst h; exact ⟨_, _, rfl, rfl, h1, h2, h3⟩
  | _, _, _, i + 1, _, .own _ _ _ t, h => by
    obtain ⟨a, ws, e1, _⟩ := args_own (i := i) t (by simpa using h)
    cases e1
theorem args_one : ∀ {vs : List V} {as : List AV} {w : Option Addr} {i j : Nat} {l m : List D}, ArgsOk K I H vs as w → as[i]? = some (.own l) → as[j]? = some (.own m) → i = j
  | _, _, _, _, _, _, _, .nil, h, _ => by simp at h
  | _, _, _, 0, _, _, _, .val r t, h, _ => by simp at h
  | _, _, _, _, 0, _, _, .val r t, _, h => by simp at h
  | _, _, _, i + 1, j + 1, _, _, .val r t, h, g => by rw [args_one (i := i) (j := j) t (by simpa using h) (by simpa using g)]
  | _, _, _, 0, 0, _, _, .own _ _ _ t, _, _ => rfl
  | _, _, _, i + 1, _, _, _, .own _ _ _ t, h, _ => by
    obtain ⟨a, ws, e1, _⟩ := args_own (i := i) t (by simpa using h)
    cases e1
  | _, _, _, _, j + 1, _, _, .own _ _ _ t, _, h => by
    obtain ⟨a, ws, e1, _⟩ := args_own (i := j) t (by simpa using h)
    cases e1
theorem start_get {n : Nat} {as : List AV} {i : Nat} {s : S} (h : (startS n as)[i]? = some (some s)) : ∃ a, as[i]? = some a ∧ s = (match a with | .val d => .val d | .own l => .own (some 0) l) := by
  unfold startS at h
  by_cases hi : i < as.length
  · rw [List.getElem?_append_left (by simpa using hi)] at h
    rw [List.getElem?_map] at h
    obtain ⟨a, e, q⟩ := Option.map_eq_some_iff.mp h
    refine ⟨a, e, ?_⟩
    cases a <;> simpa using q.symm
  · rw [List.getElem?_append_right (by simpa using hi)] at h
    have := List.mem_of_getElem? h
    rw [List.mem_replicate] at this
    cases this.2
theorem Ok.start {vs : List V} {as : List AV} {w : Option Addr} {N : List Str} (ha : ArgsOk K I H vs as w) (hs : Same I H) (hn : as.length ≤ N.length) : Ok K ⟨I, H, w.toList⟩ (startS N.length as) (L2.start N vs) I H := by
  have sget : ∀ (i : Nat) (v : V), vs[i]? = some v → (L2.start N vs)[i]? = some (some v) := fun i v h => by
    unfold L2.start
    have hl : i < vs.length := (List.getElem?_eq_some_iff.mp h).1
    rw [List.getElem?_append_left (by simpa using hl), List.getElem?_map, h]
    rfl
  have hl := ha.len
  refine ⟨?_, fun i d h => ?_, fun i b l h => ?_, fun i j b b' l l' a e f _ _ => ?_, hs, Same.refl _, fun a o h => .inl h, fun a o h _ => h, fun a hw => ?_⟩
  · unfold startS L2.start
    simp only [List.length_append, List.length_map, List.length_replicate]
    omega
  · obtain ⟨a, e, q⟩ := start_get h
    cases a with
    | val d' =>
      cases q
      obtain ⟨v, e2, r⟩ := args_val ha e
      exact ⟨v, sget i v e2, r⟩
    | own l => cases q
  · obtain ⟨a, e, q⟩ := start_get h
    cases a with
    | val d' => cases q
    | own l' =>
      cases q
      obtain ⟨a, ws, rfl, e2, e3, e4, e5⟩ := args_own ha e
      exact ⟨a, _, sget i _ e2, e3, e4, .inl ⟨rfl, ws, rfl, e5⟩, rfl⟩
  · obtain ⟨a1, e1, q1⟩ := start_get e
    obtain ⟨a2, e2, q2⟩ := start_get f
    cases a1 with
    | val d' => cases q1
    | own l1 =>
      cases a2 with
      | val d' => cases q2
      | own l2 => exact args_one ha e1 e2
  · cases w with
    | none => simp at hw
    | some c =>
      have e : a = c := by simpa using hw
      subst e
      have find : ∀ {vs : List V} {as : List AV} {w : Option Addr}, ArgsOk K I H vs as w → w = some a → I a = none ∧ ∃ ws, H a = some (.lst ws) := by
        intro vs as w h
        induction h with
        | nil => intro e; cases e
        | val _ _ ih => exact ih
        | own h1 h2 h3 _ _ => intro e; cases e; exact ⟨h2, _, h1⟩
      obtain ⟨g1, ws, g2⟩ := find ha rfl
      exact ⟨g1, by show H a ≠ none; rw [g2]; simp, ws, g2⟩
end
/-- THE RULE for a def -/
theorem fn_ok {P : Program} {w : World} {K : PySem.W.Frag} {mg : Str → Option Value} {base : Heap} {x qual : Str} {st : Stmt} {f : Addr} {fd : FuncData} {N ps : List Str} {k : Nat} {p : FS} {t : WS} (Fn : Fun K x qual st f fd) (Sc : FnScope N ps (defScope st))
    (hlen : ∀ as R, p as R → as.length = ps.length)
    (hb : ∀ (cdv : Value) (A : Around) (outer : List Env) (s : Shared) (H : Hp) (E : XK) (F : Fx), Room k (A.deeper (envOfC qual (defScope st) s.heap.objs.size f cdv)) → XSs (cxOf CX0 P w K mg base N qual (defScope st) f cdv A outer s H E).nox F (defBody st) t)
    (vc : ∀ as R, p as R → t (retEn (hasOwn as) R) (startS N.length as)) : FnOk P w K mg base CX0 (k + 1) f fd ps (spOf K p) := by
  have hN : ps.length ≤ N.length := by
    have := congrArg List.length Sc.pre
    rw [List.length_take] at this
    omega
  refine Fn.ok Sc (fun vs H Q E ⟨I, as, w, ha, _, hp⟩ => by rw [ha.len, hlen _ _ hp]) (fun cdv A outer s H vs Q E hr ⟨I, as, w, ha, hs, hp⟩ => ?_)
  have hx := hb cdv A outer s H E ⟨I, H, w.toList⟩ hr
  refine ⟨_, hx.run, startS N.length as, I, Ok.start ha hs (by rw [hlen _ _ hp]; exact hN), hx.mono _ _ _ ?_ (vc as _ hp)⟩
  have fin : ∀ (z : SS) (out : Option (List D)) (σ : St) (I' H' : Hp) (rv : RV) (v : V), outOf (hasOwn as) z = some out → Ok K ⟨I, H, w.toList⟩ z σ I' H' → Same I I' → RvOk K I' H H' v rv → RetOk K I H w rv out v I' H' := by
    intro z out σ I' H' rv v ho ok hi rk
    refine ⟨hi, ok.sub, ok.new, fun a o h hw => ok.keep a o h (fun q => hw ?_), ?_, rk⟩
    · cases w with
      | none => simp at q
      | some c => simp at q; rw [q]
    · rw [ha.has] at ho
      cases w with
      | none => cases ho; trivial
      | some c =>
        unfold outOf at ho
        simp only [Option.isSome_some, if_true] at ho
        obtain ⟨l, e, q⟩ := Option.map_eq_some_iff.mp ho
        subst q
        obtain ⟨i, e⟩ := findOwn_at e
        obtain ⟨a, ws, f1, f2, f3, f4, f5⟩ := ok.ownL e rfl
        have ec : c = a := by
          have : [c][0]? = some a := f5
          simpa using this
        subst ec
        exact ⟨f3, ws, f2, f4⟩
  refine ⟨fun z ⟨out, ho, q⟩ σ I' H' ok s' => q _ I' H' (fin z out σ I' H' (.d .none) .non ho ok s' .non), fun rv z ⟨out, ho, q⟩ => ?_, fun _ h => h.elim, fun _ h => h.elim⟩
  cases rv with
  | d x => exact fun v σ I' H' ok s' r => q v I' H' (fin z out σ I' H' (.d x) v ho ok s' r)
  | n l => exact fun a σ I' H' ok s' o => q _ I' H' (fin z out σ I' H' (.n l) _ ho ok s' ⟨a, o.at_.choose, rfl, o.at_.choose_spec.1, o.at_.choose_spec.2, o.imm, o.h0⟩)
/-- the law's own promise, and its end -/
def pLaw : FS := fun as R => ∃ ns : List Int, as = [.val (.dict [(.none, .list (ns.map PyData.int))])] ∧ ns.length ≤ 63 ∧ R (.d (.bool true)) none
theorem pLaw_end {K : PySem.W.Frag} {H : Hp} {a : Addr} {ns : List Int} (hl : ns.length ≤ 63) (hS : SqL K H a (ns.map V.int)) : spOf K pLaw [.ref a] H (fun v _ => v = .bl true) fun _ _ _ => False :=
  ⟨H, _, none, .val (.scr hS (rpA_ints ns)) .nil, Same.refl _, ns, rfl, hl, fun v I' H' r => by
    have := r.rv
    cases this
    rfl⟩
end L3
namespace L3
open PySem PySem.Spec PyProof.Rows L2 PySem.SeqAt

section
variable {X : Cx} {F : Fx} {pos : Pos} {a b c : Expr} {ta tb tc : WE}
theorem wChain_mono {f g : F2} {r r' : R2} (hf : VR2 X F r f) (hg : VR2 X F r' g) (ha : Mono ta) (hb : Mono tb) (hc : Mono tc) : Mono (wChain f g ta tb tc) := fun z R R' k w =>
  ha _ _ _ (fun x z1 w => hb _ _ _ (fun y z2 w => hf.mono _ _ _ _ _ (fun d ⟨c, e, q⟩ => ⟨c, e, by
    cases c with
    | true => exact hc _ _ _ (fun v z3 w => hg.mono _ _ _ _ _ (fun d q => k _ _ q) w) q
    | false => exact k _ _ q⟩) w) w) w
theorem PostR.frz {K : PySem.W.Frag} {z : SS} {σ : St} {I H : Hp} {Q : VK} {r : RV} (q : Post K F z σ I H Q (.d r.toD) z) : PostR K F z σ I H Q r := by
  cases r with
  | d x => exact fun v I' H' o s r => q v I' H' o s r
  | n l =>
    intro a I' H' o s n
    have ⟨I2, o2, s2, r2⟩ := n.frz o s
    exact q _ I2 H' o2 s2 r2
theorem chain_run {f g : F2} {r r' : R2} (hf : VR2 X F r f) (hg : VR2 X F r' g) (ha : XE X F a ta) (hb : XE X F b tb) (hc : XE X F c tc) : ∀ σ H Q, liftE X.K F (wChain f g ta tb tc) σ H Q → tChain r r' (liftE X.K F ta) (liftE X.K F tb) (liftE X.K F tc) σ H Q := fun σ H Q ⟨z, I, ok, w⟩ =>
  ha.at ok w fun x z1 v1 I1 H1 w ok1 s1 e1 => hb.at ok1 w fun y z2 v2 I2 H2 w ok2 s2 e2 =>
    hf.run ok2 (e1.mono s2.imm) e2 (hf.mono _ _ _ _ _ (fun d ⟨c, e, q⟩ => by
      subst e
      intro v I3 H3 o3 s3 r3
      cases r3
      refine ⟨c, rfl, ?_⟩
      cases c with
      | true =>
        simp only [if_true] at q ⊢
        have ok3 : Ok X.K F z2 σ I3 H3 := o3
        refine hc.at o3 q fun w z4 v4 I4 H4 q o4 s4 e4 => ?_
        refine hg.run o4 ((e2.mono s3.imm).mono s4.imm) e4 (hg.mono _ _ _ _ _ (fun d q => PostR.frz (Post.step (((s1.trans s2).trans s3).trans s4) q)) q)
      | false =>
        simp only [Bool.false_eq_true, if_false] at q ⊢
        exact q _ I3 H3 o3 ((s1.trans s2).trans s3) (.bl false)) w)
theorem xe_chain {op op' : CmpOp} {f g : F2} {r r' : R2} (ho : OpR X (compareOp op) r) (ho' : OpR X (compareOp op') r') (hf : VR2 X F r f) (hg : VR2 X F r' g) (ha : XE X F a ta) (hb : XE X F b tb) (hc : XE X F c tc)
    (hm : lastMarks [op, op'] [b, c] = false := by with_unfolding_all rfl) : XE X F (.Compare a [op, op'] [b, c] pos) (wChain f g ta tb tc) :=
  ⟨wChain_mono hf hg ha.mono hb.mono hc.mono, pe_imp (pe_chain ho ho' ha.run hb.run hc.run hm) (chain_run hf hg ha hb hc)⟩
theorem xt_chain {op op' : CmpOp} {f g : F2} {r r' : R2} (ho : OpR X (compareOp op) r) (ho' : OpR X (compareOp op') r') (hf : VR2 X F r f) (hg : VR2 X F r' g) (ha : XE X F a ta) (hb : XE X F b tb) (hc : XE X F c tc)
    (hm : lastMarks [op, op'] [b, c] = false := by with_unfolding_all rfl) : XT X F (.Compare a [op, op'] [b, c] pos) (wTest (wChain f g ta tb tc)) :=
  ⟨wTest_mono (wChain_mono hf hg ha.mono hb.mono hc.mono), pt_imp (pt_chain ho ho' ha.run hb.run hc.run hm) fun σ H Q ⟨z, I, ok, w⟩ => by
    refine chain_run hf hg ha hb hc σ H _ ⟨z, I, ok, wChain_mono hf hg ha.mono hb.mono hc.mono _ _ _ (fun x z1 q v I' H' o s e => ?_) w⟩
    obtain ⟨c, rfl, q⟩ := q
    cases e
    exact ⟨c, rfl, q I' H' o s⟩⟩
/-- -a -/
def wNeg (t : WE) : WE := fun z R => t z fun x z1 => ∃ i, x = .d (.int i) ∧ R (.d (.int (-i))) z1
theorem xe_neg (h : XE X F a ta) : XE X F (.UnaryOp .USub a pos) (wNeg ta) :=
  ⟨fun z R R' k w => h.mono _ _ _ (fun x z1 ⟨i, e, q⟩ => ⟨i, e, k _ _ q⟩) w, pe_imp (pe_un un_neg h.run) fun σ H Q ⟨z, I, ok, w⟩ => h.at ok w fun x z1 v I' H' ⟨i, e, q⟩ o s ev => by
    subst e
    cases ev
    exact ⟨i, rfl, q _ I' H' o s (.int _)⟩⟩
theorem xe_gI {x : Str} {i : Int} (hg : Gl X x) (hm : ∃ t, X.mg x = some (.int i t)) (hd : (x == ("__debug__" : Str)) = false := by decide) : XE X F (.Name x pos) (wC (.int i)) := xe_glob hg hm.choose_spec (show RelV (.int i) _ from ⟨_, rfl⟩) (fun _ => .int _) hd
theorem xe_gS {x : Str} {y : Str} (hg : Gl X x) (hm : ∃ t, X.mg x = some (.str y t)) (hd : (x == ("__debug__" : Str)) = false := by decide) : XE X F (.Name x pos) (wC (.str y)) := xe_glob hg hm.choose_spec (show RelV (.str y) _ from ⟨_, rfl⟩) (fun _ => .str _) hd
def wDct : WE := fun z R => R (.d (.dict [])) z
end
section
variable {X : Cx} {F : Fx} {tg iter elt tg1 iter1 : Expr} {g g1 : GS} {tt tt1 : WT} {te : WE} {vs1 : List Nat}
variable {ifs ifs1 : List Expr} {scope : Scope} {own : List (Str × Nat)} {pos : Pos} {s s1 : WI} {is is1 : List Nat}
theorem xr_lcA (own : List (Str × Nat)) (hc : X.calm = true) (hN : X.N.Nodup) (hi : XI X F tg iter s) (ok : BlkOk X.N X.env.scope scope own)
    (hg : ∀ (s : Shared) (H : Hp) (C : Addr) (cl : List (Str × Addr)) (fp : List Addr), XG (X.blk s H scope (compEnvC scope cl C X.env) fp) F tg is g) (ht : ∀ (s : Shared) (H : Hp) (C : Addr) (cl : List (Str × Addr)) (fp : List Addr), XTs (X.blk s H scope (compEnvC scope cl C X.env) fp) F ifs tt)
    (he : ∀ (s : Shared) (H : Hp) (C : Addr) (cl : List (Str × Addr)) (fp : List Addr), XE (X.blk s H scope (compEnvC scope cl C X.env) fp) F elt te) (hv : ∀ i ∈ is, i ∈ own.map (·.2) := by decide) (hs : ∀ x, foldedSetIterable iter X.env x = pure x := by intro _; rfl) :
    XR X F (.ListComp elt [⟨tg, iter, ifs, 0⟩] scope pos) (wLc s g (own.map (·.2)) tt te) := xr_lc hc hN hi ok hv hg ht he (ht {} (fun _ => none) 0 [] []).mono (he {} (fun _ => none) 0 [] []).mono hs
theorem xs_setLcA (own : List (Str × Nat)) {i : Nat} {y : Str} {py spos : Pos} (hc : X.calm = true) (hN : X.N.Nodup) (hy : X.N[i]? = some y) (hyl : X.env.scope.names.lookup y = some .local)
    (hsw : swapsWith (.ListComp elt [⟨tg, iter, ifs, 0⟩] scope pos) (some (.Name y py)) spos.line X.env = pure true) (hi : XI X F tg iter s) (ok : BlkOk X.N X.env.scope scope own)
    (hg : ∀ (s : Shared) (H : Hp) (C : Addr) (cl : List (Str × Addr)) (fp : List Addr), XG (X.blk s H scope (compEnvC scope cl C X.env) fp) F tg is g) (ht : ∀ (s : Shared) (H : Hp) (C : Addr) (cl : List (Str × Addr)) (fp : List Addr), XTs (X.blk s H scope (compEnvC scope cl C X.env) fp) F ifs tt)
    (he : ∀ (s : Shared) (H : Hp) (C : Addr) (cl : List (Str × Addr)) (fp : List Addr), XE (X.blk s H scope (compEnvC scope cl C X.env) fp) F elt te) (hv : ∀ i ∈ is, i ∈ own.map (·.2) := by decide) (hs : ∀ x, foldedSetIterable iter X.env x = pure x := by intro _; rfl) :
    XS X F (.Assign [.Name y py] (.ListComp elt [⟨tg, iter, ifs, 0⟩] scope pos) spos) (wLcSet i (wLc s g (own.map (·.2)) tt te)) := xs_setLc hc hN hy hyl hsw hi ok hv hg ht he (ht {} (fun _ => none) 0 [] []).mono (he {} (fun _ => none) 0 [] []).mono hs
theorem xr_lc2A (own : List (Str × Nat)) (vs1 : List Nat) (hc : X.calm = true) (hN : X.N.Nodup) (hi : XI X F tg iter s) (ok : BlkOk X.N X.env.scope scope own)
    (hg : ∀ (s : Shared) (H : Hp) (C : Addr) (cl : List (Str × Addr)) (fp : List Addr), XG (X.blk s H scope (compEnvC scope cl C X.env) fp) F tg is g) (ht : ∀ (s : Shared) (H : Hp) (C : Addr) (cl : List (Str × Addr)) (fp : List Addr), XTs (X.blk s H scope (compEnvC scope cl C X.env) fp) F ifs tt)
    (hi1 : ∀ (s : Shared) (H : Hp) (C : Addr) (cl : List (Str × Addr)) (fp : List Addr), XI (X.blk s H scope (compEnvC scope cl C X.env) fp) F tg1 iter1 s1)
    (hg1 : ∀ (s : Shared) (H : Hp) (C : Addr) (cl : List (Str × Addr)) (fp : List Addr), XG (X.blk s H scope (compEnvC scope cl C X.env) fp) F tg1 is1 g1) (ht1 : ∀ (s : Shared) (H : Hp) (C : Addr) (cl : List (Str × Addr)) (fp : List Addr), XTs (X.blk s H scope (compEnvC scope cl C X.env) fp) F ifs1 tt1)
    (he : ∀ (s : Shared) (H : Hp) (C : Addr) (cl : List (Str × Addr)) (fp : List Addr), XE (X.blk s H scope (compEnvC scope cl C X.env) fp) F elt te)
    (hv : ∀ i ∈ is, i ∈ own.map (·.2) := by decide) (hv1 : ∀ i ∈ is1, i ∈ vs1 := by decide) (hvo : ∀ i ∈ vs1, i ∈ own.map (·.2) := by decide) (hs : ∀ x, foldedSetIterable iter X.env x = pure x := by intro _; rfl) (hs1 : ∀ env x, foldedSetIterable iter1 env x = pure x := by intro _ _; rfl) :
    XR X F (.ListComp elt [⟨tg, iter, ifs, 0⟩, ⟨tg1, iter1, ifs1, 0⟩] scope pos) (wLc2 s g (own.map (·.2)) tt s1 g1 vs1 tt1 te) :=
  xr_lc2 hc hN hi ok hv hv1 hvo hg ht hi1 hg1 ht1 he (ht {} (fun _ => none) 0 [] []).mono (hi1 {} (fun _ => none) 0 [] []).mono (ht1 {} (fun _ => none) 0 [] []).mono (he {} (fun _ => none) 0 [] []).mono hs hs1
theorem xs_setLc2A (own : List (Str × Nat)) (vs1 : List Nat) {i : Nat} {y : Str} {py spos : Pos} (hc : X.calm = true) (hN : X.N.Nodup) (hy : X.N[i]? = some y) (hyl : X.env.scope.names.lookup y = some .local)
    (hsw : swapsWith (.ListComp elt [⟨tg, iter, ifs, 0⟩, ⟨tg1, iter1, ifs1, 0⟩] scope pos) (some (.Name y py)) spos.line X.env = pure true) (hi : XI X F tg iter s) (ok : BlkOk X.N X.env.scope scope own)
    (hg : ∀ (s : Shared) (H : Hp) (C : Addr) (cl : List (Str × Addr)) (fp : List Addr), XG (X.blk s H scope (compEnvC scope cl C X.env) fp) F tg is g) (ht : ∀ (s : Shared) (H : Hp) (C : Addr) (cl : List (Str × Addr)) (fp : List Addr), XTs (X.blk s H scope (compEnvC scope cl C X.env) fp) F ifs tt)
    (hi1 : ∀ (s : Shared) (H : Hp) (C : Addr) (cl : List (Str × Addr)) (fp : List Addr), XI (X.blk s H scope (compEnvC scope cl C X.env) fp) F tg1 iter1 s1)
    (hg1 : ∀ (s : Shared) (H : Hp) (C : Addr) (cl : List (Str × Addr)) (fp : List Addr), XG (X.blk s H scope (compEnvC scope cl C X.env) fp) F tg1 is1 g1) (ht1 : ∀ (s : Shared) (H : Hp) (C : Addr) (cl : List (Str × Addr)) (fp : List Addr), XTs (X.blk s H scope (compEnvC scope cl C X.env) fp) F ifs1 tt1)
    (he : ∀ (s : Shared) (H : Hp) (C : Addr) (cl : List (Str × Addr)) (fp : List Addr), XE (X.blk s H scope (compEnvC scope cl C X.env) fp) F elt te)
    (hv : ∀ i ∈ is, i ∈ own.map (·.2) := by decide) (hv1 : ∀ i ∈ is1, i ∈ vs1 := by decide) (hvo : ∀ i ∈ vs1, i ∈ own.map (·.2) := by decide) (hs : ∀ x, foldedSetIterable iter X.env x = pure x := by intro _; rfl) (hs1 : ∀ env x, foldedSetIterable iter1 env x = pure x := by intro _ _; rfl) :
    XS X F (.Assign [.Name y py] (.ListComp elt [⟨tg, iter, ifs, 0⟩, ⟨tg1, iter1, ifs1, 0⟩] scope pos) spos) (wLcSet i (wLc2 s g (own.map (·.2)) tt s1 g1 vs1 tt1 te)) :=
  xs_setLc2 hc hN hy hyl hsw hi ok hv hv1 hvo hg ht hi1 hg1 ht1 he (ht {} (fun _ => none) 0 [] []).mono (hi1 {} (fun _ => none) 0 [] []).mono (ht1 {} (fun _ => none) 0 [] []).mono (he {} (fun _ => none) 0 [] []).mono hs hs1
end
/-- name = [..], the name's own list -/
theorem xs_setLcO {X : Cx} {F : Fx} {tg iter elt : Expr} {g : GS} {tt : WT} {te : WE} {ifs : List Expr} {scope : Scope} {pos : Pos} {s : WI} {is : List Nat} (own : List (Str × Nat)) {i : Nat} {y : Str} {py spos : Pos} (hc : X.calm = true) (hN : X.N.Nodup) (hy : X.N[i]? = some y) (hyl : X.env.scope.names.lookup y = some .local)
    (hsw : swapsWith (.ListComp elt [⟨tg, iter, ifs, 0⟩] scope pos) (some (.Name y py)) spos.line X.env = pure true) (hi : XI X F tg iter s) (ok : BlkOk X.N X.env.scope scope own)
    (hg : ∀ (s : Shared) (H : Hp) (C : Addr) (cl : List (Str × Addr)) (fp : List Addr), XG (X.blk s H scope (compEnvC scope cl C X.env) fp) F tg is g) (ht : ∀ (s : Shared) (H : Hp) (C : Addr) (cl : List (Str × Addr)) (fp : List Addr), XTs (X.blk s H scope (compEnvC scope cl C X.env) fp) F ifs tt)
    (he : ∀ (s : Shared) (H : Hp) (C : Addr) (cl : List (Str × Addr)) (fp : List Addr), XE (X.blk s H scope (compEnvC scope cl C X.env) fp) F elt te) (hv : ∀ i ∈ is, i ∈ own.map (·.2) := by decide) (hs : ∀ x, foldedSetIterable iter X.env x = pure x := by intro _; rfl) :
    XS X F (.Assign [.Name y py] (.ListComp elt [⟨tg, iter, ifs, 0⟩] scope pos) spos) (wSetO i (wLc s g (own.map (·.2)) tt te)) :=
  have mt := (ht {} (fun _ => none) 0 [] []).mono
  have me := (he {} (fun _ => none) 0 [] []).mono
  ⟨fun E E' z l w => hi.mono _ _ _ (fun items z1 q => wLcL_mono mt me (fun acc z ⟨m, e, q⟩ => ⟨m, e, l.nx _ q⟩) _ _ _ q) w,
    ps_imp (ps_setLc hc hN hy hyl hsw hi.run ok (fun s H C cl fp => (hg s H C cl fp).run) (fun s H C cl fp => (ht s H C cl fp).run) (fun s H C cl fp => (he s H C cl fp).run) hs) fun D σ H ⟨z, I, o, w⟩ => by
      refine lc_run (X := X) (Q := fun x H1 => gName i x σ H1 D.nx) hi.mono hv mt me ⟨z, I, o, hi.mono _ _ _ (fun items z1 q => wLcL_mono mt me (fun acc z' q => ?_) _ _ _ q) w⟩
      obtain ⟨m, e, q⟩ := q
      injection e with e
      subst e
      intro a I' H' o' s' n
      obtain ⟨vs, f1, f2⟩ := n.at_
      exact q _ I' H' (o'.setOwn f1 f2 n.imm n.h0 n.nown) s'.imm⟩
def mCount : FM := fun z x xs k => ∃ l d, lstOf z x = some l ∧ xs = [.d d] ∧ PyData.plainAll l = true ∧ d.plain = true ∧ min (PyData.depthAll l) d.depth ≤ 60 ∧ k (.d (.int ((l.countP fun y => PyData.eqv y d : Nat) : Int))) z
def rCountD (K : PySem.W.Frag) : V → List V → Hp → VK → Prop := fun x vs H Q => ∃ a us l v d, x = .ref a ∧ vs = [v] ∧ SqL K H a us ∧ RpA K H us l ∧ Rp K H v d ∧ PyData.plainAll l = true ∧ d.plain = true ∧ min (PyData.depthAll l) d.depth ≤ 60 ∧ Q (.int ((l.countP fun y => PyData.eqv y d : Nat) : Int)) H
section
variable {X : Cx} {F : Fx}
theorem mt_countD (hu : X.A.units + 64 < cLine) : MtR X "list.count" (rCountD X.K) := by
  intro pins s σ H x xs v us Q I rx rv h
  obtain ⟨a, ws, l, y, d, rfl, rfl, hq, ra, rd, p1, p2, m, q⟩ := h
  cases rx
  obtain ⟨u, rfl, ru⟩ := Vals.one rv
  obtain ⟨its, r2, pl, _⟩ := I.list hq
  obtain ⟨as, hr⟩ := RpA.reads I its ra p1 r2
  obtain ⟨bs, hd⟩ := Rp.reads I u rd p2 ru
  exact count_list_data pl.isList (by simpa using hr) hd p1 p2 (by omega) ⟨.int _, H, I.tok _, ⟨_, rfl⟩, q⟩
theorem vm_count : VM X F (rCountD X.K) mCount where
  mono := fun z x xs k k' h ⟨l, d, e1, e2, p1, p2, m, q⟩ => ⟨l, d, e1, e2, p1, p2, m, h _ _ q⟩
  run := fun {σ z I H x v xs vs Q} ok ev evs ⟨l, d, e1, e2, p1, p2, m, q⟩ => by
    subst e2
    cases evs with
    | cons e6 t =>
      cases t
      obtain ⟨c, us, rfl, g2, r2⟩ := ok.lst ev e1
      exact ⟨c, us, l, _, d, rfl, rfl, SqL.of g2, r2.mono ok.sub, Rp.mono ok.sub e6, p1, p2, m, q _ I H ok .refl (.int _)⟩
variable {pos apos : Pos} {o e : Expr} {t : WE} {u : WA}
theorem xr_count (hu : X.A.units + 64 < cLine) (ho : XE X F o t) (ha : XA X F [e] u) (hbase : attributeBase o "count" X.env (eval o X.env) = eval o X.env := by rfl) (hfew : ((backTo pos (starEach [e] X.env)).all (fun x => !x.1) && (backToKw pos (keywordEach [] X.env)).all (fun x => x.1.isSome)
      && decide ([e].length + ([] : List Keyword).length + (if ([] : List Keyword).isEmpty then 0 else 1) < 30)) = true := by rfl) (hline : (apos.endLine == pos.line) = true := by rfl) (hs : starEach [e] X.env = (false, eval e X.env) :: starEach [] X.env := by rfl) : XR X F (.Call (.Attribute o "count" apos) [e] [] pos) (wBM "list" mCount t u) :=
  xr_bm PySem.F.plainAttrs_list PySem.F.slot_list_count PySem.F.type_list_count (mt_countD hu) vm_count ho ha (hbase := hbase) (hfew := hfew) (hline := hline) (hs := hs)
end
section
variable {X : Cx} {Fx' : Fx}
theorem int_rmul_tuple1 (l : Addr) (items : Array Value) (n : Nat) (dd : Option Addr) (sl : Array (Option Value)) (u : Tok) :
    Meets (Builtin.«tuple.__mul__» ⟨[.ref l, .int 1 u], []⟩) (fun _ R s => s.heap.get? l = some { cls := .type "tuple", dict := dd, data := .seq items n, slots := sl } ∧ R (.ok (.ret (.ref l))) s) :=
  .of_wp fun P W Ar Rr u hu => by
    obtain ⟨hp0, gl, dd0, tk, os⟩ := u
    obtain ⟨at0, hu⟩ := hu
    wp_walk using wpAny_loadPart' at0
    exact ⟨_, rfl, hu⟩
def rRepT1 (K : PySem.W.Frag) : R2 := fun x y H Q => ∃ l xs, x = .ref l ∧ y = .int 1 ∧ SqT K H l xs ∧ Q (.ref l) H
theorem op_repT1 : OpR X (binaryOp .Mult) (rRepT1 X.K) := by
  intro pins s σ H x y v u Q I rx ry h
  obtain ⟨l, xs, rfl, rfl, hq, q⟩ := h
  cases rx
  obtain ⟨t, rfl⟩ := ry
  obtain ⟨its, r, ⟨o, ho, hc, n, hd⟩, _⟩ := I.tuple hq
  obtain ⟨cls, dd, data, sl⟩ := o
  simp only at hc hd
  subst hc hd
  refine wpAny_binaryOp_repeat_ref (T := "tuple") (U := "int") (by decide) ⟨_, ho, rfl⟩ (fun s' => typeIs_int s' 1 t) noFill_tuple_mul F.fills_int_mul F.slot_int_rmul repeat_tuple F.slot_int_index.lookup
    (call_meets F.slot_int_rmul (typeIs_int s 1 t) F.entry_int_rmul (F.args_int_rmul_2 _ _) (int_rmul_tuple 1 t l its.toArray n dd sl)
      ⟨ho, rfl, ⟨_, ho, rfl⟩, call_meets F.slot_tuple_mul ⟨_, ho, rfl⟩ F.entry_tuple_mul (F.args_tuple_mul_2 _ _) (int_rmul_tuple1 l its.toArray n dd sl t) ⟨ho, ?_⟩⟩)
  exact ⟨.ref l, H, I, rfl, q⟩
/-- a tuple times a positive int -/
def sMulT : F2 := fun _ x y k => ∃ l j, x = .d (.tuple l) ∧ y = .d (.int j) ∧ l ≠ [] ∧ 1 ≤ j ∧ j ≤ 1000 ∧ l.length ≤ 1000 ∧ k (.d (.tuple (List.replicate j.toNat l).flatten))
theorem op_mulT : OpR X (binaryOp .Mult) (fun x y H Q => rRepT1 X.K x y H Q ∨ rRepN X.K x y H Q) := OpR.or op_repT1 op_repN
theorem vr_mulT : VR2 X Fx' (fun x y H Q => rRepT1 X.K x y H Q ∨ rRepN X.K x y H Q) sMulT where
  mono := fun z x y k k' h ⟨l, j, e1, e2, a, b, c, d, q⟩ => ⟨l, j, e1, e2, a, b, c, d, h _ q⟩
  run := fun {σ z I H x y vx vy Q} ok ex ey ⟨l, j, e1, e2, hn, h1, h2, h3, q⟩ => by
    subst e1 e2
    cases ey
    cases ex with
    | tup hq r =>
    by_cases hj : j = 1
    · subst hj
      have e : (List.replicate (1 : Int).toNat l).flatten = l := by
        show (List.replicate 1 l).flatten = l
        simp
      rw [e] at q
      exact .inl ⟨_, _, rfl, rfl, same_tup ok.sub hq.sq, q.scal ok (.tup hq r)⟩
    · refine .inr ⟨_, j, _, rfl, rfl, same_tup ok.sub hq.sq, fun e => hn ?_, by omega, h2, by rw [r.length]; exact h3, q.tup ok (r.rep _)⟩
      subst e
      cases r
      rfl
end
structure Fd (P : Program) (w : World) (K : PySem.W.Frag) (mg : Str → Option Value) (base : Heap) (x : Str) (k : Nat) (ps : List Str) (p : FS) where
  f : Addr
  fd : FuncData
  ok : FnOk P w K mg base CX0 k f fd ps (spOf K p)
  mg : mg x = some (.ref f)
  kp : PySem.W.keepIn K (Value.ref f) = true
  b : Binds K fd ps []
end L3
namespace L3
open PySem PySem.Spec PyProof.Rows L2 PySem.SeqAt
section
variable {z z1 : SS} {R : EV → SS → Prop} {RR : RV → SS → Prop} {RA : List EV → SS → Prop} {RT : Bool → SS → Prop} {RI : List D → SS → Prop} {RO : Option Int → SS → Prop} {E : En} {k : RV → Prop}
variable {i j : Int} {n m : Nat} {d x y : D} {a b : Str} {l l' : List D} {c c' : Bool}
variable {t u ta tb tc : WE} {tr : WR} {ts us : WS} {tt tu : WT} {wa : WA} {wi wi1 : WI} {wo wo' : WO} {g g1 : GS} {f f' : F2} {fc : FC} {fm : FM} {ev ew : EV}
-- statements
theorem i_seq (h : ts { E with nx := fun z' => us E z' } z) : wSeq ts us E z := h
theorem i_next (h : E.nx z) : wNext E z := h
theorem i_kill {is : List Nat} (h : ts { E with nx := fun z' => E.nx (killAll is z'), ct := fun z' => E.ct (killAll is z') } z) : wKill is ts E z := h
theorem i_drop (h : t z fun _ z' => E.nx z') : wDrop t E z := h
theorem i_ret (h : t z fun ev z' => ∃ d, ev = .d d ∧ E.rt (.d d) z') : wRet t E z := h
theorem i_retR (h : tr z fun r z' => E.rt r z') : wRetR tr E z := h
theorem i_retO (e : z[n]? = some (some (.own none l))) (h : E.rt (.n l) (z.set n none)) : wRetO n E z := ⟨l, e, h⟩
theorem i_ifS (h : tt z fun b z' => if b = true then ts E z' else us E z') : wIfS tt ts us E z := h
theorem i_set (h : t z fun ev z1 => ∃ d, ev = .d d ∧ E.nx (z1.set n (some (.val d)))) : wSet n t E z := h
theorem i_setO (h : tr z fun r z1 => ∃ l, r = .n l ∧ E.nx (z1.set n (some (.own none l)))) : wSetO n tr E z := h
theorem i_lcSet (h : tr z fun r z1 => E.nx (z1.set n (some (.val r.toD)))) : wLcSet n tr E z := h
theorem i_asg (h : t z fun ev z1 => ∃ d z2, ev = .d d ∧ g d z1 = some z2 ∧ E.nx z2) : wAsg t g E z := h
theorem i_put (h : t z fun ev z1 => ta z1 fun o z2 => tb z2 fun i z3 => ∃ d s k b l j, ev = .d d ∧ o = .o s ∧ i = .d (.int k) ∧ z3[s]? = some (some (.own b l)) ∧ (dkB b = false ∧ ixN l.length k = some j) ∧ E.nx (z3.set s (some (.own b (l.set j d))))) : wPut t ta tb E z := h
theorem i_for (h : wi z fun items z1 => wForL g ts E items z1) : wFor wi g ts E z := h
-- tests
theorem i_test (h : t z fun x z1 => ∃ c, x = .d (.bool c) ∧ RT c z1) : wTest t z RT := h
theorem i_tnot (h : tt z fun c z1 => RT (!c) z1) : wNot tt z RT := h
theorem i_tand (h : tt z fun c z1 => if c = true then tu z1 RT else RT false z1) : wAnd tt tu z RT := h
theorem i_tor (h : tt z fun c z1 => if c = true then RT true z1 else tu z1 RT) : wOr tt tu z RT := h
theorem i_yes (h : RT true z) : wYes z RT := h
-- expressions
theorem i_var (e : z[n]? = some (some (.val d))) (h : R (.d d) z) : wVar n z R := by unfold wVar; rw [e]; exact h
theorem i_varO {b : Option Nat} (e : z[n]? = some (some (.own b l))) (h : R (.o n) z) : wVar n z R := by unfold wVar; rw [e]; exact h
theorem i_c (h : R (.d d) z) : wC d z R := h
theorem i_dct (h : R (.d (.dict [])) z) : wDct z R := h
theorem i_frz (h : tr z fun r z' => R (.d r.toD) z') : wFrz tr z R := h
theorem i_bin (h : ta z fun x z1 => tb z1 fun y z2 => f z2 x y fun d => R (.d d.toD) z2) : wBin f ta tb z R := h
theorem i_binR (h : ta z fun x z1 => tb z1 fun y z2 => f z2 x y fun d => RR d z2) : wBinR f ta tb z RR := h
theorem i_cb (h : wa z fun es z1 => fc z1 es fun r => RR r z1) : wCB fc wa z RR := h
theorem i_nil (h : RA [] z) : wNil z RA := h
theorem i_cons (h : t z fun x z1 => wa z1 fun xs z2 => RA (x :: xs) z2) : wCons t wa z RA := h
theorem i_tup (h : wa z fun es z1 => ∃ ds, allD es = some ds ∧ ds.length ≤ sizeLine ∧ R (.d (.tuple ds)) z1) : wTup wa z R := h
theorem i_lst (h : wa z fun es z1 => ∃ ds, allD es = some ds ∧ ds.length ≤ sizeLine ∧ RR (.n ds) z1) : wLst wa z RR := h
theorem i_neg (h : t z fun x z1 => ∃ i, x = .d (.int i) ∧ R (.d (.int (-i))) z1) : wNeg t z R := h
theorem i_isa {T : String} (h : t z fun x z1 => ∃ d, evD z1 x = some d ∧ (∀ l, d ≠ .dict [(.none, l)]) ∧ R (.d (.bool (isA T d))) z1) : wIsa T t z R := h
theorem i_andV (h : ta z fun x z1 => ∃ c, x = .d (.bool c) ∧ if c = true then tb z1 R else R (.d (.bool false)) z1) : wAndV ta tb z R := h
theorem i_orV (h : ta z fun x z1 => ∃ c, x = .d (.bool c) ∧ if c = true then R (.d (.bool true)) z1 else tb z1 R) : wOrV ta tb z R := h
theorem i_notV (h : t z fun x z1 => ∃ c, x = .d (.bool c) ∧ R (.d (.bool (!c))) z1) : wNotV t z R := h
theorem i_if (h : tt z fun c z1 => if c = true then ta z1 R else tb z1 R) : wIf tt ta tb z R := h
theorem i_chain (h : ta z fun x z1 => tb z1 fun y z2 => f z2 x y fun d => ∃ c, d = .d (.bool c) ∧ if c = true then tc z2 fun w z3 => f' z3 y w fun d => R (.d d.toD) z3 else R (.d (.bool false)) z2) : wChain f f' ta tb tc z R := h
theorem i_sl (h : t z fun x z1 => wo z1 fun lo z2 => wo' z2 fun hi z3 => sSl z3 x lo hi fun d => RR d z3) : wSl t wo wo' z RR := h
theorem i_noPart (h : RO none z) : wNoPart z RO := h
theorem i_part (h : t z fun x z1 => ∃ i, x = .d (.int i) ∧ RO (some i) z1) : wPart t z RO := h
theorem i_bm {T : String} (h : t z fun x z1 => tyE T z1 x ∧ wa z1 fun xs z2 => fm z2 x xs RR) : wBM T fm t wa z RR := h
theorem i_bm0 {T : String} (h : t z fun x z1 => tyE T z1 x ∧ fm z1 x [] RR) : wBM0 T fm t z RR := h
theorem i_lrg (h : t z fun x z1 => ∃ j, x = .d (.int j) ∧ RgOk 0 j ∧ RR (.n (rangeD 0 j)) z1) : wLRg t z RR := h
theorem i_call {p : FS} (h : wa z fun es z1 => ∃ as j, argsOf z1 es = some (as, j) ∧ p as fun rv out => ∃ z2, putOut z1 j out = some z2 ∧ RR rv z2) : wCall p wa z RR := h
theorem i_src (h : t z fun ev z1 => ∃ l, srcOf ev = some l ∧ RI l z1) : wSrc t z RI := h
theorem i_rng1 (h : wa z fun es z1 => ∃ j, es = [.d (.int j)] ∧ -(2 ^ 62) ≤ j ∧ j < 2 ^ 62 ∧ RI (rangeD 0 j) z1) : wRng1 wa z RI := h
theorem i_rng2 (h : wa z fun es z1 => ∃ i j, es = [.d (.int i), .d (.int j)] ∧ (-(2 ^ 62) ≤ i ∧ i < 2 ^ 62 ∧ -(2 ^ 62) ≤ j ∧ j < 2 ^ 62) ∧ RI (rangeD i j) z1) : wRng2 wa z RI := h
theorem i_enum (h : wa z fun es z1 => ∃ d l, es = [.d d] ∧ itemsD d = some l ∧ RI (enumD l) z1) : wEnum wa z RI := h
theorem i_lc {own : List Nat} {tt : WT} {te : WE} (h : wi z fun items z1 => wLcL g own tt te (fun acc z' => RR (.n acc) (restS own z1 z')) items [] (killAll own z1)) : wLc wi g own tt te z RR := h
theorem i_lc2 {own vs : List Nat} {tt tt1 : WT} {te : WE} (h : wi z fun items z1 => wLcL2 g own tt wi1 g1 vs tt1 te (fun acc z' => RR (.n acc) (restS own z1 z')) items [] (killAll own z1)) : wLc2 wi g own tt wi1 g1 vs tt1 te z RR := h
-- what continuations ask
theorem i_exD {P : D → Prop} (h : P d) : ∃ x, EV.d d = .d x ∧ P x := ⟨d, rfl, h⟩
theorem i_exB {P : Bool → Prop} (h : P c) : ∃ x, EV.d (.bool c) = .d (.bool x) ∧ P x := ⟨c, rfl, h⟩
theorem i_exRB {P : Bool → Prop} (h : P c) : ∃ x, RV.d (.bool c) = .d (.bool x) ∧ P x := ⟨c, rfl, h⟩
theorem i_exI {P : Int → Prop} (h : P i) : ∃ x, EV.d (.int i) = .d (.int x) ∧ P x := ⟨i, rfl, h⟩
theorem i_exN {P : List D → Prop} (h : P l) : ∃ x, RV.n l = .n x ∧ P x := ⟨l, rfl, h⟩
theorem i_ifT {A B : Prop} (e : c = true) (h : A) : if c = true then A else B := by rw [if_pos e]; exact h
theorem i_ifF {A B : Prop} (e : c = false) (h : B) : if c = true then A else B := by rw [if_neg (by rw [e]; decide)]; exact h
theorem i_ifB {A B : Prop} (h : c = true → A) (h' : c = false → B) : if c = true then A else B := by
  cases e : c with
  | true => rw [if_pos rfl]; exact h e
  | false => rw [if_neg (by decide)]; exact h' e
theorem i_ifD {A B p : Prop} [Decidable p] (h : p → A) (h' : ¬ p → B) : if decide p = true then A else B := by
  by_cases e : p
  · rw [if_pos (decide_eq_true e)]; exact h e
  · rw [if_neg (by rw [decide_eq_false e]; decide)]; exact h' e
theorem i_allD {P : List D → Prop} {es : List EV} (e : allD es = some l) (e2 : l.length ≤ sizeLine) (h : P l) : ∃ ds, allD es = some ds ∧ ds.length ≤ sizeLine ∧ P ds := ⟨l, e, e2, h⟩
theorem i_args {P : List AV → Option Nat → Prop} {es : List EV} {as : List AV} {o : Option Nat} (e : argsOf z es = some (as, o)) (h : P as o) : ∃ as j, argsOf z es = some (as, j) ∧ P as j := ⟨as, o, e, h⟩
theorem i_out {P : SS → Prop} {o : Option Nat} {out : Option (List D)} (e : putOut z o out = some z1) (h : P z1) : ∃ z2, putOut z o out = some z2 ∧ P z2 := ⟨z1, e, h⟩
theorem i_rt {o : Bool} {Q : RV → Option (List D) → Prop} {rv : RV} {out : Option (List D)} (e : outOf o z = some out) (h : Q rv out) : (retEn o Q).rt rv z := ⟨out, e, h⟩
theorem i_srcOf {P : List D → Prop} (e : srcOf ev = some l) (h : P l) : ∃ l, srcOf ev = some l ∧ P l := ⟨l, e, h⟩
theorem i_evD {P : D → Prop} (e : evD z ev = some d) (e2 : ∀ l, d ≠ .dict [(.none, l)]) (h : P d) : ∃ d, evD z ev = some d ∧ (∀ l, d ≠ .dict [(.none, l)]) ∧ P d := ⟨d, e, e2, h⟩
theorem i_rngD {P : Int → Prop} (a : -(2 ^ 62) ≤ i) (b : i < 2 ^ 62) (h : P i) : ∃ j, [EV.d (.int i)] = [.d (.int j)] ∧ -(2 ^ 62) ≤ j ∧ j < 2 ^ 62 ∧ P j := ⟨i, rfl, a, b, h⟩
theorem i_rngD2 {P : Int → Int → Prop} (a : -(2 ^ 62) ≤ i ∧ i < 2 ^ 62 ∧ -(2 ^ 62) ≤ j ∧ j < 2 ^ 62) (h : P i j) : ∃ i' j', [EV.d (.int i), .d (.int j)] = [.d (.int i'), .d (.int j')] ∧ (-(2 ^ 62) ≤ i' ∧ i' < 2 ^ 62 ∧ -(2 ^ 62) ≤ j' ∧ j' < 2 ^ 62) ∧ P i' j' := ⟨i, j, rfl, a, h⟩
theorem i_lrgD {P : Int → Prop} (a : RgOk 0 i) (h : P i) : ∃ j, EV.d (.int i) = .d (.int j) ∧ RgOk 0 j ∧ P j := ⟨i, rfl, a, h⟩
theorem i_enumD {P : List D → Prop} (e : itemsD d = some l) (h : P (enumD l)) : ∃ d' l, [EV.d d] = [.d d'] ∧ itemsD d' = some l ∧ P (enumD l) := ⟨d, l, rfl, e, h⟩
theorem i_putD {P : SS → Prop} {s : Nat} {b : Option Nat} [hb : LB b] {jj : Nat} (e1 : z[s]? = some (some (.own b l))) (e2 : ixN l.length i = some jj) (h : P (z.set s (some (.own b (l.set jj d))))) :
    ∃ d' s' k b' l' j', EV.d d = .d d' ∧ EV.o s = .o s' ∧ EV.d (.int i) = .d (.int k) ∧ z[s']? = some (some (.own b' l')) ∧ (dkB b' = false ∧ ixN l'.length k = some j') ∧ P (z.set s' (some (.own b' (l'.set j' d')))) := ⟨d, s, i, b, l, jj, rfl, rfl, rfl, e1, ⟨hb.e, e2⟩, h⟩
theorem i_putS {P : SS → Prop} {s : Nat} {jj : Nat} (e1 : z[s]? = some (some (.own (some 0) l))) (e2 : ixN l.length i = some jj) (h : P (z.set s (some (.own (some 0) (l.set jj d))))) :
    ∃ d' s' k b' l' j', EV.d d = .d d' ∧ EV.o s = .o s' ∧ EV.d (.int i) = .d (.int k) ∧ z[s']? = some (some (.own b' l')) ∧ (dkB b' = false ∧ ixN l'.length k = some j') ∧ P (z.set s' (some (.own b' (l'.set j' d')))) := i_putD e1 e2 h
theorem i_asgD {P : SS → Prop} (e : g d z = some z1) (h : P z1) : ∃ d' z2, EV.d d = .d d' ∧ g d' z = some z2 ∧ P z2 := ⟨d, z1, rfl, e, h⟩
theorem le_line {n : Nat} (h : n ≤ 100000) : n ≤ sizeLine := by rw [sizeLine_eq]; omega
theorem lt_line {n : Nat} (h : n ≤ 100000) : n < sizeLine := by rw [sizeLine_eq]; omega
theorem pow_ok {i j : Int} (h : 0 ≤ j ∧ j ≤ 1000000 ∧ i.natAbs < 2 ^ 64) : CPow i j := h
-- operators
theorem i_addI (h : k (.d (.int (i + j)))) : sAdd z (.d (.int i)) (.d (.int j)) k := h
theorem i_addS (e : a.length + b.length ≤ sizeLine) (h : k (.d (.str (a ++ b)))) : sAdd z (.d (.str a)) (.d (.str b)) k := ⟨e, h⟩
theorem i_addT (e : l.length + l'.length ≤ sizeLine) (h : k (.d (.tuple (l ++ l')))) : sAdd z (.d (.tuple l)) (.d (.tuple l')) k := ⟨e, h⟩
theorem i_addL (e1 : lstOf z ev = some l) (e2 : lstOf z ew = some l') (e : l.length + l'.length ≤ sizeLine) (h : k (.n (l ++ l'))) : sAdd z ev ew k := by
  have c : catL z ev ew k := ⟨l, l', e1, e2, e, h⟩
  unfold sAdd
  split
  · cases e1
  · cases e1
  · cases e1
  · exact c
theorem i_sub (h : k (.d (.int (i - j)))) : sSub z (.d (.int i)) (.d (.int j)) k := ⟨i, j, rfl, rfl, h⟩
theorem i_mul (e : CMul i j) (h : k (.d (.int (i * j)))) : sMul z (.d (.int i)) (.d (.int j)) k := ⟨e, h⟩
theorem i_mulL (e1 : lstOf z ev = some l) (a : -(2 ^ 63) ≤ j) (b : j < 2 ^ 63) (e : l.length * j.toNat ≤ sizeLine) (h : k (.n (List.replicate j.toNat l).flatten)) : sMul z ev (.d (.int j)) k := by
  cases ev with
  | o n => exact ⟨l, e1, a, b, e, h⟩
  | d y => cases y <;> first | exact ⟨l, e1, a, b, e, h⟩ | cases e1
theorem i_mulT (e : l ≠ []) (a : 1 ≤ j) (b : j ≤ 1000) (c : l.length ≤ 1000) (h : k (.d (.tuple (List.replicate j.toNat l).flatten))) : sMulT z (.d (.tuple l)) (.d (.int j)) k := ⟨l, j, rfl, rfl, e, a, b, c, h⟩
theorem i_fdiv (e : CDiv i j) (h : k (.d (.int (i / j)))) : sFDiv z (.d (.int i)) (.d (.int j)) k := ⟨i, j, rfl, rfl, e, h⟩
theorem i_mod (e : 0 < j) (h : k (.d (.int (i % j)))) : sMod z (.d (.int i)) (.d (.int j)) k := ⟨i, j, rfl, rfl, e, h⟩
theorem i_pow (e : CPow i j) (h : k (.d (.int (i ^ j.toNat)))) : sPow z (.d (.int i)) (.d (.int j)) k := ⟨i, j, rfl, rfl, e, h⟩
theorem i_lt (h : k (.d (.bool (decide (i < j))))) : sLt z (.d (.int i)) (.d (.int j)) k := ⟨i, j, rfl, rfl, h⟩
theorem i_le (h : k (.d (.bool (decide (i ≤ j))))) : sLe z (.d (.int i)) (.d (.int j)) k := ⟨i, j, rfl, rfl, h⟩
theorem i_gt (h : k (.d (.bool (decide (j < i))))) : sGt z (.d (.int i)) (.d (.int j)) k := ⟨i, j, rfl, rfl, h⟩
theorem i_ge (h : k (.d (.bool (decide (j ≤ i))))) : sGe z (.d (.int i)) (.d (.int j)) k := ⟨i, j, rfl, rfl, h⟩
/-- ==, != of scalars -/
theorem eqv_int : PyData.eqv (.int i) (.int j) = decide (i = j) := by simp [PyData.eqv, Bool.beq_eq_decide_eq]
theorem eqv_bool : PyData.eqv (.bool c) (.bool c') = decide (c = c') := by cases c <;> cases c' <;> rfl
theorem eqv_str : PyData.eqv (.str a) (.str b) = decide (a = b) := by simp [PyData.eqv, Bool.beq_eq_decide_eq]
theorem i_eqI (h : k (.d (.bool (decide (i = j))))) : sEq z (.d (.int i)) (.d (.int j)) k := ⟨_, _, rfl, rfl, rfl, rfl, by simp [PyData.depth], by rw [eqv_int]; exact h⟩
theorem i_neI (h : k (.d (.bool (!decide (i = j))))) : sNe z (.d (.int i)) (.d (.int j)) k := ⟨_, _, rfl, rfl, rfl, rfl, by simp [PyData.depth], by rw [eqv_int]; exact h⟩
theorem i_eqB (h : k (.d (.bool (decide (c = c'))))) : sEq z (.d (.bool c)) (.d (.bool c')) k := ⟨_, _, rfl, rfl, rfl, rfl, by simp [PyData.depth], by rw [eqv_bool]; exact h⟩
theorem i_neB (h : k (.d (.bool (!decide (c = c'))))) : sNe z (.d (.bool c)) (.d (.bool c')) k := ⟨_, _, rfl, rfl, rfl, rfl, by simp [PyData.depth], by rw [eqv_bool]; exact h⟩
theorem i_eqS (h : k (.d (.bool (decide (a = b))))) : sEq z (.d (.str a)) (.d (.str b)) k := ⟨_, _, rfl, rfl, rfl, rfl, by simp [PyData.depth], by rw [eqv_str]; exact h⟩
theorem i_neS (h : k (.d (.bool (!decide (a = b))))) : sNe z (.d (.str a)) (.d (.str b)) k := ⟨_, _, rfl, rfl, rfl, rfl, by simp [PyData.depth], by rw [eqv_str]; exact h⟩
theorem i_isN (e : evD z ev = some d) (h : k (.d (.bool (isNone d)))) : sIsN id z ev (.d .none) k := ⟨rfl, d, e, h⟩
theorem i_notN (e : evD z ev = some d) (h : k (.d (.bool (!isNone d)))) : sIsN not z ev (.d .none) k := ⟨rfl, d, e, h⟩
theorem i_isB (h : k (.d (.bool (decide (c = c'))))) : sIsB id z (.d (.bool c)) (.d (.bool c')) k := ⟨c, c', rfl, rfl, h⟩
theorem i_ix (e : seqOf z ev = some l) (e2 : atI l i = some d) (h : k (.d d)) : sIx z ev (.d (.int i)) k := ⟨i, rfl, .inl ⟨l, d, e, e2, h⟩⟩
theorem i_ixS {cc : Nat} (e : a.length ≤ sizeLine) (e2 : atI a.cps.toList i = some cc) (h : k (.d (.str ⟨#[cc]⟩))) : sIx z (.d (.str a)) (.d (.int i)) k := ⟨i, rfl, .inr ⟨a, cc, rfl, e, e2, h⟩⟩
theorem i_slS {lo hi : Option Int} (e : a.length ≤ sizeLine) (h : k (.d (.str (cutT a lo hi)))) : sSl z (.d (.str a)) lo hi k := ⟨e, h⟩
theorem i_slT {lo hi : Option Int} (h : k (.d (.tuple (cutD l lo hi)))) : sSl z (.d (.tuple l)) lo hi k := h
theorem i_slL {lo hi : Option Int} (e : evD z ev = some (.list l)) (h : k (.n (cutD l lo hi))) : sSl z ev lo hi k := by unfold sSl; rw [e]; exact h
-- built-in functions
theorem i_f1 {g : SS → EV → (RV → Prop) → Prop} (h : g z ev k) : f1 g z [ev] k := ⟨ev, rfl, h⟩
theorem i_f2 {g : SS → EV → EV → (RV → Prop) → Prop} (h : g z ev ew k) : f2 g z [ev, ew] k := ⟨ev, ew, rfl, h⟩
theorem i_len (e : seqOf z ev = some l) (h : k (.d (.int l.length))) : sLen z ev k := .inl ⟨l, e, h⟩
theorem i_lenS (e : a.length ≤ sizeLine) (h : k (.d (.int a.length))) : sLen z (.d (.str a)) k := .inr (.inl ⟨a, rfl, e, h⟩)
theorem i_abs (h : k (.d (.int (if i < 0 then -i else i)))) : sAbs z (.d (.int i)) k := ⟨i, rfl, h⟩
theorem i_int (h : k (.d (.int i))) : sInt z (.d (.int i)) k := .inl ⟨i, rfl, h⟩
theorem i_intB (h : k (.d (.int (if c then 1 else 0)))) : sInt z (.d (.bool c)) k := .inr ⟨c, rfl, h⟩
theorem i_max (h : k (.d (.int (if j > i then j else i)))) : sMax z (.d (.int i)) (.d (.int j)) k := ⟨i, j, rfl, rfl, h⟩
theorem i_min (h : k (.d (.int (if j < i then j else i)))) : sMin z (.d (.int i)) (.d (.int j)) k := ⟨i, j, rfl, rfl, h⟩
theorem i_sum {ns : List Int} (e : lstOf z ev = some (ns.map PyData.int)) (h : k (.d (.int ns.sum))) : sSum z ev k := ⟨ns, e, h⟩
theorem i_all {bs : List Bool} (e : lstOf z ev = some (bs.map PyData.bool)) (h : k (.d (.bool (bs.all id)))) : sAll z ev k := ⟨bs, e, h⟩
theorem i_any {bs : List Bool} (e : lstOf z ev = some (bs.map PyData.bool)) (h : k (.d (.bool (bs.any id)))) : sAny z ev k := ⟨bs, e, h⟩
theorem i_list (e : seqOf z ev = some l) (h : k (.n l)) : sListOf z ev k := .inl ⟨l, e, h⟩
theorem i_listScr (h : k (.n l)) : sListOf z (.d (.dict [(.none, .list l)])) k := .inr ⟨l, rfl, h⟩
theorem i_tuple (e : seqOf z ev = some l) (h : k (.d (.tuple l))) : sTupOf z ev k := ⟨l, e, h⟩
theorem i_tyL {P : Prop} (e : lstOf z ev = some l) (h : P) : tyE "list" z ev ∧ P := ⟨.inl ⟨rfl, l, e⟩, h⟩
theorem i_tyS {P : Prop} (h : P) : tyE "str" z (.d (.str a)) ∧ P := ⟨.inr ⟨rfl, a, rfl⟩, h⟩
theorem i_append {b : Option Nat} [hb : LB b] (e : z[n]? = some (some (.own b l))) (e2 : l.length < sizeLine) (h : RR (.d .none) (z.set n (some (.own b (l ++ [d]))))) : mAppend z (.o n) [.d d] RR := ⟨n, b, l, d, rfl, rfl, e, ⟨hb.e, e2⟩, h⟩
theorem i_appN (e : z[n]? = some (some (.own none l))) (e2 : l.length < sizeLine) (h : RR (.d .none) (z.set n (some (.own none (l ++ [d]))))) : mAppend z (.o n) [.d d] RR := i_append e e2 h
theorem i_extend {b : Option Nat} [hb : LB b] (e : z[n]? = some (some (.own b l))) (e1 : lstOf z ev = some l') (e2 : l.length + l'.length ≤ sizeLine) (h : RR (.d .none) (z.set n (some (.own b (l ++ l'))))) : mExtend z (.o n) [ev] RR := ⟨n, b, l, ev, l', rfl, rfl, e, e1, ⟨hb.e, e2⟩, h⟩
theorem i_pop {b : Option Nat} [hb : LB b] (e : z[n]? = some (some (.own b l))) (e2 : l[l.length - 1]? = some d) (h : RR (.d d) (z.set n (some (.own b l.dropLast)))) : mPop z (.o n) [] RR := ⟨n, b, l, d, rfl, rfl, e, ⟨hb.e, e2⟩, h⟩
end
theorem forL_inv {g : GS} {t : WS} {E : En} {items : List D} (P : Nat → SS → Prop) (step : ∀ (i : Nat) (x : D) (z : SS), items[i]? = some x → P i z → ∀ N : SS → Prop, (∀ z', P (i + 1) z' → N z') → ∃ z1, g x z = some z1 ∧ t { nx := N, rt := E.rt, bk := E.nx, ct := N } z1)
    (fin : ∀ z, P items.length z → E.nx z) {z : SS} (h0 : P 0 z) : wForL g t E items z := by
  have go : ∀ (k i : Nat) (z : SS), k = items.length - i → i ≤ items.length → P i z → wForL g t E (items.drop i) z := by
    intro k
    induction k with
    | zero =>
      intro i z hk hi p
      have e : i = items.length := by omega
      subst e
      rw [List.drop_length]
      exact fin z p
    | succ k ih =>
      intro i z hk hi p
      have hlt : i < items.length := by omega
      rw [List.drop_eq_getElem_cons hlt]
      obtain ⟨z1, e, w⟩ := step i items[i] z (List.getElem?_eq_getElem hlt) p (fun z' => wForL g t E (items.drop (i + 1)) z') fun z' p' => ih (i + 1) z' (by omega) hlt p'
      exact ⟨z1, e, w⟩
  have := go items.length 0 z (by simp) (Nat.zero_le _) h0
  simpa using this
theorem rangeD_get {lo hi : Int} {i : Nat} {x : D} (h : (rangeD lo hi)[i]? = some x) : x = .int (lo + i) ∧ lo + i < hi := by
  unfold rangeD at h
  rw [List.getElem?_map] at h
  obtain ⟨j, e, q⟩ := Option.map_eq_some_iff.mp h
  obtain ⟨h1, h2⟩ := List.getElem?_eq_some_iff.mp e
  rw [List.getElem_range] at h2
  subst h2
  rw [List.length_range] at h1
  exact ⟨q.symm, by omega⟩
theorem rangeD_len (lo hi : Int) : (rangeD lo hi).length = (hi - lo).toNat := by unfold rangeD; simp
/-- over range(lo, hi) -/
theorem forR_inv {g : GS} {t : WS} {E : En} {lo hi : Int} (P : Nat → SS → Prop) (step : ∀ (i : Nat) (z : SS), lo + i < hi → P i z → ∀ N : SS → Prop, (∀ z', P (i + 1) z' → N z') → ∃ z1, g (.int (lo + i)) z = some z1 ∧ t { nx := N, rt := E.rt, bk := E.nx, ct := N } z1)
    (fin : ∀ z, P (hi - lo).toNat z → E.nx z) {z : SS} (h0 : P 0 z) : wForL g t E (rangeD lo hi) z :=
  forL_inv P (fun i x z e p N hN => by
    obtain ⟨rfl, hlt⟩ := rangeD_get e
    exact step i z hlt p N hN) (fun z p => fin z (by rw [rangeD_len] at p; exact p)) h0
theorem lcL_inv {g : GS} {own : List Nat} {tt : WT} {te : WE} {k : List D → SS → Prop} {items : List D} (P : Nat → List D → SS → Prop)
    (step : ∀ (i : Nat) (x : D) (acc : List D) (z : SS), items[i]? = some x → P i acc z → ∀ N : List D → SS → Prop, (∀ acc' z', P (i + 1) acc' z' → N acc' z') →
      ∃ z1, g x z = some z1 ∧ tt z1 fun b z2 => if b = true then te z2 fun ev z3 => ∃ d, ev = .d d ∧ acc.length < sizeLine ∧ N (acc ++ [d]) (killAll own z3) else N acc (killAll own z2))
    (fin : ∀ acc z, P items.length acc z → k acc z) {acc : List D} {z : SS} (h0 : P 0 acc z) : wLcL g own tt te k items acc z := by
  have go : ∀ (m i : Nat) (acc : List D) (z : SS), m = items.length - i → i ≤ items.length → P i acc z → wLcL g own tt te k (items.drop i) acc z := by
    intro m
    induction m with
    | zero =>
      intro i acc z hk hi p
      have e : i = items.length := by omega
      subst e
      rw [List.drop_length]
      exact fin acc z p
    | succ m ih =>
      intro i acc z hk hi p
      have hlt : i < items.length := by omega
      rw [List.drop_eq_getElem_cons hlt]
      obtain ⟨z1, e, w⟩ := step i items[i] acc z (List.getElem?_eq_getElem hlt) p (fun acc z' => wLcL g own tt te k (items.drop (i + 1)) acc z') fun acc z' p' => ih (i + 1) acc z' (by omega) hlt p'
      exact ⟨z1, e, w⟩
  have := go items.length 0 acc z (by simp) (Nat.zero_le _) h0
  simpa using this
/-- a comprehension that only reads: the map -/
theorem lcL_map {g : GS} {own : List Nat} {te : WE} {k : List D → SS → Prop} {items : List D} {z0 : SS} (fn : D → D) (hl : items.length ≤ sizeLine)
    (step : ∀ (x : D), x ∈ items → ∀ N : D → SS → Prop, (∀ z, killAll own z = z0 → N (fn x) z) → ∃ z1, g x z0 = some z1 ∧ te z1 fun ev z3 => ∃ d, ev = .d d ∧ N d z3) (fin : k (items.map fn) z0) : wLcL g own wYes te k items [] z0 := by
  refine lcL_inv (P := fun i acc z => acc = (items.take i).map fn ∧ z = z0) (fun i x acc z e h N hN => ?_) (fun acc z h => ?_) ⟨by simp, rfl⟩
  · obtain ⟨ea, ez⟩ := h
    have hm := List.mem_of_getElem? e
    have hlt : i < items.length := (List.getElem?_eq_some_iff.mp e).1
    have hacc : acc.length < sizeLine := by
      rw [ea, List.length_map, List.length_take]
      omega
    have hn : N (acc ++ [fn x]) z0 := by
      refine hN _ _ ⟨?_, rfl⟩
      rw [ea, List.take_add_one, e]
      simp
    obtain ⟨z1, e1, w⟩ := step x hm (fun d z3 => acc.length < sizeLine ∧ N (acc ++ [d]) (killAll own z3)) fun z' hz => ⟨hacc, by rw [hz]; exact hn⟩
    rw [ez]
    exact ⟨z1, e1, i_yes (i_ifT rfl w)⟩
  · obtain ⟨ea, ez⟩ := h
    rw [ea, ez, List.take_length]
    exact fin

end L3
namespace L3
open PySem PySem.Spec PyProof.Rows L2 PySem.SeqAt
section
variable {X : Cx} {F : Fx}
def wLRg2 (lo hi : WE) : WR := fun z R => lo z fun x z1 => hi z1 fun y z2 => ∃ i j, x = .d (.int i) ∧ y = .d (.int j) ∧ RgOk i j ∧ R (.n (rangeD i j)) z2
end
end L3
namespace L3
open PySem PySem.Spec PyProof.Rows L2 PySem.SeqAt
class Stp (G : Prop) (G' : outParam Prop) : Prop where
  imp : G' → G
class Stps (G : Prop) (G' : outParam Prop) : Prop where
  imp : G' → G
class Run (G : Prop) (G' : outParam Prop) : Prop where
  imp : G' → G
instance (priority := 10) stps0 {G : Prop} : Stps G G := ⟨fun h => h⟩
instance stps1 {G G1 G2 : Prop} [a : Stp G G1] [b : Stps G1 G2] : Stps G G2 := ⟨fun h => a.imp (b.imp h)⟩
instance run1 {G G1 G2 : Prop} [a : Stp G G1] [b : Stps G1 G2] : Run G G2 := ⟨fun h => a.imp (b.imp h)⟩
class At (z : SS) (n : Nat) (s : outParam S) : Prop where
  e : z[n]? = some (some s)
instance {s : S} {z : SS} : At (some s :: z) 0 s := ⟨rfl⟩
instance {x : Option S} {z : SS} {n : Nat} {s : S} [a : At z n s] : At (x :: z) (n + 1) s := ⟨by rw [List.getElem?_cons_succ]; exact a.e⟩
class Put (z : SS) (n : Nat) (s : Option S) (z' : outParam SS) : Prop where
  e : z.set n s = z'
instance {x s : Option S} {z : SS} : Put (x :: z) 0 s (s :: z) := ⟨rfl⟩
instance {x s : Option S} {z z' : SS} {n : Nat} [a : Put z n s z'] : Put (x :: z) (n + 1) s (x :: z') := ⟨by rw [List.set_cons_succ, a.e]⟩
class Kil (is : List Nat) (z : SS) (z' : outParam SS) : Prop where
  e : killAll is z = z'
instance {z : SS} : Kil [] z z := ⟨rfl⟩
instance {i : Nat} {is : List Nat} {z z1 z2 : SS} [a : Put z i none z1] [b : Kil is z1 z2] : Kil (i :: is) z z2 := ⟨by unfold killAll; rw [a.e, b.e]⟩
class AtO (z : SS) (n : Nat) : Prop where
  e : (match z[n]? with | some (some (.val d)) => some (S.val d) | _ => none) = none
instance {z : SS} : AtO (none :: z) 0 := ⟨rfl⟩
instance {b : Option Nat} {l : List D} {z : SS} : AtO (some (.own b l) :: z) 0 := ⟨rfl⟩
instance {x : Option S} {z : SS} {n : Nat} [a : AtO z n] : AtO (x :: z) (n + 1) := ⟨by rw [List.getElem?_cons_succ]; exact a.e⟩
class Rst (is : List Nat) (z z1 : SS) (z2 : outParam SS) : Prop where
  e : restS is z z1 = z2
instance {z z1 : SS} : Rst [] z z1 z1 := ⟨rfl⟩
instance {i : Nat} {is : List Nat} {z z1 z2 z3 : SS} {d : D} [a : Rst is z z1 z2] [b : At z i (.val d)] [c : Put z2 i (some (.val d)) z3] : Rst (i :: is) z z1 z3 := ⟨by unfold restS; rw [a.e, b.e]; exact c.e⟩
instance {i : Nat} {is : List Nat} {z z1 z2 z3 : SS} [a : Rst is z z1 z2] [b : AtO z i] [c : Put z2 i none z3] : Rst (i :: is) z z1 z3 := ⟨by
  unfold restS
  rw [a.e]
  have := b.e
  split
  · rename_i h; rw [h] at this; cases this
  · exact c.e⟩
class EvIs (z : SS) (e : EV) (d : outParam D) : Prop where
  e : evD z e = some d
instance {z : SS} {d : D} : EvIs z (.d d) d := ⟨rfl⟩
instance {z : SS} {i : Nat} {b : Option Nat} {l : List D} [a : At z i (.own b l)] [hb : LB b] : EvIs z (.o i) (.list l) := ⟨by unfold evD; simp only [a.e, hb.e, Bool.false_eq_true, if_false]⟩
instance {z : SS} {i : Nat} {ps : List (D × D)} [a : At z i (.own (some 1) [.dict ps])] : EvIs z (.o i) (.dict ps) := ⟨by unfold evD; simp only [a.e]; rfl⟩
class LstIs (z : SS) (e : EV) (l : outParam (List D)) : Prop where
  e : lstOf z e = some l
instance {z : SS} {l : List D} : LstIs z (.d (.list l)) l := ⟨rfl⟩
instance {z : SS} {i : Nat} {b : Option Nat} {l : List D} [a : At z i (.own b l)] [hb : LB b] : LstIs z (.o i) l := ⟨by unfold lstOf; simp only [a.e, hb.e, Bool.false_eq_true, if_false]⟩
class SeqIs (z : SS) (e : EV) (l : outParam (List D)) : Prop where
  e : seqOf z e = some l
instance {z : SS} {l : List D} : SeqIs z (.d (.list l)) l := ⟨rfl⟩
instance {z : SS} {l : List D} : SeqIs z (.d (.tuple l)) l := ⟨rfl⟩
instance {z : SS} {i : Nat} {b : Option Nat} {l : List D} [a : At z i (.own b l)] [hb : LB b] : SeqIs z (.o i) l := ⟨by unfold seqOf evD; simp only [a.e, hb.e, Bool.false_eq_true, if_false]⟩
class SrcIs (e : EV) (l : outParam (List D)) : Prop where
  e : srcOf e = some l
instance {l : List D} : SrcIs (.d (.list l)) l := ⟨rfl⟩
instance {l : List D} : SrcIs (.d (.tuple l)) l := ⟨rfl⟩
instance {t : Str} : SrcIs (.d (.str t)) (signs t) := ⟨rfl⟩
class AllIs (es : List EV) (n : Nat) (ds : outParam (List D)) : Prop where
  e : allD es = some ds
  l : ds.length ≤ n
instance {n : Nat} : AllIs [] n [] := ⟨rfl, Nat.zero_le _⟩
instance {d : D} {es : List EV} {n : Nat} {ds : List D} [a : AllIs es n ds] : AllIs (.d d :: es) (n + 1) (d :: ds) := ⟨by unfold allD; rw [a.e]; rfl, by rw [List.length_cons]; exact Nat.succ_le_succ a.l⟩
class ArgIs (z : SS) (es : List EV) (as : outParam (List AV)) (j : outParam (Option Nat)) : Prop where
  e : argsOf z es = some (as, j)
class ItsIs (d : D) (l : outParam (List D)) : Prop where
  e : itemsD d = some l
instance {l : List D} : ItsIs (.list l) l := ⟨rfl⟩
instance {l : List D} : ItsIs (.tuple l) l := ⟨rfl⟩

instance {z : SS} : ArgIs z [] [] none := ⟨rfl⟩
instance {z : SS} {d : D} {es : List EV} {as : List AV} {j : Option Nat} [a : ArgIs z es as j] : ArgIs z (.d d :: es) (.val d :: as) j := ⟨by unfold argsOf; rw [a.e]; rfl⟩
instance {z : SS} {i : Nat} {b : Option Nat} {l : List D} {es : List EV} {as : List AV} [q : At z i (.own b l)] [hb : LB b] [a : ArgIs z es as none] : ArgIs z (.o i :: es) (.own l :: as) (some i) := ⟨by unfold argsOf; simp only [q.e, a.e, hb.e, Bool.false_eq_true, if_false]⟩
class FrzIs (n : Nat) (z : SS) (z' : outParam SS) : Prop where
  e : frzS n z = some z'
instance {n : Nat} {z z' : SS} {l : List D} [a : At z n (.own none l)] [b : Put z n (some (.val (.list l))) z'] : FrzIs n z z' := ⟨by unfold frzS; rw [a.e]; simp only; rw [b.e]⟩
class FOwn (z : SS) (l : outParam (List D)) : Prop where
  e : findOwn z = some l
instance {l : List D} {z : SS} : FOwn (some (.own (some 0) l) :: z) l := ⟨rfl⟩
instance {m : List D} {z : SS} {l : List D} [a : FOwn z l] : FOwn (some (.own (some 1) m) :: z) l := ⟨a.e⟩
instance {m : List D} {z : SS} {l : List D} [a : FOwn z l] : FOwn (some (.own (some 2) m) :: z) l := ⟨a.e⟩
instance {z : SS} {l : List D} [a : FOwn z l] : FOwn (none :: z) l := ⟨a.e⟩
instance {d : D} {z : SS} {l : List D} [a : FOwn z l] : FOwn (some (.val d) :: z) l := ⟨a.e⟩
instance {m : List D} {z : SS} {l : List D} [a : FOwn z l] : FOwn (some (.own none m) :: z) l := ⟨a.e⟩
class Tg (g : GS) (d : D) (z : SS) (z' : outParam SS) : Prop where
  e : g d z = some z'
class TgA (gs : List GS) (ds : List D) (z : SS) (z' : outParam SS) : Prop where
  e : gAll gs ds z = some z'
instance {z z' : SS} {i : Nat} {d : D} [a : Put z i (some (.val d)) z'] : Tg (gNm i) d z z' := ⟨by unfold gNm; rw [a.e]⟩
instance {z : SS} : TgA [] [] z z := ⟨rfl⟩
instance {g : GS} {gs : List GS} {d : D} {ds : List D} {z z1 z2 : SS} [a : Tg g d z z1] [b : TgA gs ds z1 z2] : TgA (g :: gs) (d :: ds) z z2 := ⟨by unfold gAll; rw [a.e]; exact b.e⟩
instance {gs : List GS} {ds : List D} {z z1 : SS} [a : TgA gs ds z z1] : Tg (gTp gs) (.tuple ds) z z1 := ⟨a.e⟩
instance {gs : List GS} {ds : List D} {z z1 : SS} [a : TgA gs ds z z1] : Tg (gTp gs) (.list ds) z z1 := ⟨a.e⟩
instance {gs : List GS} {ds : List D} {z z1 : SS} [a : TgA gs ds z z1] : Tg (gTp gs) (wt ds) z z1 := ⟨a.e⟩
class BIs (b : Bool) (c : outParam Bool) : Prop where
  e : b = c
instance : BIs true true := ⟨rfl⟩
instance : BIs false false := ⟨rfl⟩
instance {b : Bool} [a : BIs b true] : BIs (!b) false := ⟨by rw [a.e]; rfl⟩
instance {b : Bool} [a : BIs b false] : BIs (!b) true := ⟨by rw [a.e]; rfl⟩
instance {b c : Bool} [a : BIs b c] : BIs (id b) c := ⟨a.e⟩
instance : BIs (isA "int" (PyData.none)) false := ⟨rfl⟩
instance {b : Bool} : BIs (isA "int" (PyData.bool b)) true := ⟨rfl⟩
instance {i : Int} : BIs (isA "int" (PyData.int i)) true := ⟨rfl⟩
instance {s : Str} : BIs (isA "int" (PyData.str s)) false := ⟨rfl⟩
instance {l : List D} : BIs (isA "int" (PyData.list l)) false := ⟨rfl⟩
instance {l : List D} : BIs (isA "int" (PyData.tuple l)) false := ⟨rfl⟩
instance : BIs (isA "bool" (PyData.none)) false := ⟨rfl⟩
instance {b : Bool} : BIs (isA "bool" (PyData.bool b)) true := ⟨rfl⟩
instance {i : Int} : BIs (isA "bool" (PyData.int i)) false := ⟨rfl⟩
instance {s : Str} : BIs (isA "bool" (PyData.str s)) false := ⟨rfl⟩
instance {l : List D} : BIs (isA "bool" (PyData.list l)) false := ⟨rfl⟩
instance {l : List D} : BIs (isA "bool" (PyData.tuple l)) false := ⟨rfl⟩
instance : BIs (isA "str" (PyData.none)) false := ⟨rfl⟩
instance {b : Bool} : BIs (isA "str" (PyData.bool b)) false := ⟨rfl⟩
instance {i : Int} : BIs (isA "str" (PyData.int i)) false := ⟨rfl⟩
instance {s : Str} : BIs (isA "str" (PyData.str s)) true := ⟨rfl⟩
instance {l : List D} : BIs (isA "str" (PyData.list l)) false := ⟨rfl⟩
instance {l : List D} : BIs (isA "str" (PyData.tuple l)) false := ⟨rfl⟩
instance : BIs (isA "list" (PyData.none)) false := ⟨rfl⟩
instance {b : Bool} : BIs (isA "list" (PyData.bool b)) false := ⟨rfl⟩
instance {i : Int} : BIs (isA "list" (PyData.int i)) false := ⟨rfl⟩
instance {s : Str} : BIs (isA "list" (PyData.str s)) false := ⟨rfl⟩
instance {l : List D} : BIs (isA "list" (PyData.list l)) true := ⟨rfl⟩
instance {l : List D} : BIs (isA "list" (PyData.tuple l)) false := ⟨rfl⟩
instance : BIs (isA "tuple" (PyData.none)) false := ⟨rfl⟩
instance {b : Bool} : BIs (isA "tuple" (PyData.bool b)) false := ⟨rfl⟩
instance {i : Int} : BIs (isA "tuple" (PyData.int i)) false := ⟨rfl⟩
instance {s : Str} : BIs (isA "tuple" (PyData.str s)) false := ⟨rfl⟩
instance {l : List D} : BIs (isA "tuple" (PyData.list l)) false := ⟨rfl⟩
instance {l : List D} : BIs (isA "tuple" (PyData.tuple l)) true := ⟨rfl⟩

def frzK (R : EV → SS → Prop) : RV → SS → Prop := fun r z => R (.d r.toD) z
def binK (R : EV → SS → Prop) (z : SS) : RV → Prop := fun r => R (.d r.toD) z
def outK (z : SS) (j : Option Nat) (RR : RV → SS → Prop) : RV → Option (List D) → Prop := fun rv out => ∃ z2, putOut z j out = some z2 ∧ RR rv z2
section
variable {z z1 z2 : SS} {R : EV → SS → Prop} {RR : RV → SS → Prop} {RA : List EV → SS → Prop} {RT : Bool → SS → Prop} {RI : List D → SS → Prop} {RO : Option Int → SS → Prop} {E : En} {k : RV → Prop} {N : SS → Prop} {rt : RV → SS → Prop} {bk ct : SS → Prop}
variable {i j : Int} {n m : Nat} {d x y : D} {a b : Str} {l l' : List D} {c c' : Bool}
variable {t u ta tb tc : WE} {tr : WR} {ts us : WS} {tt tu : WT} {wa : WA} {wi wi1 : WI} {wo wo' : WO} {g g1 : GS} {f f' : F2} {fc : FC} {fm : FM} {ev ew : EV} {es : List EV}
instance : Stp (frzK R (.d d) z) (R (.d d) z) := ⟨fun h => h⟩
instance : Stp (frzK R (.n l) z) (R (.d (.list l)) z) := ⟨fun h => h⟩
instance : Stp (binK R z (.d d)) (R (.d d) z) := ⟨fun h => h⟩
instance : Stp (binK R z (.n l)) (R (.d (.list l)) z) := ⟨fun h => h⟩
instance {rv : RV} : Stp (outK z none RR rv none) (RR rv z) := ⟨fun h => ⟨z, rfl, h⟩⟩
instance {rv : RV} {bb : Option Nat} [p : At z n (.own bb l')] [q : Put z n (some (.own bb l)) z1] : Stp (outK z (some n) RR rv (some l)) (RR rv z1) := ⟨fun h => ⟨z1, by unfold putOut; simp only [p.e, q.e], h⟩⟩
-- statements
instance : Stp (wSeq ts us ⟨N, rt, bk, ct⟩ z) (ts ⟨fun z' => us ⟨N, rt, bk, ct⟩ z', rt, bk, ct⟩ z) := ⟨fun h => h⟩
instance : Stp (wNext ⟨N, rt, bk, ct⟩ z) (N z) := ⟨fun h => h⟩
def killK (is : List Nat) (N : SS → Prop) : SS → Prop := fun z => N (killAll is z)
instance {is : List Nat} [q : Kil is z z1] : Stp (killK is N z) (N z1) := ⟨fun h => by unfold killK; rw [q.e]; exact h⟩
instance {is : List Nat} : Stp (wKill is ts ⟨N, rt, bk, ct⟩ z) (ts ⟨killK is N, rt, bk, killK is ct⟩ z) := ⟨fun h => h⟩
instance : Stp (wDrop t ⟨N, rt, bk, ct⟩ z) (t z fun _ z' => N z') := ⟨fun h => h⟩
def retK (rt : RV → SS → Prop) : EV → SS → Prop := fun ev z' => ∃ d, ev = .d d ∧ rt (.d d) z'
instance : Stp (retK rt (.d d) z) (rt (.d d) z) := ⟨fun h => ⟨d, rfl, h⟩⟩
instance : Stp (wRet t ⟨N, rt, bk, ct⟩ z) (t z (retK rt)) := ⟨fun h => h⟩
instance : Stp (wRetR tr ⟨N, rt, bk, ct⟩ z) (tr z fun r z' => rt r z') := ⟨fun h => h⟩
instance [p : At z n (.own none l)] [q : Put z n none z1] : Stp (wRetO n ⟨N, rt, bk, ct⟩ z) (rt (.n l) z1) := ⟨fun h => ⟨l, p.e, by rw [q.e]; exact h⟩⟩
instance : Stp (wIfS tt ts us ⟨N, rt, bk, ct⟩ z) (tt z fun b z' => if b = true then ts ⟨N, rt, bk, ct⟩ z' else us ⟨N, rt, bk, ct⟩ z') := ⟨fun h => h⟩
def setK (n : Nat) (N : SS → Prop) : EV → SS → Prop := fun ev z1 => ∃ d, ev = .d d ∧ N (z1.set n (some (.val d)))
instance [q : Put z n (some (.val d)) z1] : Stp (setK n N (.d d) z) (N z1) := ⟨fun h => ⟨d, rfl, by rw [q.e]; exact h⟩⟩
instance : Stp (wSet n t ⟨N, rt, bk, ct⟩ z) (t z (setK n N)) := ⟨fun h => h⟩
def setOK (n : Nat) (N : SS → Prop) : RV → SS → Prop := fun r z1 => ∃ l, r = .n l ∧ N (z1.set n (some (.own none l)))
instance [q : Put z n (some (.own none l)) z1] : Stp (setOK n N (.n l) z) (N z1) := ⟨fun h => ⟨l, rfl, by rw [q.e]; exact h⟩⟩
instance : Stp (wSetO n tr ⟨N, rt, bk, ct⟩ z) (tr z (setOK n N)) := ⟨fun h => h⟩
def lcK (n : Nat) (N : SS → Prop) : RV → SS → Prop := fun r z1 => N (z1.set n (some (.val r.toD)))
instance [q : Put z n (some (.val (.list l))) z1] : Stp (lcK n N (.n l) z) (N z1) := ⟨fun h => by unfold lcK; rw [show (RV.n l).toD = .list l from rfl, q.e]; exact h⟩
instance [q : Put z n (some (.val d)) z1] : Stp (lcK n N (.d d) z) (N z1) := ⟨fun h => by unfold lcK; rw [show (RV.d d).toD = d from rfl, q.e]; exact h⟩
instance : Stp (wLcSet n tr ⟨N, rt, bk, ct⟩ z) (tr z (lcK n N)) := ⟨fun h => h⟩
def asgK (g : GS) (N : SS → Prop) : EV → SS → Prop := fun ev z1 => ∃ d z2, ev = .d d ∧ g d z1 = some z2 ∧ N z2
instance [q : Tg g d z z1] : Stp (asgK g N (.d d) z) (N z1) := ⟨fun h => ⟨d, z1, rfl, q.e, h⟩⟩
instance : Stp (wAsg t g ⟨N, rt, bk, ct⟩ z) (t z (asgK g N)) := ⟨fun h => h⟩
instance : Stp (wPut t ta tb ⟨N, rt, bk, ct⟩ z) (t z fun ev z1 => ta z1 fun o z2 => tb z2 fun i z3 => ∃ d s k b l j, ev = .d d ∧ o = .o s ∧ i = .d (.int k) ∧ z3[s]? = some (some (.own b l)) ∧ (dkB b = false ∧ ixN l.length k = some j) ∧ N (z3.set s (some (.own b (l.set j d))))) := ⟨fun h => h⟩
instance : Stp (wFor wi g ts ⟨N, rt, bk, ct⟩ z) (wi z fun items z1 => wForL g ts ⟨N, rt, bk, ct⟩ items z1) := ⟨fun h => h⟩
instance {W : SS → Prop} [q : Tg g d z z1] : Stp (∃ z2, g d z = some z2 ∧ W z2) (W z1) := ⟨fun h => ⟨z1, q.e, h⟩⟩
instance [q : FrzIs n z z1] : Stp (wFreeze n ts ⟨N, rt, bk, ct⟩ z) (ts ⟨N, rt, bk, ct⟩ z1) := ⟨fun h => ⟨z1, q.e, h⟩⟩
-- tests
def testK (RT : Bool → SS → Prop) : EV → SS → Prop := fun x z1 => ∃ c, x = .d (.bool c) ∧ RT c z1
instance : Stp (testK RT (.d (.bool c)) z) (RT c z) := ⟨fun h => ⟨c, rfl, h⟩⟩
instance : Stp (wTest t z RT) (t z (testK RT)) := ⟨fun h => h⟩
instance : Stp (wNot tt z RT) (tt z fun c z1 => RT (!c) z1) := ⟨fun h => h⟩
instance : Stp (wAnd tt tu z RT) (tt z fun c z1 => if c = true then tu z1 RT else RT false z1) := ⟨fun h => h⟩
instance : Stp (wOr tt tu z RT) (tt z fun c z1 => if c = true then RT true z1 else tu z1 RT) := ⟨fun h => h⟩
instance : Stp (wYes z RT) (RT true z) := ⟨fun h => h⟩
-- expressions
instance [q : At z n (.val d)] : Stp (wVar n z R) (R (.d d) z) := ⟨fun h => by unfold wVar; rw [q.e]; exact h⟩
instance {bb : Option Nat} [q : At z n (.own bb l)] : Stp (wVar n z R) (R (.o n) z) := ⟨fun h => by unfold wVar; rw [q.e]; exact h⟩
instance : Stp (wC d z R) (R (.d d) z) := ⟨fun h => h⟩
instance : Stp (wDct z R) (R (.d (.dict [])) z) := ⟨fun h => h⟩
instance : Stp (wFrz tr z R) (tr z (frzK R)) := ⟨fun h => h⟩
instance : Stp (wBin f ta tb z R) (ta z fun x z1 => tb z1 fun y z2 => f z2 x y (binK R z2)) := ⟨fun h => h⟩
instance : Stp (wBinR f ta tb z RR) (ta z fun x z1 => tb z1 fun y z2 => f z2 x y fun d => RR d z2) := ⟨fun h => h⟩
instance : Stp (wCB fc wa z RR) (wa z fun es z1 => fc z1 es fun r => RR r z1) := ⟨fun h => h⟩
instance : Stp (wNil z RA) (RA [] z) := ⟨fun h => h⟩
instance : Stp (wCons t wa z RA) (t z fun x z1 => wa z1 fun xs z2 => RA (x :: xs) z2) := ⟨fun h => h⟩
def tupK (R : EV → SS → Prop) : List EV → SS → Prop := fun es z1 => ∃ ds, allD es = some ds ∧ ds.length ≤ sizeLine ∧ R (.d (.tuple ds)) z1
instance [q : AllIs es 60 l] : Stp (tupK R es z) (R (.d (.tuple l)) z) := ⟨fun h => ⟨l, q.e, le_line (Nat.le_trans q.l (by decide)), h⟩⟩
instance : Stp (wTup wa z R) (wa z (tupK R)) := ⟨fun h => h⟩
def lstK (RR : RV → SS → Prop) : List EV → SS → Prop := fun es z1 => ∃ ds, allD es = some ds ∧ ds.length ≤ sizeLine ∧ RR (.n ds) z1
instance [q : AllIs es 60 l] : Stp (lstK RR es z) (RR (.n l) z) := ⟨fun h => ⟨l, q.e, le_line (Nat.le_trans q.l (by decide)), h⟩⟩
instance : Stp (wLst wa z RR) (wa z (lstK RR)) := ⟨fun h => h⟩
instance : Stp (wNeg t z R) (t z fun x z1 => ∃ i, x = .d (.int i) ∧ R (.d (.int (-i))) z1) := ⟨fun h => h⟩
class NoScr (d : D) : Prop where
  e : ∀ l, d ≠ .dict [(.none, l)]
instance : NoScr .none := ⟨fun _ e => nomatch e⟩
instance : NoScr (.bool c) := ⟨fun _ e => nomatch e⟩
instance : NoScr (.int i) := ⟨fun _ e => nomatch e⟩
instance : NoScr (.str a) := ⟨fun _ e => nomatch e⟩
instance : NoScr (.list l) := ⟨fun _ e => nomatch e⟩
instance : NoScr (.tuple l) := ⟨fun _ e => nomatch e⟩
instance {T : String} : Stp (wIsa T t z R) (t z fun x z1 => ∃ d, evD z1 x = some d ∧ (∀ l, d ≠ .dict [(.none, l)]) ∧ R (.d (.bool (isA T d))) z1) := ⟨fun h => h⟩
instance {P : D → Prop} [q : EvIs z ev d] [r : NoScr d] : Stp (∃ d, evD z ev = some d ∧ (∀ l, d ≠ .dict [(.none, l)]) ∧ P d) (P d) := ⟨fun h => ⟨d, q.e, r.e, h⟩⟩
instance : Stp (wAndV ta tb z R) (ta z fun x z1 => ∃ c, x = .d (.bool c) ∧ if c = true then tb z1 R else R (.d (.bool false)) z1) := ⟨fun h => h⟩
instance : Stp (wOrV ta tb z R) (ta z fun x z1 => ∃ c, x = .d (.bool c) ∧ if c = true then R (.d (.bool true)) z1 else tb z1 R) := ⟨fun h => h⟩
instance : Stp (wNotV t z R) (t z fun x z1 => ∃ c, x = .d (.bool c) ∧ R (.d (.bool (!c))) z1) := ⟨fun h => h⟩
instance : Stp (wIf tt ta tb z R) (tt z fun c z1 => if c = true then ta z1 R else tb z1 R) := ⟨fun h => h⟩
instance : Stp (wChain f f' ta tb tc z R) (ta z fun x z1 => tb z1 fun y z2 => f z2 x y fun d => ∃ c, d = .d (.bool c) ∧ if c = true then tc z2 fun w z3 => f' z3 y w (binK R z3) else R (.d (.bool false)) z2) := ⟨fun h => h⟩
instance : Stp (wSl t wo wo' z RR) (t z fun x z1 => wo z1 fun lo z2 => wo' z2 fun hi z3 => sSl z3 x lo hi fun d => RR d z3) := ⟨fun h => h⟩
instance : Stp (wNoPart z RO) (RO none z) := ⟨fun h => h⟩
instance : Stp (wPart t z RO) (t z fun x z1 => ∃ i, x = .d (.int i) ∧ RO (some i) z1) := ⟨fun h => h⟩
instance {T : String} : Stp (wBM T fm t wa z RR) (t z fun x z1 => tyE T z1 x ∧ wa z1 fun xs z2 => fm z2 x xs RR) := ⟨fun h => h⟩
instance {T : String} : Stp (wBM0 T fm t z RR) (t z fun x z1 => tyE T z1 x ∧ fm z1 x [] RR) := ⟨fun h => h⟩
instance : Stp (wLRg t z RR) (t z fun x z1 => ∃ j, x = .d (.int j) ∧ RgOk 0 j ∧ RR (.n (rangeD 0 j)) z1) := ⟨fun h => h⟩
instance : Stp (wLRg2 ta tb z RR) (ta z fun x z1 => tb z1 fun y z2 => ∃ i j, x = .d (.int i) ∧ y = .d (.int j) ∧ RgOk i j ∧ RR (.n (rangeD i j)) z2) := ⟨fun h => h⟩
def callK (p : FS) (RR : RV → SS → Prop) : List EV → SS → Prop := fun es z1 => ∃ as j, argsOf z1 es = some (as, j) ∧ p as (outK z1 j RR)
instance {p : FS} {as : List AV} {o : Option Nat} [q : ArgIs z es as o] : Stp (callK p RR es z) (p as (outK z o RR)) := ⟨fun h => ⟨as, o, q.e, h⟩⟩
instance {p : FS} : Stp (wCall p wa z RR) (wa z (callK p RR)) := ⟨fun h => h⟩
def srcK (RI : List D → SS → Prop) : EV → SS → Prop := fun ev z1 => ∃ l, srcOf ev = some l ∧ RI l z1
instance [q : SrcIs ev l] : Stp (srcK RI ev z) (RI l z) := ⟨fun h => ⟨l, q.e, h⟩⟩
instance : Stp (wSrc t z RI) (t z (srcK RI)) := ⟨fun h => h⟩
instance : Stp (wRng1 wa z RI) (wa z fun es z1 => ∃ j, es = [.d (.int j)] ∧ -(2 ^ 62) ≤ j ∧ j < 2 ^ 62 ∧ RI (rangeD 0 j) z1) := ⟨fun h => h⟩
instance : Stp (wRng2 wa z RI) (wa z fun es z1 => ∃ i j, es = [.d (.int i), .d (.int j)] ∧ (-(2 ^ 62) ≤ i ∧ i < 2 ^ 62 ∧ -(2 ^ 62) ≤ j ∧ j < 2 ^ 62) ∧ RI (rangeD i j) z1) := ⟨fun h => h⟩
def enmK (RI : List D → SS → Prop) : List EV → SS → Prop := fun es z1 => ∃ d l, es = [.d d] ∧ itemsD d = some l ∧ RI (enumD l) z1
instance [q : ItsIs d l] : Stp (enmK RI [.d d] z) (RI (enumD l) z) := ⟨fun h => ⟨d, l, rfl, q.e, h⟩⟩
instance : Stp (wEnum wa z RI) (wa z (enmK RI)) := ⟨fun h => h⟩
def restK (own : List Nat) (z1 : SS) (RR : RV → SS → Prop) : List D → SS → Prop := fun acc z' => RR (.n acc) (restS own z1 z')
def lcLK (g : GS) (own : List Nat) (tt : WT) (te : WE) (RR : RV → SS → Prop) : List D → SS → Prop := fun items z1 => wLcL g own tt te (restK own z1 RR) items [] (killAll own z1)
instance {own : List Nat} [q : Kil own z z1] : Stp (lcLK g own tt t RR l z) (wLcL g own tt t (restK own z RR) l [] z1) := ⟨fun h => by unfold lcLK; rw [q.e]; exact h⟩
instance {own : List Nat} [q : Rst own z z1 z2] : Stp (restK own z RR l z1) (RR (.n l) z2) := ⟨fun h => by unfold restK; rw [q.e]; exact h⟩
instance {own : List Nat} : Stp (wLc wi g own tt t z RR) (wi z (lcLK g own tt t RR)) := ⟨fun h => h⟩
def lc2K (g : GS) (own : List Nat) (tt : WT) (wi1 : WI) (g1 : GS) (vs : List Nat) (tt1 : WT) (te : WE) (RR : RV → SS → Prop) : List D → SS → Prop := fun items z1 => wLcL2 g own tt wi1 g1 vs tt1 te (restK own z1 RR) items [] (killAll own z1)
instance {own vs : List Nat} {tt1 : WT} [q : Kil own z z1] : Stp (lc2K g own tt wi1 g1 vs tt1 t RR l z) (wLcL2 g own tt wi1 g1 vs tt1 t (restK own z RR) l [] z1) := ⟨fun h => by unfold lc2K; rw [q.e]; exact h⟩
instance {own vs : List Nat} {tt1 : WT} : Stp (wLc2 wi g own tt wi1 g1 vs tt1 t z RR) (wi z (lc2K g own tt wi1 g1 vs tt1 t RR)) := ⟨fun h => h⟩
-- what continuations ask
instance {P : D → Prop} : Stp (∃ x, EV.d d = .d x ∧ P x) (P d) := ⟨fun h => ⟨d, rfl, h⟩⟩
instance {P : Bool → Prop} : Stp (∃ x, EV.d (.bool c) = .d (.bool x) ∧ P x) (P c) := ⟨fun h => ⟨c, rfl, h⟩⟩
instance {P : Bool → Prop} : Stp (∃ x, RV.d (.bool c) = .d (.bool x) ∧ P x) (P c) := ⟨fun h => ⟨c, rfl, h⟩⟩
instance {P : List D → Prop} : Stp (∃ x, RV.n l = .n x ∧ P x) (P l) := ⟨fun h => ⟨l, rfl, h⟩⟩
instance i_exI' {P : Int → Prop} : Stp (∃ x, EV.d (.int i) = .d (.int x) ∧ P x) (P i) := ⟨fun h => ⟨i, rfl, h⟩⟩
instance {P : Prop} [q : LstIs z ev l] : Stp (tyE "list" z ev ∧ P) P := ⟨fun h => ⟨.inl ⟨rfl, l, q.e⟩, h⟩⟩
instance {P : Prop} : Stp (tyE "str" z (.d (.str a)) ∧ P) P := ⟨fun h => ⟨.inr ⟨rfl, a, rfl⟩, h⟩⟩
instance {A B : Prop} [q : BIs c true] : Stp (if c = true then A else B) A := ⟨fun h => by rw [q.e]; exact h⟩
instance {A B : Prop} [q : BIs c false] : Stp (if c = true then A else B) B := ⟨fun h => by rw [q.e]; exact h⟩
def rtK (o : Bool) (Q : RV → Option (List D) → Prop) : RV → SS → Prop := fun rv z => ∃ out, outOf o z = some out ∧ Q rv out
def nxK (o : Bool) (Q : RV → Option (List D) → Prop) : SS → Prop := fun z => rtK o Q (.d .none) z
theorem start_en {t : WS} {o : Bool} {Q : RV → Option (List D) → Prop} (h : t ⟨nxK o Q, rtK o Q, fun _ => False, fun _ => False⟩ z) : t (retEn o Q) z := h
instance {Q : RV → Option (List D) → Prop} {rv : RV} : Stp (rtK false Q rv z) (Q rv none) := ⟨fun h => ⟨none, rfl, h⟩⟩
instance {Q : RV → Option (List D) → Prop} {rv : RV} [q : FOwn z l] : Stp (rtK true Q rv z) (Q rv (some l)) := ⟨fun h => ⟨some l, by unfold outOf; rw [q.e]; rfl, h⟩⟩
instance {o : Bool} {Q : RV → Option (List D) → Prop} : Stp (nxK o Q z) (rtK o Q (.d .none) z) := ⟨fun h => h⟩
theorem i_asgK (e : g d z = some z1) (h : N z1) : asgK g N (.d d) z := ⟨d, z1, rfl, e, h⟩
theorem i_srcK (e : srcOf ev = some l) (h : RI l z) : srcK RI ev z := ⟨l, e, h⟩
theorem i_enmK (e : itemsD d = some l) (h : RI (enumD l) z) : enmK RI [.d d] z := ⟨d, l, rfl, e, h⟩
theorem i_lrgP {P : Prop} (a : RgOk i j) (h : P) : RgOk i j ∧ P := ⟨a, h⟩
theorem j_put {P : SS → Prop} {b : Option Nat} {jj : Nat} [q : At z n (.own b l)] [hb : LB b] (e2 : ixN l.length i = some jj) [r : Put z n (some (.own b (l.set jj d))) z1] (h : P z1) :
    ∃ d' s' k b' l' j', EV.d d = .d d' ∧ EV.o n = .o s' ∧ EV.d (.int i) = .d (.int k) ∧ z[s']? = some (some (.own b' l')) ∧ (dkB b' = false ∧ ixN l'.length k = some j') ∧ P (z.set s' (some (.own b' (l'.set j' d')))) := ⟨d, n, i, b, l, jj, rfl, rfl, rfl, q.e, ⟨hb.e, e2⟩, by rw [r.e]; exact h⟩
theorem j_append {b : Option Nat} [q : At z n (.own b l)] [hb : LB b] (e2 : l.length < sizeLine) [r : Put z n (some (.own b (l ++ [d]))) z1] (h : RR (.d .none) z1) : mAppend z (.o n) [.d d] RR := ⟨n, b, l, d, rfl, rfl, q.e, ⟨hb.e, e2⟩, by rw [r.e]; exact h⟩
theorem j_extend {b : Option Nat} [q : At z n (.own b l)] [hb : LB b] [p : LstIs z ev l'] (e2 : l.length + l'.length ≤ sizeLine) [r : Put z n (some (.own b (l ++ l'))) z1] (h : RR (.d .none) z1) : mExtend z (.o n) [ev] RR := ⟨n, b, l, ev, l', rfl, rfl, q.e, p.e, ⟨hb.e, e2⟩, by rw [r.e]; exact h⟩
theorem j_pop {b : Option Nat} [q : At z n (.own b l)] [hb : LB b] (e2 : l[l.length - 1]? = some d) [r : Put z n (some (.own b l.dropLast)) z1] (h : RR (.d d) z1) : mPop z (.o n) [] RR := ⟨n, b, l, d, rfl, rfl, q.e, ⟨hb.e, e2⟩, by rw [r.e]; exact h⟩
theorem j_ix [q : SeqIs z ev l] (e2 : atI l i = some d) (h : k (.d d)) : sIx z ev (.d (.int i)) k := i_ix q.e e2 h
instance : Stp (sAdd z (.d (.int i)) (.d (.int j)) k) (k (.d (.int (i + j)))) := ⟨fun h => h⟩
instance : Stp (sSub z (.d (.int i)) (.d (.int j)) k) (k (.d (.int (i - j)))) := ⟨i_sub⟩
instance : Stp (sLt z (.d (.int i)) (.d (.int j)) k) (k (.d (.bool (decide (i < j))))) := ⟨i_lt⟩
instance : Stp (sLe z (.d (.int i)) (.d (.int j)) k) (k (.d (.bool (decide (i ≤ j))))) := ⟨i_le⟩
instance : Stp (sGt z (.d (.int i)) (.d (.int j)) k) (k (.d (.bool (decide (j < i))))) := ⟨i_gt⟩
instance : Stp (sGe z (.d (.int i)) (.d (.int j)) k) (k (.d (.bool (decide (j ≤ i))))) := ⟨i_ge⟩
instance : Stp (sEq z (.d (.int i)) (.d (.int j)) k) (k (.d (.bool (decide (i = j))))) := ⟨i_eqI⟩
instance : Stp (sNe z (.d (.int i)) (.d (.int j)) k) (k (.d (.bool (!decide (i = j))))) := ⟨i_neI⟩
instance : Stp (sEq z (.d (.bool c)) (.d (.bool c')) k) (k (.d (.bool (decide (c = c'))))) := ⟨i_eqB⟩
instance : Stp (sNe z (.d (.bool c)) (.d (.bool c')) k) (k (.d (.bool (!decide (c = c'))))) := ⟨i_neB⟩
instance : Stp (sEq z (.d (.str a)) (.d (.str b)) k) (k (.d (.bool (decide (a = b))))) := ⟨i_eqS⟩
instance : Stp (sNe z (.d (.str a)) (.d (.str b)) k) (k (.d (.bool (!decide (a = b))))) := ⟨i_neS⟩
instance : Stp (sIsB id z (.d (.bool c)) (.d (.bool c')) k) (k (.d (.bool (decide (c = c'))))) := ⟨i_isB⟩
instance [q : EvIs z ev d] : Stp (sIsN id z ev (.d .none) k) (k (.d (.bool (isNone d)))) := ⟨i_isN q.e⟩
instance [q : EvIs z ev d] : Stp (sIsN not z ev (.d .none) k) (k (.d (.bool (!isNone d)))) := ⟨i_notN q.e⟩
instance {gg : SS → EV → (RV → Prop) → Prop} : Stp (f1 gg z [ev] k) (gg z ev k) := ⟨i_f1⟩
instance {gg : SS → EV → EV → (RV → Prop) → Prop} : Stp (f2 gg z [ev, ew] k) (gg z ev ew k) := ⟨i_f2⟩
instance [q : SeqIs z ev l] : Stp (sLen z ev k) (k (.d (.int l.length))) := ⟨i_len q.e⟩
instance : Stp (sAbs z (.d (.int i)) k) (k (.d (.int (if i < 0 then -i else i)))) := ⟨i_abs⟩
instance : Stp (sInt z (.d (.int i)) k) (k (.d (.int i))) := ⟨i_int⟩
instance : Stp (sInt z (.d (.bool c)) k) (k (.d (.int (if c then 1 else 0)))) := ⟨i_intB⟩
instance : Stp (sMax z (.d (.int i)) (.d (.int j)) k) (k (.d (.int (if j > i then j else i)))) := ⟨i_max⟩
instance : Stp (sMin z (.d (.int i)) (.d (.int j)) k) (k (.d (.int (if j < i then j else i)))) := ⟨i_min⟩
instance : Stp (sListOf z (.d (.dict [(.none, .list l)])) k) (k (.n l)) := ⟨i_listScr⟩
instance [q : SeqIs z ev l] : Stp (sListOf z ev k) (k (.n l)) := ⟨i_list q.e⟩
instance [q : SeqIs z ev l] : Stp (sTupOf z ev k) (k (.d (.tuple l))) := ⟨i_tuple q.e⟩
instance {lo hi : Option Int} : Stp (sSl z (.d (.tuple l)) lo hi k) (k (.d (.tuple (cutD l lo hi)))) := ⟨i_slT⟩
instance {lo hi : Option Int} [q : LstIs z ev l] : Stp (sSl z ev lo hi k) (k (.n (cutD l lo hi))) := ⟨fun h => i_slL (ev_of_lst q.e) h⟩
end
end L3
namespace L3
open PySem PySem.Spec PyProof.Rows L2 PySem.SeqAt
/-- an exception: its class's name, its fields as they stand -/
structure Xn where
  c : Str
  fs : List (Str × D)
/-- what is wished of an exception that leaves, with the slots at that moment -/
abbrev XC := Xn → SS → Prop
def XdOk (K : PySem.W.Frag) (I : Hp) (dd : Addr) (fs : List (Str × D)) : Prop := ∃ fv : List (Str × V), I dd = some (.xd fv) ∧ Paired (fun (p : Str × V) (q : Str × D) => p.1 = q.1 ∧ Rp K I p.2 q.2) fv fs
def XnOk (K : PySem.W.Frag) (mg : Str → Option Value) (I : Hp) (x : Xn) (cls : Value) (d : Option Addr) : Prop := ∃ C dd, mg x.c = some (.ref C) ∧ cls = .ref C ∧ d = some dd ∧ XdOk K I dd x.fs
section
variable {K : PySem.W.Frag} {mg : Str → Option Value} {F : Fx} {z : SS} {σ : St} {I I' H : Hp}
theorem XdOk.mono {dd : Addr} {fs : List (Str × D)} (s : Same I I') (h : XdOk K I dd fs) : XdOk K I' dd fs := by
  obtain ⟨fv, e, p⟩ := h
  exact ⟨fv, s _ _ e, paired_mono (fun a b ⟨e, r⟩ => ⟨e, r.mono s⟩) p⟩
theorem XnOk.mono {x : Xn} {cls : Value} {d : Option Addr} (s : Same I I') (h : XnOk K mg I x cls d) : XnOk K mg I' x cls d := by
  obtain ⟨C, dd, a, b, c, e⟩ := h
  exact ⟨C, dd, a, b, c, e.mono s⟩
theorem paired_app {α β : Type} {P : α → β → Prop} : ∀ {a : List α} {b : List β} {c : List α} {d : List β}, Paired P a b → Paired P c d → Paired P (a ++ c) (b ++ d)
  | _, _, _, _, .nil, h => h
  | _, _, _, _, .cons r t, h => .cons r (paired_app t h)
end

def wRaise (W : XC) (c : Str) (ns : List Str) (u : WA) : WS := fun _ z => u z fun es z1 => ∃ ds, allD es = some ds ∧ ds.length = ns.length ∧ W ⟨c, (ns.zip ds).reverse⟩ z1
section
variable {X : Cx} {F : Fx} {W : XC} {C : Addr} {k : Nat} {ns : List Str} {x : Str} {e : Expr} {es : List Expr} {u : WA} {p p2 pos : Pos}
end
abbrev FSX := List AV → (RV → Option (List D) → Prop) → (Xn → Option (List D) → Prop) → Prop
structure XRet (K : PySem.W.Frag) (mg : Str → Option Value) (I H : Hp) (w : Option Addr) (x : Xn) (out : Option (List D)) (cls : Value) (d : Option Addr) (I' H' : Hp) : Prop where
  imm : Same I I'
  sub : Same I' H'
  new : ∀ a o, I' a = some o → I a = some o ∨ H a = none
  keep : ∀ a o, H a = some o → w ≠ some a → H' a = some o
  out : OutOk K I' H' w out
  xn : XnOk K mg I' x cls d
def wCallX (W : XC) (p : FSX) (u : WA) : WR := fun z R => u z fun es z1 => ∃ as j, argsOf z1 es = some (as, j) ∧ p as (fun rv out => ∃ z2, putOut z1 j out = some z2 ∧ R rv z2) fun x out => ∃ z2, putOut z1 j out = some z2 ∧ W x z2

section
variable {X : Cx} {k : Nat} {f : Addr} {fd : FuncData} {ps : List Str} {p : FSX} {W : XC} {x : Str} {pp pos : Pos} {F : Fx} {e : Expr} {es : List Expr} {u : WA}
theorem XRet.ret {K : PySem.W.Frag} {mg : Str → Option Value} {I H I' H' : Hp} {w : Option Addr} {x : Xn} {out : Option (List D)} {cls : Value} {d : Option Addr} (r : XRet K mg I H w x out cls d I' H') : RetOk K I H w (.d .none) out .non I' H' :=
  ⟨r.imm, r.sub, r.new, r.keep, r.out, .non⟩
end
/-- what a def's wishes are at an exception -/
def retX (o : Bool) (E : Xn → Option (List D) → Prop) : XC := fun x z => ∃ out, outOf o z = some out ∧ E x out
def exD (a : Nat) : D := .dict [(.none, .int (a : Nat))]
def Fx.at (F : Fx) (I : Hp) : Fx := { F with I0 := I }
section
variable {K : PySem.W.Frag} {F : Fx} {z z' : SS} {σ σ' : St} {I I' H H' : Hp}
theorem Ok.atI (ok : Ok K F z σ I H) : Ok K (F.at I) z σ I H := ⟨ok.len, ok.val, ok.own, ok.dis, ok.sub, Same.refl _, fun a o h => .inl h, ok.keep, ok.wf⟩
end
def wTryAs (W : XC) (m : Str → Option Bool) (i : Nat) (t : XC → WS) (ts : Nat → Xn → WS) : WS := fun E z => ∃ (W' : XC) (E1 : En), E1.le E ∧ t W' E1 z ∧ ∀ x z1, W' x z1 → ∃ b, m x.c = some b ∧
  (b = true → ∀ a : Nat, ∃ E0 : En, E0.le ⟨fun z' => E.nx (z'.set i none), E.rt, fun z' => E.bk (z'.set i none), fun z' => E.ct (z'.set i none)⟩ ∧ ts a x E0 (z1.set i (some (.val (exD a))))) ∧ (b = false → W x z1)
theorem En.le.trans {A B C : En} (h : A.le B) (g : B.le C) : A.le C := ⟨fun z q => g.nx z (h.nx z q), fun r z q => g.rt r z (h.rt r z q), fun z q => g.bk z (h.bk z q), fun z q => g.ct z (h.ct z q)⟩
section
variable {X : Cx} {F : Fx} {W : XC} {m : Str → Option Bool} {i : Nat} {n cx : Str} {c : Value} {body suite : List Stmt} {b₀ : Stmt} {np pos pos' : Pos} {t : XC → WS} {ts : Nat → Xn → WS}
/-- e.f of the exception in hand -/
def wXf (a : Nat) (x : Xn) (f : Str) (t : WE) : WE := fun z R => t z fun ev z1 => ev = .d (exD a) ∧ ∃ d, x.fs.lookup f = some d ∧ R (.d d) z1
end

section
variable {P : Program} {w : World} {K : PySem.W.Frag} {mg : Str → Option Value} {base : Heap} {qual : Str} {st : Stmt} {f : Addr} {fd : FuncData} {C : Addr} {n n2 : Str}
end
end L3
namespace L3
open PySem PySem.Spec PyProof.Rows L2 PySem.SeqAt
def MulS (a : Str) (n : Int) : Prop := -(2 ^ 63) ≤ n ∧ n < 2 ^ 63 ∧ a.length * n.toNat ≤ sizeLine
theorem MulS.ok {a : Str} {n : Int} (h : MulS a n) : MulOk a n := by
  obtain ⟨h1, h2, h3⟩ := h
  have h4 := h3
  rw [sizeLine_eq] at h3
  refine ⟨by rw [Bool.or_eq_false_iff]; exact ⟨decide_eq_false (by omega), decide_eq_false (by omega)⟩, fun hn _ => ?_, fun hn _ => ?_⟩
  · obtain ⟨m, rfl⟩ := Int.eq_ofNat_of_zero_le (show 0 ≤ n by omega)
    rw [Int.toNat_natCast] at h3
    have hm : 0 < m := by omega
    have : a.length ≤ 16777216 := Nat.le_trans (Nat.le_mul_of_pos_right _ hm) h3
    have hmul : (a.length : Int) * (m : Int) ≤ 16777216 := by
      have := Int.ofNat_le.mpr h3
      rwa [Int.natCast_mul] at this
    have : (a.length : Int) ≤ (2 ^ 63 - 1) / (m : Int) := (Int.le_ediv_iff_mul_le (by omega)).mpr (by omega)
    omega
  · exact decide_eq_false (by omega)
def sMulX : F2 := fun z x y k => match x, y with
  | .d (.str a), .d (.int n) => MulS a n ∧ k (.d (.str (Txt.mul a n)))
  | x, y => sMul z x y k
section
variable {X : Cx} {F : Fx}
variable {pos apos p : Pos} {o e : Expr} {t : WE} {u : WA}
end
abbrev WV := (RV → SS → Prop) → SS → Prop
structure XV (X : Cx) (F : Fx) (e : Expr) (t : WV) : Prop where
  mono : ∀ R R' z, (∀ r z, R r z → R' r z) → t R z → t R' z
  run : PE X e fun σ H Q => ∃ z I, Ok X.K F z σ I H ∧ t (RtOf X.K F I Q) z
def wRetV (t : WV) : WS := fun E z => t E.rt z
def vIf (c : WT) (a b : WV) : WV := fun R z => c z fun b' z' => if b' = true then a R z' else b R z'
def vR (t : WR) : WV := fun R z => t z R
def vE (t : WE) : WV := fun R z => t z fun ev z' => ∃ d, ev = .d d ∧ R (.d d) z'
def vOwn (i : Nat) : WV := fun R z => ∃ l, z[i]? = some (some (.own none l)) ∧ R (.n l) (z.set i none)
section
variable {X : Cx} {F : Fx} {pos p : Pos} {e c a b : Expr} {t ta tb : WV} {te : WE} {tr : WR} {tc : WT}
theorem xs_retV (h : XV X F e t) : XS X F (.Return (some e) pos) (wRetV t) :=
  ⟨fun E E' z l w => h.mono _ _ _ l.rt w, ps_imp (ps_ret h.run) fun D σ H ⟨z, I, ok, w⟩ => ⟨z, I, ok, w⟩⟩
theorem xv_R (h : XR X F e tr) : XV X F e (vR tr) := ⟨fun R R' z k w => h.mono _ _ _ k w, pe_imp h.run fun σ H Q ⟨z, I, ok, w⟩ => ⟨z, I, ok, h.mono _ _ _ (fun r z' q => by
  cases r with
  | d x => exact fun v I' H' o s r => q v σ I' H' o s.imm r
  | n l => exact fun a I' H' o s n => q a σ I' H' o s.imm ⟨n.at_, n.imm, n.h0, n.nown⟩) w⟩⟩
theorem xv_if (hc : XT X F c tc) (ha : XV X F a ta) (hb : XV X F b tb) : XV X F (.IfExp c a b p) (vIf tc ta tb) :=
  ⟨fun R R' z k w => hc.mono _ _ _ (fun b' z' q => by
    cases b' with
    | true => exact ha.mono _ _ _ k q
    | false => exact hb.mono _ _ _ k q) w, pe_imp (pe_ifExp hc.run ha.run hb.run) fun σ H Q ⟨z, I, ok, w⟩ => hc.at ok w fun b' z' I' H' q o s => by
    have later : ∀ r z, RtOf X.K F I Q r z → RtOf X.K F I' Q r z := fun r z h => h.later s.imm
    cases b' with
    | true => exact ⟨z', I', o, ha.mono _ _ _ later q⟩
    | false => exact ⟨z', I', o, hb.mono _ _ _ later q⟩⟩
end
section
variable {z z1 z2 : SS} {R : EV → SS → Prop} {RR : RV → SS → Prop} {E : En} {k : RV → Prop} {N : SS → Prop} {rt : RV → SS → Prop} {bk ct : SS → Prop}
variable {i j : Int} {n m : Nat} {d x y : D} {a b : Str} {l l' : List D} {c : Bool} {t : WE} {tr : WR} {tc : WT} {va vb v : WV} {wa : WA} {W : XC} {es : List EV} {ts us : WS}
instance : Stp (wRetV v ⟨N, rt, bk, ct⟩ z) (v rt z) := ⟨fun h => h⟩
instance : Stp (vIf tc va vb rt z) (tc z fun b' z' => if b' = true then va rt z' else vb rt z') := ⟨fun h => h⟩
instance : Stp (vR tr rt z) (tr z rt) := ⟨fun h => h⟩
instance : Stp (vE t rt z) (t z (retK rt)) := ⟨fun h => h⟩
instance [p : At z n (.own none l)] [q : Put z n none z1] : Stp (vOwn n rt z) (rt (.n l) z1) := ⟨fun h => ⟨l, p.e, by rw [q.e]; exact h⟩⟩
instance : Stp (sMulX z (.d (.str a)) (.d (.int i)) k) (MulS a i ∧ k (.d (.str (Txt.mul a i)))) := ⟨fun h => h⟩
instance : Stp (sMulX z (.d (.int i)) (.d (.int j)) k) (sMul z (.d (.int i)) (.d (.int j)) k) := ⟨fun h => h⟩
def raiK (W : XC) (c : Str) (ns : List Str) : List EV → SS → Prop := fun es z1 => ∃ ds, allD es = some ds ∧ ds.length = ns.length ∧ W ⟨c, (ns.zip ds).reverse⟩ z1
instance raise1 {cn n1 : Str} : Stp (raiK W cn [n1] [.d x] z) (W ⟨cn, [(n1, x)]⟩ z) := ⟨fun h => ⟨[x], rfl, rfl, h⟩⟩
instance raise2 {cn n1 n2 : Str} : Stp (raiK W cn [n1, n2] [.d x, .d y] z) (W ⟨cn, [(n2, y), (n1, x)]⟩ z) := ⟨fun h => ⟨[x, y], rfl, rfl, h⟩⟩
instance {cn : Str} {ns : List Str} : Stp (wRaise W cn ns wa ⟨N, rt, bk, ct⟩ z) (wa z (raiK W cn ns)) := ⟨fun h => h⟩
def callXK (W : XC) (p : FSX) (RR : RV → SS → Prop) : List EV → SS → Prop := fun es z1 => ∃ as j, argsOf z1 es = some (as, j) ∧ p as (outK z1 j RR) fun x out => ∃ z2, putOut z1 j out = some z2 ∧ W x z2
def xoK (z : SS) (j : Option Nat) (W : XC) : Xn → Option (List D) → Prop := fun x out => ∃ z2, putOut z j out = some z2 ∧ W x z2
instance {p : FSX} {as : List AV} {o : Option Nat} [q : ArgIs z es as o] : Stp (callXK W p RR es z) (p as (outK z o RR) (xoK z o W)) := ⟨fun h => ⟨as, o, q.e, h⟩⟩
instance {p : FSX} : Stp (wCallX W p wa z RR) (wa z (callXK W p RR)) := ⟨fun h => h⟩
instance {xn : Xn} : Stp (xoK z none W xn none) (W xn z) := ⟨fun h => ⟨z, rfl, h⟩⟩
instance {xn : Xn} {bb : Option Nat} [p : At z n (.own bb l')] [q : Put z n (some (.own bb l)) z1] : Stp (xoK z (some n) W xn (some l)) (W xn z1) := ⟨fun h => ⟨z1, by unfold putOut; simp only [p.e, q.e], h⟩⟩
/-- an exception leaves the def -/
instance {X : Xn → Option (List D) → Prop} {xn : Xn} : Stp (retX false X xn z) (X xn none) := ⟨fun h => ⟨none, rfl, h⟩⟩
instance {X : Xn → Option (List D) → Prop} {xn : Xn} [q : FOwn z l] : Stp (retX true X xn z) (X xn (some l)) := ⟨fun h => ⟨some l, by unfold outOf; rw [q.e]; rfl, h⟩⟩
/-- what a try wishes of its body's exceptions -/
def tryK (W : XC) (m : Str → Option Bool) (n : Nat) (ts : Nat → Xn → WS) (E : En) : XC := fun x z1 => ∃ b, m x.c = some b ∧
  (b = true → ∀ a : Nat, ts a x ⟨fun z' => E.nx (z'.set n none), E.rt, fun z' => E.bk (z'.set n none), fun z' => E.ct (z'.set n none)⟩ (z1.set n (some (.val (exD a))))) ∧ (b = false → W x z1)
def dropK (n : Nat) (N : SS → Prop) : SS → Prop := fun z => N (z.set n none)
instance [q : Put z n none z1] : Stp (dropK n N z) (N z1) := ⟨fun h => by unfold dropK; rw [q.e]; exact h⟩
instance {m' : Str → Option Bool} {tt : XC → WS} {th : Nat → Xn → WS} : Stp (wTryAs W m' n tt th ⟨N, rt, bk, ct⟩ z) (tt (tryK W m' n th ⟨N, rt, bk, ct⟩) ⟨N, rt, bk, ct⟩ z) :=
  ⟨fun h => ⟨_, _, .refl, h, fun x z1 ⟨b, e, h1, h2⟩ => ⟨b, e, fun hb a => ⟨_, .refl, h1 hb a⟩, h2⟩⟩⟩
class Fld (fs : List (Str × D)) (f : Str) (d : outParam D) : Prop where
  e : fs.lookup f = some d
instance {f : Str} {fs : List (Str × D)} : Fld ((f, d) :: fs) f d := ⟨List.lookup_cons_self⟩
instance {w : Nat} {xn : Xn} {f : Str} : Stp (wXf w xn f t z R) (t z fun ev z1 => ev = .d (exD w) ∧ ∃ d, xn.fs.lookup f = some d ∧ R (.d d) z1) := ⟨fun h => h⟩
end
end L3
namespace L3
open PySem PySem.Spec PyProof.Rows L2
end L3
namespace L3
open PySem PySem.Spec PyProof.Rows L2
end L3
namespace L3
open PySem PySem.Spec PyProof.Rows L2
def scal : D → Bool
  | .none => true
  | .bool _ => true
  | .int _ => true
  | .str _ => true
  | _ => false
section
variable {X : Cx} {k : Nat} {f : Addr} {fd : FuncData} {ps : List Str} {p : FS} {x : Str} {pp pos : Pos} {F : Fx} {e : Expr} {es : List Expr}
end
end L3
namespace L3
open PySem PySem.Spec PyProof.Rows L2
end L3
namespace L3
open PySem PySem.Spec PyProof.Rows L2
def wTruthL (t : WE) : WT := fun z R => t z fun ev z1 => ∃ l, seqOf z1 ev = some l ∧ R (!l.isEmpty) z1
section
variable {z : SS} {t : WE} {RT : Bool → SS → Prop} {ev : EV} {l : List D}
def trlK (RT : Bool → SS → Prop) : EV → SS → Prop := fun ev z1 => ∃ l, seqOf z1 ev = some l ∧ RT (!l.isEmpty) z1
instance : Stp (wTruthL t z RT) (t z (trlK RT)) := ⟨fun h => h⟩
instance [q : SeqIs z ev l] : Stp (trlK RT ev z) (RT (!l.isEmpty) z) := ⟨fun h => ⟨l, q.e, h⟩⟩
end
end L3
namespace L3
open PySem PySem.Spec PyProof.Rows L2 PySem.SeqAt
/-- what a clause is to do: its source, its target, its tests; its own names and those of the clauses behind it -/
structure ClT where
  wi : TI
  g : TG
  tt : TT
  vs : List Nat
/-- the loop of a clause whose iterator has come; what is done at each turn: b -/
def tLoop (c : ClT) (b : St → (Hp → Prop) → Hp → Prop) (σ : St) (Nx : Hp → Prop) (J : It) (H1 : Hp) : Prop := ∃ W : Nat → Nat → Hp → Prop, (∃ m, W 0 m H1) ∧ ∀ i m H, W i m H →
  (J.stop i H ∧ Nx H) ∨ (J.go i H ∧ ∃ N1 : Hp → Prop, (∀ H', N1 H' → ∃ m', m' < m ∧ W (i + 1) m' H') ∧ ∀ x H', J.yld i H x H' → c.g x (wipe σ c.vs) H' fun σ2 H2 => wipe σ2 c.vs = wipe σ c.vs ∧ c.tt σ2 H2 fun ok H3 => if ok = true then b σ2 N1 H3 else N1 H3)
/-- behind the tests: the next clause, or the item -/
def tBody (D : Addr) (te : TE) : List ClT → St → (Hp → Prop) → Hp → Prop
  | [], σ, Nx, H => te σ H fun y H1 => ∃ acc, H1 D = some (.lst acc) ∧ acc.length < sizeLine ∧ Nx (upd H1 D (.lst (acc ++ [y])))
  | c :: cs, σ, Nx, H => c.wi σ H (tLoop c (tBody D te cs) σ Nx)
/-- a turn of the loop of the clause at that depth -/
def TurnIs (e : Expr) (k : Nat) (tg iter : Expr) (ifs : List Expr) (body : Value → Env → Sem PySem.Fin → Sem PySem.Fin) : Prop := ∀ it acc env, compTurn e k it acc env = (do
  standAt iter.pos
  match ← pyNext it with
  | none => pure (.done .next)
  | some v =>
    letOwnedTupleGo tg it v
    assign tg env v
    let mut ok := true
    for c in ifs do
      if ok then ok ← isTrue c env (eval c env)
    if ok = true then body acc env (again (.compLoop e k it acc env)) else again (.compLoop e k it acc env))
/-- what a body keeps -/
def BodyOk (B : Cx) (D : Addr) (vs : List Nat) (t : St → (Hp → Prop) → Hp → Prop) (body : Value → Env → Sem PySem.Fin → Sem PySem.Fin) : Prop := ∀ (pins : List (Addr × Obj)) (s : Shared) (σ : St) (H : Hp) (Nx : Hp → Prop) (next : Sem PySem.Fin) (Q : PySem.Fin → Shared → Prop) (E : Value → Shared → Prop), Inv B pins σ H s → t σ Nx H →
  (∀ s' σ' H', Inv B pins σ' H' s' → σ'.length = σ.length → (∀ (j : Nat) v, (wipe σ vs)[j]? = some (some v) → σ'[j]? = some (some v)) → Nx H' → wpAny (model B.prog B.w) B.A next Q E s') →
  wpAny (model B.prog B.w) B.A (body (.ref D) B.env next) Q E s
section
variable {B : Cx} {D : Addr} {e tg iter : Expr} {ifs : List Expr} {k : Nat} {body : Value → Env → Sem PySem.Fin → Sem PySem.Fin} {c : ClT} {b : St → (Hp → Prop) → Hp → Prop} {vs : List Nat}
theorem thnB {α : Type} {t : Sem α} {Q Q' : α → Shared → Prop} {M : Model} {A : Around} {E : Value → Shared → Prop} {s : Shared} (hx : B.xe = fun _ _ => False) (h : wpAny M A t Q B.xe s) (hQ : ∀ a s, Q a s → Q' a s) : wpAny M A t Q' E s := thnF (by rw [hx] at h; exact h) hQ
theorem loop_ok {elt : Expr} {gens : List Comprehension} {scope : Scope} {pos : Pos} (he : e = .ListComp elt gens scope pos) (hx : B.xe = fun _ _ => False) (hc : B.calm = true) (ht : TurnIs e k tg iter ifs body) (hb : BodyOk B D vs b body) (hv : ∀ i ∈ vs, i ∈ c.vs) (pg : PG B tg c.g) (pt : PTs B ifs c.tt)
    {pins : List (Addr × Obj)} {s : Shared} {σ : St} {H : Hp} {Nx : Hp → Prop} {J : It} {fp : List Addr} {it : Addr} {tn : Nat → Heap → Prop} (I : Inv B pins (wipe σ c.vs) H s) (T : Turn B.prog B.w B.K tg J fp it tn) (st : tn 0 s.heap) (f : ∀ b ∈ fp, FpOk B pins H b) (w : tLoop c b σ Nx J H) :
    codeAny (model B.prog B.w) B.A (.compLoop e k (.ref it) (.ref D) B.env) (fun r s' => match r with
      | .ok f => f = .next ∧ ∃ H', Inv B pins (wipe σ c.vs) H' s' ∧ Nx H'
      | .error _ => False) s := by
  subst he
  obtain ⟨W, ⟨m0, w0⟩, turn⟩ := w
  have stat : ∀ {H' : Hp}, (∀ b ∈ fp, H' b = none) → ∀ b ∈ fp, FpOk B pins H' b := fun hn b hb => ⟨hn b hb, (f b hb).2⟩
  refine codeAny_loop rfl (fun n s' => ∃ i H', Inv B pins (wipe σ c.vs) H' s' ∧ tn i s'.heap ∧ (∀ b ∈ fp, H' b = none) ∧ W i n H') (fun n s5 h5 => ?_) m0 ⟨0, H, I, st, fun b hb => (f b hb).1, w0⟩
  obtain ⟨i, H5, I5, st5, n5, w5⟩ := h5
  show wpAny _ B.A ((compTurn (.ListComp elt gens scope pos) k (.ref it) (.ref D) B.env).onRaise (fun x => do noteFrame x B.env; theTreesLotGoes x)) _ _ s5
  refine wpAny_noted ?_
  rw [ht]
  refine wpAny_bind (wpAny_standAt (wpAny_bind ?_))
  rcases turn i n H5 w5 with ⟨stop, nx⟩ | ⟨go, N1, hN1, step⟩
  · refine thnF (T.done B rfl rfl rfl hc i pins s5 _ H5 (fun _ _ => False) I5 (stat n5) st5 stop) fun r s6 ⟨hr, I6⟩ => ?_
    subst hr
    exact wpAny_pure ⟨rfl, H5, I6, nx⟩
  · refine thnF (T.item B rfl rfl rfl hc i pins s5 _ H5 (fun _ _ => False) I5 (stat n5) st5 go) fun r s6 ⟨u, hr, h6⟩ => ?_
    subst hr
    refine wpAny_bind (thnF h6 fun _ s7 ⟨x, H7, I7, r7, y7, st7, n7⟩ => ?_)
    have I7' := I7.pinned (stat n7) (T.obj _ _ st7)
    refine wpAny_bind (thnB hx (pg.run _ s7 _ H7 x u _ I7' r7 (step x H7 y7)) fun _ s8 ⟨σ8, H8, I8, hw8, q8⟩ => ?_)
    have fin : ∀ {σ9 : St} {s' : Shared} {H' : Hp}, Inv B (pins ++ pinsAt fp s7.heap) σ9 H' s' → (wipe σ c.vs).length = σ9.length → (∀ (j : Nat) v, (wipe σ c.vs)[j]? = some (some v) → σ9[j]? = some (some v)) → N1 H' →
        ∃ m, m < n ∧ ∃ i H', Inv B pins (wipe σ c.vs) H' s' ∧ tn i s'.heap ∧ (∀ b ∈ fp, H' b = none) ∧ W i m H' := fun {σ9 s' H'} I' hl hk nx => by
      obtain ⟨m', hm, w'⟩ := hN1 H' nx
      have pin' : ∀ b ∈ fp, ∀ o, s7.heap.get? b = some o → s'.heap.get? b = some o ∧ H' b = none := fun b hb o e =>
        let z := I'.pin (b, o) (List.mem_append_right _ (List.mem_append_right _ (mem_pinsAt hb e)))
        ⟨z.1, z.2.1⟩
      refine ⟨m', hm, i + 1, H', (I'.unpinned (pins := pins)).weak hl hk, T.keep _ _ _ st7 fun b hb o e => (pin' b hb o e).1, fun b hb => ?_, w'⟩
      obtain ⟨o, e, _⟩ := T.obj _ _ st7 b hb
      exact (pin' b hb o e).2
    have hl8 : (wipe σ c.vs).length = σ8.length := by rw [← hw8, wipe_length]
    refine wpAny_bind (thnB hx (pt.run _ s8 σ8 H8 _ I8 q8) fun ok s9 ⟨H9, I9, q9⟩ => ?_)
    cases ok with
    | false =>
      simp only [Bool.false_eq_true, if_false] at q9 ⊢
      exact wpAny_pure ⟨rfl, fin I9 hl8 (fun j v e => by rw [← hw8] at e; exact (wipe_some e).1) q9⟩
    | true =>
      simp only [if_true] at q9 ⊢
      refine hb _ s9 σ8 H9 N1 _ _ _ I9 q9 fun s10 σ10 H10 I10 hl10 hk10 nx => ?_
      refine wpAny_pure ⟨rfl, fin I10 (hl8.trans hl10.symm) (fun j v e => hk10 j v ?_) nx⟩
      rw [← hw8] at e
      obtain ⟨e1, e2⟩ := wipe_some e
      rw [wipe_out fun z => e2 (hv j z)]
      exact e1
abbrev itemBody (elt : Expr) : Value → Env → Sem PySem.Fin → Sem PySem.Fin := fun acc env next => (do let _ ← call (.builtin "list.append") [acc, ← eval elt env]) >>= fun _ => next
/-- the last clause's body: the item goes to the list -/
theorem body_last {elt : Expr} {te : TE} (hx : B.xe = fun _ _ => False) (pe : PE B elt te) : BodyOk B D [] (tBody D te []) (itemBody elt) := fun pins s σ H Nx next Q E I h hn => by
  refine wpAny_bind (wpAny_bind (thnB hx (pe.run _ s σ H _ I h) fun z s1 ⟨yv, H1, I1, r1, acc, hD, hz, nx⟩ => ?_))
  exact wpAny_bind (app_ok I1 hD hz r1 fun s2 I2 => wpAny_pure (hn s2 σ _ I2 rfl (fun j v e => e) nx))
/-- what a further clause does -/
abbrev clauseBody (e : Expr) (k : Nat) (iter : Expr) : Value → Env → Sem PySem.Fin → Sem PySem.Fin := fun acc env next => do
  let x ← eval iter env
  standAt iter.pos
  let x ← foldedSetIterable iter env x
  let _ ← runOwn (.compStart e k (← holding [x] (pyIter x)) acc env) env
  next
/-- a further clause's body: its source, then its loop -/
theorem body_next {elt : Expr} {gens : List Comprehension} {scope : Scope} {pos : Pos} (he : e = .ListComp elt gens scope pos) (hx : B.xe = fun _ _ => False) (hc : B.calm = true) (hcl : gens[k]? = some ⟨tg, iter, ifs, 0⟩) (hs : ∀ env x, foldedSetIterable iter env x = pure x) (ht : TurnIs e k tg iter ifs body) (hb : BodyOk B D vs b body) (hv : ∀ i ∈ vs, i ∈ c.vs) (pi : PI B tg iter c.wi) (pg : PG B tg c.g) (pt : PTs B ifs c.tt) :
    BodyOk B D c.vs (fun σ Nx H => c.wi σ H (tLoop c b σ Nx)) (clauseBody e k iter) := fun pins s σ H Nx next Q E I h hn => by
  refine wpAny_bind (thnB hx (pi.run pins s σ H _ I h) fun x s1 h1 => ?_)
  refine wpAny_bind (wpAny_standAt (wpAny_bind (wpAny_of_eq (hs _ x) (wpAny_bind (wpAny_holding (thnB hx h1 fun itv s2 h2 => ?_))))))
  obtain ⟨it1, fp1, tn1, J1, H1, e1, I1, T1, st1, f1, w1⟩ := h2
  subst e1
  refine wpAny_bind (wpAny_runOwn ?_)
  rw [Around.mark_none]
  have loop := loop_ok he hx hc ht hb hv pg pt (I1.weak (wipe_length _ _) (fun j v e => (wipe_some e).1)) T1 st1 f1 w1
  subst he
  have start : codeAny (model B.prog B.w) B.A (.compStart (.ListComp elt gens scope pos) k (.ref it1) (.ref D) B.env) (fun r s' => match r with
      | .ok f => f = .next ∧ ∃ H', Inv B pins (wipe σ c.vs) H' s' ∧ Nx H'
      | .error _ => False) s2 := by
    refine codeAny_of_tree ?_
    show wpAny _ _ ((compStart (.ListComp elt gens scope pos) k (.ref it1) (.ref D) B.env).onRaise (fun x => do noteFrame x B.env; standAt theWindowsPlace)) _ _ s2
    refine wpAny_notedAt ?_
    unfold compStart
    rw [show clausesOf (.ListComp elt gens scope pos) = gens from rfl, hcl]
    show wpAny _ _ (ask >>= _) _ _ s2
    refine wpAny_bind (wpAny_askSetting (wpAny_ite ?_))
    split
    · first
        | exact wpAny_bind (wpAny_pure (wpAny_pure (And.intro rfl loop)))
        | exact wpAny_pure (And.intro rfl loop)
    · have again := T1.self B.A 0 s2 (fun it' s' => codeAny (model B.prog B.w) B.A (.compLoop (.ListComp elt gens scope pos) k it' (.ref D) B.env) (fun r s' => match r with
        | .ok f => f = .next ∧ ∃ H', Inv B pins (wipe σ c.vs) H' s' ∧ Nx H'
        | .error _ => False) s') (fun _ _ => False) st1 loop
      first
        | exact wpAny_bind (wpAny_rule (wpAny_bind (wpAny_standAt (wpAny_bind (wpAny_mono again (fun it' s' h' => wpAny_pure (And.intro rfl h')) fun _ _ x => x.elim)))))
        | (refine wpAny_bind (wpAny_rule ?_); show wpAny _ _ (standAt iter.pos >>= _) _ _ s2; exact wpAny_bind (wpAny_standAt (wpAny_bind (wpAny_mono again (fun it' s' h' => wpAny_pure (And.intro rfl h')) fun _ _ x => x.elim))))
  refine codeAny_mono start fun r s' hr => ?_
  cases r with
  | ok f =>
    obtain ⟨_, H', I', nx⟩ := hr
    have fin := hn s' _ H' I' (wipe_length _ _) (fun j v e => e) nx
    first
      | exact wpAny_pure fin
      | exact wpAny_bind (wpAny_pure fin)
      | exact fin
  | error e => exact hr.elim
end
section
variable {X : Cx} {elt tg iter : Expr} {ifs : List Expr} {rest : List Comprehension} {scope : Scope} {own : List (Str × Nat)} {pos : Pos} {wi : TI} {g : TG} {tt : TT} {b : Addr → St → (Hp → Prop) → Hp → Prop} {body : Value → Env → Sem PySem.Fin → Sem PySem.Fin} {vs : List Nat}
/-- the whole: the source, a new list, the loop -/
def tLcN (wi : TI) (g : TG) (tt : TT) (vs : List Nat) (b : Addr → St → (Hp → Prop) → Hp → Prop) : TE := fun σ H Q => wi σ H fun J H1 => ∀ D, H1 D = none → tLoop ⟨wi, g, tt, vs⟩ (b D) σ (fun H' => Q (.ref D) H') J (upd H1 D (.lst []))
theorem pe_lcN (hc : X.calm = true) (hN : X.N.Nodup) (hi : PI X tg iter wi) (ok : BlkOk X.N X.env.scope scope own) (hv : ∀ i ∈ vs, i ∈ own.map (·.2)) (hturn : TurnIs (.ListComp elt (⟨tg, iter, ifs, 0⟩ :: rest) scope pos) 0 tg iter ifs body)
    (hg : ∀ (s : Shared) (H : Hp) (C : Addr) (cl : List (Str × Addr)) (fp : List Addr), PG (X.blk s H scope (compEnvC scope cl C X.env) fp) tg g) (ht : ∀ (s : Shared) (H : Hp) (C : Addr) (cl : List (Str × Addr)) (fp : List Addr), PTs (X.blk s H scope (compEnvC scope cl C X.env) fp) ifs tt)
    (hb : ∀ (s : Shared) (H : Hp) (C : Addr) (cl : List (Str × Addr)) (fp : List Addr) (D : Addr), BodyOk (X.blk s H scope (compEnvC scope cl C X.env) fp) D vs (b D) body) (hs : ∀ x, foldedSetIterable iter X.env x = pure x := by intro _; rfl) :
    PE X (.ListComp elt (⟨tg, iter, ifs, 0⟩ :: rest) scope pos) (tLcN wi g tt (own.map (·.2)) b) := by
  refine ⟨fun pins s σ H Q I h => ?_⟩
  rw [eval_ListComp]
  have hfree : ∀ y ∈ scope.names, y.2 = .free → ∃ c, X.env.cells.lookup y.1 = some c := fun y hy e => by
    rcases ok.free y hy e with k | k
    · exact I.ok.has _ (.inl k)
    · exact I.ok.has _ (.inr k)
  refine wpAny_comprehension_free rfl hs (closure_ok hfree) ok.kind (fun y hy e => by rw [ok.uniq y hy, e])
    (thn (hi.run pins s σ H _ I h) fun xv s1 hx => thn hx fun itv s2 h2 => ?_)
  obtain ⟨it, fp, tn, J, H2, e, I2, T, st2, f2, q⟩ := h2
  subst e
  refine wpAny_newObj_type (newEnv_comp ?_) (by show 0 ≤ sizeLine; decide)
  generalize hD : s2.heap.objs.size = D
  have hDn : H2 D = none := I2.hok.fresh (Nat.le_of_eq hD)
  have w := q D hDn
  generalize hs3 : ({ s2 with heap := s2.heap.push { cls := .type "list", data := .seq ([] : List Value).toArray } } : Shared) = s3
  have I3 : Inv X pins σ (upd H2 D (.lst [])) s3 := by
    rw [← hs3]
    refine I2.laid (t' := s2.toks) (fun b o e => Heap.get?_push_of_some _ e) (Nat.le_of_eq hD) ⟨Nat.zero_le _, [], 0, .nil, ?_⟩
    rw [← hD]
    exact Heap.get?_push_size _ rfl
  have h3 : s3.heap = s2.heap.push { cls := .type "list", data := .seq ([] : List Value).toArray } := by rw [← hs3]
  have f3 : ∀ b ∈ fp, FpOk X pins (upd H2 D (.lst [])) b ∧ b < s3.heap.objs.size := fun b hb => by
    obtain ⟨o, e, _⟩ := T.obj _ _ st2 b hb
    have hlt := Heap.lt_size e
    refine ⟨⟨?_, (f2 b hb).2⟩, by rw [h3, Heap.size_push]; exact Nat.lt_succ_of_lt hlt⟩
    rw [upd_ne (by rw [← hD]; exact Nat.ne_of_lt hlt)]
    exact (f2 b hb).1
  have st3 : tn 0 s3.heap := T.keep _ _ _ st2 fun b _ o e => by rw [h3]; exact Heap.get?_push_of_some _ e
  have I4 := block_start I3 ok hN f3
  have pg := hg s3 (upd H2 D (.lst [])) s3.heap.objs.size (cellsFrom (s3.heap.objs.size + 1) scope.names (cloFrom X.env.cells scope.names [])) fp
  have pt := ht s3 (upd H2 D (.lst [])) s3.heap.objs.size (cellsFrom (s3.heap.objs.size + 1) scope.names (cloFrom X.env.cells scope.names [])) fp
  have pb := hb s3 (upd H2 D (.lst [])) s3.heap.objs.size (cellsFrom (s3.heap.objs.size + 1) scope.names (cloFrom X.env.cells scope.names [])) fp D
  show codeAny _ _ (.compStart _ 0 (.ref it) (.ref D) (compEnvC scope (cellsFrom (s3.heap.objs.size + 1) scope.names (cloFrom X.env.cells scope.names [])) s3.heap.objs.size X.env)) _ { s3 with heap := pushCells (s3.heap.push { cls := .type "dict", data := .dict #[] }) scope.names }
  have nfp : ∀ b ∈ fp, (upd H2 D (.lst [])) b = none := fun b hb => (f3 b hb).1.1
  generalize hce : compEnvC scope (cellsFrom (s3.heap.objs.size + 1) scope.names (cloFrom X.env.cells scope.names [])) s3.heap.objs.size X.env = ce at I4 pg pt pb ⊢
  have cL : ce.locals = s3.heap.objs.size := by subst hce; rfl
  generalize hH3 : upd H2 D (.lst []) = H3 at I3 I4 pg pt pb w nfp f3
  generalize hs4 : ({ s3 with heap := pushCells (s3.heap.push { cls := .type "dict", data := .dict #[] }) scope.names } : Shared) = s4 at I4 ⊢
  have st4 : tn 0 s4.heap := T.keep _ _ _ st3 fun b _ o e => by rw [← hs4]; exact pushCells_keeps _ _ _ _ (Heap.get?_push_of_some _ e)
  have f4 : ∀ b ∈ fp, FpOk (X.blk s3 H3 scope ce fp) [] H3 b := fun b hb =>
    ⟨nfp b hb, (I4.ok.exf b hb).1, I4.ok.exfs b hb, .inl hb, fun x c e => (I4.ok.exf b hb).2 x c e, fun p hp => absurd (show p ∈ ([] : List (Addr × Obj)) ++ [] from hp) (by simp)⟩
  have loop0 := loop_ok (B := X.blk s3 H3 scope ce fp) (c := ⟨wi, g, tt, own.map (·.2)⟩) rfl rfl hc hturn pb hv pg pt I4 T st4 f4 w
  refine (fun hl => codeAny_compStart_list (codeAny_mono loop0 hl) (T.self X.A 0 _ _ _ st4 (codeAny_mono loop0 hl))) ?_
  intro r s' hr
  cases r with
  | error e => exact hr.elim
  | ok f =>
    obtain ⟨rfl, H5, I6, qq⟩ := hr
    have I7 : Inv X pins σ H5 s' := I3.call' (ch := fp) I6.os I6.base I6.hok I6.bare fun b hb => ⟨(f3 b hb).1.2.2.2.1, (f3 b hb).1.2.1, (f3 b hb).1.2.2.2.2.1, (f3 b hb).1.2.2.2.2.2⟩
    have nC : H5 s3.heap.objs.size = none := by
      have z : H5 ce.locals = none := I6.free
      rw [cL] at z
      exact z
    obtain ⟨m, hn, _⟩ := I6.loc
    have hn : s'.heap.Ns ce.locals m := hn
    rw [cL] at hn
    obtain ⟨g0, g1, g2, g3, g4, g5⟩ := I3.fpOk (H' := H5) (Nat.le_refl _) nC
    refine ⟨m, hn, fun h'' sb => ?_⟩
    exact ⟨.ref D, H5, I7.turned (t' := s'.toks) (fun b o hb e => (sb.2 b hb).trans e) g0 g1 g3 g4 g5, rfl, qq⟩
end
structure ClW where
  s : WI
  g : GS
  vs : List Nat
  tt : WT
abbrev BW := (List D → SS → Prop) → List D → SS → Prop
def wLoopN (c : ClW) (b : BW) (k : List D → SS → Prop) : List D → List D → SS → Prop
  | [], acc, z => k acc z
  | x :: xs, acc, z => ∃ z1, c.g x z = some z1 ∧ c.tt z1 fun ok z2 => if ok = true then b (fun acc' z4 => wLoopN c b k xs acc' (killAll c.vs z4)) acc z2 else wLoopN c b k xs acc (killAll c.vs z2)
def wBodyN (te : WE) : List ClW → BW
  | [], k, acc, z => te z fun ev z3 => ∃ d, ev = .d d ∧ acc.length < sizeLine ∧ k (acc ++ [d]) z3
  | c :: cs, k, acc, z => c.s z fun items z3 => wLoopN c (wBodyN te cs) k items acc (killAll c.vs z3)
def wLcN (c : ClW) (cs : List ClW) (te : WE) : WR := fun z R => c.s z fun items z1 => wLoopN c (wBodyN te cs) (fun acc z' => R (.n acc) (restS c.vs z1 z')) items [] (killAll c.vs z1)
def MonoB (b : BW) : Prop := ∀ k k', (∀ acc z, k acc z → k' acc z) → ∀ acc z, b k acc z → b k' acc z
theorem wLoopN_mono {c : ClW} {b : BW} (mt : Mono c.tt) (mb : MonoB b) {k k' : List D → SS → Prop} (hk : ∀ acc z, k acc z → k' acc z) : ∀ (l acc : List D) (z : SS), wLoopN c b k l acc z → wLoopN c b k' l acc z
  | [], acc, z, w => hk acc z w
  | x :: xs, acc, z, ⟨z1, e, w⟩ => ⟨z1, e, mt _ _ _ (fun ok z2 q => by
    cases ok with
    | true => exact mb _ _ (fun acc' z4 q => wLoopN_mono mt mb hk xs _ _ q) _ _ q
    | false => exact wLoopN_mono mt mb hk xs _ _ q) w⟩
theorem monoB_last {te : WE} (me : Mono te) : MonoB (wBodyN te []) := fun k k' h acc z w => me _ _ _ (fun ev z3 ⟨d, e, l, q⟩ => ⟨d, e, l, h _ _ q⟩) w
theorem monoB_next {te : WE} {c : ClW} {cs : List ClW} (ms : Mono c.s) (mt : Mono c.tt) (mb : MonoB (wBodyN te cs)) : MonoB (wBodyN te (c :: cs)) := fun k k' h acc z w => ms _ _ _ (fun items z3 q => wLoopN_mono mt mb h _ _ _ q) w
section
variable {X : Cx} {F : Fx} {c : ClW} {cs : List ClW} {te : WE} {is : List Nat} {bw : BW} {bt : Addr → St → (Hp → Prop) → Hp → Prop}
abbrev liftG (X : Cx) (F : Fx) (is : List Nat) (g : GS) : TG := fun v σ H Q => ∃ z I d z', Ok X.K F z σ I H ∧ Rp X.K I v d ∧ g d z = some z' ∧ ∀ σ', Ok X.K F z' σ' I H → Tgt is z σ z' σ' → Q σ' H
abbrev liftC (X : Cx) (F : Fx) (is : List Nat) (c : ClW) : ClT := ⟨liftI X.K F c.s, liftG X F is c.g, liftT X.K F c.tt, c.vs⟩
def BRun (X : Cx) (F : Fx) (V : List Nat) (bw : BW) (bt : Addr → St → (Hp → Prop) → Hp → Prop) : Prop := ∀ (zb : SS) (σb : St) (Ib Hb : Hp) (a : Addr) (z : SS) (σ : St) (I H : Hp) (acc : List D) (k : List D → SS → Prop) (Nx : Hp → Prop), CI X.K F zb σb Ib Hb a z σ I H acc → bw k acc z →
  (∀ z' σ' I' H' acc', CI X.K F zb σb Ib Hb a z' σ' I' H' acc' → wipe σ' V = wipe σ V → Same I I' → k acc' z' → Nx H') → bt a σ Nx H
theorem brun_last {V : List Nat} (me : Mono te) : BRun X F V (wBodyN te []) (fun D => tBody D (liftE X.K F te) []) := fun zb σb Ib Hb a z σ I H acc k Nx ci w fin => by
  refine ⟨z, I, ci.ok, me _ _ _ (fun ev z6 ⟨d', e', hl, q⟩ v I6 H6 o6 s6 r6 => ?_) w⟩
  subst e'
  obtain ⟨ws, f1, f2, c7⟩ := (ci.step o6 s6).app r6
  exact ⟨ws, f1, by rw [f2]; exact hl, fin _ _ _ _ _ c7 rfl s6.imm q⟩
theorem loop_run {J : It} {items acc : List D} {I1 : Hp} {zb : SS} {σb : St} {Ib Hb : Hp} {a : Addr} {k : List D → SS → Prop} {Fin : Hp → Prop} {z : SS} {σ : St} {I H : Hp} (hb : BRun X F c.vs bw bt) (hv : ∀ i ∈ is, i ∈ c.vs) (mt : Mono c.tt) (mb : MonoB bw)
    (sv : Serves X.K F J items I1) (ci : CI X.K F zb σb Ib Hb a z (wipe σ c.vs) I H acc) (hI : Same I1 I) (w : wLoopN c bw k items acc z)
    (fin : ∀ z I H acc, CI X.K F zb σb Ib Hb a z (wipe σ c.vs) I H acc → Same I1 I → k acc z → Fin H) : tLoop (liftC X F is c) (bt a) σ Fin J H := by
  refine ⟨fun i m H => m = items.length - i ∧ i ≤ items.length ∧ ∃ z I acc, CI X.K F zb σb Ib Hb a z (wipe σ c.vs) I H acc ∧ Same I1 I ∧ wLoopN c bw k (items.drop i) acc z, ⟨items.length, by simp, Nat.zero_le _, z, I, acc, ci, hI, by simpa using w⟩, ?_⟩
  rintro i m H2 ⟨rfl, hi, z2, I2, acc2, c2, s2, w2⟩
  obtain ⟨go, stop, yld⟩ := sv z2 _ I2 H2 c2.ok s2
  by_cases hlt : i < items.length
  · refine .inr ⟨go i hlt, fun H' => ∃ z I acc, CI X.K F zb σb Ib Hb a z (wipe σ c.vs) I H' acc ∧ Same I1 I ∧ wLoopN c bw k (items.drop (i + 1)) acc z, fun H' ⟨z', I', acc', p, q, r⟩ => ⟨items.length - (i + 1), by omega, rfl, hlt, z', I', acc', p, q, r⟩, fun x H' y => ?_⟩
    obtain ⟨I3, d, e, ok3, s3, r⟩ := yld i x H' hlt y
    have ed : items.drop i = d :: items.drop (i + 1) := by
      rw [List.drop_eq_getElem_cons hlt]
      rw [List.getElem?_eq_getElem hlt] at e
      rw [Option.some.inj e]
    rw [ed] at w2
    obtain ⟨z4, e4, w4⟩ := w2
    have c3 := c2.step ok3 s3
    refine ⟨z2, I3, d, z4, ok3, r, e4, fun σ' ok' tg => ⟨?_, ?_⟩⟩
    · rw [tg.wp c.vs hv, wipe_wipe fun _ h => h]
    · have hw' : wipe σ' c.vs = wipe σ c.vs := by rw [tg.wp c.vs hv, wipe_wipe fun _ h => h]
      have c4 := c3.tgt ok' tg
      refine ⟨z4, I3, ok', mt _ _ _ (fun ok z5 q I5 H5 o5 s5 => ?_) w4⟩
      have c5 := c4.step o5 s5
      cases ok with
      | true =>
        simp only [if_true] at q ⊢
        refine hb _ _ _ _ _ _ _ _ _ _ _ _ c5 q fun z' σ2 I' H' acc' c7 hw s7 q7 => ?_
        exact ⟨_, I', _, c7.wiped (hw.trans hw'), ((s2.trans s3.imm).trans s5.imm).trans s7, q7⟩
      | false =>
        simp only [Bool.false_eq_true, if_false] at q ⊢
        exact ⟨_, I5, _, c5.wiped hw', (s2.trans s3.imm).trans s5.imm, q⟩
  · have e : i = items.length := by omega
    subst e
    rw [List.drop_length] at w2
    exact .inl ⟨stop, fin z2 I2 H2 acc2 c2 s2 w2⟩
theorem brun_next {V : List Nat} (hb : BRun X F c.vs (wBodyN te cs) bt) (hv : ∀ i ∈ is, i ∈ c.vs) (hV : ∀ i ∈ c.vs, i ∈ V) (ms : Mono c.s) (mt : Mono c.tt) (mb : MonoB (wBodyN te cs)) : BRun X F V (wBodyN te (c :: cs)) (fun D σ Nx H => (liftC X F is c).wi σ H (tLoop (liftC X F is c) (bt D) σ Nx)) := fun zb σb Ib Hb a z σ I H acc k Nx ci w fin => by
  refine ⟨z, I, ci.ok, ms _ _ _ (fun items1 z6 q J1 I6 H6 o6 s6 sv1 => ?_) w⟩
  have c6 := ci.step o6 s6
  exact loop_run hb hv mt mb sv1 (c6.wiped rfl) (Same.refl _) q fun z7 I7 H7 acc7 c7 s7 q7 => fin _ _ _ _ _ c7 (wipe_wipe hV) (s6.imm.trans s7) q7
theorem lcN_run {σ : St} {H : Hp} {Q : VK} (hb : BRun X F c.vs (wBodyN te cs) bt) (hv : ∀ i ∈ is, i ∈ c.vs) (ms : Mono c.s) (mt : Mono c.tt) (mb : MonoB (wBodyN te cs)) (h : liftR X.K F (wLcN c cs te) σ H Q) : tLcN (liftI X.K F c.s) (liftG X F is c.g) (liftT X.K F c.tt) c.vs bt σ H Q := by
  obtain ⟨z, I, ok, w⟩ := h
  refine ⟨z, I, ok, ms _ _ _ (fun items z1 w J I1 H1 ok1 s1 sv a ha => ?_) w⟩
  refine loop_run hb hv mt mb sv (ok1.begin ha c.vs) (Same.refl _) w fun z2 I2 H2 acc ci s2 q => ?_
  obtain ⟨o3, s3, n⟩ := ci.done ok1
  exact q a I2 H2 o3 (s1.trans s3) (n.back s1)
end
section
variable {X : Cx} {F : Fx} {tg iter tg1 iter1 tg2 iter2 elt : Expr} {g g1 g2 : GS} {tt tt1 tt2 : WT} {te : WE} {ifs ifs1 ifs2 : List Expr} {scope : Scope} {pos : Pos} {s s1 s2 : WI} {is is1 is2 : List Nat}
theorem xr_lc3A (own : List (Str × Nat)) (vs1 vs2 : List Nat) (hc : X.calm = true) (hN : X.N.Nodup) (hi : XI X F tg iter s) (ok : BlkOk X.N X.env.scope scope own)
    (hg : ∀ (s : Shared) (H : Hp) (C : Addr) (cl : List (Str × Addr)) (fp : List Addr), XG (X.blk s H scope (compEnvC scope cl C X.env) fp) F tg is g) (ht : ∀ (s : Shared) (H : Hp) (C : Addr) (cl : List (Str × Addr)) (fp : List Addr), XTs (X.blk s H scope (compEnvC scope cl C X.env) fp) F ifs tt)
    (hi1 : ∀ (s : Shared) (H : Hp) (C : Addr) (cl : List (Str × Addr)) (fp : List Addr), XI (X.blk s H scope (compEnvC scope cl C X.env) fp) F tg1 iter1 s1)
    (hg1 : ∀ (s : Shared) (H : Hp) (C : Addr) (cl : List (Str × Addr)) (fp : List Addr), XG (X.blk s H scope (compEnvC scope cl C X.env) fp) F tg1 is1 g1) (ht1 : ∀ (s : Shared) (H : Hp) (C : Addr) (cl : List (Str × Addr)) (fp : List Addr), XTs (X.blk s H scope (compEnvC scope cl C X.env) fp) F ifs1 tt1)
    (hi2 : ∀ (s : Shared) (H : Hp) (C : Addr) (cl : List (Str × Addr)) (fp : List Addr), XI (X.blk s H scope (compEnvC scope cl C X.env) fp) F tg2 iter2 s2)
    (hg2 : ∀ (s : Shared) (H : Hp) (C : Addr) (cl : List (Str × Addr)) (fp : List Addr), XG (X.blk s H scope (compEnvC scope cl C X.env) fp) F tg2 is2 g2) (ht2 : ∀ (s : Shared) (H : Hp) (C : Addr) (cl : List (Str × Addr)) (fp : List Addr), XTs (X.blk s H scope (compEnvC scope cl C X.env) fp) F ifs2 tt2)
    (he : ∀ (s : Shared) (H : Hp) (C : Addr) (cl : List (Str × Addr)) (fp : List Addr), XE (X.blk s H scope (compEnvC scope cl C X.env) fp) F elt te)
    (hv : ∀ i ∈ is, i ∈ own.map (·.2) := by decide) (hv1 : ∀ i ∈ is1, i ∈ vs1 := by decide) (hv2 : ∀ i ∈ is2, i ∈ vs2 := by decide) (hvo : ∀ i ∈ vs1, i ∈ own.map (·.2) := by decide) (hvv : ∀ i ∈ vs2, i ∈ vs1 := by decide)
    (hs : ∀ x, foldedSetIterable iter X.env x = pure x := by intro _; rfl) (hs1 : ∀ env x, foldedSetIterable iter1 env x = pure x := by intro _ _; rfl) (hs2 : ∀ env x, foldedSetIterable iter2 env x = pure x := by intro _ _; rfl) :
    XR X F (.ListComp elt [⟨tg, iter, ifs, 0⟩, ⟨tg1, iter1, ifs1, 0⟩, ⟨tg2, iter2, ifs2, 0⟩] scope pos) (wLcN ⟨s, g, own.map (·.2), tt⟩ [⟨s1, g1, vs1, tt1⟩, ⟨s2, g2, vs2, tt2⟩] te) := by
  have me := (he {} (fun _ => none) 0 [] []).mono
  have mt := (ht {} (fun _ => none) 0 [] []).mono
  have mt1 := (ht1 {} (fun _ => none) 0 [] []).mono
  have mt2 := (ht2 {} (fun _ => none) 0 [] []).mono
  have ms1 := (hi1 {} (fun _ => none) 0 [] []).mono
  have ms2 := (hi2 {} (fun _ => none) 0 [] []).mono
  have mb0 : MonoB (wBodyN te []) := monoB_last me
  have mb1 : MonoB (wBodyN te [⟨s2, g2, vs2, tt2⟩]) := monoB_next (c := ⟨s2, g2, vs2, tt2⟩) ms2 mt2 mb0
  have mb2 : MonoB (wBodyN te [⟨s1, g1, vs1, tt1⟩, ⟨s2, g2, vs2, tt2⟩]) := monoB_next (c := ⟨s1, g1, vs1, tt1⟩) ms1 mt1 mb1
  have b0 : BRun X F vs2 (wBodyN te []) (fun D => tBody D (liftE X.K F te) []) := brun_last me
  have b1 := brun_next (c := ⟨s2, g2, vs2, tt2⟩) (is := is2) (V := vs1) b0 hv2 hvv ms2 mt2 mb0
  have b2 := brun_next (c := ⟨s1, g1, vs1, tt1⟩) (is := is1) (V := own.map (·.2)) b1 hv1 hvo ms1 mt1 mb1
  refine ⟨fun z R R' k w => hi.mono _ _ _ (fun items z1 q => wLoopN_mono (c := ⟨s, g, own.map (·.2), tt⟩) mt mb2 (fun acc z q => k _ _ q) _ _ _ q) w, ?_⟩
  generalize he0 : Expr.ListComp elt [⟨tg, iter, ifs, 0⟩, ⟨tg1, iter1, ifs1, 0⟩, ⟨tg2, iter2, ifs2, 0⟩] scope pos = e
  have t0 : TurnIs e 0 tg iter ifs (clauseBody e 1 iter1) := by subst he0; exact fun _ _ _ => rfl
  have t1 : TurnIs e 1 tg1 iter1 ifs1 (clauseBody e 2 iter2) := by subst he0; exact fun _ _ _ => rfl
  have t2 : TurnIs e 2 tg2 iter2 ifs2 (itemBody elt) := by subst he0; exact fun _ _ _ => rfl
  subst he0
  refine pe_imp (pe_lcN (own := own) (vs := vs1) hc hN hi.run ok hvo t0 (fun s H C cl fp => (hg s H C cl fp).run) (fun s H C cl fp => (ht s H C cl fp).run) (fun s H C cl fp D => ?_) hs) (fun σ H Q h => lcN_run (c := ⟨s, g, own.map (·.2), tt⟩) (is := is) b2 hv hi.mono mt mb2 h)
  refine body_next (c := liftC X F is1 ⟨s1, g1, vs1, tt1⟩) (vs := vs2) rfl rfl hc rfl hs1 t1 ?_ hvv (hi1 s H C cl fp).run (hg1 s H C cl fp).run (ht1 s H C cl fp).run
  refine body_next (c := liftC X F is2 ⟨s2, g2, vs2, tt2⟩) (vs := []) rfl rfl hc rfl hs2 t2 ?_ (fun _ h => by cases h) (hi2 s H C cl fp).run (hg2 s H C cl fp).run (ht2 s H C cl fp).run
  exact body_last rfl (he s H C cl fp).run
end
section
variable {z z1 : SS} {RR : RV → SS → Prop} {te : WE} {c : ClW} {cs : List ClW} {l acc : List D} {k : List D → SS → Prop} {b : BW}
def lcNK (c : ClW) (cs : List ClW) (te : WE) (RR : RV → SS → Prop) : List D → SS → Prop := fun items z1 => wLoopN c (wBodyN te cs) (restK c.vs z1 RR) items [] (killAll c.vs z1)
instance {s : WI} {g : GS} {vs : List Nat} {tt : WT} [q : Kil vs z z1] : Stp (lcNK ⟨s, g, vs, tt⟩ cs te RR l z) (wLoopN ⟨s, g, vs, tt⟩ (wBodyN te cs) (restK vs z RR) l [] z1) := ⟨fun h => by unfold lcNK; rw [show killAll (ClW.mk s g vs tt).vs z = z1 from q.e]; exact h⟩
instance {s : WI} {g : GS} {vs : List Nat} {tt : WT} : Stp (wLcN ⟨s, g, vs, tt⟩ cs te z RR) (s z (lcNK ⟨s, g, vs, tt⟩ cs te RR)) := ⟨fun h => h⟩
instance : Stp (wBodyN te [] k acc z) (te z fun ev z3 => ∃ d, ev = .d d ∧ acc.length < sizeLine ∧ k (acc ++ [d]) z3) := ⟨fun h => h⟩
def bodyK (c : ClW) (b : BW) (k : List D → SS → Prop) (acc : List D) : List D → SS → Prop := fun items z3 => wLoopN c b k items acc (killAll c.vs z3)
instance {s : WI} {g : GS} {vs : List Nat} {tt : WT} [q : Kil vs z z1] : Stp (bodyK ⟨s, g, vs, tt⟩ b k acc l z) (wLoopN ⟨s, g, vs, tt⟩ b k l acc z1) := ⟨fun h => by unfold bodyK; rw [show killAll (ClW.mk s g vs tt).vs z = z1 from q.e]; exact h⟩
instance {s : WI} {g : GS} {vs : List Nat} {tt : WT} : Stp (wBodyN te (⟨s, g, vs, tt⟩ :: cs) k acc z) (s z (bodyK ⟨s, g, vs, tt⟩ (wBodyN te cs) k acc)) := ⟨fun h => h⟩
end
/-- a clause's loop by an invariant -/
theorem loopN_inv {c : ClW} {b : BW} {k : List D → SS → Prop} {items : List D} (P : Nat → List D → SS → Prop)
    (step : ∀ (i : Nat) (x : D) (acc : List D) (z : SS), items[i]? = some x → P i acc z → ∀ N : List D → SS → Prop, (∀ acc' z', P (i + 1) acc' z' → N acc' z') →
      ∃ z1, c.g x z = some z1 ∧ c.tt z1 fun ok z2 => if ok = true then b (fun acc' z4 => N acc' (killAll c.vs z4)) acc z2 else N acc (killAll c.vs z2))
    (fin : ∀ acc z, P items.length acc z → k acc z) {acc : List D} {z : SS} (h0 : P 0 acc z) : wLoopN c b k items acc z := by
  have go : ∀ (m i : Nat) (acc : List D) (z : SS), m = items.length - i → i ≤ items.length → P i acc z → wLoopN c b k (items.drop i) acc z := by
    intro m
    induction m with
    | zero =>
      intro i acc z hk hi p
      have e : i = items.length := by omega
      subst e
      rw [List.drop_length]
      exact fin acc z p
    | succ m ih =>
      intro i acc z hk hi p
      have hlt : i < items.length := by omega
      rw [List.drop_eq_getElem_cons hlt]
      obtain ⟨z1, e, w⟩ := step i items[i] acc z (List.getElem?_eq_getElem hlt) p (fun acc z' => wLoopN c b k (items.drop (i + 1)) acc z') fun acc z' p' => ih (i + 1) acc z' (by omega) hlt p'
      exact ⟨z1, e, w⟩
  have := go items.length 0 acc z (by simp) (Nat.zero_le _) h0
  simpa using this
end L3
namespace L3
open PySem PySem.Spec PyProof.Rows L2 PySem.SeqAt
section
variable {K : PySem.W.Frag} {I : Hp} {a : Addr} {ws : List V}
end
section
variable {X : Cx} {k : Nat} {f : Addr} {fd : FuncData} {ps : List Str} {p : FS} {x : Str} {pp pos : Pos} {F : Fx} {e : Expr} {es : List Expr}
end
end L3
namespace L3
open PySem PySem.Spec PyProof.Rows L2 PySem.SeqAt
section
variable {X : Cx} {k : Nat} {f : Addr} {fd : FuncData} {ps : List Str} {p : FS} {x : Str} {pp pos : Pos} {F : Fx} {e : Expr} {es : List Expr} {u : WA}
end
section
variable {z : SS} {R : RV → SS → Prop} {i : Nat} {p : FS} {u : WA}
end
abbrev sFDivW : F2 := sII CDivW fun i j => .int (i / j)
theorem i_fdivW {z : SS} {i j : Int} {k : RV → Prop} (e : CDivW i j) (h : k (.d (.int (i / j)))) : sFDivW z (.d (.int i)) (.d (.int j)) k := ⟨i, j, rfl, rfl, e, h⟩
end L3
namespace L3
open PySem PySem.Spec PyProof.Rows L2 PySem.SeqAt
def dkP (kps : List (Key × D)) : List (D × D) := kps.map fun p => (keyD p.1, p.2)
def dkD (kps : List (Key × D)) : D := .dict (dkP kps)
def getK (kps : List (Key × D)) (k : Key) : Option D := (kps.find? fun p => decide (p.1 = k)).map (·.2)
def stoK (kps : List (Key × D)) (k : Key) (d : D) : List (Key × D) :=
  if (kps.any fun p => decide (p.1 = k)) = true then kps.map (fun p => if p.1 = k then (p.1, d) else p) else kps ++ [(k, d)]
theorem getK_pos {p : Key × D} {r : List (Key × D)} {k : Key} (e : p.1 = k) : getK (p :: r) k = some p.2 := by simp [getK, List.find?_cons, e]
theorem getK_neg {p : Key × D} {r : List (Key × D)} {k : Key} (e : ¬ p.1 = k) : getK (p :: r) k = getK r k := by simp [getK, List.find?_cons, e]
section
variable {K : PySem.W.Frag} {I I' : Hp}
theorem key_of_rp {v : V} {k : Key} (h : Rp K I v (keyD k)) : v = kV k := by
  cases k <;> cases h <;> rfl
abbrev KvR (K : PySem.W.Frag) (I : Hp) : List (Key × V) → List (Key × D) → Prop := Paired fun p q => p.1 = q.1 ∧ Rp K I p.2 q.2
theorem rpK_to : ∀ {kps : List (Key × D)} {kvs : List (Key × V)}, KvR K I kvs kps → RpK K I kvs (dkP kps)
  | [], _, .nil => .nil
  | (_, _) :: _, (_, _) :: _, .cons ⟨e, r⟩ t => by
    cases e
    exact .cons r (rpK_to t)
theorem KvR.get : ∀ {kps : List (Key × D)} {kvs : List (Key × V)} (k : Key), KvR K I kvs kps → (valV kvs k = none ∧ getK kps k = none) ∨ ∃ v d, valV kvs k = some v ∧ getK kps k = some d ∧ Rp K I v d
  | [], _, k, .nil => .inl ⟨rfl, rfl⟩
  | (a, d) :: kps, (b, v) :: kvs, k, .cons ⟨e, r⟩ t => by
    cases e
    by_cases h : a = k
    · exact .inr ⟨v, d, valV_pos h, getK_pos h, r⟩
    · rcases KvR.get k t with ⟨h1, h2⟩ | ⟨v', d', h1, h2, h3⟩
      · exact .inl ⟨by rw [valV_neg h]; exact h1, by rw [getK_neg h]; exact h2⟩
      · exact .inr ⟨v', d', by rw [valV_neg h]; exact h1, by rw [getK_neg h]; exact h2, h3⟩
theorem KvR.any : ∀ {kps : List (Key × D)} {kvs : List (Key × V)} (k : Key), KvR K I kvs kps → (kvs.any fun p => decide (p.1 = k)) = kps.any fun p => decide (p.1 = k)
  | [], _, k, .nil => rfl
  | (a, d) :: kps, (b, v) :: kvs, k, .cons ⟨e, r⟩ t => by
    cases e
    rw [List.any_cons, List.any_cons, KvR.any k t]
theorem KvR.map {k : Key} {v : V} {d : D} (r : Rp K I v d) : ∀ {kps : List (Key × D)} {kvs : List (Key × V)}, KvR K I kvs kps → KvR K I (kvs.map fun p => if p.1 = k then (p.1, v) else p) (kps.map fun p => if p.1 = k then (p.1, d) else p)
  | [], _, .nil => .nil
  | (a, d') :: kps, (b, v') :: kvs, .cons ⟨e, r'⟩ t => by
    cases e
    rw [List.map_cons, List.map_cons]
    refine .cons ?_ (KvR.map r t)
    by_cases h : a = k
    · rw [if_pos h, if_pos h]; exact ⟨rfl, r⟩
    · rw [if_neg h, if_neg h]; exact ⟨rfl, r'⟩
theorem KvR.put {kps : List (Key × D)} {kvs : List (Key × V)} {k : Key} {v : V} {d : D} (h : KvR K I kvs kps) (r : Rp K I v d) : KvR K I (putK kvs k v) (stoK kps k d) := by
  unfold putK stoK
  rw [h.any k]
  split
  · exact h.map r
  · exact paired_app h (.cons ⟨rfl, r⟩ .nil)
theorem KvR.length : ∀ {kps : List (Key × D)} {kvs : List (Key × V)}, KvR K I kvs kps → kvs.length = kps.length
  | _, _, .nil => rfl
  | _, _, .cons _ t => by simp [KvR.length t]
theorem KvR.mono (s : Same I I') {kps : List (Key × D)} {kvs : List (Key × V)} (h : KvR K I kvs kps) : KvR K I' kvs kps := paired_mono (fun a b ⟨e, r⟩ => ⟨e, r.mono s⟩) h
end
section
variable {K : PySem.W.Frag} {F : Fx} {z : SS} {σ : St} {I H : Hp}
/-- a thing that nobody has becomes a datum -/
theorem Ok.freezeO (ok : Ok K F z σ I H) {p : Addr} {o : HO} (hp : H p = some o) (ip : I p = none) (h0 : F.H0 p = none) (hn : ¬ IsOwn z σ p) : Ok K F z σ (upd I p o) H := by
  have si := same_upd (o := o) ip
  refine ⟨ok.len, fun i d h => ?_, fun i b l h => ?_, ok.dis, fun a u h => ?_, ok.base.trans si, fun a u h => ?_, ok.keep, fun a hw => ?_⟩
  · obtain ⟨v, e, r⟩ := ok.val i d h
    exact ⟨v, e, r.mono si⟩
  · obtain ⟨a, ws, e1, e2, e3, r, t⟩ := ok.own i b l h
    have ne : a ≠ p := fun e => hn ⟨i, b, l, h, by rw [e1, e]⟩
    exact ⟨a, ws, e1, e2, by rw [upd_ne ne]; exact e3, r.mono si, t⟩
  · by_cases e : a = p
    · subst e; rw [upd_same] at h; rw [hp]; exact h
    · rw [upd_ne e] at h; exact ok.sub a u h
  · by_cases e : a = p
    · subst e; exact .inr h0
    · rw [upd_ne e] at h; exact ok.new a u h
  · obtain ⟨e1, e0, ws, e2⟩ := ok.wf a hw
    have ne : a ≠ p := fun e => e0 (by rw [e]; exact h0)
    exact ⟨by rw [upd_ne ne]; exact e1, e0, ws, e2⟩
end
/-- name = {} -/
def wDNew (i : Nat) : WS := fun E z => E.nx (z.set i (some (.own (some 1) [dkD []])))
/-- an own dict becomes a datum -/
def wFreezeD (i : Nat) (t : WS) : WS := fun E z => ∃ kps, z[i]? = some (some (.own (some 1) [dkD kps])) ∧ t E (z.set i (some (.val (dkD kps))))
/-- own[k] = e -/
def wDPut (t to tk : WE) : WS := fun E z => t z fun ev z1 => to z1 fun o z2 => tk z2 fun ek z3 => ∃ d s k kps, ev = .d d ∧ o = .o s ∧ ek = .d (keyD k) ∧ z3[s]? = some (some (.own (some 1) [dkD kps])) ∧ kps.length < sizeLine ∧ E.nx (z3.set s (some (.own (some 1) [dkD (stoK kps k d)])))
section
variable {X : Cx} {F : Fx} {pos pos' : Pos} {e o i : Expr} {te to ti tk : WE} {st : Stmt} {t : WS}
end
def wDGet (to tk : WE) : WE := fun z R => to z fun o z1 => tk z1 fun ek z2 => ∃ k kps d, evD z2 o = some (dkD kps) ∧ ek = .d (keyD k) ∧ getK kps k = some d ∧ R (.d d) z2
def wDIn (f : Bool → Bool) (tk to : WE) : WE := fun z R => tk z fun ek z1 => to z1 fun o z2 => ∃ k kps, evD z2 o = some (dkD kps) ∧ ek = .d (keyD k) ∧ R (.d (.bool (f (getK kps k).isSome))) z2
/-- d.setdefault(k, e) of an own dict -/
def wDSetd (to tk te : WE) : WE := fun z R => to z fun o z1 => (∃ s kps, o = .o s ∧ z1[s]? = some (some (.own (some 1) [dkD kps]))) ∧ tk z1 fun ek z2 => te z2 fun ev z3 => ∃ s k d kps, o = .o s ∧ ek = .d (keyD k) ∧ ev = .d d ∧ z3[s]? = some (some (.own (some 1) [dkD kps])) ∧ kps.length < sizeLine ∧
  match getK kps k with
  | some d' => R (.d d') z3
  | none => R (.d d) (z3.set s (some (.own (some 1) [dkD (stoK kps k d)])))
section
variable {X : Cx} {F : Fx} {pos apos : Pos} {e o i f : Expr} {te to ti tk : WE}
end
end L3
namespace L3
open PySem PySem.Spec PyProof.Rows L2 PySem.SeqAt
abbrev FSL := List AV → (RV → List D → List D → Prop) → Prop
inductive ArgsL (K : PySem.W.Frag) (I H : Hp) : List V → List AV → List Addr → Prop
  | nil : ArgsL K I H [] [] []
  | val {v : V} {d : D} {vs : List V} {as : List AV} {w : List Addr} : Rp K I v d → ArgsL K I H vs as w → ArgsL K I H (v :: vs) (.val d :: as) w
  | own {a : Addr} {ws : List V} {l : List D} {vs : List V} {as : List AV} {w : List Addr} : H a = some (.lst ws) → I a = none → RpA K I ws l → a ∉ w → ArgsL K I H vs as w → ArgsL K I H (.ref a :: vs) (.own l :: as) (a :: w)
def argsL (z : SS) : List EV → Option (List AV × List Nat)
  | [] => some ([], [])
  | .d x :: r => (argsL z r).map fun p => (.val x :: p.1, p.2)
  | .o i :: r => match z[i]?, argsL z r with
    | some (some (.own b l)), some (as, js) => if (dkB b || js.contains i) = true then none else some (.own l :: as, i :: js)
    | _, _ => none
def put1 (z : SS) (j : Nat) (l : List D) : Option SS := match z[j]? with
  | some (some (.own b _)) => some (z.set j (some (.own b l)))
  | _ => none
def wCallL (p : FSL) (u : WA) : WR := fun z R => u z fun es z1 => ∃ as i j, argsL z1 es = some (as, [i, j]) ∧ p as fun rv l m => ∃ z2 z3, put1 z1 i l = some z2 ∧ put1 z2 j m = some z3 ∧ R rv z3
section
variable {K : PySem.W.Frag} {F : Fx} {z z2 z3 : SS} {σ : St} {I H I' H' : Hp}
end
section
variable {X : Cx} {k : Nat} {f : Addr} {fd : FuncData} {ps : List Str} {p : FSL} {x : Str} {pp pos : Pos} {F : Fx} {e : Expr} {es : List Expr} {u : WA}
end
def findT (b : Option Nat) : SS → Option (List D)
  | [] => none
  | some (.own c l) :: r => if c = b then some l else findT b r
  | _ :: r => findT b r
section
variable {K : PySem.W.Frag} {I H : Hp}
theorem ArgsL.len : ∀ {vs : List V} {as : List AV} {w : List Addr}, ArgsL K I H vs as w → vs.length = as.length
  | _, _, _, .nil => rfl
  | _, _, _, .val _ t => by simp [ArgsL.len t]
  | _, _, _, .own _ _ _ _ t => by simp [ArgsL.len t]
theorem ArgsL.nodup : ∀ {vs : List V} {as : List AV} {w : List Addr}, ArgsL K I H vs as w → w.Nodup
  | _, _, _, .nil => .nil
  | _, _, _, .val _ t => ArgsL.nodup t
  | _, _, _, .own _ _ _ hn t => List.nodup_cons.mpr ⟨hn, ArgsL.nodup t⟩
theorem ArgsL.there : ∀ {vs : List V} {as : List AV} {w : List Addr} {a : Addr}, ArgsL K I H vs as w → a ∈ w → I a = none ∧ ∃ ws, H a = some (.lst ws)
  | _, _, _, _, .nil, h => by cases h
  | _, _, _, _, .val _ t, h => ArgsL.there t h
  | _, _, _, _, .own h1 h2 _ _ t, h => by
    rcases List.mem_cons.mp h with rfl | h
    · exact ⟨h2, _, h1⟩
    · exact ArgsL.there t h
end
class ArgLs (z : SS) (es : List EV) (as : outParam (List AV)) (js : outParam (List Nat)) : Prop where
  e : argsL z es = some (as, js)
class NotIn (i : Nat) (js : List Nat) : Prop where
  e : js.contains i = false
instance {z : SS} : ArgLs z [] [] [] := ⟨rfl⟩
instance {z : SS} {d : D} {es : List EV} {as : List AV} {js : List Nat} [a : ArgLs z es as js] : ArgLs z (.d d :: es) (.val d :: as) js := ⟨by unfold argsL; rw [a.e]; rfl⟩
instance argLs1 {z : SS} {i : Nat} {b : Option Nat} {l : List D} {es : List EV} {as : List AV} [q : At z i (.own b l)] [hb : LB b] [a : ArgLs z es as []] : ArgLs z (.o i :: es) (.own l :: as) [i] := ⟨by unfold argsL; simp [q.e, a.e, hb.e]⟩
class Ne2 (i j : Nat) : Prop where
  e : i ≠ j
instance {i : Nat} : Ne2 0 (i + 1) := ⟨by omega⟩
instance {i : Nat} : Ne2 (i + 1) 0 := ⟨by omega⟩
instance {i j : Nat} [a : Ne2 i j] : Ne2 (i + 1) (j + 1) := ⟨by have := a.e; omega⟩
instance argLs2 {z : SS} {i j : Nat} {b : Option Nat} {l : List D} {es : List EV} {as : List AV} [q : At z i (.own b l)] [hb : LB b] [a : ArgLs z es as [j]] [n : Ne2 i j] : ArgLs z (.o i :: es) (.own l :: as) [i, j] := ⟨by
  have := n.e
  unfold argsL; simp [q.e, a.e, hb.e, this]⟩
section
variable {z z1 z2 : SS} {RR : RV → SS → Prop} {wa : WA} {p : FSL} {i j : Nat} {l m l' m' : List D} {b c : Option Nat}
def callLK (p : FSL) (RR : RV → SS → Prop) : List EV → SS → Prop := fun es z1 => ∃ as i j, argsL z1 es = some (as, [i, j]) ∧ p as fun rv l m => ∃ z2 z3, put1 z1 i l = some z2 ∧ put1 z2 j m = some z3 ∧ RR rv z3
def outLK (z1 : SS) (i j : Nat) (RR : RV → SS → Prop) : RV → List D → List D → Prop := fun rv l m => ∃ z2 z3, put1 z1 i l = some z2 ∧ put1 z2 j m = some z3 ∧ RR rv z3
instance : Stp (wCallL p wa z RR) (wa z (callLK p RR)) := ⟨fun h => h⟩
instance {es : List EV} {as : List AV} [a : ArgLs z es as [i, j]] : Stp (callLK p RR es z) (p as (outLK z i j RR)) := ⟨fun h => ⟨as, i, j, a.e, h⟩⟩
instance {rv : RV} [p : At z i (.own b l')] [q : Put z i (some (.own b l)) z1] [p2 : At z1 j (.own c m')] [q2 : Put z1 j (some (.own c m)) z2] : Stp (outLK z i j RR rv l m) (RR rv z2) := ⟨fun h => ⟨z1, z2, by unfold put1; rw [p.e]; simp only; rw [q.e], by unfold put1; rw [p2.e]; simp only; rw [q2.e], h⟩⟩
class FindIs (b : Option Nat) (z : SS) (l : outParam (List D)) : Prop where
  e : findT b z = some l
instance {l : List D} {z : SS} {b : Option Nat} : FindIs b (some (.own b l) :: z) l := ⟨by unfold findT; rw [if_pos rfl]⟩
instance {l : List D} {z : SS} {b : Option Nat} [a : FindIs b z l] : FindIs b (none :: z) l := ⟨a.e⟩
instance {d : D} {l : List D} {z : SS} {b : Option Nat} [a : FindIs b z l] : FindIs b (some (.val d) :: z) l := ⟨a.e⟩
instance {l m : List D} {z : SS} {k : Nat} [a : FindIs (some k) z l] : FindIs (some k) (some (.own none m) :: z) l := ⟨by unfold findT; rw [if_neg (by simp)]; exact a.e⟩
instance {l m : List D} {z : SS} [a : FindIs (some 2) z l] : FindIs (some 2) (some (.own (some 0) m) :: z) l := ⟨by unfold findT; rw [if_neg (by simp)]; exact a.e⟩
instance {l m : List D} {z : SS} [a : FindIs (some 2) z l] : FindIs (some 2) (some (.own (some 1) m) :: z) l := ⟨by unfold findT; rw [if_neg (by simp)]; exact a.e⟩
instance {l m : List D} {z : SS} [a : FindIs (some 0) z l] : FindIs (some 0) (some (.own (some 1) m) :: z) l := ⟨by unfold findT; rw [if_neg (by simp)]; exact a.e⟩
instance {l m : List D} {z : SS} [a : FindIs (some 0) z l] : FindIs (some 0) (some (.own (some 2) m) :: z) l := ⟨by unfold findT; rw [if_neg (by simp)]; exact a.e⟩
end
end L3
namespace HT
open PySem PySem.Spec PyProof.Rows
section
variable {prog : Program} {w : World} {A : Around} {E : Value → Shared → Prop} {s : Shared}
/-- the stop of t[:hi:-1] that is told: none or 0 -/
def bkN (n : Nat) (z : Bool) : Nat := if z then n - 1 else n
end
end HT
namespace L3
open PySem PySem.Spec PyProof.Rows L2 PySem.SeqAt
/-- t[::-1] (false), t[:0:-1] (true) -/
def backOf {α : Type} (z : Bool) (l : List α) : List α := l.reverse.take (HT.bkN l.length z)
theorem RpA.rev {K : PySem.W.Frag} {I : Hp} : ∀ {vs : List V} {ds : List D}, RpA K I vs ds → RpA K I vs.reverse ds.reverse
  | _, _, .nil => .nil
  | _, _, .cons r t => by
    rw [List.reverse_cons, List.reverse_cons]
    exact (RpA.rev t).append (.cons r .nil)
def wBackT (z : Bool) (t : WE) : WE := fun zz R => t zz fun x z1 => ∃ l, x = .d (.tuple l) ∧ R (.d (.tuple (backOf z l))) z1
section
variable {X : Cx} {F : Fx} {e : Expr} {t : WE}
theorem RpA.back {K : PySem.W.Frag} {I : Hp} {vs : List V} {ds : List D} (z : Bool) (r : RpA K I vs ds) : RpA K I (backOf z vs) (backOf z ds) := by
  unfold backOf
  rw [r.length]
  exact r.rev.take _
end
def downD (i j : Int) : List D := (List.range (i - j).toNat).map fun (k : Nat) => .int (i - (k : Int))
def wRng3 (u : WA) : WI := fun z R => u z fun es z1 => ∃ i j, es = [.d (.int i), .d (.int j), .d (.int (-1))] ∧ (-(2 ^ 62) ≤ i ∧ i < 2 ^ 62 ∧ -(2 ^ 62) ≤ j ∧ j < 2 ^ 62) ∧ R (downD i j) z1
section
variable {X : Cx} {F : Fx} {tg : Expr}
end
def sMax1 : SS → EV → (RV → Prop) → Prop := fun z x k => ∃ ns : List Int, lstOf z x = some (ns.map PyData.int) ∧ 0 < ns.length ∧ ∀ m, m ∈ ns → (∀ y, y ∈ ns → y ≤ m) → k (.d (.int m))
def sLenD : SS → EV → (RV → Prop) → Prop := fun z x k => ∃ kps : List (Key × D), evD z x = some (dkD kps) ∧ k (.d (.int kps.length))
section
variable {X : Cx} {F : Fx} {p pos : Pos} {e : Expr} {u : WA}
theorem vc_max1 : VC X F (rMax X.K) (f1 sMax1) :=
  vc_1 (fun z x k k' h ⟨ns, e, l, q⟩ => ⟨ns, e, l, fun m a b => h _ (q m a b)⟩) fun {σ z I H x v Q} ok ev ⟨ns, e, l, q⟩ => by
    obtain ⟨a, vs, rfl, hq, r⟩ := ok.lst ev e
    rw [r.ints] at hq
    exact ⟨a, ns, rfl, SqL.of hq, l, fun m a b => (q m a b).scal ok (.int _)⟩
theorem xe_max1 (hc : X.calm = true) (hg : Gl X "max") (hm : X.mg "max" = none) (ha : XA X F [e] u) (he : starEach [e] X.env = (false, eval e X.env) :: starEach [] X.env := by rfl) : XE X F (.Call (.Name "max" p) [e] [] pos) (wFrz (wCB (f1 sMax1) u)) := (xr_callB (cr_max hc) vc_max1 hg hm (by decide +kernel) ha (he := he)).xe
end
section
variable {X : Cx} {F : Fx}
def wTIdx (t : WE) (ti : WE) : WE := fun z R => t z fun x z1 => (∃ l, x = .d (.tuple l)) ∧ ti z1 fun y z2 => ∃ (ns : List Int) (i : Int) (j : Nat), x = .d (.tuple (ns.map PyData.int)) ∧ y = .d (.int i) ∧ ns[j]? = some i ∧ (∀ m, m < j → ns[m]? ≠ some i) ∧ R (.d (.int j)) z2
variable {pos apos : Pos} {o e : Expr} {t ti : WE}
end
section
variable {X : Cx} {F : Fx}
variable {pos apos : Pos} {o e : Expr} {t : WE} {u : WA}
end
end L3
namespace L3
open PySem PySem.Spec PyProof.Rows L2 PySem.SeqAt
class KeyIs (d : D) (k : outParam Key) : Prop where
  e : d = keyD k
instance {i : Int} : KeyIs (.int i) (.inl i) := ⟨rfl⟩
instance {s : Str} : KeyIs (.str s) (.inr s) := ⟨rfl⟩
class DkIs (z : SS) (ev : EV) (kps : outParam (List (Key × D))) : Prop where
  e : evD z ev = some (dkD kps)
instance {z : SS} {kps : List (Key × D)} : DkIs z (.d (dkD kps)) kps := ⟨rfl⟩
theorem evD_own {z : SS} {i : Nat} {kps : List (Key × D)} (e : z[i]? = some (some (.own (some 1) [dkD kps]))) : evD z (.o i) = some (dkD kps) := by
  unfold evD
  simp only [e]
  rfl
instance {z : SS} {i : Nat} {kps : List (Key × D)} [a : At z i (.own (some 1) [dkD kps])] : DkIs z (.o i) kps := ⟨evD_own a.e⟩
instance {z : SS} {i : Nat} {kps : List (Key × D)} [a : At z i (.own (some 1) [dkD kps])] : EvIs z (.o i) (dkD kps) := ⟨evD_own a.e⟩
instance {kps : List (Key × D)} : BIs (isNone (dkD kps)) false := ⟨rfl⟩
instance : BIs (isNone (PyData.none)) true := ⟨rfl⟩
section
variable {z z1 z2 : SS} {R : EV → SS → Prop} {RR : RV → SS → Prop} {RI : List D → SS → Prop} {N : SS → Prop} {rt : RV → SS → Prop} {bk ct : SS → Prop} {k : RV → Prop}
variable {i j : Int} {n : Nat} {d y : D} {t to tk te ti : WE} {ts : WS} {wa : WA} {ev o ek : EV} {kps : List (Key × D)} {key : Key} {f : Bool → Bool} {l : List D}
instance [q : Put z n (some (.own (some 1) [dkD []])) z1] : Stp (wDNew n ⟨N, rt, bk, ct⟩ z) (N z1) := ⟨fun h => by unfold wDNew; rw [q.e]; exact h⟩
instance [p : At z n (.own (some 1) [dkD kps])] [q : Put z n (some (.val (dkD kps))) z1] : Stp (wFreezeD n ts ⟨N, rt, bk, ct⟩ z) (ts ⟨N, rt, bk, ct⟩ z1) := ⟨fun h => ⟨kps, p.e, by rw [q.e]; exact h⟩⟩
def dputK (N : SS → Prop) (ev o : EV) : EV → SS → Prop := fun ek z3 => ∃ d s k kps, ev = .d d ∧ o = .o s ∧ ek = .d (keyD k) ∧ z3[s]? = some (some (.own (some 1) [dkD kps])) ∧ kps.length < sizeLine ∧ N (z3.set s (some (.own (some 1) [dkD (stoK kps k d)])))
instance : Stp (wDPut t to tk ⟨N, rt, bk, ct⟩ z) (t z fun ev z1 => to z1 fun o z2 => tk z2 (dputK N ev o)) := ⟨fun h => h⟩
def dgetK (R : EV → SS → Prop) (o : EV) : EV → SS → Prop := fun ek z2 => ∃ k kps d, evD z2 o = some (dkD kps) ∧ ek = .d (keyD k) ∧ getK kps k = some d ∧ R (.d d) z2
instance : Stp (wDGet to tk z R) (to z fun o z1 => tk z1 (dgetK R o)) := ⟨fun h => h⟩
def dinK (f : Bool → Bool) (R : EV → SS → Prop) (ek : EV) : EV → SS → Prop := fun o z2 => ∃ k kps, evD z2 o = some (dkD kps) ∧ ek = .d (keyD k) ∧ R (.d (.bool (f (getK kps k).isSome))) z2
instance : Stp (wDIn f tk to z R) (tk z fun ek z1 => to z1 (dinK f R ek)) := ⟨fun h => h⟩
instance [a : DkIs z o kps] [b : KeyIs y key] : Stp (dinK f R (.d y) o z) (R (.d (.bool (f (getK kps key).isSome))) z) := ⟨fun h => ⟨key, kps, a.e, by rw [b.e], h⟩⟩
def dsetK (R : EV → SS → Prop) (o ek : EV) : EV → SS → Prop := fun ev z3 => ∃ s k d kps, o = .o s ∧ ek = .d (keyD k) ∧ ev = .d d ∧ z3[s]? = some (some (.own (some 1) [dkD kps])) ∧ kps.length < sizeLine ∧
  match getK kps k with
  | some d' => R (.d d') z3
  | none => R (.d d) (z3.set s (some (.own (some 1) [dkD (stoK kps k d)])))
instance : Stp (wDSetd to tk te z R) (to z fun o z1 => (∃ s kps, o = .o s ∧ z1[s]? = some (some (.own (some 1) [dkD kps]))) ∧ tk z1 fun ek z2 => te z2 (dsetK R o ek)) := ⟨fun h => h⟩
instance {P : Prop} [p : At z n (.own (some 1) [dkD kps])] : Stp ((∃ s kps, EV.o n = .o s ∧ z[s]? = some (some (.own (some 1) [dkD kps]))) ∧ P) P := ⟨fun h => ⟨⟨n, kps, rfl, p.e⟩, h⟩⟩
instance {b : Bool} : Stp (wBackT b t z R) (t z fun x z1 => ∃ l, x = .d (.tuple l) ∧ R (.d (.tuple (backOf b l))) z1) := ⟨fun h => h⟩
instance {P : List D → Prop} : Stp (∃ x, EV.d (.tuple l) = .d (.tuple x) ∧ P x) (P l) := ⟨fun h => ⟨l, rfl, h⟩⟩
instance {P : Prop} : Stp ((∃ x, EV.d (.tuple l) = .d (.tuple x)) ∧ P) P := ⟨fun h => ⟨⟨l, rfl⟩, h⟩⟩
instance [a : DkIs z ev kps] : Stp (sLenD z ev k) (k (.d (.int kps.length))) := ⟨fun h => ⟨kps, a.e, h⟩⟩
theorem i_max1 {ns : List Int} (e : lstOf z ev = some (ns.map PyData.int)) (h0 : 0 < ns.length) (h : ∀ m, m ∈ ns → (∀ y, y ∈ ns → y ≤ m) → k (.d (.int m))) : sMax1 z ev k := ⟨ns, e, h0, h⟩
instance : Stp (wRng3 wa z RI) (wa z fun es z1 => ∃ i j, es = [.d (.int i), .d (.int j), .d (.int (-1))] ∧ (-(2 ^ 62) ≤ i ∧ i < 2 ^ 62 ∧ -(2 ^ 62) ≤ j ∧ j < 2 ^ 62) ∧ RI (downD i j) z1) := ⟨fun h => h⟩
def tidxK (R : EV → SS → Prop) (x : EV) : EV → SS → Prop := fun y z2 => ∃ (ns : List Int) (i : Int) (j : Nat), x = .d (.tuple (ns.map PyData.int)) ∧ y = .d (.int i) ∧ ns[j]? = some i ∧ (∀ m, m < j → ns[m]? ≠ some i) ∧ R (.d (.int j)) z2
instance : Stp (wTIdx t ti z R) (t z fun x z1 => (∃ l, x = .d (.tuple l)) ∧ ti z1 (tidxK R x)) := ⟨fun h => h⟩
def rtLK (Q : RV → List D → List D → Prop) : RV → SS → Prop := fun rv z => ∃ l m, findT (some 0) z = some l ∧ findT (some 2) z = some m ∧ Q rv l m
def nxLK (Q : RV → List D → List D → Prop) : SS → Prop := fun z => rtLK Q (.d .none) z
instance {Q : RV → List D → List D → Prop} {rv : RV} {m : List D} [a : FindIs (some 0) z l] [b : FindIs (some 2) z m] : Stp (rtLK Q rv z) (Q rv l m) := ⟨fun h => ⟨l, m, a.e, b.e, h⟩⟩
instance {Q : RV → List D → List D → Prop} : Stp (nxLK Q z) (rtLK Q (.d .none) z) := ⟨fun h => h⟩
end
end L3
namespace L3
open PySem PySem.Spec PyProof.Rows L2 PySem.SeqAt
section
variable {X : Cx} {F : Fx} {p pos : Pos} {e : Expr} {u : WA}
end
def wRevL (t : WE) : WR := fun z R => t z fun x z1 => ∃ l, lstOf z1 x = some l ∧ R (.n l.reverse) z1
section
variable {X : Cx} {F : Fx} {e : Expr} {t : WE}
end
section
variable {z : SS} {t : WE} {RR : RV → SS → Prop} {l : List D} {ev : EV}
instance : Stp (wRevL t z RR) (t z fun x z1 => ∃ l, lstOf z1 x = some l ∧ RR (.n l.reverse) z1) := ⟨fun h => h⟩
instance {P : List D → Prop} [a : LstIs z ev l] : Stp (∃ l, lstOf z ev = some l ∧ P l) (P l) := ⟨fun h => ⟨l, a.e, h⟩⟩
end
section
variable {z : SS} {k : RV → Prop} {ev : EV}
end
def zipD (l m : List D) : List D := (l.zip m).map fun p => wt [p.1, p.2]
section
variable {K : PySem.W.Frag} {F : Fx}
end
def zipI : D → D → Option (List D)
  | .list l, .list m => some (zipD l m)
  | .tuple l, .tuple m => some (zipD l m)
  | _, _ => none
def wZip (u : WA) : WI := fun z R => u z fun es z1 => ∃ d e l, es = [.d d, .d e] ∧ zipI d e = some l ∧ R l z1
section
variable {z : SS} {wa : WA} {RI : List D → SS → Prop} {l m : List D}
def zipK (RI : List D → SS → Prop) : List EV → SS → Prop := fun es z1 => ∃ d e l, es = [.d d, .d e] ∧ zipI d e = some l ∧ RI l z1
instance : Stp (wZip wa z RI) (wa z (zipK RI)) := ⟨fun h => h⟩
instance : Stp (zipK RI [.d (.tuple l), .d (.tuple m)] z) (RI (zipD l m) z) := ⟨fun h => ⟨_, _, _, rfl, rfl, h⟩⟩
instance : Stp (zipK RI [.d (.list l), .d (.list m)] z) (RI (zipD l m) z) := ⟨fun h => ⟨_, _, _, rfl, rfl, h⟩⟩
end
end L3
namespace L3
open PySem PySem.Spec PyProof.Rows L2 PySem.SeqAt
section
variable {X : Cx} {F : Fx}
end
section
variable {z : SS} {k : RV → Prop} {c c' : Bool} {ev ew : EV}
instance : Stp (sIsB not z (.d (.bool c)) (.d (.bool c')) k) (k (.d (.bool (!decide (c = c'))))) := ⟨fun h => ⟨c, c', rfl, rfl, h⟩⟩
end
def wPar (i j : Nat) (u : WA) : WS := fun E z => u z fun es z1 => ∃ d e, es = [.d d, .d e] ∧ E.nx ((z1.set i (some (.val d))).set j (some (.val e)))
section
variable {X : Cx} {F : Fx} {pos pt pt2 px py : Pos} {kt k2 : Nat} {a b : Expr} {u : WA} {x y : Str} {i j : Nat}
end
section
variable {z z1 z2 : SS} {N : SS → Prop} {rt : RV → SS → Prop} {bk ct : SS → Prop} {i j : Nat} {u : WA} {d e : D}
def parK (N : SS → Prop) (i j : Nat) : List EV → SS → Prop := fun es z1 => ∃ d e, es = [.d d, .d e] ∧ N ((z1.set i (some (.val d))).set j (some (.val e)))
instance : Stp (wPar i j u ⟨N, rt, bk, ct⟩ z) (u z (parK N i j)) := ⟨fun h => h⟩
instance [p : Put z i (some (.val d)) z1] [q : Put z1 j (some (.val e)) z2] : Stp (parK N i j [.d d, .d e] z) (N z2) := ⟨fun h => ⟨d, e, rfl, by rw [p.e, q.e]; exact h⟩⟩
end
end L3
namespace L3
open PySem PySem.Spec PyProof.Rows L2 PySem.SeqAt
section
variable {X : Cx} {F : Fx} {pos apos : Pos} {o e : Expr} {t : WE} {u : WA}
end
section
variable {z : SS} {RR : RV → SS → Prop} {a b : Str}
end
end L3
namespace L3
open PySem PySem.Spec PyProof.Rows L2 PySem.SeqAt
section
variable {X : Cx} {F : Fx}
end
section
variable {z z1 : SS} {N : SS → Prop} {rt : RV → SS → Prop} {bk ct : SS → Prop} {i d k v : Nat} {m : Int} {ps : List (Int × Int)}
end
end L3
namespace L3
open PySem PySem.Spec PyProof.Rows L2 PySem.SeqAt
section
variable {K : PySem.W.Frag} {F : Fx} {z : SS} {σ : St} {I H : Hp}
end
section
variable {X : Cx} {F : Fx} {tg iter elt e : Expr} {g : GS} {tt : WT} {te : WE} {s : WI} {is : List Nat} {ifs : List Expr} {scope : Scope} {pos : Pos} {t : WR}
end
section
variable {z z1 : SS} {t : WR} {RR : RV → SS → Prop} {j : Nat} {l : List D}
end
end L3
namespace L3
open PySem PySem.Spec PyProof.Rows L2 PySem.SeqAt
def wPairs : List (WE × WE) → SS → (List (Key × D) → SS → Prop) → Prop
  | [], z, R => R [] z
  | (tk, tv) :: r, z, R => tk z fun ek z1 => tv z1 fun ev z2 => ∃ k d, ek = .d (keyD k) ∧ ev = .d d ∧ wPairs r z2 fun ps z3 => R ((k, d) :: ps) z3
def mgK (acc more : List (Key × D)) : List (Key × D) := more.foldl (fun a p => stoK a p.1 p.2) acc
def wDisp (trs : List (WE × WE)) : WE := fun z R => wPairs trs z fun ps z' => R (.d (dkD (mgK [] ps))) z'
section
variable {K : PySem.W.Frag} {I : Hp}
end
inductive XPs (X : Cx) (F : Fx) : List (Option Expr) → List Expr → List (WE × WE) → Prop
  | nil : XPs X F [] [] []
  | cons {k v : Expr} {ks : List (Option Expr)} {vs : List Expr} {tk tv : WE} {trs : List (WE × WE)} : XE X F k tk → XE X F v tv → XPs X F ks vs trs → XPs X F (some k :: ks) (v :: vs) ((tk, tv) :: trs)
section
variable {X : Cx} {F : Fx}
abbrev lf2 (X : Cx) (F : Fx) (t : WE × WE) : TE × TE := (liftE X.K F t.1, liftE X.K F t.2)
theorem XPs.mono : ∀ {ks : List (Option Expr)} {vs : List Expr} {trs : List (WE × WE)}, XPs X F ks vs trs → ∀ z R R', (∀ e z', R e z' → R' e z') → wPairs trs z R → wPairs trs z R'
  | _, _, _, .nil, z, R, R', k, w => k _ _ w
  | _, _, _, .cons h1 h2 t, z, R, R', k, w => h1.mono _ _ _ (fun _ _ w => h2.mono _ _ _ (fun _ _ ⟨a, b, e1, e2, w⟩ => ⟨a, b, e1, e2, t.mono _ _ _ (fun _ _ w => k _ _ w) w⟩) w) w
theorem XPs.at : ∀ {ks : List (Option Expr)} {vs : List Expr} {trs : List (WE × WE)} (h : XPs X F ks vs trs) {z : SS} {σ : St} {I H : Hp} {R : List (Key × D) → SS → Prop} {Q : List (V × V) → Hp → Prop} (ok : Ok X.K F z σ I H) (w : wPairs trs z R)
    (k : ∀ ps z' (kvs : List (Key × V)) I' H', R ps z' → Ok X.K F z' σ I' H' → Step z σ I H z' I' H' → KvR X.K I' kvs ps → kvs.length = trs.length → Q (kvs.map fun kv => (kV kv.1, kv.2)) H'), tPairs (trs.map (lf2 X F)) σ H Q
  | _, _, _, .nil, z, σ, I, H, R, Q, ok, w, k => k [] z [] I H w ok .refl .nil rfl
  | _, _, _, .cons h1 h2 t, z, σ, I, H, R, Q, ok, w, k => h1.at ok w fun ek z1 v1 I1 H1 w1 o1 s1 r1 => h2.at o1 w1 fun ev z2 v2 I2 H2 ⟨a, d, e1, e2, w2⟩ o2 s2 r2 => by
    subst e1 e2
    refine t.at o2 w2 fun ps z3 kvs I3 H3 q o3 s3 r3 hl => ?_
    have e := key_of_rp r1
    subst e
    exact k _ _ ((a, v2) :: kvs) _ _ q o3 (s1.trans (s2.trans s3)) (.cons ⟨rfl, Rp.mono s3.imm r2⟩ r3) (by rw [List.length_cons, List.length_cons, hl])
end
def pairsK (r : List (WE × WE)) (R : List (Key × D) → SS → Prop) (ek : EV) : EV → SS → Prop := fun ev z2 => ∃ k d, ek = .d (keyD k) ∧ ev = .d d ∧ wPairs r z2 fun ps z3 => R ((k, d) :: ps) z3
section
variable {z : SS} {R : EV → SS → Prop} {RP : List (Key × D) → SS → Prop} {RR : RV → SS → Prop} {trs : List (WE × WE)} {tk tv : WE} {x d : D} {key : Key} {ev : EV} {kps : List (Key × D)} {k : RV → Prop}
instance : Stp (wDisp trs z R) (wPairs trs z fun ps z' => R (.d (dkD (mgK [] ps))) z') := ⟨fun h => h⟩
instance : Stp (wPairs [] z RP) (RP [] z) := ⟨fun h => h⟩
instance : Stp (wPairs ((tk, tv) :: trs) z RP) (tk z fun ek z1 => tv z1 (pairsK trs RP ek)) := ⟨fun h => h⟩
instance [a : KeyIs x key] : Stp (pairsK trs RP (.d x) (.d d) z) (wPairs trs z fun ps z3 => RP ((key, d) :: ps) z3) := ⟨fun h => ⟨key, d, by rw [a.e], rfl, h⟩⟩
end
def sKeysD : SS → EV → (RV → Prop) → Prop := fun z x k => ∃ kps, evD z x = some (dkD kps) ∧ k (.n (kps.map fun p => keyD p.1))
section
variable {X : Cx} {F : Fx} {p pos : Pos} {e : Expr} {u : WA}
end
section
variable {z : SS} {ev : EV} {kps : List (Key × D)} {k : RV → Prop}
instance [a : DkIs z ev kps] : Stp (sKeysD z ev k) (k (.n (kps.map fun p => keyD p.1))) := ⟨fun h => ⟨kps, a.e, h⟩⟩
end
def wTRg (lo : WE) : WE := fun z R => lo z fun x z1 => ∃ j, x = .d (.int j) ∧ RgOk 0 j ∧ R (.d (.tuple (rangeD 0 j))) z1
section
variable {z : SS} {R : EV → SS → Prop} {t : WE} {j : Int}
instance : Stp (wTRg t z R) (t z fun x z1 => ∃ j, x = .d (.int j) ∧ RgOk 0 j ∧ R (.d (.tuple (rangeD 0 j))) z1) := ⟨fun h => h⟩
end
section
variable {X : Cx} {F : Fx} {pos apos : Pos} {o e : Expr} {t : WE} {u : WA}
end
section
variable {z : SS} {RR : RV → SS → Prop} {x : EV} {l : List D} {t : Str}
end
end L3
namespace L3
open PySem PySem.Spec PyProof.Rows L2 PySem.SeqAt
section
variable {prog : Program} {w : World} {A : Around} {E : Value → Shared → Prop} {s : Shared}
end
section
variable {X : Cx} {F : Fx} {o i : Expr} {tpos pos p : Pos}
/-- del own[e:] -/
def wDelSl (to ti : WE) : WS := fun E z => to z fun x z1 => ti z1 fun y z2 => ∃ (j : Nat) (b : Option Nat) (l : List D) (a : Nat), x = .o j ∧ y = .d (.int (a : Nat)) ∧ z2[j]? = some (some (.own b l)) ∧ dkB b = false ∧ a ≤ l.length ∧ E.nx (z2.set j (some (.own b (l.take a))))
end
def delK (N : SS → Prop) (x : EV) : EV → SS → Prop := fun y z2 => ∃ (j : Nat) (b : Option Nat) (l : List D) (a : Nat), x = .o j ∧ y = .d (.int (a : Nat)) ∧ z2[j]? = some (some (.own b l)) ∧ dkB b = false ∧ a ≤ l.length ∧ N (z2.set j (some (.own b (l.take a))))
section
variable {z z1 : SS} {N : SS → Prop} {rt : RV → SS → Prop} {bk ct : SS → Prop} {to ti : WE} {l : List D} {n a : Nat}
instance : Stp (wDelSl to ti ⟨N, rt, bk, ct⟩ z) (to z fun x z1 => ti z1 (delK N x)) := ⟨fun h => h⟩
end
end L3
namespace L3
open PySem PySem.Spec PyProof.Rows L2 PySem.SeqAt
structure CD (K : PySem.W.Frag) (F : Fx) (zb : SS) (σb : St) (Ib Hb : Hp) (a : Addr) (z : SS) (σ : St) (I H : Hp) (acc : List (Key × D)) : Prop where
  ok : Ok K F z σ I H
  imm : Same Ib I
  new : ∀ c o, I c = some o → Ib c = some o ∨ Hb c = none ∨ IsOwn zb σb c
  keep : ∀ c o, Hb c = some o → ¬ IsOwn zb σb c → H c = some o
  own : ∀ c, IsOwn z σ c → IsOwn zb σb c
  osub : ∀ (i : Nat) (b : Option Nat) (l : List D), z[i]? = some (some (.own b l)) → ∃ l' : List D, zb[i]? = some (some (.own b l'))
  there : ∀ c, H c = none → Hb c = none
  acc : ∃ vs, H a = some (.dK vs) ∧ KvR K I vs acc
  dI : I a = none
  d0 : F.H0 a = none
  dW : a ∉ F.W
  dB : Hb a = none
  dO : ¬ IsOwn zb σb a
section
variable {K : PySem.W.Frag} {F : Fx} {zb z z' : SS} {σb σ σ' : St} {Ib Hb I H I' H' : Hp} {a : Addr} {acc : List (Key × D)}
theorem CD.step (c : CD K F zb σb Ib Hb a z σ I H acc) (ok : Ok K F z' σ I' H') (s : Step z σ I H z' I' H') : CD K F zb σb Ib Hb a z' σ I' H' acc where
  ok := ok
  imm := c.imm.trans s.imm
  new := fun b o h => by
    rcases s.new b o h with h | h | h
    · exact c.new b o h
    · exact .inr (.inl (c.there b h))
    · exact .inr (.inr (c.own b h))
  keep := fun b o h hn => s.keep b o (c.keep b o h hn) fun q => hn (c.own b q)
  own := fun b h => c.own b (s.own h)
  osub := fun i b l h => by
    obtain ⟨l1, h1⟩ := s.osub i b l h
    exact c.osub i b l1 h1
  there := fun b h => c.there b (s.there b h)
  acc := by
    obtain ⟨vs, e, r⟩ := c.acc
    exact ⟨vs, s.keep a _ e fun q => c.dO (c.own a q), r.mono s.imm⟩
  dI := by
    cases q : I' a with
    | none => rfl
    | some o =>
      rcases s.new a o q with h | h | h
      · rw [c.dI] at h; cases h
      · obtain ⟨vs, e, _⟩ := c.acc
        rw [h] at e; cases e
      · exact absurd (c.own a h) c.dO
  d0 := c.d0
  dW := c.dW
  dB := c.dB
  dO := c.dO
theorem CD.put (c : CD K F zb σb Ib Hb a z σ I H acc) {q : Key} {d : D} {v : V} (r : Rp K I v d) : ∃ vs, H a = some (.dK vs) ∧ vs.length = acc.length ∧ CD K F zb σb Ib Hb a z σ I (upd H a (.dK (putK vs q v))) (stoK acc q d) := by
  obtain ⟨vs, e, ra⟩ := c.acc
  have hn : ¬ IsOwn z σ a := fun q => c.dO (c.own a q)
  refine ⟨vs, e, ra.length, ⟨⟨c.ok.len, c.ok.val, fun i b l h => ?_, c.ok.dis, fun b o h => ?_, c.ok.base, c.ok.new, fun b o h hw => ?_, fun b hw => ?_⟩, c.imm, c.new, fun b o h hn => ?_, c.own, c.osub, fun b h => ?_, ⟨_, upd_same, ra.put r⟩, c.dI, c.d0, c.dW, c.dB, c.dO⟩⟩
  · obtain ⟨p, ws, e1, e2, e3⟩ := c.ok.own i b l h
    have ne : p ≠ a := fun q => hn ⟨i, b, l, h, by rw [e1, q]⟩
    exact ⟨p, ws, e1, by rw [upd_ne ne]; exact e2, e3⟩
  · have ne : b ≠ a := fun q => by subst q; rw [c.dI] at h; cases h
    rw [upd_ne ne]; exact c.ok.sub b o h
  · have ne : b ≠ a := fun q => by subst q; rw [c.d0] at h; cases h
    rw [upd_ne ne]; exact c.ok.keep b o h hw
  · obtain ⟨f1, f2, ws, f3⟩ := c.ok.wf b hw
    have ne : b ≠ a := fun q => c.dW (by rw [← q]; exact hw)
    exact ⟨f1, f2, ws, by rw [upd_ne ne]; exact f3⟩
  · have ne : b ≠ a := fun q => by subst q; rw [c.dB] at h; cases h
    rw [upd_ne ne]; exact c.keep b o h hn
  · by_cases q : b = a
    · subst q; exact c.dB
    · rw [upd_ne q] at h; exact c.there b h
/-- the block's own names forgotten -/
theorem CD.wiped (c : CD K F zb σb Ib Hb a z σ' I H acc) {vs : List Nat} (hw : wipe σ' vs = wipe σ vs) : CD K F zb σb Ib Hb a (killAll vs z) (wipe σ vs) I H acc := by
  have hl : (wipe σ vs).length = σ'.length := by rw [← hw, wipe_length]
  have ok2 : Ok K F (killAll vs z) (wipe σ vs) I H := (c.ok.killAll (is := vs)).slots hl fun i s h => by
    rw [← hw]; exact wipe_out (killAll_get h).1
  refine ⟨ok2, c.imm, c.new, c.keep, fun b ⟨i, t, l, e1, e2⟩ => ?_, fun i b l h => c.osub i b l (killAll_get h).2, c.there, c.acc, c.dI, c.d0, c.dW, c.dB, c.dO⟩
  obtain ⟨h1, h2⟩ := killAll_get e1
  rw [← hw, wipe_out h1] at e2
  exact c.own b ⟨i, t, l, h2, e2⟩
theorem CD.tgt {is : List Nat} (c : CD K F zb σb Ib Hb a z σ I H acc) (ok : Ok K F z' σ' I H) (t : Tgt is z σ z' σ') : CD K F zb σb Ib Hb a z' σ' I H acc :=
  ⟨ok, c.imm, c.new, c.keep, fun b h => c.own b (t.own b h), fun i b l h => c.osub i b l (t.idx i b l h), c.there, c.acc, c.dI, c.d0, c.dW, c.dB, c.dO⟩
end

section
variable {K : PySem.W.Frag} {F : Fx} {zb z : SS} {σ : St} {Ib Hb I H : Hp} {a : Addr} {acc : List (Key × D)} {vs : List Nat}
/-- the comprehension is made -/
theorem CD.done (c : CD K F zb σ Ib Hb a z (wipe σ vs) I H acc) (okb : Ok K F zb σ Ib Hb) : ∃ I', Ok K F (restS vs zb z) σ I' H ∧ Step zb σ Ib Hb (restS vs zb z) I' H ∧ Rp K I' (.ref a) (dkD acc) := by
  have hl : z.length = σ.length := by rw [c.ok.len, wipe_length]
  have owns : ∀ (i : Nat) (b : Option Nat) (l : List D), (restS vs zb z)[i]? = some (some (.own b l)) → i ∉ vs ∧ z[i]? = some (some (.own b l)) := fun i b l h => by
    rcases restS_get h with h | ⟨d, q, _⟩
    · exact h
    · cases q
  have isown : ∀ p, IsOwn (restS vs zb z) σ p → IsOwn z (wipe σ vs) p := fun p ⟨i, b, l, e1, e2⟩ => by
    obtain ⟨h1, h2⟩ := owns i b l e1
    exact ⟨i, b, l, h2, by rw [wipe_out h1]; exact e2⟩
  have o1 : Ok K F (restS vs zb z) σ I H := ⟨by rw [restS_len, hl], fun i d h => by
    rcases restS_get h with ⟨h1, h2⟩ | ⟨d', q, h2⟩
    · obtain ⟨v, e, r⟩ := c.ok.val i d h2
      exact ⟨v, by rw [← wipe_out h1]; exact e, r⟩
    · cases q
      obtain ⟨v, e, r⟩ := okb.val i _ h2
      exact ⟨v, e, r.mono c.imm⟩, fun i b l h => by
    obtain ⟨h1, h2⟩ := owns i b l h
    obtain ⟨p, ws, e1, e2⟩ := c.ok.own i b l h2
    exact ⟨p, ws, by rw [← wipe_out h1]; exact e1, e2⟩, fun i j b b' l l' p e f g h => by
    obtain ⟨h1, h2⟩ := owns i b l e
    obtain ⟨h3, h4⟩ := owns j b' l' f
    exact c.ok.dis i j b b' l l' p h2 h4 (by rw [wipe_out h1]; exact g) (by rw [wipe_out h3]; exact h), c.ok.sub, c.ok.base, c.ok.new, c.ok.keep, c.ok.wf⟩
  have s1 : Step zb σ Ib Hb (restS vs zb z) I H := ⟨c.imm, c.new, c.keep, fun i b l h => c.osub i b l (owns i b l h).2, c.there⟩
  have hno : ¬ IsOwn (restS vs zb z) σ a := fun q => c.dO (c.own a (isown a q))
  obtain ⟨kvs, e, r⟩ := c.acc
  have si := same_upd (o := HO.dK kvs) c.dI
  refine ⟨_, o1.freezeO e c.dI c.d0 hno, ⟨s1.imm.trans si, fun b o h => ?_, s1.keep, s1.osub, s1.there⟩, .dct upd_same (rpK_to (r.mono si))⟩
  by_cases q : b = a
  · subst q
    exact .inr (.inl c.dB)
  · rw [upd_ne q] at h
    exact s1.new b o h
end
def wDcL (g : GS) (own : List Nat) (tt : WT) (tk tv : WE) (k : List (Key × D) → SS → Prop) : List D → List (Key × D) → SS → Prop
  | [], acc, z => k acc z
  | x :: xs, acc, z => ∃ z1, g x z = some z1 ∧ tt z1 fun b z2 => if b = true then tk z2 fun ek z3 => tv z3 fun ev z4 => ∃ q d, ek = .d (keyD q) ∧ ev = .d d ∧ acc.length < sizeLine ∧ wDcL g own tt tk tv k xs (stoK acc q d) (killAll own z4) else wDcL g own tt tk tv k xs acc (killAll own z2)
def wDc (s : WI) (g : GS) (own : List Nat) (tt : WT) (tk tv : WE) : WE := fun z R => s z fun items z1 => wDcL g own tt tk tv (fun acc z' => R (.d (dkD acc)) (restS own z1 z')) items [] (killAll own z1)
section
variable {X : Cx} {F : Fx} {tg iter kx vx : Expr} {g : GS} {tt : WT} {tk tv : WE} {vs : List Nat}
variable {ifs : List Expr} {scope : Scope} {pos : Pos} {s : WI} {is : List Nat}
end
def restD (own : List Nat) (z1 : SS) (R : EV → SS → Prop) : List (Key × D) → SS → Prop := fun acc z' => R (.d (dkD acc)) (restS own z1 z')
def dcLK (g : GS) (own : List Nat) (tt : WT) (tk tv : WE) (R : EV → SS → Prop) : List D → SS → Prop := fun items z1 => wDcL g own tt tk tv (restD own z1 R) items [] (killAll own z1)
section
variable {z z1 z2 : SS} {R : EV → SS → Prop} {g : GS} {tt : WT} {tk tv to te : WE} {wi : WI} {l : List D} {acc kps : List (Key × D)} {own : List Nat} {o : EV} {y d : D} {key : Key}
instance : Stp (wDc wi g own tt tk tv z R) (wi z (dcLK g own tt tk tv R)) := ⟨fun h => h⟩
instance [q : Kil own z z1] : Stp (dcLK g own tt tk tv R l z) (wDcL g own tt tk tv (restD own z R) l [] z1) := ⟨fun h => by unfold dcLK; rw [q.e]; exact h⟩
instance [q : Rst own z z1 z2] : Stp (restD own z R acc z1) (R (.d (dkD acc)) z2) := ⟨fun h => by unfold restD; rw [q.e]; exact h⟩
end
def wDGet2 (to tk te : WE) : WE := fun z R => to z fun o z1 => (∃ kps, evD z1 o = some (dkD kps)) ∧ tk z1 fun ek z2 => te z2 fun ev z3 => ∃ k kps d, evD z3 o = some (dkD kps) ∧ ek = .d (keyD k) ∧ ev = .d d ∧ R (.d ((getK kps k).getD d)) z3
def dget2K (R : EV → SS → Prop) (o ek : EV) : EV → SS → Prop := fun ev z3 => ∃ k kps d, evD z3 o = some (dkD kps) ∧ ek = .d (keyD k) ∧ ev = .d d ∧ R (.d ((getK kps k).getD d)) z3
section
variable {z : SS} {R : EV → SS → Prop} {to tk te : WE} {o : EV} {kps : List (Key × D)} {y d : D} {key : Key}
instance : Stp (wDGet2 to tk te z R) (to z fun o z1 => (∃ kps, evD z1 o = some (dkD kps)) ∧ tk z1 fun ek z2 => te z2 (dget2K R o ek)) := ⟨fun h => h⟩
instance {P : Prop} [a : DkIs z o kps] : Stp ((∃ kps, evD z o = some (dkD kps)) ∧ P) P := ⟨fun h => ⟨⟨kps, a.e⟩, h⟩⟩
instance [a : DkIs z o kps] [b : KeyIs y key] : Stp (dget2K R o (.d y) (.d d) z) (R (.d ((getK kps key).getD d)) z) := ⟨fun h => ⟨key, kps, d, a.e, by rw [b.e], rfl, h⟩⟩
end
end L3
namespace L3
open PySem PySem.Spec PyProof.Rows L2 PySem.SeqAt

def isStrm (l : List D) : Prop := ∃ (ns : List Int) (cur k : Int), l = [.list (ns.map PyData.int), .int cur, .int k] ∧ 0 ≤ cur ∧ 0 ≤ k ∧ ns.length ≤ 63
theorem divW60 {i j : Int} (h0 : 0 < j) (h1 : j < 1152921504606846976) : CDivW i j := wide_div (b := 60) h0 (by omega) (by decide) (by decide)
def p_law_stream : FS := fun as R => ∃ ns : List Int, as = [.val (.dict [(.none, .list (ns.map PyData.int))])] ∧ ns.length ≤ 63 ∧ ∀ l, isStrm l → R (.n l) none
def p_law_next : FS := fun as R => ∃ l many, as = [.own l, .val (.int many)] ∧ isStrm l ∧ 0 < many ∧ many < 1152921504606846976 ∧ ∀ d l', isStrm l' → 0 ≤ d → d < many → R (.d (.int d)) (some l')
theorem m_law_stream : MonoF p_law_stream := fun as R R' h ⟨ns, e, a, k⟩ => ⟨ns, e, a, fun l b => h _ _ (k l b)⟩
theorem l_law_stream : ∀ as R, p_law_stream as R → as.length = 1 := fun as R ⟨ns, e, _⟩ => by rw [e]; rfl
theorem m_law_next : MonoF p_law_next := fun as R R' h ⟨l, m, e, a, b, c, k⟩ => ⟨l, m, e, a, b, c, fun d l' x y z => h _ _ (k d l' x y z)⟩
theorem l_law_next : ∀ as R, p_law_next as R → as.length = 2 := fun as R ⟨l, m, e, _⟩ => by rw [e]; rfl
/-- 0 script -/
def w_law_stream : WS :=
(wRetR (wLst (wCons (wFrz (wCB (f1 sListOf) (wCons (wVar 0) wNil))) (wCons (wC (.int 0)) (wCons (wC (.int 0)) wNil)))))
/-- 0 stream, 1 many, 2 k, 3 cell, 4 digit -/
def w_law_next : WS :=
(wSeq (wIfS (wTest (wBin sEq (wBin sIx (wVar 0) (wC (.int 1))) (wC (.int 0))))
 (wSeq (wSet 2 (wBin sIx (wVar 0) (wC (.int 2))))
 (wSeq (wSet 3 (wBin sAdd (wC (.int 7)) (wVar 2)))
 (wSeq (wIfS (wTest (wBin sLt (wVar 2) (wFrz (wCB (f1 sLen) (wCons (wBin sIx (wVar 0) (wC (.int 0))) wNil)))))
 (wSet 3 (wFrz (wCB (f1 sAbs) (wCons (wBin sIx (wBin sIx (wVar 0) (wC (.int 0))) (wVar 2)) wNil))))
 wNext)
 (wSeq (wIfS (wTest (wBin sLt (wVar 3) (wBin sPow (wC (.int 10)) (wC (.int 18)))))
 (wSeq (wSet 3 (wBin sMod (wFrz (wCB (f1 sInt) (wCons (wBin sAdd (wBin sAdd (wBin sMul (wVar 3) (wC (.int 48271))) (wBin sMul (wVar 2) (wC (.int 69621)))) (wC (.int 11))) wNil))) (wC (.int 2147483647))))
 (wSet 3 (wBin sAdd (wBin sMul (wBin sMod (wFrz (wCB (f1 sInt) (wCons (wBin sAdd (wBin sMul (wVar 3) (wC (.int 16807))) (wC (.int 13))) wNil))) (wC (.int 2147483647))) (wC (.int 65537))) (wVar 3))))
 wNext)
 (wSeq (wPut (wVar 3) (wVar 0) (wC (.int 1)))
 (wPut (wBin sAdd (wVar 2) (wC (.int 1))) (wVar 0) (wC (.int 2))))))))
 wNext)
 (wSeq (wSet 4 (wBin sMod (wFrz (wCB (f1 sInt) (wCons (wBin sIx (wVar 0) (wC (.int 1))) wNil))) (wVar 1)))
 (wSeq (wPut (wBin sFDivW (wBin sIx (wVar 0) (wC (.int 1))) (wVar 1)) (wVar 0) (wC (.int 1)))
 (wRet (wVar 4)))))
local macro_rules | `(tactic| walk_at "w1") => `(tactic| first
  | (with_reducible refine' i_seq ?_) | (with_reducible refine' i_set ?_) | (with_reducible refine' i_ifS ?_) | (with_reducible refine' i_ret ?_) | (with_reducible refine' i_next ?_) | (with_reducible refine' i_kill ?_)
  | (with_reducible refine' i_setO ?_) | (with_reducible refine' i_lcSet ?_) | (with_reducible refine' i_asg ?_) | (with_reducible refine' i_put ?_) | (with_reducible refine' i_drop ?_) | (with_reducible refine' i_retR ?_)
  | ((with_reducible refine' i_retO ?h1 ?_); (case h1 => rfl)) | (with_reducible refine' i_for ?_)
  | (with_reducible refine' i_test ?_) | (with_reducible refine' i_tnot ?_) | (with_reducible refine' i_tand ?_) | (with_reducible refine' i_tor ?_) | (with_reducible refine' i_yes ?_)
  | ((with_reducible refine' i_var ?h1 ?_); (case h1 => rfl)) | ((with_reducible refine' i_varO ?h1 ?_); (case h1 => rfl)) | (with_reducible refine' i_c ?_) | (with_reducible refine' i_dct ?_) | (with_reducible refine' i_frz ?_) | (with_reducible refine' i_bin ?_) | (with_reducible refine' i_binR ?_)
  | (with_reducible refine' i_cb ?_) | (with_reducible refine' i_nil ?_) | (with_reducible refine' i_cons ?_) | (with_reducible refine' i_tup ?_) | (with_reducible refine' i_lst ?_) | (with_reducible refine' i_neg ?_) | (with_reducible refine' i_isa ?_)
  | (with_reducible refine' i_andV ?_) | (with_reducible refine' i_orV ?_) | (with_reducible refine' i_notV ?_) | (with_reducible refine' i_if ?_) | (with_reducible refine' i_chain ?_) | (with_reducible refine' i_sl ?_) | (with_reducible refine' i_noPart ?_) | (with_reducible refine' i_part ?_)
  | (with_reducible refine' i_bm ?_) | (with_reducible refine' i_bm0 ?_) | (with_reducible refine' i_lrg ?_) | (with_reducible refine' i_call ?_) | (with_reducible refine' i_src ?_) | (with_reducible refine' i_rng1 ?_) | (with_reducible refine' i_rng2 ?_) | (with_reducible refine' i_enum ?_)
  | (with_reducible refine' i_lc ?_) | (with_reducible refine' i_lc2 ?_))
local macro_rules | `(tactic| walk_at "w2") => `(tactic| first
  | (with_reducible refine' i_exD ?_) | (with_reducible refine' i_exB ?_) | (with_reducible refine' i_exRB ?_) | (with_reducible refine' i_exI ?_) | (with_reducible refine' i_exN ?_)
  | (with_reducible refine' i_addI ?_) | (with_reducible refine' i_sub ?_) | (with_reducible refine' i_lt ?_) | (with_reducible refine' i_le ?_) | (with_reducible refine' i_gt ?_) | (with_reducible refine' i_ge ?_)
  | (with_reducible refine' i_eqI ?_) | (with_reducible refine' i_neI ?_) | (with_reducible refine' i_eqB ?_) | (with_reducible refine' i_neB ?_) | (with_reducible refine' i_eqS ?_) | (with_reducible refine' i_neS ?_)
  | (with_reducible refine' i_isB ?_) | ((with_reducible refine' i_isN ?h1 ?_); (case h1 => rfl)) | ((with_reducible refine' i_notN ?h1 ?_); (case h1 => rfl))
  | (with_reducible refine' i_f1 ?_) | (with_reducible refine' i_f2 ?_) | ((with_reducible refine' i_len ?h1 ?_); (case h1 => rfl)) | (with_reducible refine' i_abs ?_) | (with_reducible refine' i_int ?_) | (with_reducible refine' i_max ?_) | (with_reducible refine' i_min ?_)
  | (with_reducible refine' i_listScr ?_) | ((with_reducible refine' i_list ?h1 ?_); (case h1 => rfl)) | ((with_reducible refine' i_tuple ?h1 ?_); (case h1 => rfl))
  | ((with_reducible refine' i_tyL ?h1 ?_); (case h1 => rfl)) | (with_reducible refine' i_tyS ?_)
  | (with_reducible refine' i_slT ?_) | ((with_reducible refine' i_slL ?h1 ?_); (case h1 => rfl)))
local macro_rules | `(tactic| walk_at "w3") => `(tactic| first
  | ((with_reducible refine' i_ix ?h1 ?h2 ?_); (case h1 => rfl); (case h2 => rfl)) | ((with_reducible refine' i_allD ?h1 ?h2 ?_); (case h1 => rfl); (case h2 => (simp [sizeLine_eq]; done)))
  | ((with_reducible refine' i_args ?h1 ?_); (case h1 => rfl)) | ((with_reducible refine' i_out ?h1 ?_); (case h1 => rfl)) | ((with_reducible refine' i_rt ?h1 ?_); (case h1 => rfl))
  | ((with_reducible refine' i_srcOf ?h1 ?_); (case h1 => rfl)) | ((with_reducible refine' i_evD ?h1 ?h2 ?_); (case h1 => rfl); (case h2 => (intro l e; cases e; done)))
  | ((with_reducible refine' i_rngD ?h1 ?h2 ?_); (case h1 => (first | decide | omega)); (case h2 => (first | decide | omega))) | ((with_reducible refine' i_rngD2 ?h1 ?_); (case h1 => (first | decide | omega)))
  | ((with_reducible refine' i_lrgD ?h1 ?_); (case h1 => (apply RgOk.of_le <;> omega))) | ((with_reducible refine' i_enumD ?h1 ?_); (case h1 => rfl))
  | ((with_reducible refine' i_putS ?h1 ?h2 ?_); (case h1 => rfl); (case h2 => rfl)) | ((with_reducible refine' i_asgD ?h1 ?_); (case h1 => rfl))
  | ((with_reducible refine' i_mul ?h1 ?_); (case h1 => (first | exact .inr (by decide) | exact .inl (by decide)))) | ((with_reducible refine' i_mod ?h1 ?_); (case h1 => (first | decide | omega)))
  | ((with_reducible refine' i_fdivW ?h1 ?_); (case h1 => exact divW60 (by omega) (by omega))) | ((with_reducible refine' i_pow ?h1 ?_); (case h1 => exact pow_ok (by decide)))
  | ((with_reducible refine' i_ifT ?h1 ?_); (case h1 => rfl)) | ((with_reducible refine' i_ifF ?h1 ?_); (case h1 => rfl))
  | ((with_reducible refine' i_appN ?h1 ?h2 ?_); (case h1 => rfl); (case h2 => (first | (simp [sizeLine_eq]; done) | (apply lt_line; omega)))))
local macro_rules | `(tactic| walk_at "w") => `(tactic| repeat' (first | walk_at "w1" | walk_at "w2" | walk_at "w3"))
local macro_rules | `(tactic| walk_at "w0") => `(tactic| simp only [startS, hasOwn, List.map_cons, List.map_nil, List.length_cons, List.length_nil, List.cons_append, List.nil_append, List.replicate, Nat.reduceAdd, Nat.reduceSub, Nat.zero_add])
theorem v_law_stream : ∀ as R, p_law_stream as R → w_law_stream (retEn (hasOwn as) R) (startS 1 as) := by
  rintro as R ⟨ns, rfl, hl, q⟩
  unfold w_law_stream
  walk_at "w0"
  walk_at "w"
  exact q _ ⟨ns, 0, 0, rfl, by decide, by decide, hl⟩
theorem v_law_next : ∀ as R, p_law_next as R → w_law_next (retEn (hasOwn as) R) (startS 5 as) := by
  rintro as R ⟨l, many, rfl, ⟨ns, cur, k, rfl, hc, hk, hl⟩, h0, h1, q⟩
  unfold w_law_next
  walk_at "w0"
  walk_at "w"
  have ix : ∀ (h : k < ((ns.map PyData.int).length : Nat)), ∃ x : Int, atI (ns.map PyData.int) k = some (.int x) := fun h => by
    rw [List.length_map] at h
    have h2 : k.toNat < ns.length := by omega
    refine ⟨ns[k.toNat], ?_⟩
    have e : ((k.toNat : Nat) : Int) = k := by omega
    have := atI_nat (xs := ns.map PyData.int) (j := k.toNat) (v := .int ns[k.toNat]) (by simp [h2])
    rw [e] at this
    exact this
  have fin : ∀ (c k' : Int), 0 ≤ c → 0 ≤ k' → R (.d (.int (c % many))) (some [.list (ns.map PyData.int), .int (c / many), .int k']) := fun c k' a b =>
    q _ _ ⟨ns, _, _, rfl, Int.ediv_nonneg a (by omega), b, hl⟩ (Int.emod_nonneg _ (by omega)) (Int.emod_lt_of_pos _ h0)
  refine i_ifD (fun e => ?_) (fun e => ?_)
  · walk_at "w"
    refine i_ifD (fun e2 => ?_) (fun e2 => ?_)
    · obtain ⟨x, ex⟩ := ix e2
      walk_at "w"
      refine i_ix rfl ex ?_
      walk_at "w"
      refine i_ifD (fun e3 => ?_) (fun e3 => ?_)
      · walk_at "w"
        exact fin _ _ (by split <;> omega) (by omega)
      · walk_at "w"
        exact fin _ _ (by split <;> omega) (by omega)
    · walk_at "w"
      refine i_ifD (fun e3 => ?_) (fun e3 => ?_)
      · walk_at "w"
        exact fin _ _ (by omega) (by omega)
      · walk_at "w"
        exact fin _ _ (by omega) (by omega)
  · walk_at "w"
    exact fin _ _ hc hk
end L3
namespace L3
open PySem PySem.Spec PyProof.Rows L2 PySem.SeqAt
mutual
def okD : D → Bool
  | .str s => decide (s.length ≤ 1000)
  | .list l => okA l
  | .tuple l => okA l
  | .dict [] => true
  | .dict (_ :: _) => false
  | .none => true
  | .bool _ => true
  | .int _ => true
def okA : List D → Bool
  | [] => decide True
  | d :: r => okD d && okA r
end
theorem okA_mem : ∀ {l : List D} {d : D}, okA l = true → d ∈ l → okD d = true
  | x :: r, d, h, m => by
    simp only [okA, Bool.and_eq_true] at h
    rcases List.mem_cons.mp m with e | m
    · rw [e]; exact h.1
    · exact okA_mem h.2 m
theorem okD_scr {d : D} (h : okD d = true) : ∀ l, d ≠ .dict [(.none, l)] := fun l e => by rw [e] at h; cases h
/-- what continues an isinstance test -/
theorem i_isD {z : SS} {P : D → Prop} {d : D} (h : okD d = true) (k : P d) : ∃ x, evD z (.d d) = some x ∧ (∀ l, x ≠ .dict [(.none, l)]) ∧ P x := ⟨d, rfl, okD_scr h, k⟩
theorem le_of_okS {s : Str} (h : okD (.str s) = true) : s.length ≤ sizeLine := le_line (by have : decide (s.length ≤ 1000) = true := h; have := of_decide_eq_true this; omega)

def isWhole (v : D) (lo : Int) : Bool := match v with
  | .int i => decide (lo ≤ i)
  | _ => false
def isWithin (v : D) (lo hi : Int) : Bool := match v with
  | .int i => decide (lo ≤ i) && decide (i ≤ hi)
  | _ => false
def lowC (c : Nat) : Bool := decide (97 ≤ c) && decide (c ≤ 122)
def lowS (s : Str) : Bool := s.cps.toList.all lowC
def letter (x : D) : Bool := match x with
  | .str s => !(Builtin.Str.occurrences ("abcdefghijklmnopqrstuvwxyz" : Str) s 0 ("abcdefghijklmnopqrstuvwxyz" : Str).length 1).isEmpty
  | _ => false
def isName (v : D) : Bool := match v with
  | .str s => decide (2 ≤ s.length) && decide (s.length ≤ 8) && lowS s
  | _ => false
def areKinds (many : Int) (v : D) (least most : Int) : Bool := match v with
  | .tuple l => decide (least ≤ (l.length : Int)) && decide ((l.length : Int) ≤ most) && l.all fun k => isWithin k 0 (many - 1)
  | _ => false
def isCons (many : Int) (v : D) : Bool := match v with
  | .tuple [a, b] => isName a && areKinds many b 0 2
  | _ => false
def isRow (many : Int) (v : D) : Bool := match v with
  | .tuple [.str h, .tuple rows] => (decide (h = ("closed" : Str)) || decide (h = ("open" : Str))) && decide (rows.length ≤ 4) && rows.all (isCons many)
  | _ => false
def p_is_whole : FS := fun as R => ∃ v lo, as = [.val v, .val (.int lo)] ∧ okD v = true ∧ R (.d (.bool (isWhole v lo))) none
def p_is_within : FS := fun as R => ∃ v lo hi, as = [.val v, .val (.int lo), .val (.int hi)] ∧ okD v = true ∧ R (.d (.bool (isWithin v lo hi))) none
def p_is_name : FS := fun as R => ∃ v, as = [.val v] ∧ okD v = true ∧ R (.d (.bool (isName v))) none
def p_are_kinds : FS := fun as R => ∃ many v least most, as = [.val (.int many), .val v, .val (.int least), .val (.int most)] ∧ okD v = true ∧ most ≤ 1000 ∧ R (.d (.bool (areKinds many v least most))) none
def p_is_constructor : FS := fun as R => ∃ many v, as = [.val (.int many), .val v] ∧ okD v = true ∧ R (.d (.bool (isCons many v))) none
def p_is_kind_row : FS := fun as R => ∃ many v, as = [.val (.int many), .val v] ∧ okD v = true ∧ R (.d (.bool (isRow many v))) none
theorem m_is_whole : MonoF p_is_whole := fun as R R' h ⟨v, lo, e, a, k⟩ => ⟨v, lo, e, a, h _ _ k⟩
theorem l_is_whole : ∀ as R, p_is_whole as R → as.length = 2 := fun as R ⟨v, lo, e, _⟩ => by rw [e]; rfl
theorem m_is_within : MonoF p_is_within := fun as R R' h ⟨v, lo, hi, e, a, k⟩ => ⟨v, lo, hi, e, a, h _ _ k⟩
theorem l_is_within : ∀ as R, p_is_within as R → as.length = 3 := fun as R ⟨v, lo, hi, e, _⟩ => by rw [e]; rfl
theorem m_is_name : MonoF p_is_name := fun as R R' h ⟨v, e, a, k⟩ => ⟨v, e, a, h _ _ k⟩
theorem l_is_name : ∀ as R, p_is_name as R → as.length = 1 := fun as R ⟨v, e, _⟩ => by rw [e]; rfl
theorem m_are_kinds : MonoF p_are_kinds := fun as R R' h ⟨a, b, c, d, e, f, g, k⟩ => ⟨a, b, c, d, e, f, g, h _ _ k⟩
theorem l_are_kinds : ∀ as R, p_are_kinds as R → as.length = 4 := fun as R ⟨a, b, c, d, e, _⟩ => by rw [e]; rfl
theorem m_is_constructor : MonoF p_is_constructor := fun as R R' h ⟨a, b, e, f, k⟩ => ⟨a, b, e, f, h _ _ k⟩
theorem l_is_constructor : ∀ as R, p_is_constructor as R → as.length = 2 := fun as R ⟨a, b, e, _⟩ => by rw [e]; rfl
theorem m_is_kind_row : MonoF p_is_kind_row := fun as R R' h ⟨a, b, e, f, k⟩ => ⟨a, b, e, f, h _ _ k⟩
theorem l_is_kind_row : ∀ as R, p_is_kind_row as R → as.length = 2 := fun as R ⟨a, b, e, _⟩ => by rw [e]; rfl
/-- 0 value, 1 low -/
def w_is_whole : WS :=
(wRet (wAndV (wIsa "int" (wVar 0)) (wAndV (wNotV (wIsa "bool" (wVar 0))) (wBin sGe (wVar 0) (wVar 1)))))
/-- 0 value, 1 low, 2 high -/
def w_is_within : WS :=
(wRet (wAndV (wFrz (wCall p_is_whole (wCons (wVar 0) (wCons (wVar 1) wNil)))) (wBin sLe (wVar 0) (wVar 2))))
/-- 0 value, 1 letter -/
def w_is_name : WS :=
(wRet (wAndV (wIsa "str" (wVar 0)) (wAndV (wChain sLe sLe (wC (.int 2)) (wFrz (wCB (f1 sLen) (wCons (wVar 0) wNil))) (wC (.int 8))) (wFrz (wCB (f1 sAll) (wCons (wFrz (wLc (wSrc (wVar 0)) (gNm 1) [1] wYes (wBin sIn (wVar 1) (wC (.str "abcdefghijklmnopqrstuvwxyz"))))) wNil))))))
/-- 0 many, 1 value, 2 least, 3 most, 4 kind -/
def w_are_kinds : WS :=
(wSeq (wIfS (wOr (wNot (wTest (wIsa "tuple" (wVar 1)))) (wNot (wTest (wChain sLe sLe (wVar 2) (wFrz (wCB (f1 sLen) (wCons (wVar 1) wNil))) (wVar 3)))))
 (wRet (wC (.bool false)))
 wNext)
 (wRet (wFrz (wCB (f1 sAll) (wCons (wFrz (wLc (wSrc (wVar 1)) (gNm 4) [4] wYes (wFrz (wCall p_is_within (wCons (wVar 4) (wCons (wC (.int 0)) (wCons (wBin sSub (wVar 0) (wC (.int 1))) wNil))))))) wNil)))))
/-- 0 many, 1 value -/
def w_is_constructor : WS :=
(wSeq (wIfS (wOr (wNot (wTest (wIsa "tuple" (wVar 1)))) (wOr (wTest (wBin sNe (wFrz (wCB (f1 sLen) (wCons (wVar 1) wNil))) (wC (.int 2)))) (wNot (wTest (wFrz (wCall p_is_name (wCons (wBin sIx (wVar 1) (wC (.int 0))) wNil)))))))
 (wRet (wC (.bool false)))
 wNext)
 (wRetR (wCall p_are_kinds (wCons (wVar 0) (wCons (wBin sIx (wVar 1) (wC (.int 1))) (wCons (wC (.int 0)) (wCons (wC (.int 2)) wNil)))))))
/-- 0 many, 1 value, 2 row -/
def w_is_kind_row : WS :=
(wSeq (wIfS (wOr (wNot (wTest (wIsa "tuple" (wVar 1)))) (wOr (wTest (wBin sNe (wFrz (wCB (f1 sLen) (wCons (wVar 1) wNil))) (wC (.int 2)))) (wNot (wTest (wIsa "str" (wBin sIx (wVar 1) (wC (.int 0))))))))
 (wRet (wC (.bool false)))
 wNext)
 (wSeq (wIfS (wOr (wTest (wBin sNotIn (wBin sIx (wVar 1) (wC (.int 0))) (wTup (wCons (wC (.str "closed")) (wCons (wC (.str "open")) wNil))))) (wOr (wNot (wTest (wIsa "tuple" (wBin sIx (wVar 1) (wC (.int 1)))))) (wTest (wBin sGt (wFrz (wCB (f1 sLen) (wCons (wBin sIx (wVar 1) (wC (.int 1))) wNil))) (wC (.int 4))))))
 (wRet (wC (.bool false)))
 wNext)
 (wRet (wFrz (wCB (f1 sAll) (wCons (wFrz (wLc (wSrc (wBin sIx (wVar 1) (wC (.int 1)))) (gNm 2) [2] wYes (wFrz (wCall p_is_constructor (wCons (wVar 0) (wCons (wVar 2) wNil)))))) wNil))))))


/-- a comprehension that only reads: some of the items, mapped -/
theorem lcL_fm {g : GS} {own : List Nat} {tt : WT} {te : WE} {k : List D → SS → Prop} {items : List D} {z0 : SS} (fn : D → Option D) (hl : items.length ≤ sizeLine)
    (step : ∀ (x : D), x ∈ items → ∀ N : Option D → SS → Prop, (∀ z, killAll own z = z0 → N (fn x) z) → ∃ z1, g x z0 = some z1 ∧ tt z1 fun b z2 => if b = true then te z2 fun ev z3 => ∃ d, ev = .d d ∧ N (some d) z3 else N none z2)
    (fin : k (items.filterMap fn) z0) : wLcL g own tt te k items [] z0 := by
  refine lcL_inv (P := fun i acc z => acc = (items.take i).filterMap fn ∧ z = z0) (fun i x acc z e h N hN => ?_) (fun acc z h => ?_) ⟨by simp, rfl⟩
  · obtain ⟨ea, ez⟩ := h
    have hm := List.mem_of_getElem? e
    have hlt : i < items.length := (List.getElem?_eq_some_iff.mp e).1
    have hacc : acc.length < sizeLine := by
      have := List.length_filterMap_le fn (items.take i)
      rw [← ea, List.length_take] at this
      omega
    have ht : (items.take (i + 1)).filterMap fn = acc ++ (fn x).toList := by
      rw [ea, List.take_add_one, e]
      cases h : fn x <;> simp [h]
    rw [ez]
    exact step x hm (fun o z3 => match o with
      | some d => acc.length < sizeLine ∧ N (acc ++ [d]) (killAll own z3)
      | none => N acc (killAll own z3)) fun z' hz => by
        cases h : fn x with
        | none => exact hN _ _ ⟨by rw [ht, h]; simp, hz⟩
        | some d => exact ⟨hacc, hN _ _ ⟨by rw [ht, h]; rfl, hz⟩⟩
  · obtain ⟨ea, ez⟩ := h
    rw [ea, ez, List.take_length]
    exact fin
/-- the map, after what is there already -/
theorem lcL_mapA {g : GS} {own : List Nat} {te : WE} {k : List D → SS → Prop} {items acc0 : List D} {z0 : SS} (fn : D → D) (hl : acc0.length + items.length ≤ sizeLine)
    (step : ∀ (x : D), x ∈ items → ∀ N : D → SS → Prop, (∀ z, killAll own z = z0 → N (fn x) z) → ∃ z1, g x z0 = some z1 ∧ te z1 fun ev z3 => ∃ d, ev = .d d ∧ N d z3) (fin : k (acc0 ++ items.map fn) z0) : wLcL g own wYes te k items acc0 z0 := by
  refine lcL_inv (P := fun i acc z => acc = acc0 ++ (items.take i).map fn ∧ z = z0) (fun i x acc z e h N hN => ?_) (fun acc z h => ?_) ⟨by simp, rfl⟩
  · obtain ⟨ea, ez⟩ := h
    have hm := List.mem_of_getElem? e
    have hlt : i < items.length := (List.getElem?_eq_some_iff.mp e).1
    have hacc : acc.length < sizeLine := by
      rw [ea, List.length_append, List.length_map, List.length_take]
      omega
    have hn : N (acc ++ [fn x]) z0 := by
      refine hN _ _ ⟨?_, rfl⟩
      rw [ea, List.take_add_one, e]
      simp
    obtain ⟨z1, e1, w⟩ := step x hm (fun d z3 => acc.length < sizeLine ∧ N (acc ++ [d]) (killAll own z3)) fun z' hz => ⟨hacc, by rw [hz]; exact hn⟩
    rw [ez]
    exact ⟨z1, e1, i_yes (i_ifT rfl w)⟩
  · obtain ⟨ea, ez⟩ := h
    rw [ea, ez, List.take_length]
    exact fin
theorem lcL2_inv {g g1 : GS} {own vs1 : List Nat} {tt tt1 : WT} {s1 : WI} {te : WE} {k : List D → SS → Prop} {items : List D} (P : Nat → List D → SS → Prop)
    (step : ∀ (i : Nat) (x : D) (acc : List D) (z : SS), items[i]? = some x → P i acc z → ∀ N : List D → SS → Prop, (∀ acc' z', P (i + 1) acc' z' → N acc' z') →
      ∃ z1, g x z = some z1 ∧ tt z1 fun b z2 => if b = true then s1 z2 fun its z3 => wLcL g1 vs1 tt1 te (fun acc' z4 => N acc' (killAll own z4)) its acc (killAll vs1 z3) else N acc (killAll own z2))
    (fin : ∀ acc z, P items.length acc z → k acc z) {acc : List D} {z : SS} (h0 : P 0 acc z) : wLcL2 g own tt s1 g1 vs1 tt1 te k items acc z := by
  have go : ∀ (m i : Nat) (acc : List D) (z : SS), m = items.length - i → i ≤ items.length → P i acc z → wLcL2 g own tt s1 g1 vs1 tt1 te k (items.drop i) acc z := by
    intro m
    induction m with
    | zero =>
      intro i acc z hk hi p
      have e : i = items.length := by omega
      subst e
      rw [List.drop_length]
      exact fin acc z p
    | succ m ih =>
      intro i acc z hk hi p
      have hlt : i < items.length := by omega
      rw [List.drop_eq_getElem_cons hlt]
      obtain ⟨z1, e, w⟩ := step i items[i] acc z (List.getElem?_eq_getElem hlt) p (fun acc z' => wLcL2 g own tt s1 g1 vs1 tt1 te k (items.drop (i + 1)) acc z') fun acc z' p' => ih (i + 1) acc z' (by omega) hlt p'
      exact ⟨z1, e, w⟩
  have := go items.length 0 acc z (by simp) (Nat.zero_le _) h0
  simpa using this
theorem i_allM {z : SS} {items : List D} {fb : D → Bool} {k : RV → Prop} (h : k (.d (.bool (items.all fb)))) : sAll z (.d (.list (items.map fun x => PyData.bool (fb x)))) k :=
  i_all (bs := items.map fb) (by rw [List.map_map]; rfl) (by rw [List.all_map]; exact h)
theorem i_anyM {z : SS} {items : List D} {fb : D → Bool} {k : RV → Prop} (h : k (.d (.bool (items.any fb)))) : sAny z (.d (.list (items.map fun x => PyData.bool (fb x)))) k :=
  i_any (bs := items.map fb) (by rw [List.map_map]; rfl) (by rw [List.any_map]; exact h)
local macro_rules | `(tactic| walk_at "w2") => `(tactic| first
  | (with_reducible refine' i_allM ?_) | (with_reducible refine' i_anyM ?_))
local macro_rules | `(tactic| walk_at "w3") => `(tactic| first
  | ((with_reducible refine' j_ix ?h1 ?_); (case h1 => rfl))
  | ((with_reducible refine' i_asgK ?h1 ?_); (case h1 => rfl); (dsimp only [List.set_cons_succ, List.set_cons_zero]))
  | ((with_reducible refine' i_srcK ?h1 ?_); (case h1 => rfl))
  | ((with_reducible refine' i_enmK ?h1 ?_); (case h1 => rfl))
  | ((with_reducible refine' i_evD ?h1 ?h2 ?_); (case h1 => rfl); (case h2 => (intro l e; cases e; done)))
  | ((with_reducible refine' i_isD ?h1 ?_); (case h1 => assumption))
  | ((with_reducible refine' i_len ?h1 ?_); (case h1 => rfl)) | ((with_reducible refine' i_list ?h1 ?_); (case h1 => rfl)) | ((with_reducible refine' i_tuple ?h1 ?_); (case h1 => rfl)) | ((with_reducible refine' i_slL ?h1 ?_); (case h1 => rfl))
  | ((with_reducible refine' i_rngD ?h1 ?h2 ?_); (case h1 => (first | omega | decide)); (case h2 => (first | omega | decide))) | ((with_reducible refine' i_rngD2 ?h1 ?_); (case h1 => (first | omega | decide)))
  | ((with_reducible refine' i_lrgP ?h1 ?_); (case h1 => (apply RgOk.of_le <;> omega)))
  | ((with_reducible refine' j_put ?h1 ?_); (case h1 => rfl))
  | ((with_reducible refine' i_mul ?h1 ?_); (case h1 => (first | exact .inr (by decide) | exact .inl (by decide)))) | ((with_reducible refine' i_mod ?h1 ?_); (case h1 => (first | omega | decide)))
  | ((with_reducible refine' i_fdiv ?h1 ?_); (case h1 => (first | exact ⟨by decide, by decide⟩ | exact ⟨by omega, by omega⟩))) | ((with_reducible refine' i_pow ?h1 ?_); (case h1 => exact pow_ok (by decide)))
  | ((with_reducible refine' i_ifT ?h1 ?_); (case h1 => (first | rfl | assumption | (simp [isA]; done)))) | ((with_reducible refine' i_ifF ?h1 ?_); (case h1 => (first | rfl | assumption | (simp [isA]; done))))
  | ((with_reducible refine' j_pop ?h1 ?_); (case h1 => rfl))
  | ((with_reducible refine' j_append ?h1 ?_); (case h1 => (first | (simp [sizeLine_eq]; done) | (apply lt_line; omega)))))
local macro_rules | `(tactic| walk_at "w") => `(tactic| (try dsimp only [List.cons_append, List.nil_append, List.set_cons_succ, List.set_cons_zero, killAll]); repeat' (first | (with_reducible refine' Run.imp ?_) | walk_at "w3" | walk_at "w2" | fail "open"))
local macro_rules | `(tactic| walk_at "w0") => `(tactic| refine start_en ?_; simp only [startS, hasOwn, List.map_cons, List.map_nil, List.length_cons, List.length_nil, List.cons_append, List.nil_append, List.replicate, Nat.reduceAdd, Nat.reduceSub, Nat.zero_add])
local macro_rules | `(tactic| walk_at "n") => `(tactic| walk_at "w")


theorem v_is_whole : ∀ as R, p_is_whole as R → w_is_whole (retEn (hasOwn as) R) (startS 2 as) := by
  rintro as R ⟨v, lo, rfl, hv, q⟩
  unfold w_is_whole
  walk_at "w0"
  walk_at "w"
  cases v <;> (walk_at "w"; first | exact q | skip)
theorem v_is_within : ∀ as R, p_is_within as R → w_is_within (retEn (hasOwn as) R) (startS 3 as) := by
  rintro as R ⟨v, lo, hi, rfl, hv, q⟩
  unfold w_is_within
  walk_at "w0"
  walk_at "w"
  refine ⟨v, lo, rfl, hv, ?_⟩
  walk_at "w"
  cases v <;> (simp only [isWithin] at q; walk_at "w"; first | exact q | skip)
  rename_i i
  refine i_ifD (fun h => ?_) (fun h => ?_)
  · walk_at "w"
    rw [decide_eq_true h, Bool.true_and] at q
    exact q
  · walk_at "w"
    rw [decide_eq_false h, Bool.false_and] at q
    exact q
theorem low_mem (c : Nat) : decide (c ∈ [97, 98, 99, 100, 101, 102, 103, 104, 105, 106, 107, 108, 109, 110, 111, 112, 113, 114, 115, 116, 117, 118, 119, 120, 121, 122]) = lowC c := by
  rw [lowC, ← Bool.decide_and]
  refine decide_eq_decide.mpr ?_
  simp only [List.mem_cons, List.not_mem_nil, or_false]
  omega
theorem in_low (c : Nat) : (!(Builtin.Str.occurrences ("abcdefghijklmnopqrstuvwxyz" : Str) ⟨#[c]⟩ 0 ("abcdefghijklmnopqrstuvwxyz" : Str).length 1).isEmpty) = lowC c := by
  rw [PySem.StrLaws.found_one]
  exact low_mem c
theorem v_is_name : ∀ as R, p_is_name as R → w_is_name (retEn (hasOwn as) R) (startS 2 as) := by
  rintro as R ⟨v, rfl, hv, q⟩
  unfold w_is_name
  walk_at "w0"
  walk_at "w"
  cases v <;> (walk_at "w"; first | exact q | skip)
  rename_i s
  refine i_lenS (le_of_okS hv) ?_
  walk_at "w"
  have hl : s.length ≤ 1000 := of_decide_eq_true (hv : decide (s.length ≤ 1000) = true)
  simp only [isName] at q
  refine i_ifD (fun h => ?_) (fun h => ?_)
  · walk_at "w"
    refine i_ifD (fun h2 => ?_) (fun h2 => ?_)
    · walk_at "w"
      rw [decide_eq_true (show 2 ≤ s.length by omega), decide_eq_true (show s.length ≤ 8 by omega), Bool.true_and, Bool.true_and] at q
      refine lcL_map (fun x => .bool (letter x)) (by rw [signs, List.length_map]; exact le_line (by have : s.cps.toList.length = s.length := (by simp [Str.length]); omega)) (fun x hx N hN => ?_) ?_
      · obtain ⟨c, hc, rfl⟩ := List.mem_map.mp hx
        refine ⟨_, rfl, ?_⟩
        walk_at "w"
        refine ⟨_, _, rfl, rfl, _, rfl, ?_⟩
        exact i_exD (hN _ rfl)
      · walk_at "w"
        have e : (signs s).all letter = lowS s := by
          rw [signs, List.all_map, lowS]
          congr 1
          funext c
          exact in_low c
        rw [e]
        exact q
    · walk_at "w"
      rw [decide_eq_false (fun x : s.length ≤ 8 => h2 (by omega)), Bool.and_false, Bool.false_and] at q
      exact q
  · walk_at "w"
    rw [decide_eq_false (fun x : 2 ≤ s.length => h (by omega)), Bool.false_and, Bool.false_and] at q
    exact q

/-- a data tuple's items are small too -/
theorem okT {l : List D} (h : okD (.tuple l) = true) {d : D} (m : d ∈ l) : okD d = true := okA_mem h m
theorem v_are_kinds : ∀ as R, p_are_kinds as R → w_are_kinds (retEn (hasOwn as) R) (startS 5 as) := by
  rintro as R ⟨many, v, least, most, rfl, hv, hmost, q⟩
  unfold w_are_kinds
  walk_at "w0"
  walk_at "w"
  cases v <;> (walk_at "w"; first | exact q | skip)
  rename_i l
  simp only [areKinds] at q
  refine i_ifD (fun h => ?_) (fun h => ?_)
  · walk_at "w"
    refine i_ifB (fun h2 => ?_) (fun h2 => ?_)
    · have h3 : ¬ (l.length : Int) ≤ most := by simpa using h2
      walk_at "w"
      rw [decide_eq_true h, decide_eq_false h3] at q
      exact q
    · have h3 : (l.length : Int) ≤ most := by simpa using h2
      walk_at "w"
      rw [decide_eq_true h, decide_eq_true h3] at q
      refine lcL_map (fun x => .bool (isWithin x 0 (many - 1))) ?_ (fun x hx N hN => ?_) ?_
      · exact le_line (by omega)
      · refine ⟨_, rfl, ?_⟩
        walk_at "w"
        refine ⟨x, _, _, rfl, okT hv hx, ?_⟩
        walk_at "w"
        exact hN _ rfl
      · walk_at "w"
        exact q
  · walk_at "w"
    rw [decide_eq_false h] at q
    exact q

theorem tup2 {l : List D} (h : (l.length : Int) = 2) : ∃ a b, l = [a, b] := by
  match l, h with
  | [a, b], _ => exact ⟨a, b, rfl⟩
  | [], h => simp at h
  | [a], h => simp at h
  | a :: b :: c :: r, h => simp at h; omega
theorem isCons_ne {many : Int} {l : List D} (h : ¬ (l.length : Int) = 2) : isCons many (.tuple l) = false := by
  match l, h with
  | [a, b], h => exact absurd rfl h
  | [], h => rfl
  | [a], h => rfl
  | a :: b :: c :: r, h => rfl
theorem v_is_constructor : ∀ as R, p_is_constructor as R → w_is_constructor (retEn (hasOwn as) R) (startS 2 as) := by
  rintro as R ⟨many, v, rfl, hv, q⟩
  unfold w_is_constructor
  walk_at "w0"
  walk_at "w"
  cases v <;> (walk_at "w"; first | exact q | skip)
  rename_i l
  refine i_ifB (fun h => ?_) (fun h => ?_)
  · have h3 : ¬ (l.length : Int) = 2 := by simpa using h
    walk_at "w"
    rw [isCons_ne h3] at q
    exact q
  · have h3 : (l.length : Int) = 2 := by simpa using h
    obtain ⟨a, b, rfl⟩ := tup2 h3
    walk_at "w"
    refine ⟨a, rfl, okT hv (by simp), ?_⟩
    walk_at "w"
    simp only [isCons] at q
    refine i_ifB (fun h => ?_) (fun h => ?_)
    · have h4 : isName a = false := by simpa using h
      walk_at "w"
      rw [h4] at q
      exact q
    · have h4 : isName a = true := by simpa using h
      walk_at "w"
      refine ⟨many, b, _, _, rfl, okT hv (by simp), by decide, ?_⟩
      walk_at "w"
      rw [h4] at q
      exact q
theorem isRow_ne {many : Int} {l : List D} (h : ¬ (l.length : Int) = 2) : isRow many (.tuple l) = false := by
  match l, h with
  | [a, b], h => exact absurd rfl h
  | [], h => rfl
  | [a], h => simp [isRow]
  | a :: b :: c :: r, h => simp [isRow]
theorem isRow_nt {many : Int} {s : Str} {b : D} (h : isA "tuple" b = false) : isRow many (.tuple [.str s, b]) = false := by
  cases b <;> first | rfl | (simp [isA] at h)
theorem isA_str {a : D} (h : isA "str" a = true) : ∃ s, a = .str s := by
  cases a <;> first | exact ⟨_, rfl⟩ | (simp [isA] at h)
theorem isA_tup {a : D} (h : isA "tuple" a = true) : ∃ s, a = .tuple s := by
  cases a <;> first | exact ⟨_, rfl⟩ | (simp [isA] at h)
theorem isRow_ns {many : Int} {a b : D} (h : isA "str" a = false) : isRow many (.tuple [a, b]) = false := by
  cases a <;> first | rfl | (simp [isA] at h)
theorem v_is_kind_row : ∀ as R, p_is_kind_row as R → w_is_kind_row (retEn (hasOwn as) R) (startS 3 as) := by
  rintro as R ⟨many, v, rfl, hv, q⟩
  unfold w_is_kind_row
  walk_at "w0"
  walk_at "w"
  cases v <;> (walk_at "w"; first | exact q | skip)
  rename_i l
  refine i_ifB (fun h => ?_) (fun h => ?_)
  · have h3 : ¬ (l.length : Int) = 2 := by simpa using h
    walk_at "w"
    rw [isRow_ne h3] at q
    exact q
  · have h3 : (l.length : Int) = 2 := by simpa using h
    obtain ⟨a, b, rfl⟩ := tup2 h3
    have ha : okD a = true := okT hv (by simp)
    have hb : okD b = true := okT hv (by simp)
    walk_at "w"
    refine i_ifB (fun h => ?_) (fun h => ?_)
    · have h4 : isA "str" a = false := by simpa using h
      walk_at "w"
      rw [isRow_ns h4] at q
      exact q
    · have h4 : isA "str" a = true := by simpa using h
      obtain ⟨s, rfl⟩ := isA_str h4
      walk_at "w"
      refine ⟨_, _, rfl, rfl, rfl, rfl, by simp [PyData.depth, PyData.depthAll], ?_⟩
      walk_at "w"
      have es : ([PyData.str (Str.ofString "closed"), PyData.str (Str.ofString "open")].any fun y => PyData.eqv y (.str s)) = (decide (s = ("closed" : Str)) || decide (s = ("open" : Str))) := by
        simp only [List.any_cons, List.any_nil, eqv_str, Bool.or_false]
        congr 1 <;> exact decide_eq_decide.mpr ⟨Eq.symm, Eq.symm⟩
      refine i_ifB (fun h => ?_) (fun h => ?_)
      · have h5 : (decide (s = ("closed" : Str)) || decide (s = ("open" : Str))) = false := by
          rw [← es]
          simpa using h
        walk_at "w"
        have : isRow many (.tuple [.str s, b]) = false := by
          cases b <;> first | rfl | (simp only [isRow, h5, Bool.false_and])
        rw [this] at q
        exact q
      · have h5 : (decide (s = ("closed" : Str)) || decide (s = ("open" : Str))) = true := by
          rw [← es]
          exact Bool.not_inj (y := true) h
        walk_at "w"
        refine i_ifB (fun h => ?_) (fun h => ?_)
        · have h6 : isA "tuple" b = false := by simpa using h
          walk_at "w"
          rw [isRow_nt h6] at q
          exact q
        · have h6 : isA "tuple" b = true := by simpa using h
          obtain ⟨rows, rfl⟩ := isA_tup h6
          walk_at "w"
          simp only [isRow, h5, Bool.true_and] at q
          refine i_ifD (fun h => ?_) (fun h => ?_)
          · walk_at "w"
            rw [decide_eq_false (by omega)] at q
            exact q
          · walk_at "w"
            rw [decide_eq_true (show rows.length ≤ 4 by omega)] at q
            refine lcL_map (fun x => .bool (isCons many x)) (le_line (by omega)) (fun x hx N hN => ?_) ?_
            · refine ⟨_, rfl, ?_⟩
              walk_at "w"
              refine ⟨many, x, rfl, okT hb hx, ?_⟩
              walk_at "w"
              exact hN _ rfl
            · walk_at "w"
              exact q
end L3
namespace L3
open PySem PySem.Spec PyProof.Rows L2 PySem.SeqAt
abbrev Cn := Str × List Nat
abbrev Rw := Bool × List Cn
abbrev Sg := List Rw
def nsD (l : List Nat) : List D := l.map fun n => .int (n : Nat)
def consD (c : Cn) : D := .tuple [.str c.1, .tuple (nsD c.2)]
def rowD (r : Rw) : D := .tuple [.str (if r.1 then "open" else "closed"), .tuple (r.2.map consD)]
def sigD (s : Sg) : D := .tuple (s.map rowD)
def wfCons (n : Nat) (c : Cn) : Prop := isName (.str c.1) = true ∧ c.2.length ≤ 2 ∧ ∀ p ∈ c.2, p < n
def wfRow (n : Nat) (r : Rw) : Prop := r.2.length ≤ 4 ∧ ∀ c ∈ r.2, wfCons n c
def Wf (s : Sg) : Prop := 1 ≤ s.length ∧ s.length ≤ 3 ∧ ∀ r ∈ s, wfRow s.length r
def namesOf (s : Sg) : List Str := s.flatMap fun r => r.2.map Prod.fst
inductive Filled (s : Sg) : Nat → Prop
  | op {k : Nat} {r : Rw} : s[k]? = some r → r.1 = true → Filled s k
  | co {k : Nat} {r : Rw} {c : Cn} : s[k]? = some r → c ∈ r.2 → (∀ p ∈ c.2, Filled s p) → Filled s k
def Whole (s : Sg) : Prop := ∀ k, k < s.length → Filled s k
def IsSig (v : D) : Prop := ∃ s, v = sigD s ∧ Wf s ∧ (namesOf s).Nodup ∧ Whole s

noncomputable def isSig (v : D) : Bool := @decide (IsSig v) (Classical.propDecidable _)
def p_filled_kinds : FS := fun as R => ∃ s, as = [.val (sigD s)] ∧ Wf s ∧ ∀ f : List Nat, f.Nodup → (∀ k, k ∈ f ↔ k < s.length ∧ Filled s k) → R (.n (nsD f)) none
def p_is_signature : FS := fun as R => ∃ v, as = [.val v] ∧ okD v = true ∧ R (.d (.bool (isSig v))) none
theorem m_filled_kinds : MonoF p_filled_kinds := fun as R R' h ⟨s, e, a, k⟩ => ⟨s, e, a, fun f x y => h _ _ (k f x y)⟩
theorem l_filled_kinds : ∀ as R, p_filled_kinds as R → as.length = 1 := fun as R ⟨v, e, _⟩ => by rw [e]; rfl
theorem m_is_signature : MonoF p_is_signature := fun as R R' h ⟨v, e, a, k⟩ => ⟨v, e, a, h _ _ k⟩
theorem l_is_signature : ∀ as R, p_is_signature as R → as.length = 1 := fun as R ⟨v, e, _⟩ => by rw [e]; rfl
theorem nodup_len : ∀ {n : Nat} {f : List Nat}, f.Nodup → (∀ k ∈ f, k < n) → f.length ≤ n
  | 0, f, _, b => by
    cases f with
    | nil => exact Nat.le_refl 0
    | cons a r => exact absurd (b a (by simp)) (by omega)
  | n + 1, f, h, b => by
    have h1 := nodup_len (n := n) (h.erase n) fun k hk => by
      have := (h.mem_erase_iff).mp hk
      have := b k this.2
      omega
    by_cases hm : n ∈ f
    · rw [List.length_erase_of_mem hm] at h1
      omega
    · rw [List.erase_of_not_mem hm] at h1
      omega
theorem nodup_full {n : Nat} {f : List Nat} (h : f.Nodup) (b : ∀ k ∈ f, k < n) (l : n ≤ f.length) {k : Nat} (hk : k < n) : k ∈ f := by
  by_cases hm : k ∈ f
  · exact hm
  · have := nodup_len (n := n) (f := k :: f) (List.nodup_cons.mpr ⟨hm, h⟩) fun j hj => by
      rcases List.mem_cons.mp hj with e | e
      · omega
      · exact b j e
    simp at this
    omega
theorem nodup_sub {α : Type} [BEq α] [LawfulBEq α] : ∀ {a b : List α}, a.Nodup → (∀ x ∈ a, x ∈ b) → a.length ≤ b.length
  | [], b, _, _ => Nat.zero_le _
  | x :: a, b, h, s => by
    obtain ⟨h1, h2⟩ := List.nodup_cons.mp h
    have hx := s x (by simp)
    have := nodup_sub (a := a) (b := b.erase x) h2 fun y hy => (List.mem_erase_of_ne (by rintro rfl; exact h1 hy)).mpr (s y (by simp [hy]))
    rw [List.length_erase_of_mem hx] at this
    have := List.length_pos_of_mem hx
    simp
    omega
def opens (s : Sg) : List Nat := (s.zipIdx.filter fun p => p.1.1).map Prod.snd
theorem mem_opens {s : Sg} {k : Nat} : k ∈ opens s ↔ ∃ r, s[k]? = some r ∧ r.1 = true := by
  unfold opens
  constructor
  · intro h
    obtain ⟨p, hp, rfl⟩ := List.mem_map.mp h
    obtain ⟨h1, h2⟩ := List.mem_filter.mp hp
    exact ⟨p.1, List.mem_zipIdx_iff_getElem?.mp h1, h2⟩
  · rintro ⟨r, e, o⟩
    exact List.mem_map.mpr ⟨(r, k), List.mem_filter.mpr ⟨List.mem_zipIdx_iff_getElem?.mpr e, o⟩, rfl⟩
theorem opens_nodup (s : Sg) : (opens s).Nodup := by
  have h : (s.zipIdx.map Prod.snd).Nodup := by
    rw [List.zipIdx_map_snd]
    exact List.nodup_range'
  exact List.Nodup.sublist (List.filter_sublist.map _) h
theorem lt_of_get {α : Type} {s : List α} {k : Nat} {r : α} (h : s[k]? = some r) : k < s.length := (List.getElem?_eq_some_iff.mp h).1
def can (s : Sg) (F : List Nat) (k : Nat) : Prop := ∃ r, s[k]? = some r ∧ ∃ c ∈ r.2, ∀ p ∈ c.2, p ∈ F
structure FI (s : Sg) (F : List Nat) : Prop where
  nd : F.Nodup
  fl : ∀ k ∈ F, k < s.length ∧ Filled s k
  op : ∀ k ∈ opens s, k ∈ F
theorem FI.len {s : Sg} {F : List Nat} (h : FI s F) : F.length ≤ s.length := nodup_len h.nd fun k hk => (h.fl k hk).1
theorem FI.add {s : Sg} {F : List Nat} {k : Nat} (h : FI s F) (hk : k ∉ F) (c : can s F k) : FI s (F ++ [k]) := by
  obtain ⟨r, e, c, hc, hp⟩ := c
  refine ⟨List.nodup_append.mpr ⟨h.nd, by simp, fun a ha b hb => ?_⟩, fun j hj => ?_, fun j hj => List.mem_append_left _ (h.op j hj)⟩
  · rintro rfl
    simp at hb
    exact hk (hb ▸ ha)
  · rcases List.mem_append.mp hj with hj | hj
    · exact h.fl j hj
    · simp at hj
      subst hj
      exact ⟨lt_of_get e, .co e hc fun p hq => (h.fl p (hp p hq)).2⟩
theorem FI.all {s : Sg} {F : List Nat} (h : FI s F) (cl : ∀ k, can s F k → k ∈ F) (k : Nat) : k ∈ F ↔ k < s.length ∧ Filled s k := by
  have go : ∀ k, Filled s k → k ∈ F := fun k f => by
    induction f with
    | op e o => exact h.op _ (mem_opens.mpr ⟨_, e, o⟩)
    | co e hc _ ih => exact cl _ ⟨_, e, _, hc, ih⟩
  exact ⟨h.fl k, fun x => go k x.2⟩
theorem in_ns (F : List Nat) (k : Nat) : ((nsD F).any fun y => PyData.eqv y (.int (k : Nat))) = decide (k ∈ F) := by
  rw [Bool.eq_iff_iff, List.any_eq_true, decide_eq_true_eq]
  constructor
  · rintro ⟨y, hy, e⟩
    obtain ⟨n, hn, rfl⟩ := List.mem_map.mp hy
    rw [eqv_int] at e
    have := of_decide_eq_true e
    have e2 : n = k := by omega
    exact e2 ▸ hn
  · intro h
    exact ⟨_, List.mem_map.mpr ⟨k, h, rfl⟩, by rw [eqv_int]; exact decide_eq_true rfl⟩
theorem plain_ns : ∀ (F : List Nat), PyData.plainAll (nsD F) = true
  | [] => rfl
  | n :: F => by
    have := plain_ns F
    simp only [nsD, List.map_cons, PyData.plainAll, PyData.plain, Bool.true_and] at this ⊢
    exact this

theorem i_notinNs {z : SS} {ev ew : EV} {F : List Nat} {n : Nat} {k : RV → Prop} (e : evD z ev = some (.int (n : Nat))) (e2 : evD z ew = some (.list (nsD F))) (h : k (.d (.bool (!decide (n ∈ F))))) : sNotIn z ev ew k :=
  ⟨_, _, e, e2, plain_ns _, rfl, by simp [PyData.depth], by rw [in_ns]; exact h⟩
def opF (x : D) : Option D := match x with
  | .dict [(.none, .tuple [k, .tuple [.str h, _]])] => if h = ("open" : Str) then some k else none
  | _ => none
theorem open_ne : ("closed" : Str) ≠ ("open" : Str) := by decide
theorem opF_row (k : Nat) (r : Rw) : opF (wt [.int (k : Nat), rowD r]) = if r.1 then some (.int (k : Nat)) else none := by
  unfold rowD opF wt
  cases r.1 with
  | true => simp
  | false => simp [open_ne]
theorem enum_sig (s : Sg) : enumD (s.map rowD) = s.zipIdx.map fun p => wt [.int (p.2 : Nat), rowD p.1] := by
  unfold enumD
  rw [List.zipIdx_map, List.map_map]
  rfl
theorem opens_eq (s : Sg) : (enumD (s.map rowD)).filterMap opF = nsD (opens s) := by
  rw [enum_sig, List.filterMap_map, nsD, opens, List.map_map]
  induction s.zipIdx with
  | nil => rfl
  | cons p r ih =>
    rw [List.filterMap_cons, List.filter_cons]
    simp only [Function.comp, opF_row] at ih ⊢
    cases p.1.1 with
    | true => simp [ih]
    | false => simp [ih]
def canD (F : List Nat) (x : D) : Bool := match x with
  | .tuple [_, .tuple ps] => ps.all fun p => (nsD F).any fun y => PyData.eqv y p
  | _ => false
theorem can_eq (F : List Nat) (cs : List Cn) : ((cs.map consD).any (canD F) = true) ↔ ∃ c ∈ cs, ∀ p ∈ c.2, p ∈ F := by
  rw [List.any_map, List.any_eq_true]
  have e : ∀ c : Cn, (canD F ∘ consD) c = true ↔ ∀ p ∈ c.2, p ∈ F := fun c => by
    simp only [Function.comp, consD, canD, nsD, List.all_map, List.all_eq_true]
    constructor
    · intro h p hp
      have := h p hp
      have e := in_ns F p
      unfold nsD at e
      rw [e] at this
      exact of_decide_eq_true this
    · intro h p hp
      have e := in_ns F p
      unfold nsD at e
      rw [e]
      exact decide_eq_true (h p hp)
  constructor
  · rintro ⟨c, hc, h⟩
    exact ⟨c, hc, (e c).mp h⟩
  · rintro ⟨c, hc, h⟩
    exact ⟨c, hc, (e c).mpr h⟩
theorem row_get {s : Sg} {i : Nat} {x : D} (h : (enumD (s.map rowD))[i]? = some x) : ∃ r, s[i]? = some r ∧ x = wt [.int (i : Nat), rowD r] := by
  rw [enum_sig, List.getElem?_map] at h
  obtain ⟨p, e, rfl⟩ := Option.map_eq_some_iff.mp h
  rw [List.getElem?_zipIdx] at e
  obtain ⟨r, e1, rfl⟩ := Option.map_eq_some_iff.mp e
  exact ⟨r, e1, by simp⟩
/-- 0 signature, 1 found, 2 turn, 3 kind, 4 row, 5 name, 6 parts, 7 part -/
def w_filled_kinds : WS :=
(wSeq (wSetO 1 (wLc (wEnum (wCons (wVar 0) wNil)) (gTp [(gNm 3), (gNm 4)]) [3, 4] (wTest (wBin sEq (wBin sIx (wVar 4) (wC (.int 0))) (wC (.str "open")))) (wVar 3)))
 (wSeq (wFor (wSrc (wVar 0)) (gNm 2)
 (wKill [2, 3, 4] (wFor (wEnum (wCons (wVar 0) wNil)) (gTp [(gNm 3), (gNm 4)])
 (wKill [3, 4] (wIfS (wAnd (wTest (wBin sNotIn (wVar 3) (wVar 1))) (wTest (wFrz (wCB (f1 sAny) (wCons (wFrz (wLc (wSrc (wBin sIx (wVar 4) (wC (.int 1)))) (gTp [(gNm 5), (gNm 6)]) [5, 6] wYes (wFrz (wCB (f1 sAll) (wCons (wFrz (wLc (wSrc (wVar 6)) (gNm 7) [7] wYes (wBin sIn (wVar 7) (wVar 1)))) wNil))))) wNil)))))
 (wDrop (wFrz (wBM "list" mAppend (wVar 1) (wCons (wVar 3) wNil))))
 wNext)))))
 (wRetO 1)))
/-- 0 value, 1 names, 2 row, 3 name, 4 parts -/
def w_is_signature : WS :=
(wSeq (wIfS (wOr (wNot (wTest (wIsa "tuple" (wVar 0)))) (wNot (wTest (wChain sLe sLe (wC (.int 1)) (wFrz (wCB (f1 sLen) (wCons (wVar 0) wNil))) (wC (.int 3))))))
 (wRet (wC (.bool false)))
 wNext)
 (wSeq (wIfS (wNot (wTest (wFrz (wCB (f1 sAll) (wCons (wFrz (wLc (wSrc (wVar 0)) (gNm 2) [2] wYes (wFrz (wCall p_is_kind_row (wCons (wFrz (wCB (f1 sLen) (wCons (wVar 0) wNil))) (wCons (wVar 2) wNil)))))) wNil)))))
 (wRet (wC (.bool false)))
 wNext)
 (wSeq (wSet 1 (wFrz (wLc2 (wSrc (wVar 0)) (gNm 2) [2, 3, 4] wYes (wSrc (wBin sIx (wVar 2) (wC (.int 1)))) (gTp [(gNm 3), (gNm 4)]) [3, 4] wYes (wVar 3))))
 (wSeq (wIfS (wTest (wFrz (wCB (f1 sAny) (wCons (wFrz (wLc (wSrc (wVar 1)) (gNm 3) [3] wYes (wBin sGt (wFrz (wBM "list" mCount (wVar 1) (wCons (wVar 3) wNil))) (wC (.int 1))))) wNil))))
 (wRet (wC (.bool false)))
 wNext)
 (wRet (wBin sEq (wFrz (wCB (f1 sLen) (wCons (wFrz (wCall p_filled_kinds (wCons (wVar 0) wNil))) wNil))) (wFrz (wCB (f1 sLen) (wCons (wVar 0) wNil)))))))))
local macro_rules | `(tactic| walk_at "w2") => `(tactic| first
  | (with_reducible refine' i_allM ?_) | (with_reducible refine' i_anyM ?_))
local macro_rules | `(tactic| walk_at "w3") => `(tactic| first
  | ((with_reducible refine' j_ix ?h1 ?_); (case h1 => rfl))
  | ((with_reducible refine' i_asgK ?h1 ?_); (case h1 => rfl); (dsimp only [List.set_cons_succ, List.set_cons_zero]))
  | ((with_reducible refine' i_srcK ?h1 ?_); (case h1 => rfl))
  | ((with_reducible refine' i_enmK ?h1 ?_); (case h1 => rfl))
  | ((with_reducible refine' i_evD ?h1 ?h2 ?_); (case h1 => rfl); (case h2 => (intro l e; cases e; done)))
  | ((with_reducible refine' i_isD ?h1 ?_); (case h1 => assumption))
  | ((with_reducible refine' i_len ?h1 ?_); (case h1 => rfl)) | ((with_reducible refine' i_list ?h1 ?_); (case h1 => rfl)) | ((with_reducible refine' i_tuple ?h1 ?_); (case h1 => rfl)) | ((with_reducible refine' i_slL ?h1 ?_); (case h1 => rfl))
  | ((with_reducible refine' i_rngD ?h1 ?h2 ?_); (case h1 => (first | omega | decide)); (case h2 => (first | omega | decide))) | ((with_reducible refine' i_rngD2 ?h1 ?_); (case h1 => (first | omega | decide)))
  | ((with_reducible refine' i_lrgP ?h1 ?_); (case h1 => (apply RgOk.of_le <;> omega)))
  | ((with_reducible refine' j_put ?h1 ?_); (case h1 => rfl))
  | ((with_reducible refine' i_mul ?h1 ?_); (case h1 => (first | exact .inr (by decide) | exact .inl (by decide)))) | ((with_reducible refine' i_mod ?h1 ?_); (case h1 => (first | omega | decide)))
  | ((with_reducible refine' i_fdiv ?h1 ?_); (case h1 => (first | exact ⟨by decide, by decide⟩ | exact ⟨by omega, by omega⟩))) | ((with_reducible refine' i_pow ?h1 ?_); (case h1 => exact pow_ok (by decide)))
  | ((with_reducible refine' i_ifT ?h1 ?_); (case h1 => (first | rfl | assumption | (simp [isA]; done)))) | ((with_reducible refine' i_ifF ?h1 ?_); (case h1 => (first | rfl | assumption | (simp [isA]; done))))
  | ((with_reducible refine' j_pop ?h1 ?_); (case h1 => rfl))
  | ((with_reducible refine' j_append ?h1 ?_); (case h1 => (first | (simp [sizeLine_eq]; done) | (apply lt_line; omega)))))
local macro_rules | `(tactic| walk_at "w") => `(tactic| (try dsimp only [List.cons_append, List.nil_append, List.set_cons_succ, List.set_cons_zero, killAll]); repeat' (first | (with_reducible refine' Run.imp ?_) | walk_at "w3" | walk_at "w2" | fail "open"))
local macro_rules | `(tactic| walk_at "w0") => `(tactic| refine start_en ?_; simp only [startS, hasOwn, List.map_cons, List.map_nil, List.length_cons, List.length_nil, List.cons_append, List.nil_append, List.replicate, Nat.reduceAdd, Nat.reduceSub, Nat.zero_add])
local macro_rules | `(tactic| walk_at "n") => `(tactic| walk_at "w")



def fillZ (s : Sg) (F : List Nat) : SS := [some (.val (sigD s)), some (.own none (nsD F)), none, none, none, none, none, none]
theorem nsD_app (F : List Nat) (k : Nat) : nsD (F ++ [k]) = nsD F ++ [.int (k : Nat)] := by simp [nsD]
theorem v_filled_kinds : ∀ as R, p_filled_kinds as R → w_filled_kinds (retEn (hasOwn as) R) (startS 8 as) := by
  rintro as R ⟨s, rfl, hs, q⟩
  unfold w_filled_kinds
  walk_at "w0"
  unfold sigD
  walk_at "w"
  have hl : (enumD (s.map rowD)).length ≤ sizeLine := by
    rw [enumD_len, List.length_map]
    exact le_line (by have := hs.2.1; omega)
  refine lcL_fm opF hl (fun x hx N hN => ?_) ?_
  · obtain ⟨i, hi⟩ := List.mem_iff_getElem?.mp hx
    obtain ⟨r, hr, rfl⟩ := row_get hi
    rw [opF_row] at hN
    unfold rowD
    refine ⟨_, rfl, ?_⟩
    walk_at "w"
    cases h : r.1 with
    | true =>
      rw [h] at hN
      walk_at "w"
      exact hN _ rfl
    | false =>
      rw [h] at hN
      walk_at "w"
      exact hN _ rfl
  rw [opens_eq]
  walk_at "w"
  refine forL_inv (P := fun i z => ∃ F, z = fillZ s F ∧ FI s F ∧ ((∀ k, can s F k → k ∈ F) ∨ i ≤ F.length)) (fun i x z hx p N hN => ?_) (fun z p => ?_) ⟨opens s, rfl, ⟨opens_nodup s, fun k hk => ?_, fun k hk => hk⟩, .inr (Nat.zero_le _)⟩
  · obtain ⟨F, rfl, hF, hc⟩ := p
    refine ⟨_, rfl, ?_⟩
    unfold fillZ sigD
    walk_at "w"
    refine forL_inv (P := fun j z => ∃ F', z = (fillZ s F').set 2 (some (.val x)) ∧ FI s F' ∧ (∀ k, k ∈ F → k ∈ F') ∧ ((F' = F ∧ ∀ k, k < j → can s F k → k ∈ F) ∨ F.length < F'.length)) (fun j y z hy p N2 hN2 => ?_) (fun z p => ?_) ⟨F, rfl, hF, fun k hk => hk, .inl ⟨rfl, fun k hk => absurd hk (by omega)⟩⟩
    · obtain ⟨F', rfl, hF', hs', hc'⟩ := p
      obtain ⟨r, hr, rfl⟩ := row_get hy
      unfold fillZ sigD rowD
      refine ⟨_, rfl, ?_⟩
      have hj := lt_of_get hr
      walk_at "w"
      have hr4 : r.2.length ≤ 4 := (hs.2.2 r (List.mem_of_getElem? hr)).1
      have hF3 := hF'.len
      have hs3 := hs.2.1
      refine i_notinNs rfl rfl ?_
      walk_at "w"
      refine i_ifB (fun h1 => ?_) (fun h1 => ?_)
      · have hm : j ∉ F' := by simpa using h1
        walk_at "w"
        refine lcL_map (fun x => .bool (canD F' x)) (by rw [List.length_map]; exact le_line (by omega)) (fun c hc N3 hN3 => ?_) ?_
        · obtain ⟨c, hc1, rfl⟩ := List.mem_map.mp hc
          unfold consD
          refine ⟨_, rfl, ?_⟩
          walk_at "w"
          refine lcL_map (fun p => .bool ((nsD F').any fun y => PyData.eqv y p)) ?_ (fun p hp N4 hN4 => ?_) ?_
          · have := ((hs.2.2 r (List.mem_of_getElem? hr)).2 c hc1).2.1
            rw [nsD, List.length_map]
            exact le_line (by omega)
          · obtain ⟨n, hn, rfl⟩ := List.mem_map.mp hp
            refine ⟨_, rfl, ?_⟩
            walk_at "w"
            refine ⟨_, _, rfl, rfl, plain_ns _, rfl, by simp [PyData.depth], ?_⟩
            exact i_exD (hN4 _ rfl)
          · walk_at "w"
            exact hN3 _ rfl
        · walk_at "w"
          refine i_ifB (fun h2 => ?_) (fun h2 => ?_)
          · have hcan : can s F' j := ⟨r, hr, (can_eq F' r.2).mp h2⟩
            walk_at "w"
            refine i_append rfl ?_ ?_
            · rw [nsD, List.length_map]
              exact lt_line (by omega)
            · refine hN2 _ ⟨F' ++ [j], ?_, hF'.add hm hcan, fun k hk => List.mem_append_left _ (hs' k hk), .inr ?_⟩
              · simp only [fillZ, nsD_app]
                rfl
              · rw [List.length_append]
                rcases hc' with ⟨rfl, _⟩ | h
                · simp
                · omega
          · walk_at "w"
            refine hN2 _ ⟨F', rfl, hF', hs', ?_⟩
            rcases hc' with ⟨rfl, h⟩ | h
            · refine .inl ⟨rfl, fun k hk hc => ?_⟩
              by_cases e : k = j
              · subst e
                obtain ⟨r2, e2, hc2⟩ := hc
                rw [hr] at e2
                cases e2
                have := (can_eq F' r.2).mpr hc2
                rw [this] at h2
                cases h2
              · exact h k (by omega) hc
            · exact .inr h
      · have hm : j ∈ F' := by simpa using h1
        walk_at "w"
        refine hN2 _ ⟨F', rfl, hF', hs', ?_⟩
        rcases hc' with ⟨rfl, h⟩ | h
        · refine .inl ⟨rfl, fun k hk hc => ?_⟩
          by_cases e : k = j
          · rw [e]; exact hm
          · exact h k (by omega) hc
        · exact .inr h
    · obtain ⟨F', rfl, hF', hs', hc'⟩ := p
      refine hN _ ⟨F', rfl, hF', ?_⟩
      rw [enumD_len, List.length_map] at hc'
      rcases hc' with ⟨rfl, h⟩ | h
      · refine .inl fun k hk => ?_
        obtain ⟨r, hr, _⟩ := id hk
        exact h k (lt_of_get hr) hk
      · rcases hc with hc | hc
        · refine .inl fun k hk => ?_
          obtain ⟨r, hr, c, hc1, hp⟩ := hk
          exact hs' k (hc k ⟨r, hr, c, hc1, fun p h => (hF.all hc p).mpr (hF'.fl p (hp p h))⟩)
        · exact .inr (by omega)
  · obtain ⟨F, rfl, hF, hc⟩ := p
    unfold fillZ
    walk_at "w"
    refine q F hF.nd (hF.all ?_)
    rcases hc with hc | hc
    · exact hc
    · rw [List.length_map] at hc
      intro k ⟨r, hr, _⟩
      exact nodup_full hF.nd (fun k hk => (hF.fl k hk).1) hc (lt_of_get hr)
  · obtain ⟨r, hr, ho⟩ := mem_opens.mp hk
    exact ⟨lt_of_get hr, .op hr ho⟩

theorem all_form {α : Type} {f : α → D} {p : D → Bool} {w : α → Prop} (h : ∀ d, p d = true ↔ ∃ a, d = f a ∧ w a) : ∀ l : List D, l.all p = true ↔ ∃ as : List α, l = as.map f ∧ ∀ a ∈ as, w a
  | [] => ⟨fun _ => ⟨[], rfl, by simp⟩, fun _ => rfl⟩
  | d :: l => by
    rw [List.all_cons, Bool.and_eq_true, h d, all_form h l]
    constructor
    · rintro ⟨⟨a, rfl, ha⟩, as, rfl, has⟩
      exact ⟨a :: as, rfl, fun b hb => (List.mem_cons.mp hb).elim (fun e => e ▸ ha) (has b)⟩
    · rintro ⟨as, e, has⟩
      cases as with
      | nil => cases e
      | cons a as =>
        rw [List.map_cons] at e
        cases e
        exact ⟨⟨a, rfl, has a (by simp)⟩, as, rfl, fun b hb => has b (by simp [hb])⟩
theorem within_iff (n : Nat) (d : D) : isWithin d 0 ((n : Int) - 1) = true ↔ ∃ k : Nat, d = .int (k : Nat) ∧ k < n := by
  constructor
  · intro h
    cases d with
    | int i =>
      simp only [isWithin, Bool.and_eq_true, decide_eq_true_eq] at h
      exact ⟨i.toNat, by congr 1; omega, by omega⟩
    | none => cases h
    | bool b => cases h
    | str s => cases h
    | list l => cases h
    | tuple l => cases h
    | dict l => cases h
  · rintro ⟨k, rfl, h⟩
    simp only [isWithin, Bool.and_eq_true, decide_eq_true_eq]
    omega
theorem areKinds_iff (n : Nat) (d : D) : areKinds n d 0 2 = true ↔ ∃ l : List Nat, d = .tuple (nsD l) ∧ l.length ≤ 2 ∧ ∀ p ∈ l, p < n := by
  constructor
  · intro h
    cases d with
    | tuple l =>
      simp only [areKinds, Bool.and_eq_true, decide_eq_true_eq] at h
      obtain ⟨as, rfl, ha⟩ := (all_form (within_iff n) l).mp h.2
      have := h.1.2
      rw [List.length_map] at this
      exact ⟨as, rfl, by omega, ha⟩
    | none => cases h
    | bool b => cases h
    | str s => cases h
    | list l => cases h
    | int l => cases h
    | dict l => cases h
  · rintro ⟨l, rfl, h, hp⟩
    simp only [areKinds, Bool.and_eq_true, decide_eq_true_eq]
    refine ⟨⟨by omega, by rw [nsD, List.length_map]; omega⟩, (all_form (within_iff n) _).mpr ⟨l, rfl, hp⟩⟩
theorem isCons_iff (n : Nat) (d : D) : isCons n d = true ↔ ∃ c, d = consD c ∧ wfCons n c := by
  constructor
  · intro h
    match d, h with
    | .tuple [a, b], h =>
      simp only [isCons, Bool.and_eq_true] at h
      obtain ⟨l, rfl, h1, h2⟩ := (areKinds_iff n b).mp h.2
      cases a with
      | str x => exact ⟨(x, l), rfl, h.1, h1, h2⟩
      | none => cases h.1
      | bool b => cases h.1
      | int s => cases h.1
      | list l => cases h.1
      | tuple l => cases h.1
      | dict l => cases h.1
  · rintro ⟨c, rfl, h1, h2, h3⟩
    simp only [isCons, consD, Bool.and_eq_true]
    exact ⟨h1, (areKinds_iff n _).mpr ⟨_, rfl, h2, h3⟩⟩
theorem isRow_iff (n : Nat) (d : D) : isRow n d = true ↔ ∃ r, d = rowD r ∧ wfRow n r := by
  constructor
  · intro h
    match d, h with
    | .tuple [.str x, .tuple rows], h =>
      simp only [isRow, Bool.and_eq_true, Bool.or_eq_true, decide_eq_true_eq] at h
      obtain ⟨as, rfl, ha⟩ := (all_form (isCons_iff n) rows).mp h.2
      rw [List.length_map] at h
      rcases h.1.1 with rfl | rfl
      · exact ⟨(false, as), rfl, h.1.2, ha⟩
      · exact ⟨(true, as), rfl, h.1.2, ha⟩
  · rintro ⟨⟨o, cs⟩, rfl, h1, h2⟩
    simp only [isRow, rowD, Bool.and_eq_true, Bool.or_eq_true, decide_eq_true_eq, List.length_map]
    refine ⟨⟨?_, h1⟩, (all_form (isCons_iff n) _).mpr ⟨cs, rfl, h2⟩⟩
    cases o
    · exact .inl rfl
    · exact .inr rfl
theorem nsD_inj {a b : List Nat} (h : nsD a = nsD b) : a = b := by
  unfold nsD at h
  exact (List.map_inj_right (fun x y e => by injection e with e; omega)).mp h
theorem consD_inj {a b : Cn} (h : consD a = consD b) : a = b := by
  obtain ⟨x, l⟩ := a
  obtain ⟨y, m⟩ := b
  simp only [consD, PyData.tuple.injEq, List.cons.injEq, PyData.str.injEq, and_true] at h
  rw [h.1, nsD_inj h.2]
theorem rowD_inj {a b : Rw} (h : rowD a = rowD b) : a = b := by
  obtain ⟨x, l⟩ := a
  obtain ⟨y, m⟩ := b
  simp only [rowD, PyData.tuple.injEq, List.cons.injEq, PyData.str.injEq, and_true] at h
  have e := (List.map_inj_right (fun x y e => consD_inj e)).mp h.2
  have e2 : x = y := by
    cases x <;> cases y <;> first | rfl | exact absurd (show ("closed" : Str) = "open" from h.1) open_ne | exact absurd (show ("open" : Str) = "closed" from h.1).symm open_ne
  rw [e, e2]
theorem sigD_inj {a b : Sg} (h : sigD a = sigD b) : a = b := by
  injection h with h
  exact (List.map_inj_right (fun x y e => rowD_inj e)).mp h
theorem isSig_false {v : D} (h : ¬ IsSig v) : isSig v = false := @decide_eq_false _ (Classical.propDecidable _) h
theorem isSig_true {v : D} (h : IsSig v) : isSig v = true := @decide_eq_true _ (Classical.propDecidable _) h
theorem isSig_iff {v : D} : isSig v = true ↔ IsSig v := ⟨fun h => @of_decide_eq_true _ (Classical.propDecidable _) h, isSig_true⟩
theorem isSig_nt {v : D} (h : ∀ l, v ≠ .tuple l) : isSig v = false := isSig_false fun ⟨s, e, _⟩ => h _ e
theorem isSig_form {l : List D} (h1 : 1 ≤ l.length) (h3 : l.length ≤ 3) (h : l.all (isRow l.length) = true) : ∃ s : Sg, l = s.map rowD ∧ Wf s := by
  obtain ⟨s, e, hs⟩ := (all_form (isRow_iff l.length) l).mp h
  have el : l.length = s.length := by rw [e, List.length_map]
  exact ⟨s, e, by omega, by omega, fun r hr => by rw [← el]; exact hs r hr⟩
theorem wf_all {s : Sg} (h : Wf s) : (s.map rowD).all (isRow s.length) = true := (all_form (isRow_iff s.length) _).mpr ⟨s, rfl, h.2.2⟩
theorem isSig_sig {s : Sg} (h : Wf s) : IsSig (sigD s) ↔ (namesOf s).Nodup ∧ Whole s :=
  ⟨fun ⟨s', e, _, a, b⟩ => by rw [sigD_inj e]; exact ⟨a, b⟩, fun ⟨a, b⟩ => ⟨s, rfl, h, a, b⟩⟩
def txs (l : List Str) : List D := l.map PyData.str
theorem plain_strs : ∀ l : List Str, PyData.plainAll (txs l) = true
  | [] => rfl
  | x :: l => by
    have := plain_strs l
    simp only [txs, List.map_cons, PyData.plainAll, PyData.plain, Bool.true_and] at this ⊢
    exact this
theorem count_strs (l : List Str) (x : Str) : ((txs l).countP fun y => PyData.eqv y (.str x)) = l.count x := by
  rw [txs, List.countP_map, List.count]
  congr 1
theorem dup_iff (l : List Str) : ((txs l).any fun x => decide ((1 : Int) < ((txs l).countP fun y => PyData.eqv y x : Nat))) = true ↔ ¬ l.Nodup := by
  rw [List.any_eq_true, List.nodup_iff_count]
  constructor
  · rintro ⟨x, hx, h⟩ hn
    obtain ⟨y, hy, rfl⟩ := List.mem_map.mp hx
    have h := of_decide_eq_true h
    rw [count_strs] at h
    have := hn y
    omega
  · intro h
    obtain ⟨y, hy⟩ := Classical.not_forall.mp h
    have hm : y ∈ l := List.count_pos_iff.mp (by omega)
    refine ⟨.str y, List.mem_map.mpr ⟨y, hm, rfl⟩, decide_eq_true ?_⟩
    rw [count_strs]
    omega
theorem len_names {s : Sg} (h : Wf s) : ∀ i, (namesOf (s.take i)).length ≤ 4 * i
  | 0 => by simp [namesOf]
  | i + 1 => by
    have ih := len_names h i
    rw [List.take_add_one]
    unfold namesOf at ih ⊢
    rw [List.flatMap_append, List.length_append]
    cases e : s[i]? with
    | none =>
      simp only [Option.toList, List.flatMap_nil, List.length_nil]
      omega
    | some r =>
      have := (h.2.2 r (List.mem_of_getElem? e)).1
      simp only [Option.toList, List.flatMap_cons, List.flatMap_nil, List.length_append, List.length_map, List.length_nil]
      omega
theorem names_step {s : Sg} {i : Nat} {r : Rw} (e : s[i]? = some r) : namesOf (s.take (i + 1)) = namesOf (s.take i) ++ r.2.map Prod.fst := by
  unfold namesOf
  rw [List.take_add_one, e, List.flatMap_append]
  simp
theorem strs_app (a b : List Str) : txs (a ++ b) = txs a ++ txs b := List.map_append
theorem v_is_signature : ∀ as R, p_is_signature as R → w_is_signature (retEn (hasOwn as) R) (startS 5 as) := by
  rintro as R ⟨v, rfl, hv, q⟩
  unfold w_is_signature
  walk_at "w0"
  walk_at "w"
  cases v <;> (walk_at "w"; first | (rw [isSig_nt (fun l e => by cases e)] at q; exact q) | skip)
  rename_i l
  have no : (¬ (1 ≤ l.length ∧ l.length ≤ 3 ∧ l.all (isRow l.length) = true)) → R (.d (.bool false)) none := fun h => by
    rw [isSig_false] at q
    · exact q
    · rintro ⟨s, e, w, _⟩
      injection e with e
      subst e
      rw [List.length_map] at h
      exact h ⟨w.1, w.2.1, wf_all w⟩
  refine i_ifD (fun h1 => ?_) (fun h1 => ?_)
  rotate_left
  · walk_at "w"
    exact no (fun h => h1 (by omega))
  walk_at "w"
  refine i_ifB (fun h2 => ?_) (fun h2 => ?_)
  · have h2 : ¬ (l.length : Int) ≤ 3 := by simpa using h2
    walk_at "w"
    exact no (fun h => h2 (by omega))
  have h2 : (l.length : Int) ≤ 3 := by simpa using h2
  walk_at "w"
  refine lcL_map (fun x => .bool (isRow l.length x)) (le_line (by omega)) (fun x hx N hN => ?_) ?_
  · refine ⟨_, rfl, ?_⟩
    walk_at "w"
    refine ⟨_, x, rfl, okT hv hx, ?_⟩
    walk_at "w"
    exact hN _ rfl
  walk_at "w"
  refine i_ifB (fun h3 => ?_) (fun h3 => ?_)
  · walk_at "w"
    refine no (fun h => ?_)
    rw [h.2.2] at h3
    cases h3
  have h3 : l.all (isRow l.length) = true := by simpa using h3
  obtain ⟨s, rfl, hs⟩ := isSig_form (by omega) (by omega) h3
  have hl3 := hs.2.1
  walk_at "w"
  refine lcL2_inv (P := fun i acc z => acc = txs (namesOf (s.take i)) ∧ z = [some (.val (sigD s)), none, none, none, none]) (fun i x acc z e p N hN => ?_) (fun acc z p => ?_) ⟨rfl, rfl⟩
  · obtain ⟨rfl, rfl⟩ := p
    rw [List.getElem?_map] at e
    obtain ⟨r, er, rfl⟩ := Option.map_eq_some_iff.mp e
    have hr4 := (hs.2.2 r (List.mem_of_getElem? er)).1
    refine ⟨_, rfl, ?_⟩
    unfold rowD
    walk_at "w"
    refine lcL_mapA (fun x => match x with | .tuple [n, _] => n | _ => .none) ?_ (fun c hc N3 hN3 => ?_) ?_
    · have := len_names hs i
      have := lt_of_get er
      rw [txs, List.length_map, List.length_map]
      exact le_line (by omega)
    · obtain ⟨c, hc, rfl⟩ := List.mem_map.mp hc
      refine ⟨_, rfl, ?_⟩
      walk_at "w"
      exact hN3 _ rfl
    · refine hN _ _ ⟨?_, rfl⟩
      rw [names_step er, strs_app]
      congr 1
      rw [List.map_map, txs, List.map_map]
      rfl
  obtain ⟨rfl, rfl⟩ := p
  rw [List.length_map, List.take_length]
  walk_at "w"
  have hn12 : (txs (namesOf s)).length ≤ 100 := by
    have := len_names hs s.length
    rw [List.take_length] at this
    rw [txs, List.length_map]
    omega
  refine lcL_map (fun x => .bool (decide ((1 : Int) < ((txs (namesOf s)).countP fun y => PyData.eqv y x : Nat)))) (le_line (by omega)) (fun x hx N hN => ?_) ?_
  · obtain ⟨y, hy, rfl⟩ := List.mem_map.mp hx
    refine ⟨_, rfl, ?_⟩
    walk_at "w"
    refine ⟨_, _, rfl, rfl, plain_strs _, rfl, by simp [PyData.depth], ?_⟩
    walk_at "w"
    exact hN _ rfl
  walk_at "w"
  refine i_ifB (fun h4 => ?_) (fun h4 => ?_)
  · have hd := (dup_iff (namesOf s)).mp h4
    walk_at "w"
    have q2 : R (.d (.bool (isSig (sigD s)))) none := q
    rw [isSig_false (fun h => hd ((isSig_sig hs).mp h).1)] at q2
    exact q2
  have hd : (namesOf s).Nodup := by
    by_cases hd : (namesOf s).Nodup
    · exact hd
    · have := (dup_iff (namesOf s)).mpr hd
      rw [this] at h4
      cases h4
  walk_at "w"
  refine ⟨s, rfl, hs, fun f nd hf => ?_⟩
  walk_at "w"
  have e : decide (((nsD f).length : Int) = ((s.map rowD).length : Nat)) = isSig (sigD s) := by
    refine Bool.eq_iff_iff.mpr ?_
    rw [decide_eq_true_eq, isSig_iff, isSig_sig hs, nsD, List.length_map, List.length_map]
    constructor
    · intro h
      exact ⟨hd, fun k hk => ((hf k).mp (nodup_full nd (fun k hk => ((hf k).mp hk).1) (by omega) hk)).2⟩
    · intro h
      have h1 := nodup_len nd fun k hk => ((hf k).mp hk).1
      have h2 := nodup_sub (a := List.range s.length) (b := f) List.nodup_range fun k hk => (hf k).mpr ⟨List.mem_range.mp hk, h.2 k (List.mem_range.mp hk)⟩
      rw [List.length_range] at h2
      omega
  have q2 : R (.d (.bool (isSig (sigD s)))) none := q
  rw [← e] at q2
  exact q2
end L3

namespace L3
open PySem PySem.Spec PyProof.Rows L2 PySem.SeqAt
theorem forT_inv {α : Type} {g : GS} {t : WS} {E : En} {f : α → D} {xs : List α} (P : Nat → SS → Prop) (step : ∀ (i : Nat) (x : α) (z : SS), xs[i]? = some x → P i z → ∀ N : SS → Prop, (∀ z', P (i + 1) z' → N z') → ∃ z1, g (f x) z = some z1 ∧ t { nx := N, rt := E.rt, bk := E.nx, ct := N } z1)
    (fin : ∀ z, P xs.length z → E.nx z) {z : SS} (h0 : P 0 z) : wForL g t E (xs.map f) z :=
  forL_inv P (fun i x z e p N hN => by
    rw [List.getElem?_map] at e
    obtain ⟨y, hy, rfl⟩ := Option.map_eq_some_iff.mp e
    exact step i y z hy p N hN) (fun z p => fin z (by rw [List.length_map] at p; exact p)) h0
theorem lcT_fm {α : Type} {g : GS} {own : List Nat} {tt : WT} {te : WE} {k : List D → SS → Prop} {f : α → D} {xs : List α} {z0 : SS} (fn : α → Option D) (hl : xs.length ≤ sizeLine)
    (step : ∀ (x : α), x ∈ xs → ∀ N : Option D → SS → Prop, (∀ z, killAll own z = z0 → N (fn x) z) → ∃ z1, g (f x) z0 = some z1 ∧ tt z1 fun b z2 => if b = true then te z2 fun ev z3 => ∃ d, ev = .d d ∧ N (some d) z3 else N none z2)
    (fin : k (xs.filterMap fn) z0) : wLcL g own tt te k (xs.map f) [] z0 := by
  refine lcL_inv (P := fun i acc z => acc = (xs.take i).filterMap fn ∧ z = z0) (fun i x acc z e h N hN => ?_) (fun acc z h => ?_) ⟨by simp, rfl⟩
  · obtain ⟨ea, ez⟩ := h
    rw [List.getElem?_map] at e
    obtain ⟨y, hy, rfl⟩ := Option.map_eq_some_iff.mp e
    have hm := List.mem_of_getElem? hy
    have hlt : i < xs.length := (List.getElem?_eq_some_iff.mp hy).1
    have hacc : acc.length < sizeLine := by
      have := List.length_filterMap_le fn (xs.take i)
      rw [← ea, List.length_take] at this
      omega
    have ht : (xs.take (i + 1)).filterMap fn = acc ++ (fn y).toList := by
      rw [ea, List.take_add_one, hy]
      cases h : fn y <;> simp [h]
    rw [ez]
    exact step y hm (fun o z3 => match o with
      | some d => acc.length < sizeLine ∧ N (acc ++ [d]) (killAll own z3)
      | none => N acc (killAll own z3)) fun z' hz => by
        cases h : fn y with
        | none => exact hN _ _ ⟨by rw [ht, h]; simp, hz⟩
        | some d => exact ⟨hacc, hN _ _ ⟨by rw [ht, h]; rfl, hz⟩⟩
  · obtain ⟨ea, ez⟩ := h
    rw [List.length_map] at ea
    rw [ea, ez, List.take_length]
    exact fin
theorem filterMap_if {α β : Type} {p : α → Bool} {f : α → β} : ∀ {xs : List α}, xs.filterMap (fun x => if p x = true then some (f x) else none) = (xs.filter p).map f
  | [] => rfl
  | x :: xs => by
    cases h : p x
    · rw [List.filterMap_cons, h, List.filter_cons, h, filterMap_if]; rfl
    · rw [List.filterMap_cons, h, List.filter_cons, h, filterMap_if]; rfl
/-- some of the items, made into something -/
theorem lcT_if {α : Type} {g : GS} {own : List Nat} {tt : WT} {te : WE} {k : List D → SS → Prop} {f : α → D} {xs : List α} {z0 : SS} (p : α → Bool) (fn : α → D) (hl : xs.length ≤ sizeLine)
    (step : ∀ (x : α), x ∈ xs → ∀ (N0 : SS → Prop) (N1 : D → SS → Prop), (p x = false → ∀ z, killAll own z = z0 → N0 z) → (p x = true → ∀ z, killAll own z = z0 → N1 (fn x) z) → ∃ z1, g (f x) z0 = some z1 ∧ tt z1 fun b z2 => if b = true then te z2 fun ev z3 => ∃ d, ev = .d d ∧ N1 d z3 else N0 z2)
    (fin : k ((xs.filter p).map fn) z0) : wLcL g own tt te k (xs.map f) [] z0 :=
  lcT_fm (fun x => if p x = true then some (fn x) else none) hl (fun x hx N hN => step x hx (fun z => N none z) (fun d z => N (some d) z) (fun h z hz => by have := hN z hz; rw [h] at this; exact this) (fun h z hz => by have := hN z hz; rw [h] at this; exact this)) (by rw [filterMap_if]; exact fin)
theorem lcT_map {α : Type} {g : GS} {own : List Nat} {te : WE} {k : List D → SS → Prop} {f : α → D} {xs : List α} {z0 : SS} (fn : α → D) (hl : xs.length ≤ sizeLine)
    (step : ∀ (x : α), x ∈ xs → ∀ N : D → SS → Prop, (∀ z, killAll own z = z0 → N (fn x) z) → ∃ z1, g (f x) z0 = some z1 ∧ te z1 fun ev z3 => ∃ d, ev = .d d ∧ N d z3) (fin : k (xs.map fn) z0) : wLcL g own wYes te k (xs.map f) [] z0 :=
  lcT_if (fun _ => true) fn hl (fun x hx N0 N1 _ h1 => by
    obtain ⟨z1, e, w⟩ := step x hx N1 (h1 rfl)
    exact ⟨z1, e, i_yes (i_ifT rfl w)⟩) (by rw [List.filter_eq_self.mpr (fun _ _ => rfl)]; exact fin)
/-- the same over 0, .., n - 1 -/
theorem lcN_if {g : GS} {own : List Nat} {tt : WT} {te : WE} {k : List D → SS → Prop} {n : Nat} {z0 : SS} (p : Nat → Bool) (fn : Nat → D) (hl : n ≤ sizeLine)
    (step : ∀ i, i < n → ∀ (N0 : SS → Prop) (N1 : D → SS → Prop), (p i = false → ∀ z, killAll own z = z0 → N0 z) → (p i = true → ∀ z, killAll own z = z0 → N1 (fn i) z) → ∃ z1, g (.int (i : Nat)) z0 = some z1 ∧ tt z1 fun b z2 => if b = true then te z2 fun ev z3 => ∃ d, ev = .d d ∧ N1 d z3 else N0 z2)
    (fin : k (((List.range n).filter p).map fn) z0) : wLcL g own tt te k (rangeD 0 (n : Nat)) [] z0 := by
  have e : rangeD 0 ((n : Nat) : Int) = (List.range n).map fun i => PyData.int (i : Nat) := by
    apply List.ext_getElem?
    intro i
    by_cases h : i < n
    · rw [List.getElem?_map, List.getElem?_range h]
      obtain ⟨x, hx⟩ : ∃ x, (rangeD 0 ((n : Nat) : Int))[i]? = some x := ⟨(rangeD 0 ((n : Nat) : Int))[i]'(by rw [rangeD_len]; omega), List.getElem?_eq_getElem _⟩
      rw [hx, (rangeD_get hx).1]
      simp
    · rw [List.getElem?_eq_none (by rw [rangeD_len]; omega), List.getElem?_eq_none (by simp; omega)]
  rw [e]
  exact lcT_if p fn (by rw [List.length_range]; exact hl) (fun x hx => step x (List.mem_range.mp hx)) fin
theorem lcN_map {g : GS} {own : List Nat} {te : WE} {k : List D → SS → Prop} {n : Nat} {z0 : SS} (fn : Nat → D) (hl : n ≤ sizeLine)
    (step : ∀ i, i < n → ∀ N : D → SS → Prop, (∀ z, killAll own z = z0 → N (fn i) z) → ∃ z1, g (.int (i : Nat)) z0 = some z1 ∧ te z1 fun ev z3 => ∃ d, ev = .d d ∧ N d z3) (fin : k ((List.range n).map fn) z0) : wLcL g own wYes te k (rangeD 0 (n : Nat)) [] z0 :=
  lcN_if (fun _ => true) fn hl (fun x hx N0 N1 _ h1 => by
    obtain ⟨z1, e, w⟩ := step x hx N1 (h1 rfl)
    exact ⟨z1, e, i_yes (i_ifT rfl w)⟩) (by rw [List.filter_eq_self.mpr (fun _ _ => rfl)]; exact fin)
/-- a loop over 0, .., n - 1 -/
theorem forN_inv {g : GS} {t : WS} {E : En} {n : Nat} (P : Nat → SS → Prop) (step : ∀ (i : Nat) (z : SS), i < n → P i z → ∀ N : SS → Prop, (∀ z', P (i + 1) z' → N z') → ∃ z1, g (.int (i : Nat)) z = some z1 ∧ t { nx := N, rt := E.rt, bk := E.nx, ct := N } z1)
    (fin : ∀ z, P n z → E.nx z) {z : SS} (h0 : P 0 z) : wForL g t E (rangeD 0 (n : Nat)) z :=
  forR_inv P (fun i z h p N hN => by
    obtain ⟨z1, e, w⟩ := step i z (by omega) p N hN
    exact ⟨z1, by rw [Int.zero_add]; exact e, w⟩) (fun z p => fin z (by rw [show ((n : Int) - 0).toNat = n by omega] at p; exact p)) h0
end L3
namespace L3
open PySem PySem.Spec PyProof.Rows L2 PySem.SeqAt
mutual
/-- how many data stand in a datum; 0 where a dict does -/
def nodes : D → Nat
  | .tuple l => 1 + nodesA l
  | .list l => 1 + nodesA l
  | .none => 1
  | .bool _ => 1
  | .int _ => 1
  | .str _ => 1
  | .dict _ => 1
def nodesA : List D → Nat
  | [] => 0
  | d :: r => nodes d + nodesA r
end
mutual
def noDct : D → Bool
  | .tuple l => noDctA l
  | .list l => noDctA l
  | .dict _ => false
  | .none => true
  | .bool _ => true
  | .int _ => true
  | .str _ => true
def noDctA : List D → Bool
  | [] => Nat.beq 0 0
  | d :: r => noDct d && noDctA r
end
theorem noDctA_mem : ∀ {l : List D} {d : D}, noDctA l = true → d ∈ l → noDct d = true
  | x :: r, d, h, m => by
    simp only [noDctA, Bool.and_eq_true] at h
    rcases List.mem_cons.mp m with e | m
    · rw [e]; exact h.1
    · exact noDctA_mem h.2 m
theorem nodes_pos (d : D) : 1 ≤ nodes d := by
  cases d <;> simp only [nodes] <;> omega
theorem nodesA_zip : ∀ {m l : List D}, m.length = l.length → ((m.zip l).map fun p => nodes p.2).sum = nodesA l
  | [], [], _ => rfl
  | x :: m, y :: l, h => by
    have := nodesA_zip (m := m) (l := l) (by simpa using h)
    simp only [List.zip_cons_cons, List.map_cons, List.sum_cons, nodesA, this]
theorem zip_eq : ∀ {m l : List D}, m.length = l.length → ((∀ p ∈ m.zip l, p.1 = p.2) ↔ m = l)
  | [], [], _ => by simp
  | x :: m, y :: l, h => by
    have := zip_eq (m := m) (l := l) (by simpa using h)
    simp only [List.zip_cons_cons, List.mem_cons, List.cons.injEq, forall_eq_or_imp, this]
def isInt (d : D) : Bool := match d with
  | .int _ => true
  | _ => false
def p_law_is_integer : FS := fun as R => ∃ v, as = [.val v] ∧ okD v = true ∧ R (.d (.bool (isInt v))) none
theorem m_law_is_integer : MonoF p_law_is_integer := fun as R R' h ⟨v, e, a, k⟩ => ⟨v, e, a, h _ _ k⟩
theorem l_law_is_integer : ∀ as R, p_law_is_integer as R → as.length = 1 := fun as R ⟨a, e, _⟩ => by rw [e]; rfl
def p_law_same : FS := fun as R => ∃ a b, as = [.val a, .val b] ∧ okD a = true ∧ okD b = true ∧ noDct b = true ∧ nodes b ≤ 50000 ∧ ∀ c, (c = true ↔ a = b) → R (.d (.bool c)) none
theorem m_law_same : MonoF p_law_same := fun as R R' h ⟨a, b, c, d, e, f, g, k⟩ => ⟨a, b, c, d, e, f, g, fun x y => h _ _ (k x y)⟩
theorem l_law_same : ∀ as R, p_law_same as R → as.length = 2 := fun as R ⟨a, b, e, _⟩ => by rw [e]; rfl
/-- 0 actual -/
def w_law_is_integer : WS :=
(wRet (wAndV (wIsa "int" (wVar 0)) (wNotV (wIsa "bool" (wVar 0)))))
local macro_rules | `(tactic| walk_at "w2") => `(tactic| first
  | (with_reducible refine' i_allM ?_) | (with_reducible refine' i_anyM ?_))
local macro_rules | `(tactic| walk_at "w3") => `(tactic| first
  | ((with_reducible refine' j_ix ?h1 ?_); (case h1 => rfl))
  | ((with_reducible refine' i_asgK ?h1 ?_); (case h1 => rfl); (dsimp only [List.set_cons_succ, List.set_cons_zero]))
  | ((with_reducible refine' i_srcK ?h1 ?_); (case h1 => rfl))
  | ((with_reducible refine' i_enmK ?h1 ?_); (case h1 => rfl))
  | ((with_reducible refine' i_evD ?h1 ?h2 ?_); (case h1 => rfl); (case h2 => (intro l e; cases e; done)))
  | ((with_reducible refine' i_isD ?h1 ?_); (case h1 => assumption))
  | ((with_reducible refine' i_len ?h1 ?_); (case h1 => rfl)) | ((with_reducible refine' i_list ?h1 ?_); (case h1 => rfl)) | ((with_reducible refine' i_tuple ?h1 ?_); (case h1 => rfl)) | ((with_reducible refine' i_slL ?h1 ?_); (case h1 => rfl))
  | ((with_reducible refine' i_rngD ?h1 ?h2 ?_); (case h1 => (first | omega | decide)); (case h2 => (first | omega | decide))) | ((with_reducible refine' i_rngD2 ?h1 ?_); (case h1 => (first | omega | decide)))
  | ((with_reducible refine' i_lrgP ?h1 ?_); (case h1 => (apply RgOk.of_le <;> omega)))
  | ((with_reducible refine' j_put ?h1 ?_); (case h1 => rfl))
  | ((with_reducible refine' i_mul ?h1 ?_); (case h1 => (first | exact .inr (by decide) | exact .inl (by decide)))) | ((with_reducible refine' i_mod ?h1 ?_); (case h1 => (first | omega | decide)))
  | ((with_reducible refine' i_fdiv ?h1 ?_); (case h1 => (first | exact ⟨by decide, by decide⟩ | exact ⟨by omega, by omega⟩))) | ((with_reducible refine' i_pow ?h1 ?_); (case h1 => exact pow_ok (by decide)))
  | ((with_reducible refine' i_ifT ?h1 ?_); (case h1 => (first | rfl | assumption | (simp [isA]; done)))) | ((with_reducible refine' i_ifF ?h1 ?_); (case h1 => (first | rfl | assumption | (simp [isA]; done))))
  | ((with_reducible refine' j_pop ?h1 ?_); (case h1 => rfl))
  | ((with_reducible refine' j_append ?h1 ?_); (case h1 => (first | (simp [sizeLine_eq]; done) | (apply lt_line; omega)))))
local macro_rules | `(tactic| walk_at "w") => `(tactic| (try dsimp only [List.cons_append, List.nil_append, List.set_cons_succ, List.set_cons_zero, killAll]); repeat' (first | (with_reducible refine' Run.imp ?_) | walk_at "w3" | walk_at "w2" | fail "open"))
local macro_rules | `(tactic| walk_at "w0") => `(tactic| refine start_en ?_; simp only [startS, hasOwn, List.map_cons, List.map_nil, List.length_cons, List.length_nil, List.cons_append, List.nil_append, List.replicate, Nat.reduceAdd, Nat.reduceSub, Nat.zero_add])
local macro_rules | `(tactic| walk_at "n") => `(tactic| walk_at "w")

theorem v_law_is_integer : ∀ as R, p_law_is_integer as R → w_law_is_integer (retEn (hasOwn as) R) (startS 1 as) := by
  rintro as R ⟨v, rfl, hv, q⟩
  unfold w_law_is_integer
  walk_at "w0"
  walk_at "n"
  cases v <;> (walk_at "n"; first | exact q | skip)
def stD (st : List (D × D)) : List D := st.map fun p => .tuple [p.1, p.2]
def sameZ (a b : D) (st : List (D × D)) : SS := [some (.val a), some (.val b), some (.own none (stD st)), none, none, none, none]
structure SI (a b : D) (i : Nat) (st : List (D × D)) : Prop where
  eq : (∀ p ∈ st, p.1 = p.2) ↔ a = b
  nd : i + (st.map fun p => nodes p.2).sum = nodes b
  ok : ∀ p ∈ st, okD p.1 = true ∧ okD p.2 = true ∧ noDct p.2 = true
theorem SI.len {a b : D} {i : Nat} {st : List (D × D)} (h : SI a b i st) : st.length ≤ nodes b := by
  have go : ∀ l : List (D × D), l.length ≤ (l.map fun p => nodes p.2).sum := fun l => by
    induction l with
    | nil => exact Nat.le_refl 0
    | cons p l ih =>
      have := nodes_pos p.2
      rw [List.length_cons, List.map_cons, List.sum_cons]
      omega
  have := go st
  have := h.nd
  omega
theorem SI.ne {a b x y : D} {i : Nat} {st : List (D × D)} (h : SI a b i (st ++ [(x, y)])) (n : x ≠ y) : a ≠ b := fun e => n (h.eq.mpr e (x, y) (by simp))
theorem SI.drop {a b x y : D} {i : Nat} {st : List (D × D)} (h : SI a b i (st ++ [(x, y)])) (e : x = y) (n1 : nodes y = 1) : SI a b (i + 1) st := by
  refine ⟨?_, ?_, fun p hp => h.ok p (List.mem_append_left _ hp)⟩
  · rw [← h.eq]
    constructor
    · intro g p hp
      rcases List.mem_append.mp hp with hp | hp
      · exact g p hp
      · rw [List.mem_singleton] at hp
        rw [hp]
        exact e
    · exact fun g p hp => g p (List.mem_append_left _ hp)
  · have := h.nd
    rw [List.map_append, List.sum_append] at this
    simp at this
    omega
theorem SI.push {a b x y : D} {i : Nat} {st : List (D × D)} {m l : List D} (h : SI a b i (st ++ [(x, y)])) (hl : m.length = l.length) (exy : x = y ↔ m = l) (hn : nodes y = 1 + nodesA l) (hm : ∀ d ∈ m, okD d = true) (hk : ∀ d ∈ l, okD d = true ∧ noDct d = true) :
    SI a b (i + 1) (st ++ m.zip l) := by
  refine ⟨?_, ?_, fun p hp => ?_⟩
  · rw [← h.eq]
    constructor
    · intro g p hp
      rcases List.mem_append.mp hp with hp | hp
      · exact g p (List.mem_append_left _ hp)
      · rw [List.mem_singleton] at hp
        rw [hp]
        exact exy.mpr ((zip_eq hl).mp fun p hp => g p (List.mem_append_right _ hp))
    · intro g p hp
      rcases List.mem_append.mp hp with hp | hp
      · exact g p (List.mem_append_left _ hp)
      · exact (zip_eq hl).mpr (exy.mp (g (x, y) (by simp))) p hp
  · have := h.nd
    rw [List.map_append, List.sum_append] at this ⊢
    rw [nodesA_zip hl]
    simp at this
    omega
  · rcases List.mem_append.mp hp with hp | hp
    · exact h.ok p (List.mem_append_left _ hp)
    · obtain ⟨p1, p2⟩ := p
      have := List.of_mem_zip hp
      exact ⟨hm _ this.1, (hk _ this.2).1, (hk _ this.2).2⟩

theorem stD_app (s t : List (D × D)) : stD (s ++ t) = stD s ++ stD t := List.map_append
theorem pop_at (st : List (D × D)) (p : D × D) : (stD (st ++ [p]))[(stD (st ++ [p])).length - 1]? = some (.tuple [p.1, p.2]) := by simp [stD]
theorem pop_rest (st : List (D × D)) (p : D × D) : (stD (st ++ [p])).dropLast = stD st := by simp [stD]
def pairF (m l : List D) (x : D) : D := match x with
  | .int k => .tuple [m.getD k.toNat .none, l.getD k.toNat .none]
  | _ => .none
theorem pair_zip {m l : List D} (h : m.length = l.length) : (rangeD 0 (l.length : Nat)).map (pairF m l) = stD (m.zip l) := by
  unfold rangeD stD
  rw [List.map_map, show ((l.length : Nat) - 0 : Int).toNat = l.length from by omega]
  refine List.ext_getElem? fun j => ?_
  rw [List.getElem?_map, List.getElem?_map]
  by_cases hj : j < l.length
  · have hm : j < m.length := by omega
    have e : ((0 : Int) + (j : Nat)).toNat = j := by omega
    rw [List.getElem?_range hj, List.getElem?_eq_getElem (by simp; omega)]
    simp [Function.comp, pairF, List.getD_eq_getElem?_getD, hj, hm]
  · rw [List.getElem?_eq_none (by simp; omega), List.getElem?_eq_none (by simp; omega)]
    rfl
theorem lenA : ∀ l : List D, l.length ≤ nodesA l
  | [] => Nat.le_refl 0
  | d :: r => by
    have := lenA r
    have := nodes_pos d
    simp only [nodesA, List.length_cons]
    omega
theorem at_getD {l : List D} {k : Nat} (h : k < l.length) : atI l (k : Nat) = some (l.getD k .none) := by
  refine atI_nat ?_
  rw [List.getD_eq_getElem?_getD, List.getElem?_eq_getElem h]
  rfl
end L3
namespace L3
open PySem PySem.Spec PyProof.Rows L2 PySem.SeqAt
/-- 0 actual, 1 due, 2 left, 3 turn, 4 one, 5 other, 6 at -/
def w_law_same : WS :=
(wSeq (wSetO 2 (wLst (wCons (wTup (wCons (wVar 0) (wCons (wVar 1) wNil))) wNil)))
 (wSeq (wFor (wRng1 (wCons (wBin sPow (wC (.int 10)) (wC (.int 9))) wNil)) (gNm 3)
 (wKill [3, 4, 5] (wSeq (wIfS (wTest (wBin sEq (wFrz (wCB (f1 sLen) (wCons (wVar 2) wNil))) (wC (.int 0))))
 (wRet (wC (.bool true)))
 wNext)
 (wSeq (wAsg (wFrz (wBM0 "list" mPop (wVar 2))) (gTp [(gNm 4), (gNm 5)]))
 (wIfS (wOr (wTest (wIsa "tuple" (wVar 5))) (wTest (wIsa "list" (wVar 5))))
 (wSeq (wIfS (wOr (wTest (wBin sNe (wIsa "tuple" (wVar 5)) (wIsa "tuple" (wVar 4)))) (wTest (wBin sNe (wIsa "list" (wVar 5)) (wIsa "list" (wVar 4)))))
 (wRet (wC (.bool false)))
 wNext)
 (wSeq (wIfS (wTest (wBin sNe (wFrz (wCB (f1 sLen) (wCons (wVar 4) wNil))) (wFrz (wCB (f1 sLen) (wCons (wVar 5) wNil)))))
 (wRet (wC (.bool false)))
 wNext)
 (wDrop (wFrz (wBM "list" mExtend (wVar 2) (wCons (wFrz (wLc (wRng1 (wCons (wFrz (wCB (f1 sLen) (wCons (wVar 5) wNil))) wNil)) (gNm 6) [6] wYes (wTup (wCons (wBin sIx (wVar 4) (wVar 6)) (wCons (wBin sIx (wVar 5) (wVar 6)) wNil))))) wNil))))))
 (wIfS (wTest (wIsa "bool" (wVar 5)))
 (wIfS (wOr (wNot (wTest (wIsa "bool" (wVar 4)))) (wTest (wBin sNe (wVar 4) (wVar 5))))
 (wRet (wC (.bool false)))
 wNext)
 (wIfS (wTest (wIsa "int" (wVar 5)))
 (wIfS (wOr (wNot (wTest (wFrz (wCall p_law_is_integer (wCons (wVar 4) wNil))))) (wTest (wBin sNe (wVar 4) (wVar 5))))
 (wRet (wC (.bool false)))
 wNext)
 (wIfS (wTest (wIsa "str" (wVar 5)))
 (wIfS (wOr (wNot (wTest (wIsa "str" (wVar 4)))) (wTest (wBin sNe (wVar 4) (wVar 5))))
 (wRet (wC (.bool false)))
 wNext)
 (wIfS (wTest (wBin (sIsN not) (wVar 4) (wC .none)))
 (wRet (wC (.bool false)))
 wNext)))))))))
 (wRet (wC (.bool false)))))
local macro_rules | `(tactic| walk_at "w2") => `(tactic| first
  | (with_reducible refine' i_allM ?_) | (with_reducible refine' i_anyM ?_))
local macro_rules | `(tactic| walk_at "w3") => `(tactic| first
  | ((with_reducible refine' j_ix ?h1 ?_); (case h1 => rfl))
  | ((with_reducible refine' i_asgK ?h1 ?_); (case h1 => rfl); (dsimp only [List.set_cons_succ, List.set_cons_zero]))
  | ((with_reducible refine' i_srcK ?h1 ?_); (case h1 => rfl))
  | ((with_reducible refine' i_enmK ?h1 ?_); (case h1 => rfl))
  | ((with_reducible refine' i_evD ?h1 ?h2 ?_); (case h1 => rfl); (case h2 => (intro l e; cases e; done)))
  | ((with_reducible refine' i_isD ?h1 ?_); (case h1 => assumption))
  | ((with_reducible refine' i_len ?h1 ?_); (case h1 => rfl)) | ((with_reducible refine' i_list ?h1 ?_); (case h1 => rfl)) | ((with_reducible refine' i_tuple ?h1 ?_); (case h1 => rfl)) | ((with_reducible refine' i_slL ?h1 ?_); (case h1 => rfl))
  | ((with_reducible refine' i_rngD ?h1 ?h2 ?_); (case h1 => (first | omega | decide)); (case h2 => (first | omega | decide))) | ((with_reducible refine' i_rngD2 ?h1 ?_); (case h1 => (first | omega | decide)))
  | ((with_reducible refine' i_lrgP ?h1 ?_); (case h1 => (apply RgOk.of_le <;> omega)))
  | ((with_reducible refine' j_put ?h1 ?_); (case h1 => rfl))
  | ((with_reducible refine' i_mul ?h1 ?_); (case h1 => (first | exact .inr (by decide) | exact .inl (by decide)))) | ((with_reducible refine' i_mod ?h1 ?_); (case h1 => (first | omega | decide)))
  | ((with_reducible refine' i_fdiv ?h1 ?_); (case h1 => (first | exact ⟨by decide, by decide⟩ | exact ⟨by omega, by omega⟩))) | ((with_reducible refine' i_pow ?h1 ?_); (case h1 => exact pow_ok (by decide)))
  | ((with_reducible refine' i_ifT ?h1 ?_); (case h1 => (first | rfl | assumption | (simp [isA]; done)))) | ((with_reducible refine' i_ifF ?h1 ?_); (case h1 => (first | rfl | assumption | (simp [isA]; done))))
  | ((with_reducible refine' j_pop ?h1 ?_); (case h1 => rfl))
  | ((with_reducible refine' j_append ?h1 ?_); (case h1 => (first | (simp [sizeLine_eq]; done) | (apply lt_line; omega)))))
local macro_rules | `(tactic| walk_at "w") => `(tactic| (try dsimp only [List.cons_append, List.nil_append, List.set_cons_succ, List.set_cons_zero, killAll]); repeat' (first | (with_reducible refine' Run.imp ?_) | walk_at "w3" | walk_at "w2" | fail "open"))
local macro_rules | `(tactic| walk_at "w0") => `(tactic| refine start_en ?_; simp only [startS, hasOwn, List.map_cons, List.map_nil, List.length_cons, List.length_nil, List.cons_append, List.nil_append, List.replicate, Nat.reduceAdd, Nat.reduceSub, Nat.zero_add])
local macro_rules | `(tactic| walk_at "n") => `(tactic| walk_at "w")

theorem v_law_same : ∀ as R, p_law_same as R → w_law_same (retEn (hasOwn as) R) (startS 7 as) := by
  rintro as R ⟨a, b, rfl, ha, hb, hd, hn, q⟩
  unfold w_law_same
  walk_at "w0"
  walk_at "n"
  generalize hH : ((10 : Int) ^ Int.toNat 9) = H
  have hH2 : H = 1000000000 := by rw [← hH]; decide
  clear hH
  have no : a ≠ b → R (.d (.bool false)) none := fun h => q false ⟨fun e => by (cases e), fun e => absurd e h⟩
  refine forR_inv (P := fun i z => ∃ st, z = sameZ a b st ∧ SI a b i st) (fun i z hi p N hN => ?_) (fun z p => ?_) ⟨[(a, b)], rfl, ⟨by simp, by simp, by simpa using ⟨ha, hb, hd⟩⟩⟩
  · obtain ⟨st, rfl, si⟩ := p
    refine ⟨_, rfl, ?_⟩
    have hlen := si.len
    rcases List.eq_nil_or_concat st with rfl | ⟨s0, ⟨x, y⟩, e⟩
    · unfold sameZ
      walk_at "n"
      exact q true ⟨fun _ => si.eq.mp (by simp), fun _ => rfl⟩
    · have e : st = s0 ++ [(x, y)] := by simpa using e
      subst e
      have okxy := si.ok (x, y) (by simp)
      have okx : okD x = true := okxy.1
      have oky : okD y = true := okxy.2.1
      have hsl : s0.length + 1 ≤ nodes b := by simpa using hlen
      have nz : ¬ ((stD (s0 ++ [(x, y)])).length : Int) = 0 := by simp [stD]; omega
      unfold sameZ
      walk_at "n"
      rw [decide_eq_false nz]
      walk_at "n"
      refine i_pop rfl (pop_at s0 (x, y)) ?_
      rw [pop_rest]
      walk_at "n"
      cases y with
      | tuple l =>
        have hdl : ∀ d ∈ l, okD d = true ∧ noDct d = true := fun d hd => ⟨okA_mem (l := l) oky hd, noDctA_mem (l := l) okxy.2.2 hd⟩
        have hln : l.length ≤ nodesA l := lenA l
        have hnl : nodes (.tuple l) = 1 + nodesA l := by simp only [nodes]
        have hsum := si.nd
        rw [List.map_append, List.sum_append] at hsum
        simp only [List.map_cons, List.map_nil, List.sum_cons, List.sum_nil, hnl] at hsum
        walk_at "n"
        cases x with
        | tuple m =>
          walk_at "n"
          refine i_ifB (fun h => ?_) (fun h => ?_)
          · have hl : ¬ m.length = l.length := fun e => by simp [e] at h
            walk_at "n"
            exact no (si.ne fun e => by injection e with e; exact hl (by rw [e]))
          · have hl : m.length = l.length := by
              have : (m.length : Int) = l.length := by simpa using h
              omega
            walk_at "n"
            refine lcL_map (pairF m l) (le_line (by rw [rangeD_len]; omega)) (fun x hx N1 hN1 => ?_) ?_
            · obtain ⟨k, hk⟩ := List.mem_iff_getElem?.mp hx
              obtain ⟨rfl, hlt⟩ := rangeD_get hk
              have hp : pairF m l (.int (0 + (k : Nat))) = .tuple [m.getD k .none, l.getD k .none] := by
                simp only [pairF, show ((0 : Int) + (k : Nat)).toNat = k from by omega]
              rw [hp] at hN1
              rw [show (0 : Int) + (k : Nat) = (k : Nat) from Int.zero_add _] at hlt ⊢
              refine ⟨_, rfl, ?_⟩
              walk_at "n"
              refine i_ix rfl (at_getD (l := m) (k := k) (by omega)) ?_
              walk_at "n"
              refine i_ix rfl (at_getD (l := l) (k := k) (by omega)) ?_
              walk_at "n"
              exact hN1 _ rfl
            rw [pair_zip hl]
            walk_at "n"
            have hz : (m.zip l).length = l.length := by simp [hl]
            refine i_extend rfl rfl (le_line (by rw [stD, stD, List.length_map, List.length_map, hz]; omega)) ?_
            rw [← stD_app]
            exact hN _ ⟨s0 ++ m.zip l, rfl, si.push hl (by simp) hnl (fun d hd => okA_mem (l := m) okx hd) hdl⟩
        | none => walk_at "n"; exact no (si.ne (by intro e; cases e))
        | bool _ => walk_at "n"; exact no (si.ne (by intro e; cases e))
        | int _ => walk_at "n"; exact no (si.ne (by intro e; cases e))
        | str _ => walk_at "n"; exact no (si.ne (by intro e; cases e))
        | dict _ => walk_at "n"; exact no (si.ne (by intro e; cases e))
        | list _ => walk_at "n"; exact no (si.ne (by intro e; cases e))
      | list l =>
        have hdl : ∀ d ∈ l, okD d = true ∧ noDct d = true := fun d hd => ⟨okA_mem (l := l) oky hd, noDctA_mem (l := l) okxy.2.2 hd⟩
        have hln : l.length ≤ nodesA l := lenA l
        have hnl : nodes (.list l) = 1 + nodesA l := by simp only [nodes]
        have hsum := si.nd
        rw [List.map_append, List.sum_append] at hsum
        simp only [List.map_cons, List.map_nil, List.sum_cons, List.sum_nil, hnl] at hsum
        walk_at "n"
        cases x with
        | list m =>
          walk_at "n"
          refine i_ifB (fun h => ?_) (fun h => ?_)
          · have hl : ¬ m.length = l.length := fun e => by simp [e] at h
            walk_at "n"
            exact no (si.ne fun e => by injection e with e; exact hl (by rw [e]))
          · have hl : m.length = l.length := by
              have : (m.length : Int) = l.length := by simpa using h
              omega
            walk_at "n"
            refine lcL_map (pairF m l) (le_line (by rw [rangeD_len]; omega)) (fun x hx N1 hN1 => ?_) ?_
            · obtain ⟨k, hk⟩ := List.mem_iff_getElem?.mp hx
              obtain ⟨rfl, hlt⟩ := rangeD_get hk
              have hp : pairF m l (.int (0 + (k : Nat))) = .tuple [m.getD k .none, l.getD k .none] := by
                simp only [pairF, show ((0 : Int) + (k : Nat)).toNat = k from by omega]
              rw [hp] at hN1
              rw [show (0 : Int) + (k : Nat) = (k : Nat) from Int.zero_add _] at hlt ⊢
              refine ⟨_, rfl, ?_⟩
              walk_at "n"
              refine i_ix rfl (at_getD (l := m) (k := k) (by omega)) ?_
              walk_at "n"
              refine i_ix rfl (at_getD (l := l) (k := k) (by omega)) ?_
              walk_at "n"
              exact hN1 _ rfl
            rw [pair_zip hl]
            walk_at "n"
            have hz : (m.zip l).length = l.length := by simp [hl]
            refine i_extend rfl rfl (le_line (by rw [stD, stD, List.length_map, List.length_map, hz]; omega)) ?_
            rw [← stD_app]
            exact hN _ ⟨s0 ++ m.zip l, rfl, si.push hl (by simp) hnl (fun d hd => okA_mem (l := m) okx hd) hdl⟩
        | none => walk_at "n"; exact no (si.ne (by intro e; cases e))
        | bool _ => walk_at "n"; exact no (si.ne (by intro e; cases e))
        | int _ => walk_at "n"; exact no (si.ne (by intro e; cases e))
        | str _ => walk_at "n"; exact no (si.ne (by intro e; cases e))
        | dict _ => walk_at "n"; exact no (si.ne (by intro e; cases e))
        | tuple _ => walk_at "n"; exact no (si.ne (by intro e; cases e))
      | bool v =>
        walk_at "n"
        cases x with
        | none => walk_at "n"; first | exact no (si.ne (by intro e; cases e)) | skip
        | bool u =>
          walk_at "n"
          refine i_ifB (fun h => ?_) (fun h => ?_)
          · have hne : ¬ u = v := by simpa using h
            walk_at "n"
            exact no (si.ne fun e => by injection e with e; exact hne e)
          · have he : u = v := by simpa using h
            walk_at "n"
            exact hN _ ⟨s0, rfl, si.drop (by rw [he]) rfl⟩
        | int u => walk_at "n"; first | exact no (si.ne (by intro e; cases e)) | skip
        | str u => walk_at "n"; first | exact no (si.ne (by intro e; cases e)) | skip
        | list _ => walk_at "n"; first | exact no (si.ne (by intro e; cases e)) | skip
        | tuple _ => walk_at "n"; first | exact no (si.ne (by intro e; cases e)) | skip
        | dict _ => walk_at "n"; first | exact no (si.ne (by intro e; cases e)) | skip
      | int v =>
        walk_at "n"
        refine ⟨x, rfl, okx, ?_⟩
        walk_at "n"
        cases x with
        | none => walk_at "n"; first | exact no (si.ne (by intro e; cases e)) | skip
        | bool u => walk_at "n"; first | exact no (si.ne (by intro e; cases e)) | skip
        | int u =>
          walk_at "n"
          refine i_ifB (fun h => ?_) (fun h => ?_)
          · have hne : ¬ u = v := by simpa using h
            walk_at "n"
            exact no (si.ne fun e => by injection e with e; exact hne e)
          · have he : u = v := by simpa using h
            walk_at "n"
            exact hN _ ⟨s0, rfl, si.drop (by rw [he]) rfl⟩
        | str u => walk_at "n"; first | exact no (si.ne (by intro e; cases e)) | skip
        | list _ => walk_at "n"; first | exact no (si.ne (by intro e; cases e)) | skip
        | tuple _ => walk_at "n"; first | exact no (si.ne (by intro e; cases e)) | skip
        | dict _ => walk_at "n"; first | exact no (si.ne (by intro e; cases e)) | skip
      | str v =>
        walk_at "n"
        cases x with
        | none => walk_at "n"; first | exact no (si.ne (by intro e; cases e)) | skip
        | bool u => walk_at "n"; first | exact no (si.ne (by intro e; cases e)) | skip
        | int u => walk_at "n"; first | exact no (si.ne (by intro e; cases e)) | skip
        | str u =>
          walk_at "n"
          refine i_ifB (fun h => ?_) (fun h => ?_)
          · have hne : ¬ u = v := by simpa using h
            walk_at "n"
            exact no (si.ne fun e => by injection e with e; exact hne e)
          · have he : u = v := by simpa using h
            walk_at "n"
            exact hN _ ⟨s0, rfl, si.drop (by rw [he]) rfl⟩
        | list _ => walk_at "n"; first | exact no (si.ne (by intro e; cases e)) | skip
        | tuple _ => walk_at "n"; first | exact no (si.ne (by intro e; cases e)) | skip
        | dict _ => walk_at "n"; first | exact no (si.ne (by intro e; cases e)) | skip
      | none =>
        walk_at "n"
        cases x with
        | none => walk_at "n"; exact hN _ ⟨s0, rfl, si.drop rfl rfl⟩
        | bool _ => walk_at "n"; exact no (si.ne (by intro e; cases e))
        | int _ => walk_at "n"; exact no (si.ne (by intro e; cases e))
        | str _ => walk_at "n"; exact no (si.ne (by intro e; cases e))
        | list _ => walk_at "n"; exact no (si.ne (by intro e; cases e))
        | tuple _ => walk_at "n"; exact no (si.ne (by intro e; cases e))
        | dict _ => walk_at "n"; exact no (si.ne (by intro e; cases e))
      | dict _ => cases okxy.2.2
  · obtain ⟨st, rfl, si⟩ := p
    have := si.nd
    exact absurd this (by omega)
end L3
namespace L3
open PySem PySem.Spec PyProof.Rows L2 PySem.SeqAt
theorem cutD_to {α : Type} {xs : List α} {i : Int} (h : 0 ≤ i) : cutD xs none (some i) = xs.take i.toNat := by
  obtain ⟨n, rfl⟩ := Int.eq_ofNat_of_zero_le h
  unfold cutD
  rw [HT.sIx_none, HT.sIx_nat, List.drop_zero, Nat.sub_zero, Int.toNat_natCast, ← List.take_eq_take_min]
theorem cutD_from {α : Type} {xs : List α} {i : Int} (h : 0 ≤ i) : cutD xs (some i) none = xs.drop i.toNat := by
  obtain ⟨n, rfl⟩ := Int.eq_ofNat_of_zero_le h
  unfold cutD
  rw [HT.sIx_none, HT.sIx_nat, Int.toNat_natCast, List.take_of_length_le (by rw [List.length_drop]; omega)]
  by_cases hn : n ≤ xs.length
  · rw [Nat.min_eq_left hn]
  · rw [Nat.min_eq_right (by omega), List.drop_length, List.drop_of_length_le (by omega)]
/-- a tuple to pick from is as good as a list -/
def nrmP : List AV → List AV
  | [a, .val (.tuple r)] => [a, .val (.list r)]
  | as => as
theorem nrm_cases {as : List AV} {l rows : List D} (h : nrmP as = [.own l, .val (.list rows)]) : as = [.own l, .val (.list rows)] ∨ as = [.own l, .val (.tuple rows)] := by
  unfold nrmP at h
  split at h
  · cases h
    exact .inr rfl
  · exact .inl h
def p_law_pick : FS := fun as R => ∃ l rows, nrmP as = [.own l, .val (.list rows)] ∧ isStrm l ∧ rows ≠ [] ∧ rows.length ≤ 100000 ∧ ∀ d l', d ∈ rows → isStrm l' → R (.d d) (some l')
def p_law_order : FS := fun as R => ∃ l, ∃ many : Nat, as = [.own l, .val (.int (many : Nat))] ∧ isStrm l ∧ many ≤ 1000 ∧ ∀ f l', f.Nodup → (∀ k, k ∈ f ↔ k < many) → isStrm l' → R (.d (.list (nsD f))) (some l')

def Low (w : Str) : Prop := ∀ c ∈ w.cps.toList, lowC c = true
def p_law_word : FS := fun as R => ∃ l least most, as = [.own l, .val (.int least), .val (.int most)] ∧ isStrm l ∧ 0 ≤ least ∧ least ≤ most ∧ most ≤ 100 ∧ ∀ w l', least ≤ w.length → w.length ≤ most → Low w → isStrm l' → R (.d (.str w)) (some l')
theorem m_law_pick : MonoF p_law_pick := fun as R R' h ⟨a, b, c, d, e, f, k⟩ => ⟨a, b, c, d, e, f, fun x y u v => h _ _ (k x y u v)⟩
theorem l_law_pick : ∀ as R, p_law_pick as R → as.length = 2 := fun as R ⟨a, b, e, _⟩ => by rcases nrm_cases e with rfl | rfl <;> rfl
theorem m_law_order : MonoF p_law_order := fun as R R' h ⟨a, b, c, d, e, k⟩ => ⟨a, b, c, d, e, fun x y u v w => h _ _ (k x y u v w)⟩
theorem l_law_order : ∀ as R, p_law_order as R → as.length = 2 := fun as R ⟨a, b, e, _⟩ => by rw [e]; rfl

theorem m_law_word : MonoF p_law_word := fun as R R' h ⟨a, b, c, d, e, f, g, i, k⟩ => ⟨a, b, c, d, e, f, g, i, fun x y u v w t => h _ _ (k x y u v w t)⟩
theorem l_law_word : ∀ as R, p_law_word as R → as.length = 3 := fun as R ⟨a, b, c, e, _⟩ => by rw [e]; rfl
/-- 0 stream, 1 rows -/
def w_law_pick : WS :=
(wRet (wBin sIx (wVar 1) (wFrz (wCall p_law_next (wCons (wVar 0) (wCons (wFrz (wCB (f1 sLen) (wCons (wVar 1) wNil))) wNil))))))
/-- 0 stream, 1 many, 2 found, 3 k, 4 at -/
def w_law_order : WS :=
(wSeq (wSet 2 (wFrz (wLst wNil)))
 (wSeq (wFor (wRng1 (wCons (wVar 1) wNil)) (gNm 3)
 (wKill [3, 4] (wSeq (wSet 4 (wFrz (wCall p_law_next (wCons (wVar 0) (wCons (wBin sAdd (wVar 3) (wC (.int 1))) wNil)))))
 (wSet 2 (wBin sAdd (wBin sAdd (wFrz (wSl (wVar 2) wNoPart (wPart (wVar 4)))) (wFrz (wLst (wCons (wVar 3) wNil)))) (wFrz (wSl (wVar 2) (wPart (wVar 4)) wNoPart)))))))
 (wRet (wVar 2))))
/-- 0 stream, 1 least, 2 most, 3 letters, 4 word, 5 at -/
def w_law_word : WS :=
(wSeq (wSet 3 (wC (.str "abcdefghijklmnopqrstuvwxyz")))
 (wSeq (wSet 4 (wC (.str "")))
 (wSeq (wFor (wRng1 (wCons (wBin sAdd (wVar 1) (wFrz (wCall p_law_next (wCons (wVar 0) (wCons (wBin sAdd (wBin sSub (wVar 2) (wVar 1)) (wC (.int 1))) wNil))))) wNil)) (gNm 5)
 (wKill [5] (wSet 4 (wBin sAdd (wVar 4) (wBin sIx (wVar 3) (wFrz (wCall p_law_next (wCons (wVar 0) (wCons (wC (.int 26)) wNil)))))))))
 (wRet (wVar 4)))))
local macro_rules | `(tactic| walk_at "w2") => `(tactic| first
  | (with_reducible refine' i_allM ?_) | (with_reducible refine' i_anyM ?_))
local macro_rules | `(tactic| walk_at "w3") => `(tactic| first
  | ((with_reducible refine' j_ix ?h1 ?_); (case h1 => rfl))
  | ((with_reducible refine' i_asgK ?h1 ?_); (case h1 => rfl); (dsimp only [List.set_cons_succ, List.set_cons_zero]))
  | ((with_reducible refine' i_srcK ?h1 ?_); (case h1 => rfl))
  | ((with_reducible refine' i_enmK ?h1 ?_); (case h1 => rfl))
  | ((with_reducible refine' i_evD ?h1 ?h2 ?_); (case h1 => rfl); (case h2 => (intro l e; cases e; done)))
  | ((with_reducible refine' i_isD ?h1 ?_); (case h1 => assumption))
  | ((with_reducible refine' i_len ?h1 ?_); (case h1 => rfl)) | ((with_reducible refine' i_list ?h1 ?_); (case h1 => rfl)) | ((with_reducible refine' i_tuple ?h1 ?_); (case h1 => rfl)) | ((with_reducible refine' i_slL ?h1 ?_); (case h1 => rfl))
  | ((with_reducible refine' i_rngD ?h1 ?h2 ?_); (case h1 => (first | omega | decide)); (case h2 => (first | omega | decide))) | ((with_reducible refine' i_rngD2 ?h1 ?_); (case h1 => (first | omega | decide)))
  | ((with_reducible refine' i_lrgP ?h1 ?_); (case h1 => (apply RgOk.of_le <;> omega)))
  | ((with_reducible refine' j_put ?h1 ?_); (case h1 => rfl))
  | ((with_reducible refine' i_mul ?h1 ?_); (case h1 => (first | exact .inr (by decide) | exact .inl (by decide)))) | ((with_reducible refine' i_mod ?h1 ?_); (case h1 => (first | omega | decide)))
  | ((with_reducible refine' i_fdiv ?h1 ?_); (case h1 => (first | exact ⟨by decide, by decide⟩ | exact ⟨by omega, by omega⟩))) | ((with_reducible refine' i_pow ?h1 ?_); (case h1 => exact pow_ok (by decide)))
  | ((with_reducible refine' i_ifT ?h1 ?_); (case h1 => (first | rfl | assumption | (simp [isA]; done)))) | ((with_reducible refine' i_ifF ?h1 ?_); (case h1 => (first | rfl | assumption | (simp [isA]; done))))
  | ((with_reducible refine' j_pop ?h1 ?_); (case h1 => rfl))
  | ((with_reducible refine' j_append ?h1 ?_); (case h1 => (first | (simp [sizeLine_eq]; done) | (apply lt_line; omega)))))
local macro_rules | `(tactic| walk_at "w") => `(tactic| (try dsimp only [List.cons_append, List.nil_append, List.set_cons_succ, List.set_cons_zero, killAll]); repeat' (first | (with_reducible refine' Run.imp ?_) | walk_at "w3" | walk_at "w2" | fail "open"))
local macro_rules | `(tactic| walk_at "w0") => `(tactic| refine start_en ?_; simp only [startS, hasOwn, List.map_cons, List.map_nil, List.length_cons, List.length_nil, List.cons_append, List.nil_append, List.replicate, Nat.reduceAdd, Nat.reduceSub, Nat.zero_add])
local macro_rules | `(tactic| walk_at "n") => `(tactic| walk_at "w")

theorem atI_lt {α : Type} {xs : List α} {i : Int} (h0 : 0 ≤ i) (h1 : i < xs.length) : ∃ x ∈ xs, atI xs i = some x := by
  obtain ⟨n, rfl⟩ := Int.eq_ofNat_of_zero_le h0
  have hn : n < xs.length := by omega
  exact ⟨xs[n], List.getElem_mem hn, atI_nat (List.getElem?_eq_getElem hn)⟩
theorem v_law_pick : ∀ as R, p_law_pick as R → w_law_pick (retEn (hasOwn as) R) (startS 2 as) := by
  rintro as R ⟨l, rows, hn, hs, hne, hl, q⟩
  have : 0 < rows.length := List.length_pos_iff.mpr hne
  unfold w_law_pick
  rcases nrm_cases hn with rfl | rfl
  · walk_at "w0"
    walk_at "w"
    refine ⟨l, _, rfl, hs, by omega, by omega, fun d l' h0 h1 h2 => ?_⟩
    obtain ⟨x, hx, e⟩ := atI_lt h1 h2
    walk_at "w"
    refine i_ix rfl e ?_
    walk_at "w"
    exact q _ _ hx h0
  · walk_at "w0"
    walk_at "w"
    refine ⟨l, _, rfl, hs, by omega, by omega, fun d l' h0 h1 h2 => ?_⟩
    obtain ⟨x, hx, e⟩ := atI_lt h1 h2
    walk_at "w"
    refine i_ix rfl e ?_
    walk_at "w"
    exact q _ _ hx h0

theorem app_codes (a b : Str) : (a ++ b).cps.toList = a.cps.toList ++ b.cps.toList := Array.toList_append
theorem len_codes (a : Str) : a.length = a.cps.toList.length := by simp [Str.length]
theorem letters_at : ∀ n : Fin 26, ∃ c, atI ("abcdefghijklmnopqrstuvwxyz" : Str).cps.toList (n : Nat) = some c ∧ c = 97 + (n : Nat) := by
  intro n
  refine ⟨97 + n, ?_, rfl⟩
  revert n
  decide
theorem letter_at {d : Int} (h0 : 0 ≤ d) (h1 : d < 26) : atI ("abcdefghijklmnopqrstuvwxyz" : Str).cps.toList d = some (97 + d.toNat) := by
  obtain ⟨n, rfl⟩ := Int.eq_ofNat_of_zero_le h0
  obtain ⟨c, e, rfl⟩ := letters_at ⟨n, by omega⟩
  exact e
theorem v_law_word : ∀ as R, p_law_word as R → w_law_word (retEn (hasOwn as) R) (startS 6 as) := by
  rintro as R ⟨l, least, most, rfl, hs, h0, h1, h2, q⟩
  unfold w_law_word
  walk_at "w0"
  walk_at "w"
  refine ⟨l, _, rfl, hs, by omega, by omega, fun d l' hs' hd0 hd1 => ?_⟩
  walk_at "w"
  refine forR_inv (P := fun i z => ∃ w l', z = [some (.own (some 0) l'), some (.val (.int least)), some (.val (.int most)), some (.val (.str "abcdefghijklmnopqrstuvwxyz")), some (.val (.str w)), none] ∧ isStrm l' ∧ w.length = i ∧ Low w) (fun i z hi p N hN => ?_) (fun z p => ?_) ⟨"", l', rfl, hs', rfl, by intro c hc; cases hc⟩
  · obtain ⟨w, l2, rfl, hs2, hw, hlow⟩ := p
    refine ⟨_, rfl, ?_⟩
    walk_at "w"
    refine ⟨l2, _, rfl, hs2, by decide, by decide, fun d2 l3 hs3 h20 h21 => ?_⟩
    walk_at "w"
    refine i_ixS (le_line (by decide)) (letter_at h20 h21) ?_
    walk_at "w"
    have e1 : (w ++ (⟨#[97 + d2.toNat]⟩ : Str)).cps.toList = w.cps.toList ++ [97 + d2.toNat] := app_codes w _
    have ew : (⟨#[97 + d2.toNat]⟩ : Str).length = 1 := rfl
    refine i_addS (le_line (by rw [hw, ew]; omega)) ?_
    walk_at "w"
    refine hN _ ⟨_, l3, rfl, hs3, ?_, fun c hc => ?_⟩
    · rw [len_codes, e1, List.length_append, ← len_codes, hw]
      rfl
    · rw [e1] at hc
      rcases List.mem_append.mp hc with h | h
      · exact hlow c h
      · simp at h
        simp only [h, lowC, Bool.and_eq_true, decide_eq_true_eq]
        omega
  · obtain ⟨w, l2, rfl, hs2, hw, hlow⟩ := p
    walk_at "w"
    exact q w l2 (by omega) (by omega) hlow hs2
theorem v_law_order : ∀ as R, p_law_order as R → w_law_order (retEn (hasOwn as) R) (startS 5 as) := by
  rintro as R ⟨l, many, rfl, hs, hm, q⟩
  unfold w_law_order
  walk_at "w0"
  walk_at "w"
  refine forR_inv (P := fun i z => ∃ f l', z = [some (.own (some 0) l'), some (.val (.int (many : Nat))), some (.val (.list (nsD f))), none, none] ∧ isStrm l' ∧ f.Nodup ∧ ∀ k, k ∈ f ↔ k < i) (fun i z hi p N hN => ?_) (fun z p => ?_) ⟨[], l, rfl, hs, List.nodup_nil, fun k => by simp⟩
  · obtain ⟨f, l2, rfl, hs2, nd, hf⟩ := p
    refine ⟨_, rfl, ?_⟩
    walk_at "w"
    refine ⟨l2, _, rfl, hs2, by omega, by omega, fun d2 l3 hs3 h20 h21 => ?_⟩
    walk_at "w"
    have hlf : f.length ≤ i := nodup_len nd fun k hk => (hf k).mp hk
    have hln : (nsD f).length = f.length := by rw [nsD, List.length_map]
    refine i_addL rfl rfl (le_line ?_) ?_
    · rw [cutD_to h20, List.length_take, List.length_singleton]
      omega
    walk_at "w"
    refine i_addL rfl rfl (le_line ?_) ?_
    · rw [cutD_to h20, cutD_from h20, List.length_append, List.length_take, List.length_drop, List.length_singleton]
      omega
    walk_at "w"
    have hp : (f.take d2.toNat ++ [i] ++ f.drop d2.toNat).Perm (i :: f) := by
      have h1 : (f.take d2.toNat ++ [i] ++ f.drop d2.toNat).Perm ([i] ++ f.take d2.toNat ++ f.drop d2.toNat) := List.Perm.append_right _ List.perm_append_comm
      have e : [i] ++ f.take d2.toNat ++ f.drop d2.toNat = i :: f := by rw [List.append_assoc, List.take_append_drop]; rfl
      rw [e] at h1
      exact h1
    refine hN _ ⟨f.take d2.toNat ++ [i] ++ f.drop d2.toNat, l3, ?_, hs3, ?_, fun k => ?_⟩
    · rw [cutD_to h20, cutD_from h20]
      simp only [nsD, List.map_append, List.map_take, List.map_drop, Int.zero_add]
      rfl
    · rw [hp.nodup_iff]
      exact List.nodup_cons.mpr ⟨fun h => absurd ((hf i).mp h) (by omega), nd⟩
    · rw [hp.mem_iff, List.mem_cons, hf k]
      omega
  · obtain ⟨f, l2, rfl, hs2, nd, hf⟩ := p
    walk_at "w"
    refine q f l2 nd (fun k => ?_) hs2
    rw [hf k]
    omega
end L3
namespace L3
open PySem PySem.Spec PyProof.Rows L2 PySem.SeqAt
/-- the least length; a name of at least that length -/
def nmL (one : Bool) : Nat := bif one then 1 else 2
def nmB (one : Bool) (n : Str) : Bool := decide (nmL one ≤ n.length) && decide (n.length ≤ 8) && lowS n
def p_law_names : FS := fun as R => ∃ l, ∃ many : Nat, ∃ one : Bool, as = [.own l, .val (.int (many : Nat)), .val (.int (nmL one : Nat))] ∧ isStrm l ∧ many ≤ 25 ∧ ∀ ns l', ns.Nodup → ns.length = many → (∀ n ∈ ns, nmB one n = true) → isStrm l' → R (.n (txs ns)) (some l')
theorem m_law_names : MonoF p_law_names := fun as R R' h ⟨a, b, o, c, d, e, k⟩ => ⟨a, b, o, c, d, e, fun x y u v w t => h _ _ (k x y u v w t)⟩
theorem l_law_names : ∀ as R, p_law_names as R → as.length = 3 := fun as R ⟨a, b, o, e, _⟩ => by rw [e]; rfl
/-- 0 stream, 1 many, 2 least, 3 letters, 4 base, 5 at, 6 turn, 7 found, 8 k, 9 word, 10 options, 11 letter, 12 option -/
def w_law_names : WS :=
(wSeq (wSet 3 (wC (.str "abcdefghijklmnopqrstuvwxyz")))
 (wSeq (wIfS (wTest (wBin sEq (wFrz (wCall p_law_next (wCons (wVar 0) (wCons (wC (.int 2)) wNil)))) (wC (.int 0))))
 (wSeq (wSet 4 (wFrz (wCall p_law_word (wCons (wVar 0) (wCons (wVar 2) (wCons (wC (.int 8)) wNil))))))
 (wSeq (wSet 5 (wFrz (wCall p_law_next (wCons (wVar 0) (wCons (wFrz (wCB (f1 sLen) (wCons (wVar 4) wNil))) wNil)))))
 (wSeq (wSet 6 (wFrz (wCall p_law_next (wCons (wVar 0) (wCons (wC (.int 26)) wNil)))))
 (wRetR (wLc (wRng1 (wCons (wVar 1) wNil)) (gNm 8) [8] wYes (wBin sAdd (wBin sAdd (wFrz (wSl (wVar 4) wNoPart (wPart (wVar 5)))) (wBin sIx (wVar 3) (wBin sMod (wFrz (wCB (f1 sInt) (wCons (wBin sAdd (wVar 6) (wVar 8)) wNil))) (wC (.int 26))))) (wFrz (wSl (wVar 4) (wPart (wBin sAdd (wVar 5) (wC (.int 1)))) wNoPart))))))))
 wNext)
 (wSeq (wSetO 7 (wLst wNil))
 (wSeq (wFor (wRng1 (wCons (wVar 1) wNil)) (gNm 8)
 (wKill [8, 9, 10] (wSeq (wSet 9 (wFrz (wCall p_law_word (wCons (wVar 0) (wCons (wVar 2) (wCons (wC (.int 8)) wNil))))))
 (wSeq (wSet 10 (wBin sAdd (wFrz (wLst (wCons (wVar 9) wNil))) (wFrz (wLc (wSrc (wVar 3)) (gNm 11) [11] wYes (wBin sAdd (wFrz (wSl (wVar 9) wNoPart (wPart (wNeg (wC (.int 1)))))) (wVar 11))))))
 (wDrop (wFrz (wBM "list" mAppend (wVar 7) (wCons (wBin sIx (wFrz (wLc (wSrc (wVar 10)) (gNm 12) [12] (wTest (wBin sNotIn (wVar 12) (wVar 7))) (wVar 12))) (wC (.int 0))) wNil))))))))
 (wRetO 7)))))
local macro_rules | `(tactic| walk_at "w2") => `(tactic| first
  | (with_reducible refine' i_allM ?_) | (with_reducible refine' i_anyM ?_))
local macro_rules | `(tactic| walk_at "w3") => `(tactic| first
  | ((with_reducible refine' j_ix ?h1 ?_); (case h1 => rfl))
  | ((with_reducible refine' i_asgK ?h1 ?_); (case h1 => rfl); (dsimp only [List.set_cons_succ, List.set_cons_zero]))
  | ((with_reducible refine' i_srcK ?h1 ?_); (case h1 => rfl))
  | ((with_reducible refine' i_enmK ?h1 ?_); (case h1 => rfl))
  | ((with_reducible refine' i_evD ?h1 ?h2 ?_); (case h1 => rfl); (case h2 => (intro l e; cases e; done)))
  | ((with_reducible refine' i_isD ?h1 ?_); (case h1 => assumption))
  | ((with_reducible refine' i_len ?h1 ?_); (case h1 => rfl)) | ((with_reducible refine' i_list ?h1 ?_); (case h1 => rfl)) | ((with_reducible refine' i_tuple ?h1 ?_); (case h1 => rfl)) | ((with_reducible refine' i_slL ?h1 ?_); (case h1 => rfl))
  | ((with_reducible refine' i_rngD ?h1 ?h2 ?_); (case h1 => (first | omega | decide)); (case h2 => (first | omega | decide))) | ((with_reducible refine' i_rngD2 ?h1 ?_); (case h1 => (first | omega | decide)))
  | ((with_reducible refine' i_lrgP ?h1 ?_); (case h1 => (apply RgOk.of_le <;> omega)))
  | ((with_reducible refine' j_put ?h1 ?_); (case h1 => rfl))
  | ((with_reducible refine' i_mul ?h1 ?_); (case h1 => (first | exact .inr (by decide) | exact .inl (by decide)))) | ((with_reducible refine' i_mod ?h1 ?_); (case h1 => (first | omega | decide)))
  | ((with_reducible refine' i_fdiv ?h1 ?_); (case h1 => (first | exact ⟨by decide, by decide⟩ | exact ⟨by omega, by omega⟩))) | ((with_reducible refine' i_pow ?h1 ?_); (case h1 => exact pow_ok (by decide)))
  | ((with_reducible refine' i_ifT ?h1 ?_); (case h1 => (first | rfl | assumption | (simp [isA]; done)))) | ((with_reducible refine' i_ifF ?h1 ?_); (case h1 => (first | rfl | assumption | (simp [isA]; done))))
  | ((with_reducible refine' j_pop ?h1 ?_); (case h1 => rfl))
  | ((with_reducible refine' j_append ?h1 ?_); (case h1 => (first | (simp [sizeLine_eq]; done) | (apply lt_line; omega)))))
local macro_rules | `(tactic| walk_at "w") => `(tactic| (try dsimp only [List.cons_append, List.nil_append, List.set_cons_succ, List.set_cons_zero, killAll]); repeat' (first | (with_reducible refine' Run.imp ?_) | walk_at "w3" | walk_at "w2" | fail "open"))
local macro_rules | `(tactic| walk_at "w0") => `(tactic| refine start_en ?_; simp only [startS, hasOwn, List.map_cons, List.map_nil, List.length_cons, List.length_nil, List.cons_append, List.nil_append, List.replicate, Nat.reduceAdd, Nat.reduceSub, Nat.zero_add])
local macro_rules | `(tactic| walk_at "n") => `(tactic| walk_at "w")



theorem str_ext {a b : Str} (h : a.cps = b.cps) : a = b := by
  cases a
  cases b
  cases h
  rfl
def ofL (l : List Nat) : Str := ⟨l.toArray⟩
theorem ofL_len (l : List Nat) : (ofL l).length = l.length := by simp [ofL, Str.length]
theorem ofL_app (a b : List Nat) : ofL a ++ ofL b = ofL (a ++ b) := by
  have : (ofL a ++ ofL b).cps = (ofL (a ++ b)).cps := by
    show a.toArray ++ b.toArray = (a ++ b).toArray
    simp
  exact str_ext this
theorem ofL_inj {a b : List Nat} (h : ofL a = ofL b) : a = b := by
  have := congrArg (fun s : Str => s.cps.toList) h
  simpa [ofL] using this
theorem cutT_ofL (l : List Nat) (lo hi : Option Int) : cutT (ofL l) lo hi = ofL (cutD l lo hi) := by
  unfold cutT cutS cutD
  rw [ofL_len]
  rfl
theorem ofL_of (w : Str) : w = ofL w.cps.toList := by
  unfold ofL
  exact str_ext (by simp)
theorem nmB_ofL {one : Bool} {l : List Nat} (h2 : nmL one ≤ l.length) (h8 : l.length ≤ 8) (h : ∀ c ∈ l, lowC c = true) : nmB one (ofL l) = true := by
  simp only [nmB, ofL_len, decide_eq_true h2, decide_eq_true h8, Bool.true_and, lowS]
  exact List.all_eq_true.mpr (by simpa [ofL] using h)
theorem nmL_le (one : Bool) : 1 ≤ nmL one ∧ nmL one ≤ 2 := by cases one <;> decide
theorem low_letter {n : Nat} (h : n < 26) : lowC (97 + n) = true := by
  simp only [lowC, Bool.and_eq_true, decide_eq_true_eq]
  omega
theorem in_txs (F : List Str) (x : Str) : ((txs F).any fun y => PyData.eqv y (.str x)) = decide (x ∈ F) := by
  rw [Bool.eq_iff_iff, List.any_eq_true, decide_eq_true_eq]
  constructor
  · rintro ⟨y, hy, e⟩
    obtain ⟨n, hn, rfl⟩ := List.mem_map.mp hy
    rw [eqv_str] at e
    exact of_decide_eq_true e ▸ hn
  · intro h
    exact ⟨_, List.mem_map.mpr ⟨x, h, rfl⟩, by rw [eqv_str]; exact decide_eq_true rfl⟩
theorem i_notinTx {z : SS} {ev ew : EV} {F : List Str} {x : Str} {k : RV → Prop} (e : evD z ev = some (.str x)) (e2 : evD z ew = some (.list (txs F))) (h : k (.d (.bool (!decide (x ∈ F))))) : sNotIn z ev ew k :=
  ⟨_, _, e, e2, plain_strs _, rfl, by simp [PyData.depth], by rw [in_txs]; exact h⟩
theorem signs_letters : signs "abcdefghijklmnopqrstuvwxyz" = (List.range 26).map fun n => .str (ofL [97 + n]) := rfl
theorem cutD_neg1 {α : Type} (xs : List α) : cutD xs none (some (-1)) = xs.dropLast := by
  show (xs.drop 0).take ((-1 + (xs.length : Int)).toNat - 0) = xs.dropLast
  rw [List.drop_zero, Nat.sub_zero, List.dropLast_eq_take]
  congr 1
  omega
def newF (ns : List Str) (x : D) : Option D := match x with
  | .str s => if s ∈ ns then none else some (.str s)
  | _ => none
theorem newF_txs (ns : List Str) : ∀ l : List Str, (txs l).filterMap (newF ns) = txs (l.filter fun s => decide (s ∉ ns))
  | [] => rfl
  | x :: l => by
    have ih := newF_txs ns l
    simp only [txs, List.map_cons] at ih ⊢
    rw [List.filterMap_cons, List.filter_cons]
    by_cases hm : x ∈ ns
    · rw [if_neg (by simpa using hm)]
      simp only [newF, if_pos hm]
      exact ih
    · rw [if_pos (by simpa using hm)]
      simp only [newF, if_neg hm]
      rw [List.map_cons, ← ih]
/-- the name that one branch makes -/
def nameA (b : List Nat) (at' t k : Nat) : List Nat := b.take at' ++ [97 + (t + k) % 26] ++ b.drop (at' + 1)
theorem nameA_inj {b : List Nat} {a t k k' : Nat} (hk : k < 26) (hk' : k' < 26) (h : nameA b a t k = nameA b a t k') : k = k' := by
  unfold nameA at h
  have := List.append_cancel_right h
  have := List.append_cancel_left this
  simp at this
  omega
theorem nameA_len {b : List Nat} {a t k : Nat} (h : a < b.length) : (nameA b a t k).length = b.length := by
  simp [nameA]
  omega
theorem nameA_low {b : List Nat} {a t k : Nat} (h : ∀ c ∈ b, lowC c = true) : ∀ c ∈ nameA b a t k, lowC c = true := by
  intro c hc
  rcases List.mem_append.mp hc with hc | hc
  · rcases List.mem_append.mp hc with hc | hc
    · exact h c (List.mem_of_mem_take hc)
    · rw [List.mem_singleton] at hc
      rw [hc]
      exact low_letter (Nat.mod_lt _ (by decide))
  · exact h c (List.mem_of_mem_drop hc)
theorem v_law_names : ∀ as R, p_law_names as R → w_law_names (retEn (hasOwn as) R) (startS 13 as) := by
  rintro as R ⟨l, many, one, rfl, hs, hm, q⟩
  have hone := nmL_le one
  unfold w_law_names
  walk_at "w0"
  walk_at "w"
  refine ⟨l, _, rfl, hs, by decide, by decide, fun d l1 hs1 hd0 hd1 => ?_⟩
  walk_at "w"
  refine i_ifD (fun h => ?_) (fun h => ?_)
  · walk_at "w"
    refine ⟨l1, _, _, rfl, hs1, by omega, by omega, by decide, fun w l2 hw2 hw8 hlow hs2 => ?_⟩
    walk_at "w"
    refine i_lenS (le_line (by omega)) ?_
    walk_at "w"
    refine ⟨l2, _, rfl, hs2, by omega, by omega, fun a l3 hs3 ha0 ha1 => ?_⟩
    walk_at "w"
    refine ⟨l3, _, rfl, hs3, by decide, by decide, fun t l4 hs4 ht0 ht1 => ?_⟩
    walk_at "w"
    obtain ⟨a, rfl⟩ := Int.eq_ofNat_of_zero_le ha0
    obtain ⟨t, rfl⟩ := Int.eq_ofNat_of_zero_le ht0
    have hlen := len_codes w
    refine lcL_map (fun x => match x with | .int k => .str (ofL (nameA w.cps.toList a t k.toNat)) | _ => .none) ?_ (fun x hx N hN => ?_) ?_
    · rw [rangeD_len]
      exact le_line (by omega)
    · obtain ⟨i, hi⟩ := List.mem_iff_getElem?.mp hx
      obtain ⟨rfl, hlt⟩ := rangeD_get hi
      refine ⟨_, rfl, ?_⟩
      walk_at "w"
      refine i_slS (le_line (by omega)) ?_
      walk_at "w"
      refine i_ixS (le_line (by decide)) (letter_at (Int.emod_nonneg _ (by decide)) (Int.emod_lt_of_pos _ (by decide))) ?_
      walk_at "w"
      have ec : (({ cps := #[97 + (((t : Nat) + (0 + (i : Nat))) % 26 : Int).toNat] } : Str)) = ofL [97 + (t + i) % 26] := by
        have : ((((t : Nat) + (0 + (i : Nat))) % 26 : Int)).toNat = (t + i) % 26 := by omega
        rw [this]
        rfl
      have hwl : (w.cps.toList.take a).length ≤ 8 := by rw [List.length_take]; omega
      have hwd : (w.cps.toList.drop (a + 1)).length ≤ 8 := by rw [List.length_drop]; omega
      have e1 : cutT w none (some (a : Nat)) = ofL (w.cps.toList.take a) := by
        rw [ofL_of w, cutT_ofL, cutD_to (by omega)]
        rfl
      have e2 : cutT w (some ((a : Nat) + 1)) none = ofL (w.cps.toList.drop (a + 1)) := by
        rw [ofL_of w, cutT_ofL, cutD_from (by omega)]
        rfl
      rw [e1, ec]
      refine i_addS (le_line (by rw [ofL_len, ofL_len, List.length_singleton]; omega)) ?_
      walk_at "w"
      refine i_slS (le_line (by omega)) ?_
      rw [e2, ofL_app]
      walk_at "w"
      refine i_addS (le_line (by rw [ofL_len, ofL_len, List.length_append, List.length_singleton]; omega)) ?_
      rw [ofL_app]
      walk_at "w"
      have ei : ((0 : Int) + (i : Nat)).toNat = i := by omega
      simp only [ei] at hN
      exact hN _ rfl
    · walk_at "w"
      have e : (rangeD 0 (many : Nat)).map (fun x => match x with | .int k => PyData.str (ofL (nameA w.cps.toList a t k.toNat)) | _ => .none) = txs ((List.range many).map fun k => ofL (nameA w.cps.toList a t k)) := by
        rw [rangeD, List.map_map, txs, List.map_map, show ((many : Nat) - 0 : Int).toNat = many from by omega]
        refine List.map_congr_left fun k _ => ?_
        simp only [Function.comp]
        rw [show ((0 : Int) + (k : Nat)).toNat = k from by omega]
      rw [e]
      refine q _ _ ?_ (by rw [List.length_map, List.length_range]) (fun n hn => ?_) hs4
      · rw [List.nodup_iff_pairwise_ne, List.pairwise_map]
        refine List.Pairwise.imp_of_mem ?_ (List.nodup_iff_pairwise_ne.mp (List.nodup_range (n := many)))
        intro x y hx hy hxy h
        have := List.mem_range.mp hx
        have := List.mem_range.mp hy
        exact hxy (nameA_inj (by omega) (by omega) (ofL_inj h))
      · obtain ⟨k, _, rfl⟩ := List.mem_map.mp hn
        have hl := nameA_len (b := w.cps.toList) (a := a) (t := t) (k := k) (by omega)
        exact nmB_ofL (by omega) (by omega) (nameA_low hlow)
  · walk_at "w"
    refine forR_inv (P := fun i z => ∃ ns l', z = [some (.own (some 0) l'), some (.val (.int (many : Nat))), some (.val (.int (nmL one : Nat))), some (.val (.str "abcdefghijklmnopqrstuvwxyz")), none, none, none, some (.own none (txs ns)), none, none, none, none, none] ∧ isStrm l' ∧ ns.Nodup ∧ ns.length = i ∧ ∀ n ∈ ns, nmB one n = true) (fun i z hi p N hN => ?_) (fun z p => ?_) ⟨[], l1, rfl, hs1, List.nodup_nil, rfl, by simp⟩
    · obtain ⟨ns, l2, rfl, hs2, nd, hln, hns⟩ := p
      refine ⟨_, rfl, ?_⟩
      walk_at "w"
      refine ⟨l2, _, _, rfl, hs2, by omega, by omega, by decide, fun w l3 hw2 hw8 hlow hs3 => ?_⟩
      walk_at "w"
      have hlen := len_codes w
      have ec : cutT w none (some (-1)) = ofL w.cps.toList.dropLast := by
        conv => lhs; rw [ofL_of w, cutT_ofL, cutD_neg1]
      refine lcL_map (fun x => match x with | .str s => .str (ofL w.cps.toList.dropLast ++ s) | _ => .none) (le_line (by rw [signs_letters, List.length_map, List.length_range]; decide)) (fun x hx N1 hN1 => ?_) ?_
      · rw [signs_letters] at hx
        obtain ⟨n, hn, rfl⟩ := List.mem_map.mp hx
        refine ⟨_, rfl, ?_⟩
        walk_at "w"
        refine i_slS (le_line (by omega)) ?_
        rw [ec]
        walk_at "w"
        refine i_addS (le_line (by rw [ofL_len, ofL_len, List.length_dropLast, List.length_singleton]; omega)) ?_
        walk_at "w"
        exact hN1 _ rfl
      let opts : List Str := w :: (List.range 26).map fun n => ofL (w.cps.toList.dropLast ++ [97 + n])
      have eo : [PyData.str w] ++ (signs "abcdefghijklmnopqrstuvwxyz").map (fun x => match x with | .str s => PyData.str (ofL w.cps.toList.dropLast ++ s) | _ => .none) = txs opts := by
        rw [signs_letters, List.map_map]
        show _ = PyData.str w :: txs _
        rw [txs, List.map_map, List.singleton_append]
        congr 1
        refine List.map_congr_left fun n _ => ?_
        simp only [Function.comp, ofL_app]
      have ho : ∀ x ∈ opts, nmB one x = true := fun x hx => by
        rcases List.mem_cons.mp hx with rfl | hx
        · rw [ofL_of x]
          exact nmB_ofL (by omega) (by omega) hlow
        · obtain ⟨n, hn, rfl⟩ := List.mem_map.mp hx
          refine nmB_ofL (by rw [List.length_append, List.length_dropLast, List.length_singleton]; omega) (by rw [List.length_append, List.length_dropLast, List.length_singleton]; omega) fun c hc => ?_
          rcases List.mem_append.mp hc with hc | hc
          · exact hlow c ((List.dropLast_sublist _).subset hc)
          · rw [List.mem_singleton] at hc
            rw [hc]
            exact low_letter (List.mem_range.mp hn)
      have hopl : opts.length = 27 := by simp [opts]
      have hex : ¬ ∀ x ∈ opts, x ∈ ns := fun hall => by
        have hnd : ((List.range 26).map fun n => ofL (w.cps.toList.dropLast ++ [97 + n])).Nodup := by
          rw [List.nodup_iff_pairwise_ne, List.pairwise_map]
          refine List.Pairwise.imp ?_ (List.nodup_iff_pairwise_ne.mp (List.nodup_range (n := 26)))
          intro x y hxy h
          have := List.append_cancel_left (ofL_inj h)
          simp at this
          exact hxy this
        have := nodup_sub hnd fun x hx => hall x (List.mem_cons_of_mem _ hx)
        rw [List.length_map, List.length_range] at this
        omega
      walk_at "w"
      refine i_addL rfl rfl (le_line (by rw [List.length_map, signs_letters, List.length_map, List.length_range]; show 1 + 26 ≤ 100000; omega)) ?_
      rw [eo]
      walk_at "w"
      refine lcL_fm (newF ns) (le_line (by rw [txs, List.length_map]; omega)) (fun x hx N1 hN1 => ?_) ?_
      · obtain ⟨y, hy, rfl⟩ := List.mem_map.mp hx
        refine ⟨_, rfl, ?_⟩
        walk_at "w"
        refine i_notinTx rfl rfl ?_
        walk_at "w"
        by_cases hm : y ∈ ns
        · rw [decide_eq_true hm]
          walk_at "w"
          simp only [newF, if_pos hm] at hN1
          exact hN1 _ rfl
        · rw [decide_eq_false hm]
          walk_at "w"
          simp only [newF, if_neg hm] at hN1
          exact hN1 _ rfl
      have ef := newF_txs ns opts
      rw [ef]
      walk_at "w"
      have hx0 : ∃ x0 r, (opts.filter fun s => decide (s ∉ ns)) = x0 :: r := by
        cases e : opts.filter fun s => decide (s ∉ ns) with
        | cons x0 r => exact ⟨x0, r, rfl⟩
        | nil =>
          refine absurd (fun x hx => ?_) hex
          have := List.filter_eq_nil_iff.mp e x hx
          simpa using this
      obtain ⟨x0, r, ex⟩ := hx0
      have hm0 : x0 ∈ opts ∧ x0 ∉ ns := by
        have : x0 ∈ opts.filter fun s => decide (s ∉ ns) := by rw [ex]; simp
        have := List.mem_filter.mp this
        exact ⟨this.1, by simpa using this.2⟩
      rw [ex]
      refine i_ix rfl (d := .str x0) (atI_nat (j := 0) rfl) ?_
      walk_at "w"
      refine i_append rfl (lt_line (by rw [txs, List.length_map]; omega)) ?_
      refine hN _ ⟨ns ++ [x0], l3, ?_, hs3, ?_, ?_, ?_⟩
      · rw [strs_app]
        rfl
      · refine List.nodup_append.mpr ⟨nd, by simp, fun a ha b hb => ?_⟩
        rw [List.mem_singleton] at hb
        rintro rfl
        exact hm0.2 (hb ▸ ha)
      · rw [List.length_append, List.length_singleton, hln]
      · intro n hn
        rcases List.mem_append.mp hn with hn | hn
        · exact hns n hn
        · rw [List.mem_singleton] at hn
          rw [hn]
          exact ho x0 hm0.1
    · obtain ⟨ns, l2, rfl, hs2, nd, hln, hns⟩ := p
      walk_at "w"
      exact q ns l2 nd (by omega) hns hs2
end L3
namespace L3
open PySem PySem.Spec PyProof.Rows L2 PySem.SeqAt
def pValid : FS := fun as R => ∃ l, as = [.own l] ∧ isStrm l ∧ ∀ s l', Wf s → (namesOf s).Nodup → Whole s → isStrm l' → R (.d (sigD s)) (some l')
theorem m_valid : MonoF pValid := fun as R R' h ⟨a, b, c, k⟩ => ⟨a, b, c, fun x y u v w t => h _ _ (k x y u v w t)⟩
theorem l_valid : ∀ as R, pValid as R → as.length = 1 := fun as R ⟨a, e, _⟩ => by rw [e]; rfl
def p_law_any_signature : FS := pValid
theorem m_law_any_signature : MonoF p_law_any_signature := m_valid
theorem l_law_any_signature : ∀ as R, p_law_any_signature as R → as.length = 1 := l_valid
/-- 0 stream, 1 many, 2 opens, 3 counts, 4 names, 5 good, 6 found, 7 at, 8 kind, 9 ground, 10 rows, 11 place, 12 menu, 13 parts, 14 turn -/
def w_law_any_signature : WS :=
(wSeq (wSet 1 (wBin sAdd (wC (.int 1)) (wFrz (wCall p_law_next (wCons (wVar 0) (wCons (wC (.int 3)) wNil))))))
 (wSeq (wSet 2 (wFrz (wLc (wRng1 (wCons (wVar 1) wNil)) (gNm 8) [8] wYes (wBin sEq (wFrz (wCall p_law_next (wCons (wVar 0) (wCons (wC (.int 2)) wNil)))) (wC (.int 0))))))
 (wSeq (wLcSet 3 (wLc (wRng1 (wCons (wVar 1) wNil)) (gNm 8) [8] wYes (wIf (wTest (wBin sIx (wVar 2) (wVar 8))) (wFrz (wCall p_law_next (wCons (wVar 0) (wCons (wC (.int 5)) wNil)))) (wBin sAdd (wC (.int 1)) (wFrz (wCall p_law_next (wCons (wVar 0) (wCons (wC (.int 4)) wNil))))))))
 (wSeq (wSet 4 (wFrz (wCall p_law_names (wCons (wVar 0) (wCons (wFrz (wCB (f1 sSum) (wCons (wVar 3) wNil))) (wCons (wC (.int 2)) wNil))))))
 (wSeq (wSetO 5 (wLc (wRng1 (wCons (wVar 1) wNil)) (gNm 8) [8] (wTest (wBin sIx (wVar 2) (wVar 8))) (wVar 8)))
 (wSeq (wSetO 6 (wBinR sMul (wFrz (wLst (wCons (wC .none) wNil))) (wVar 1)))
 (wSeq (wSet 7 (wC (.int 0)))
 (wSeq (wFor (wSrc (wFrz (wCall p_law_order (wCons (wVar 0) (wCons (wVar 1) wNil))))) (gNm 8)
 (wKill [8, 9, 10, 11, 12, 13, 14] (wSeq (wSet 9 (wFrz (wCall p_law_next (wCons (wVar 0) (wCons (wFrz (wCB (f2 sMax) (wCons (wC (.int 1)) (wCons (wBin sIx (wVar 3) (wVar 8)) wNil)))) wNil)))))
 (wSeq (wSetO 10 (wLst wNil))
 (wSeq (wFor (wRng1 (wCons (wBin sIx (wVar 3) (wVar 8)) wNil)) (gNm 11)
 (wKill [11, 12, 13, 14] (wSeq (wSet 12 (wFrz (wLRg (wVar 1))))
 (wSeq (wIfS (wAnd (wNot (wTest (wBin sIx (wVar 2) (wVar 8)))) (wTest (wBin sEq (wVar 11) (wVar 9))))
 (wSet 12 (wFrz (wCB (f1 sListOf) (wCons (wVar 5) wNil))))
 wNext)
 (wSeq (wSet 13 (wTup wNil))
 (wSeq (wFor (wRng1 (wCons (wFrz (wCall p_law_next (wCons (wVar 0) (wCons (wC (.int 3)) wNil)))) wNil)) (gNm 14)
 (wKill [14] (wIfS (wTest (wBin sNe (wVar 12) (wFrz (wLst wNil))))
 (wSet 13 (wBin sAdd (wVar 13) (wTup (wCons (wFrz (wCall p_law_pick (wCons (wVar 0) (wCons (wVar 12) wNil)))) wNil))))
 wNext)))
 (wDrop (wFrz (wBM "list" mAppend (wVar 10) (wCons (wTup (wCons (wBin sIx (wVar 4) (wBin sAdd (wVar 7) (wVar 11))) (wCons (wVar 13) wNil))) wNil))))))))))
 (wSeq (wSet 7 (wBin sAdd (wVar 7) (wBin sIx (wVar 3) (wVar 8))))
 (wSeq (wPut (wTup (wCons (wIf (wTest (wBin sIx (wVar 2) (wVar 8))) (wC (.str "open")) (wC (.str "closed"))) (wCons (wFrz (wCB (f1 sTupOf) (wCons (wVar 10) wNil))) wNil))) (wVar 6) (wVar 8))
 (wIfS (wNot (wTest (wBin sIx (wVar 2) (wVar 8))))
 (wDrop (wFrz (wBM "list" mAppend (wVar 5) (wCons (wVar 8) wNil))))
 wNext))))))))
 (wRet (wFrz (wCB (f1 sTupOf) (wCons (wVar 6) wNil))))))))))))
local macro_rules | `(tactic| walk_at "w2") => `(tactic| first
  | (with_reducible refine' i_allM ?_) | (with_reducible refine' i_anyM ?_))
local macro_rules | `(tactic| walk_at "w3") => `(tactic| first
  | ((with_reducible refine' j_ix ?h1 ?_); (case h1 => rfl))
  | ((with_reducible refine' i_asgK ?h1 ?_); (case h1 => rfl); (dsimp only [List.set_cons_succ, List.set_cons_zero]))
  | ((with_reducible refine' i_srcK ?h1 ?_); (case h1 => rfl))
  | ((with_reducible refine' i_enmK ?h1 ?_); (case h1 => rfl))
  | ((with_reducible refine' i_evD ?h1 ?h2 ?_); (case h1 => rfl); (case h2 => (intro l e; cases e; done)))
  | ((with_reducible refine' i_isD ?h1 ?_); (case h1 => assumption))
  | ((with_reducible refine' i_len ?h1 ?_); (case h1 => rfl)) | ((with_reducible refine' i_list ?h1 ?_); (case h1 => rfl)) | ((with_reducible refine' i_tuple ?h1 ?_); (case h1 => rfl)) | ((with_reducible refine' i_slL ?h1 ?_); (case h1 => rfl))
  | ((with_reducible refine' i_rngD ?h1 ?h2 ?_); (case h1 => (first | omega | decide)); (case h2 => (first | omega | decide))) | ((with_reducible refine' i_rngD2 ?h1 ?_); (case h1 => (first | omega | decide)))
  | ((with_reducible refine' i_lrgP ?h1 ?_); (case h1 => (apply RgOk.of_le <;> omega)))
  | ((with_reducible refine' j_put ?h1 ?_); (case h1 => rfl))
  | ((with_reducible refine' i_mul ?h1 ?_); (case h1 => (first | exact .inr (by decide) | exact .inl (by decide)))) | ((with_reducible refine' i_mod ?h1 ?_); (case h1 => (first | omega | decide)))
  | ((with_reducible refine' i_fdiv ?h1 ?_); (case h1 => (first | exact ⟨by decide, by decide⟩ | exact ⟨by omega, by omega⟩))) | ((with_reducible refine' i_pow ?h1 ?_); (case h1 => exact pow_ok (by decide)))
  | ((with_reducible refine' i_ifT ?h1 ?_); (case h1 => (first | rfl | assumption | (simp [isA]; done)))) | ((with_reducible refine' i_ifF ?h1 ?_); (case h1 => (first | rfl | assumption | (simp [isA]; done))))
  | ((with_reducible refine' j_pop ?h1 ?_); (case h1 => rfl))
  | ((with_reducible refine' j_append ?h1 ?_); (case h1 => (first | (simp [sizeLine_eq]; done) | (apply lt_line; omega)))))
local macro_rules | `(tactic| walk_at "w") => `(tactic| (try dsimp only [List.cons_append, List.nil_append, List.set_cons_succ, List.set_cons_zero, killAll]); repeat' (first | (with_reducible refine' Run.imp ?_) | walk_at "w3" | walk_at "w2" | fail "open"))
local macro_rules | `(tactic| walk_at "w0") => `(tactic| refine start_en ?_; simp only [startS, hasOwn, List.map_cons, List.map_nil, List.length_cons, List.length_nil, List.cons_append, List.nil_append, List.replicate, Nat.reduceAdd, Nat.reduceSub, Nat.zero_add])
local macro_rules | `(tactic| walk_at "n") => `(tactic| walk_at "w")



/-- kinds with values, while the rows come one after another -/
inductive FilG (o : Nat → Bool) (Rf : Nat → Option Rw) : Nat → Prop
  | op {k : Nat} : o k = true → FilG o Rf k
  | co {k : Nat} {r : Rw} {c : Cn} : Rf k = some r → c ∈ r.2 → (∀ p ∈ c.2, FilG o Rf p) → FilG o Rf k
theorem FilG.mono {o : Nat → Bool} {Rf Rg : Nat → Option Rw} (h : ∀ k r, Rf k = some r → Rg k = some r) : ∀ {k : Nat}, FilG o Rf k → FilG o Rg k := by
  intro k f
  induction f with
  | op e => exact .op e
  | co e hc _ ih => exact .co (h _ _ e) hc ih
def foundD (m : Nat) (Rf : Nat → Option Rw) : List D := (List.range m).map fun k => match Rf k with
  | some r => rowD r
  | none => .none
def putF (Rf : Nat → Option Rw) (k : Nat) (r : Rw) : Nat → Option Rw := fun j => if j = k then some r else Rf j
theorem foundD_put {m : Nat} {Rf : Nat → Option Rw} {k : Nat} {r : Rw} : (foundD m Rf).set k (rowD r) = foundD m (putF Rf k r) := by
  unfold foundD putF
  refine List.ext_getElem? fun j => ?_
  rw [List.getElem?_set, List.getElem?_map, List.getElem?_map]
  by_cases hj : k = j
  · subst hj
    rw [if_pos rfl, List.length_map, List.length_range]
    by_cases hk : k < m
    · rw [if_pos hk]
      simp [hk]
    · rw [if_neg hk]
      simp [hk]
  · rw [if_neg hj]
    have : ¬ j = k := fun e => hj e.symm
    cases e : (List.range m)[j]? with
    | none => rfl
    | some x =>
      obtain ⟨h1, h2⟩ := List.getElem?_eq_some_iff.mp e
      rw [List.getElem_range] at h2
      subst h2
      simp [this]
def nmR (r : Rw) : List Str := r.2.map Prod.fst
theorem at_map {α : Type} {f : α → D} {l : List α} {k : Nat} (d : α) (h : k < l.length) : atI (l.map f) (k : Nat) = some (f (l.getD k d)) := by
  refine atI_nat ?_
  rw [List.getElem?_map, List.getElem?_eq_getElem h, List.getD_eq_getElem?_getD, List.getElem?_eq_getElem h]
  rfl
theorem getD_left {α : Type} {a b : List α} {k : Nat} {d : α} (h : k < a.length) : (a ++ b).getD k d = a.getD k d := by
  rw [List.getD_eq_getElem?_getD, List.getD_eq_getElem?_getD, List.getElem?_append_left h]
theorem getD_last {α : Type} {a : List α} {x d : α} : (a ++ [x]).getD a.length d = x := by
  rw [List.getD_eq_getElem?_getD, List.getElem?_append_right (Nat.le_refl _), Nat.sub_self]
  rfl
theorem ixN_lt {n k : Nat} (h : k < n) : ixN n (k : Nat) = some k := by
  unfold ixN
  rw [if_pos (by omega), if_pos (by omega), Int.toNat_natCast]
theorem rangeD_ns (m : Nat) : rangeD 0 (m : Nat) = nsD (List.range m) := by
  rw [rangeD, nsD, show ((m : Nat) - 0 : Int).toNat = m from by omega]
  refine List.map_congr_left fun k _ => ?_
  rw [Int.zero_add]
theorem nsD_len (l : List Nat) : (nsD l).length = l.length := List.length_map _
theorem ns_at {l : List Nat} {k : Nat} (h : k < l.length) : atI (nsD l) (k : Nat) = some (.int (l.getD k 0 : Nat)) := at_map 0 h
theorem flat_congr {α β : Type} {f g : α → List β} : ∀ {l : List α}, (∀ x ∈ l, f x = g x) → l.flatMap f = l.flatMap g
  | [], _ => rfl
  | x :: l, h => by rw [List.flatMap_cons, List.flatMap_cons, h x (by simp), flat_congr fun y hy => h y (by simp [hy])]
def openF (os : List Bool) (x : D) : Option D := match x with
  | .int k => if os.getD k.toNat false = true then some x else none
  | _ => none
theorem openF_range (os : List Bool) (m : Nat) : (rangeD 0 (m : Nat)).filterMap (openF os) = nsD ((List.range m).filter fun k => os.getD k false) := by
  rw [rangeD, List.filterMap_map, show ((m : Nat) - 0 : Int).toNat = m from by omega]
  induction List.range m with
  | nil => rfl
  | cons k r ih =>
    rw [List.filterMap_cons, List.filter_cons]
    have e : ((0 : Int) + (k : Nat)).toNat = k := by omega
    simp only [Function.comp, openF, e, Int.zero_add, Int.toNat_natCast] at ih ⊢
    cases h : os.getD k false with
    | true =>
      simp only [nsD, List.map_cons, ↓reduceIte] at ih ⊢
      rw [ih]
    | false =>
      simp only [Bool.false_eq_true, ↓reduceIte]
      exact ih
theorem sum_le {n : Nat} : ∀ {l : List Nat}, (∀ c ∈ l, c ≤ n) → l.sum ≤ n * l.length
  | [], _ => Nat.zero_le _
  | c :: l, h => by
    have := sum_le (l := l) fun x hx => h x (by simp [hx])
    have := h c (by simp)
    rw [List.sum_cons, List.length_cons, Nat.mul_succ]
    omega
theorem sum_int : ∀ l : List Nat, (l.map fun n => ((n : Nat) : Int)).sum = ((l.sum : Nat) : Int)
  | [] => rfl
  | c :: l => by
    rw [List.map_cons, List.sum_cons, sum_int l, List.sum_cons]
    omega
def nmO (Rf : Nat → Option Rw) (k : Nat) : List Str := match Rf k with
  | some r => nmR r
  | none => []
/-- what holds between two kinds -/
structure AI (m : Nat) (os : List Bool) (cs : List Nat) (ns : List Str) (f : List Nat) (i : Nat) (g : List Nat) (Rf : Nat → Option Rw) (a : Nat) : Prop where
  a1 : a = ((f.take i).map fun k => cs.getD k 0).sum
  nm : (f.take i).flatMap (nmO Rf) = ns.take a
  ro : ∀ k, k ∈ f.take i → ∃ r, Rf k = some r ∧ r.1 = os.getD k false ∧ wfRow m r
  no : ∀ k, k ∉ f.take i → Rf k = none
  gd : ∀ k ∈ g, k < m ∧ FilG (fun k => os.getD k false) Rf k
  cl : ∀ k, k ∈ f.take i → os.getD k false = false → k ∈ g
  gl : g.length ≤ m + i
theorem AI.next {m : Nat} {os : List Bool} {cs : List Nat} {ns : List Str} {f : List Nat} {i : Nat} {g : List Nat} {Rf : Nat → Option Rw} {a k : Nat} (h : AI m os cs ns f i g Rf a) (fnd : f.Nodup) (hk : f[i]? = some k) (hkm : k < m)
    {rows : List Cn} (hfst : rows.map Prod.fst = (ns.drop a).take (cs.getD k 0)) (hw : ∀ c ∈ rows, wfCons m c) (h4 : rows.length ≤ 4) {g' : List Nat}
    (hg : (os.getD k false = true ∧ g' = g) ∨ (os.getD k false = false ∧ g' = g ++ [k] ∧ ∃ c ∈ rows, ∀ p ∈ c.2, p ∈ g)) : AI m os cs ns f (i + 1) g' (putF Rf k (os.getD k false, rows)) (a + cs.getD k 0) := by
  have et : f.take (i + 1) = f.take i ++ [k] := by rw [List.take_add_one, hk]; rfl
  have hkn : k ∉ f.take i := fun hm => by
    have h1 : (f.take (i + 1)).Nodup := List.Nodup.sublist (List.take_sublist _ _) fnd
    rw [et, List.nodup_append] at h1
    exact h1.2.2 k hm k (by simp) rfl
  have pk : putF Rf k (os.getD k false, rows) k = some (os.getD k false, rows) := if_pos rfl
  have pn : ∀ j, j ≠ k → putF Rf k (os.getD k false, rows) j = Rf j := fun j hj => if_neg hj
  have mono : ∀ j r, Rf j = some r → putF Rf k (os.getD k false, rows) j = some r := fun j r e => by
    rw [pn j (by rintro rfl; rw [h.no _ hkn] at e; cases e), e]
  have gd2 : ∀ j ∈ g, j < m ∧ FilG (fun k => os.getD k false) (putF Rf k (os.getD k false, rows)) j := fun j hj => ⟨(h.gd j hj).1, (h.gd j hj).2.mono mono⟩
  refine ⟨?_, ?_, ?_, ?_, ?_, ?_, ?_⟩
  · rw [et, List.map_append, List.sum_append, ← h.a1]
    simp
  · rw [et, List.flatMap_append, flat_congr (g := nmO Rf) (fun j hj => by
      unfold nmO
      rw [pn j (by rintro rfl; exact hkn hj)]), h.nm, List.take_add]
    congr 1
    rw [List.flatMap_cons, List.flatMap_nil, List.append_nil]
    unfold nmO
    rw [pk]
    exact hfst
  · intro j hj
    by_cases e : j = k
    · subst e
      exact ⟨_, pk, rfl, h4, hw⟩
    · rw [et, List.mem_append] at hj
      rw [pn j e]
      exact h.ro j (hj.elim id fun h => absurd (List.mem_singleton.mp h) e)
  · intro j hj
    rw [et, List.mem_append, List.mem_singleton] at hj
    rw [pn j fun e => hj (.inr e)]
    exact h.no j fun e => hj (.inl e)
  · intro j hj
    rcases hg with ⟨_, rfl⟩ | ⟨ho, rfl, c, hc, hp⟩
    · exact gd2 j hj
    · rcases List.mem_append.mp hj with hj | hj
      · exact gd2 j hj
      · rw [List.mem_singleton] at hj
        subst hj
        exact ⟨hkm, .co pk hc fun p h => (gd2 p (hp p h)).2⟩
  · intro j hj ho
    rcases hg with ⟨h1, rfl⟩ | ⟨_, rfl, _⟩
    · rw [et, List.mem_append, List.mem_singleton] at hj
      rcases hj with hj | rfl
      · exact h.cl j hj ho
      · rw [h1] at ho
        cases ho
    · rw [et, List.mem_append, List.mem_singleton] at hj
      rcases hj with hj | rfl
      · exact List.mem_append_left _ (h.cl j hj ho)
      · simp
  · have := h.gl
    rcases hg with ⟨_, rfl⟩ | ⟨_, rfl, _⟩
    · omega
    · rw [List.length_append, List.length_singleton]
      omega
theorem AI.done {m : Nat} {os : List Bool} {cs : List Nat} {ns : List Str} {f g : List Nat} {Rf : Nat → Option Rw} {a : Nat} (h : AI m os cs ns f f.length g Rf a) (fnd : f.Nodup) (hf : ∀ k, k ∈ f ↔ k < m) (nd : ns.Nodup) (hm1 : 1 ≤ m) (hm3 : m ≤ 3) :
    ∃ s, foundD m Rf = s.map rowD ∧ Wf s ∧ (namesOf s).Nodup ∧ Whole s := by
  have ro := h.ro
  have cl := h.cl
  have nm := h.nm
  rw [List.take_length] at ro cl nm
  have get : ∀ k, k < m → ∃ r, Rf k = some r ∧ r.1 = os.getD k false ∧ wfRow m r := fun k hk => ro k ((hf k).mpr hk)
  let s : Sg := (List.range m).map fun k => (Rf k).getD (false, [])
  have hl : s.length = m := by simp [s]
  have sg : ∀ k, k < m → s[k]? = Rf k := fun k hk => by
    obtain ⟨r, e, _⟩ := get k hk
    simp [s, hk, e]
  refine ⟨s, ?_, ⟨by omega, by omega, fun r hr => ?_⟩, ?_, fun k hk => ?_⟩
  · unfold foundD
    rw [List.map_map]
    refine List.map_congr_left fun k hk => ?_
    obtain ⟨r, e, _⟩ := get k (List.mem_range.mp hk)
    simp [e]
  · obtain ⟨k, hk, rfl⟩ := List.mem_map.mp hr
    obtain ⟨r, e, _, w⟩ := get k (List.mem_range.mp hk)
    rw [e, hl]
    exact w
  · have e1 : namesOf s = (List.range m).flatMap (nmO Rf) := by
      unfold namesOf
      rw [List.flatMap_map]
      refine flat_congr fun k hk => ?_
      obtain ⟨r, e, _⟩ := get k (List.mem_range.mp hk)
      simp [nmO, e, nmR]
    have hp : f.Perm (List.range m) := (List.perm_ext_iff_of_nodup fnd List.nodup_range).mpr fun k => by rw [hf k, List.mem_range]
    rw [e1, ← (hp.flatMap_right (nmO Rf)).nodup_iff, nm]
    exact List.Nodup.sublist (List.take_sublist _ _) nd
  · rw [hl] at hk
    have go : ∀ k, FilG (fun k => os.getD k false) Rf k → k < m → Filled s k := fun k hg => by
      induction hg with
      | op ho =>
        intro hk
        obtain ⟨r, e, h1, _⟩ := get _ hk
        exact .op ((sg _ hk).trans e) (h1.trans ho)
      | co e hc _ ih =>
        intro hk
        obtain ⟨r, e2, _, w⟩ := get _ hk
        rw [e] at e2
        cases e2
        exact .co ((sg _ hk).trans e) hc fun p hp => ih p hp ((w.2 _ hc).2.2 p hp)
    refine go k ?_ hk
    cases ho : os.getD k false with
    | true => exact .op ho
    | false => exact (h.gd k (cl k ((hf k).mpr hk) ho)).2
/-- the last part of a constructor's turn -/
def wRestA : WS := (wSeq (wSet 13 (wTup wNil))
 (wSeq (wFor (wRng1 (wCons (wFrz (wCall p_law_next (wCons (wVar 0) (wCons (wC (.int 3)) wNil)))) wNil)) (gNm 14)
 (wKill [14] (wIfS (wTest (wBin sNe (wVar 12) (wFrz (wLst wNil))))
 (wSet 13 (wBin sAdd (wVar 13) (wTup (wCons (wFrz (wCall p_law_pick (wCons (wVar 0) (wCons (wVar 12) wNil)))) wNil))))
 wNext)))
 (wDrop (wFrz (wBM "list" mAppend (wVar 10) (wCons (wTup (wCons (wBin sIx (wVar 4) (wBin sAdd (wVar 7) (wVar 11))) (wCons (wVar 13) wNil))) wNil))))))
def zA (l' : List D) (m : Nat) (os : List Bool) (cs : List Nat) (ns : List Str) (g : List Nat) (Rf : Nat → Option Rw) (a : Nat) (t : SS) : SS :=
  [some (.own (some 0) l'), some (.val (.int (m : Nat))), some (.val (.list (os.map PyData.bool))), some (.val (.list (nsD cs))), some (.val (.list (txs ns))), some (.own none (nsD g)), some (.own none (foundD m Rf)), some (.val (.int (a : Nat)))] ++ t
theorem tx_at {ns : List Str} {a j : Nat} (h : a + j < ns.length) : atI (txs ns) ((a : Nat) + (j : Nat) : Int) = some (.str (ns.getD (a + j) "")) := by
  rw [show ((a : Nat) + (j : Nat) : Int) = ((a + j : Nat) : Int) from by omega]
  exact at_map (f := PyData.str) "" h
theorem foundD_len (m : Nat) (Rf : Nat → Option Rw) : (foundD m Rf).length = m := by simp [foundD]
theorem sum_part {m : Nat} {cs f : List Nat} (fnd : f.Nodup) (hf : ∀ k, k ∈ f ↔ k < m) (hcs : cs.length = m) (i : Nat) : ((f.take i).map fun k => cs.getD k 0).sum ≤ cs.sum := by
  have hp : f.Perm (List.range m) := (List.perm_ext_iff_of_nodup fnd List.nodup_range).mpr fun k => by rw [hf k, List.mem_range]
  have e1 : (List.range m).map (fun k => cs.getD k 0) = cs := by
    refine List.ext_getElem? fun j => ?_
    rw [List.getElem?_map]
    by_cases hj : j < m
    · have h2 : j < cs.length := by omega
      simp [hj, h2, List.getD_eq_getElem?_getD]
    · have h2 : cs.length ≤ j := by omega
      simp [hj, h2]
  have e2 : (f.map fun k => cs.getD k 0).sum = cs.sum := by
    rw [(hp.map _).sum_nat, e1]
  have e3 : (f.map fun k => cs.getD k 0).sum = ((f.take i).map fun k => cs.getD k 0).sum + ((f.drop i).map fun k => cs.getD k 0).sum := by
    rw [← List.sum_append, ← List.map_append, List.take_append_drop]
  omega
theorem rest_ok {E : En} {l' : List D} {m : Nat} {os : List Bool} {cs : List Nat} {ns : List Str} {g : List Nat} {Rf : Nat → Option Rw} {a k gr j : Nat} {rows : List Cn} {mn : List Nat} (hs : isStrm l') (hj : a + j < ns.length) (hr : rows.length ≤ 10) (hmn : mn.length ≤ 20)
    (h : ∀ ps l2, isStrm l2 → ps.length ≤ 2 → (∀ p ∈ ps, p ∈ mn) → E.nx (zA l2 m os cs ns g Rf a [some (.val (.int (k : Nat))), some (.val (.int (gr : Nat))), some (.own none ((rows ++ [(ns.getD (a + j) "", ps)]).map consD)), some (.val (.int (j : Nat))), some (.val (.list (nsD mn))), some (.val (.tuple (nsD ps))), none])) :
    wRestA E (zA l' m os cs ns g Rf a [some (.val (.int (k : Nat))), some (.val (.int (gr : Nat))), some (.own none (rows.map consD)), some (.val (.int (j : Nat))), some (.val (.list (nsD mn))), none, none]) := by
  obtain ⟨eN, eR, eB, eC⟩ := E
  unfold wRestA zA
  walk_at "w"
  refine ⟨l', _, rfl, hs, by decide, by decide, fun d l2 hs2 h0 h1 => ?_⟩
  walk_at "w"
  refine forR_inv (P := fun i z => ∃ ps l3, isStrm l3 ∧ ps.length ≤ i ∧ (∀ p ∈ ps, p ∈ mn) ∧ z = zA l3 m os cs ns g Rf a [some (.val (.int (k : Nat))), some (.val (.int (gr : Nat))), some (.own none (rows.map consD)), some (.val (.int (j : Nat))), some (.val (.list (nsD mn))), some (.val (.tuple (nsD ps))), none]) (fun i z hi p N hN => ?_) (fun z p => ?_) ⟨[], l2, hs2, Nat.le_refl _, by simp, rfl⟩
  · obtain ⟨ps, l3, hs3, hps, hpm, rfl⟩ := p
    refine ⟨_, rfl, ?_⟩
    unfold zA
    walk_at "w"
    refine ⟨_, _, rfl, rfl, plain_ns mn, rfl, by simp [PyData.depth, PyData.depthAll], ?_⟩
    walk_at "w"
    have hi2 : i < 2 := by omega
    refine i_ifB (fun hb => ?_) (fun hb => ?_)
    · have hne : mn ≠ [] := by
        rintro rfl
        cases hb
      walk_at "w"
      refine ⟨l3, nsD mn, rfl, hs3, by simpa [nsD] using hne, by rw [nsD_len]; omega, fun d l4 hd hs4 => ?_⟩
      obtain ⟨p, hp, rfl⟩ := List.mem_map.mp hd
      walk_at "w"
      refine i_addT (le_line (by rw [nsD_len]; show ps.length + 1 ≤ _; omega)) ?_
      walk_at "w"
      refine hN _ ⟨ps ++ [p], l4, hs4, by rw [List.length_append, List.length_singleton]; omega, fun q hq => ?_, ?_⟩
      · rcases List.mem_append.mp hq with hq | hq
        · exact hpm q hq
        · rw [List.mem_singleton] at hq
          rw [hq]
          exact hp
      · rw [nsD_app]
        rfl
    · walk_at "w"
      exact hN _ ⟨ps, l3, hs3, by omega, hpm, rfl⟩
  · obtain ⟨ps, l3, hs3, hps, hpm, rfl⟩ := p
    have hp2 : ps.length ≤ 2 := by omega
    unfold zA
    walk_at "w"
    refine i_ix rfl (tx_at hj) ?_
    walk_at "w"
    refine i_append rfl (lt_line (by rw [List.length_map]; omega)) ?_
    have := h ps l3 hs3 hp2 hpm
    rw [List.map_append] at this
    exact this
theorem v_law_any_signature : ∀ as R, p_law_any_signature as R → w_law_any_signature (retEn (hasOwn as) R) (startS 15 as) := by
  rintro as R ⟨l, rfl, hs, q⟩
  unfold w_law_any_signature
  walk_at "w0"
  walk_at "w"
  refine ⟨l, _, rfl, hs, by decide, by decide, fun d l1 hs1 hd0 hd1 => ?_⟩
  walk_at "w"
  obtain ⟨m, hm⟩ := Int.eq_ofNat_of_zero_le (show 0 ≤ 1 + d by omega)
  rw [hm]
  have hm1 : 1 ≤ m := by omega
  have hm3 : m ≤ 3 := by omega
  clear hd0 hd1 hm
  refine lcL_inv (P := fun i acc z => ∃ os : List Bool, os.length = i ∧ acc = os.map PyData.bool ∧ ∃ l', isStrm l' ∧ z = [some (.own (some 0) l'), some (.val (.int (m : Nat))), none, none, none, none, none, none, none, none, none, none, none, none, none]) (fun i x acc z hx p N hN => ?_) (fun acc z p => ?_) ⟨[], rfl, rfl, l1, hs1, rfl⟩
  · obtain ⟨os, hos, rfl, l2, hs2, rfl⟩ := p
    refine ⟨_, rfl, ?_⟩
    have := lt_of_get hx
    rw [rangeD_len] at this
    walk_at "w"
    refine ⟨l2, _, rfl, hs2, by decide, by decide, fun d2 l3 hs3 h20 h21 => ?_⟩
    walk_at "w"
    refine ⟨lt_line (by rw [List.length_map]; omega), ?_⟩
    exact hN _ _ ⟨os ++ [decide (d2 = 0)], by rw [List.length_append, hos]; rfl, by rw [List.map_append]; rfl, l3, hs3, rfl⟩
  obtain ⟨os, hos, rfl, l2, hs2, rfl⟩ := p
  rw [rangeD_len, show ((m : Nat) - 0 : Int).toNat = m from by omega] at hos
  walk_at "w"
  refine lcL_inv (P := fun i acc z => ∃ cs : List Nat, cs.length = i ∧ acc = nsD cs ∧ (∀ c ∈ cs, c ≤ 4) ∧ (∀ k, k < i → os.getD k false = false → 1 ≤ cs.getD k 0) ∧ ∃ l', isStrm l' ∧ z = [some (.own (some 0) l'), some (.val (.int (m : Nat))), some (.val (.list (os.map PyData.bool))), none, none, none, none, none, none, none, none, none, none, none, none]) (fun i x acc z hx p N hN => ?_) (fun acc z p => ?_) ⟨[], rfl, rfl, by simp, by simp, l2, hs2, rfl⟩
  · obtain ⟨cs, hcs, rfl, h4, h1, l3, hs3, rfl⟩ := p
    obtain ⟨rfl, hlt⟩ := rangeD_get hx
    rw [Int.zero_add] at hlt ⊢
    refine ⟨_, rfl, ?_⟩
    walk_at "w"
    refine i_ix rfl (at_map false (by omega)) ?_
    walk_at "w"
    have fin : ∀ (c : Nat) l', isStrm l' → c ≤ 4 → (os.getD i false = false → 1 ≤ c) → N (nsD cs ++ [.int (c : Nat)]) [some (.own (some 0) l'), some (.val (.int (m : Nat))), some (.val (.list (os.map PyData.bool))), none, none, none, none, none, none, none, none, none, none, none, none] := fun c l' hs' hc ho =>
      hN _ _ ⟨cs ++ [c], by rw [List.length_append, hcs]; rfl, (nsD_app cs c).symm, fun x hx => by
        rcases List.mem_append.mp hx with hx | hx
        · exact h4 x hx
        · rw [List.mem_singleton] at hx
          rw [hx]
          exact hc, fun k hk hf => by
        by_cases e : k < i
        · have := h1 k e hf
          rw [getD_left (by omega)]
          exact this
        · have e2 : k = i := by omega
          subst e2
          rw [← hcs, getD_last]
          exact ho hf, l', hs', rfl⟩
    refine i_ifB (fun h => ?_) (fun h => ?_)
    · walk_at "w"
      refine ⟨l3, _, rfl, hs3, by decide, by decide, fun d2 l4 hs4 h20 h21 => ?_⟩
      obtain ⟨c, rfl⟩ := Int.eq_ofNat_of_zero_le h20
      walk_at "w"
      refine ⟨lt_line (by rw [nsD, List.length_map]; omega), ?_⟩
      exact fin c l4 hs4 (by omega) (fun hf => by rw [h] at hf; cases hf)
    · walk_at "w"
      refine ⟨l3, _, rfl, hs3, by decide, by decide, fun d2 l4 hs4 h20 h21 => ?_⟩
      obtain ⟨c, hc⟩ := Int.eq_ofNat_of_zero_le (show 0 ≤ 1 + d2 by omega)
      walk_at "w"
      rw [hc]
      refine ⟨lt_line (by rw [nsD, List.length_map]; omega), ?_⟩
      exact fin c l4 hs4 (by omega) (fun hf => by omega)
  obtain ⟨cs, hcs, rfl, h4, h1, l3, hs3, rfl⟩ := p
  rw [rangeD_len, show ((m : Nat) - 0 : Int).toNat = m from by omega] at hcs h1
  walk_at "w"
  refine i_sum (ns := cs.map fun n => ((n : Nat) : Int)) (by rw [List.map_map]; rfl) ?_
  rw [sum_int]
  have hsum : cs.sum ≤ 12 := by
    have := sum_le h4
    omega
  walk_at "w"
  refine ⟨l3, cs.sum, false, rfl, hs3, by omega, fun ns l4 nd hnl hnn hs4 => ?_⟩
  walk_at "w"
  refine lcL_fm (openF os) (le_line (by rw [rangeD_len]; omega)) (fun x hx N hN => ?_) ?_
  · obtain ⟨i, hi⟩ := List.mem_iff_getElem?.mp hx
    obtain ⟨rfl, hlt⟩ := rangeD_get hi
    rw [Int.zero_add] at hlt hN ⊢
    refine ⟨_, rfl, ?_⟩
    walk_at "w"
    refine i_ix rfl (at_map false (by omega)) ?_
    walk_at "w"
    simp only [openF, Int.toNat_natCast] at hN
    refine i_ifB (fun h => ?_) (fun h => ?_)
    · simp only [h, if_true] at hN
      walk_at "w"
      exact hN _ rfl
    · simp only [h, Bool.false_eq_true, if_false] at hN
      walk_at "w"
      exact hN _ rfl
  rw [openF_range]
  walk_at "w"
  refine i_mulL rfl (by omega) (by omega) (le_line (by show 1 * _ ≤ _; omega)) ?_
  walk_at "w"
  have ef : (List.replicate (m : Int).toNat ((fun x => PyData.none :: x) [])).flatten = foundD m fun _ => none := by
    have : m = 1 ∨ m = 2 ∨ m = 3 := by omega
    rcases this with rfl | rfl | rfl <;> rfl
  rw [ef]
  refine ⟨l4, m, rfl, hs4, by omega, fun f l5 fnd hf hs5 => ?_⟩
  walk_at "w"
  have hfl : f.length ≤ m := nodup_len fnd fun k hk => (hf k).mp hk
  refine forL_inv (P := fun i z => ∃ g Rf a l', isStrm l' ∧ AI m os cs ns f i g Rf a ∧ z = zA l' m os cs ns g Rf a [none, none, none, none, none, none, none]) (fun i x z hx p N hN => ?_) (fun z p => ?_) ⟨_, fun _ => none, 0, l5, hs5, ⟨rfl, rfl, by simp, fun _ _ => rfl, fun k hk => ?_, by simp, ?_⟩, rfl⟩
  · obtain ⟨g, Rf, a, l6, hs6, ai, rfl⟩ := p
    rw [nsD, List.getElem?_map] at hx
    obtain ⟨k, hk, rfl⟩ := Option.map_eq_some_iff.mp hx
    have hkm : k < m := (hf k).mp (List.mem_of_getElem? hk)
    refine ⟨_, rfl, ?_⟩
    unfold zA
    walk_at "w"
    refine i_ix rfl (ns_at (by omega)) ?_
    walk_at "w"
    have hc4 : cs.getD k 0 ≤ 4 := by
      rw [List.getD_eq_getElem?_getD, List.getElem?_eq_getElem (show k < cs.length by omega)]
      exact h4 _ (List.getElem_mem _)
    have hc1 := h1 k hkm
    have hac : a + cs.getD k 0 ≤ ns.length := by
      have e1 := sum_part fnd hf hcs (i + 1)
      rw [List.take_add_one, hk, List.map_append, List.sum_append, ← ai.a1] at e1
      simp at e1
      simp only [List.getD_eq_getElem?_getD]
      omega
    generalize hc : cs.getD k 0 = c at hc4 hc1 hac
    refine ⟨l6, _, rfl, hs6, by split <;> omega, by split <;> omega, fun gr l7 hs7 hg0 hg1 => ?_⟩
    obtain ⟨gr, rfl⟩ := Int.eq_ofNat_of_zero_le hg0
    have hgr : 1 ≤ c → gr < c := fun h => by
      by_cases h2 : (c : Int) > 1
      · have hg2 : (gr : Int) < if (c : Int) > 1 then (c : Int) else 1 := hg1
        rw [if_pos h2] at hg2
        omega
      · have hg2 : (gr : Int) < if (c : Int) > 1 then (c : Int) else 1 := hg1
        rw [if_neg h2] at hg2
        omega
    clear hg1
    walk_at "w"
    refine i_ix rfl (ns_at (by omega)) ?_
    rw [hc]
    walk_at "w"
    refine forR_inv (P := fun j z => ∃ rows l', isStrm l' ∧ rows.length = j ∧ rows.map Prod.fst = (ns.drop a).take j ∧ (∀ c ∈ rows, wfCons m c) ∧ (os.getD k false = false → gr < j → ∃ c ∈ rows, ∀ p ∈ c.2, p ∈ g) ∧
      z = zA l' m os cs ns g Rf a [some (.val (.int (k : Nat))), some (.val (.int (gr : Nat))), some (.own none (rows.map consD)), none, none, none, none]) (fun j z hj p N2 hN2 => ?_) (fun z p => ?_) ⟨[], l7, hs7, rfl, rfl, by simp, fun _ h => absurd h (by omega), rfl⟩
    · obtain ⟨rows, l8, hs8, hrl, hfst, hw, hcl, rfl⟩ := p
      rw [Int.zero_add] at hj ⊢
      refine ⟨_, rfl, ?_⟩
      unfold zA
      walk_at "w"
      refine i_ix rfl (at_map (f := PyData.bool) (l := os) (k := k) false (by omega)) ?_
      walk_at "w"
      rw [rangeD_ns]
      have key : ∀ mn : List Nat, (∀ p ∈ mn, p < m) → (os.getD k false = false → j = gr → ∀ p ∈ mn, p ∈ g) → ∀ ps l2, isStrm l2 → ps.length ≤ 2 → (∀ p ∈ ps, p ∈ mn) →
          N2 (zA l2 m os cs ns g Rf a [some (.val (.int (k : Nat))), some (.val (.int (gr : Nat))), some (.own none ((rows ++ [(ns.getD (a + j) "", ps)]).map consD)), none, none, none, none]) := fun mn h1 h2 ps l2 hs2 hp hpm =>
        hN2 _ ⟨rows ++ [(ns.getD (a + j) "", ps)], l2, hs2, by rw [List.length_append, hrl]; rfl, by
          rw [List.map_append, hfst, List.take_add_one, List.getElem?_drop, List.getElem?_eq_getElem (show a + j < ns.length by omega), List.getD_eq_getElem?_getD, List.getElem?_eq_getElem (show a + j < ns.length by omega)]
          rfl, fun c hc => by
          rcases List.mem_append.mp hc with hc | hc
          · exact hw c hc
          · rw [List.mem_singleton] at hc
            subst hc
            refine ⟨hnn _ ?_, hp, fun p hpp => h1 p (hpm p hpp)⟩
            rw [List.getD_eq_getElem?_getD, List.getElem?_eq_getElem (show a + j < ns.length by omega)]
            exact List.getElem_mem _, fun ho hlt => by
          by_cases e : j = gr
          · exact ⟨_, List.mem_append_right _ (List.mem_singleton.mpr rfl), fun p hpp => h2 ho e p (hpm p hpp)⟩
          · obtain ⟨c, hc, hp⟩ := hcl ho (by omega)
            exact ⟨c, List.mem_append_left _ hc, hp⟩, rfl⟩
      have hgm := ai.gd
      have hgl := ai.gl
      have him := lt_of_get hk
      refine i_ifB (fun h => ?_) (fun h => ?_)
      · walk_at "w"
        refine i_ifD (fun e => ?_) (fun e => ?_)
        · refine i_set (i_frz (i_cb (i_cons (i_varO rfl (i_nil (i_f1 (i_list rfl (i_exD ?_))))))))
          exact rest_ok (l' := l8) (m := m) (os := os) (cs := cs) (ns := ns) (g := g) (Rf := Rf) (a := a) (k := k) (gr := gr) (j := j) (rows := rows) (mn := g) hs8 (by omega) (by omega) (by omega) fun ps l2 hs2 hp hpm => key g (fun p hp => (hgm p hp).1) (fun _ _ p hp => hp) ps l2 hs2 hp hpm
        · refine i_next ?_
          exact rest_ok (l' := l8) (m := m) (os := os) (cs := cs) (ns := ns) (g := g) (Rf := Rf) (a := a) (k := k) (gr := gr) (j := j) (rows := rows) (mn := List.range m) hs8 (by omega) (by omega) (by rw [List.length_range]; omega) fun ps l2 hs2 hp hpm => key (List.range m) (fun p hp => List.mem_range.mp hp) (fun _ e2 => absurd e2 (by omega)) ps l2 hs2 hp hpm
      · have ho : os.getD k false = true := by simpa using h
        refine i_ifF rfl (i_next ?_)
        exact rest_ok (l' := l8) (m := m) (os := os) (cs := cs) (ns := ns) (g := g) (Rf := Rf) (a := a) (k := k) (gr := gr) (j := j) (rows := rows) (mn := List.range m) hs8 (by omega) (by omega) (by rw [List.length_range]; omega) fun ps l2 hs2 hp hpm => key (List.range m) (fun p hp => List.mem_range.mp hp) (fun e2 => by rw [ho] at e2; cases e2) ps l2 hs2 hp hpm
    · obtain ⟨rows, l8, hs8, hrl, hfst, hw, hcl, rfl⟩ := p
      rw [show ((c : Nat) - 0 : Int).toNat = c from by omega] at hrl hfst hcl
      unfold zA
      walk_at "w"
      refine i_ix rfl (ns_at (l := cs) (k := k) (by omega)) ?_
      walk_at "w"
      refine i_ix rfl (at_map (f := PyData.bool) (l := os) (k := k) false (by omega)) ?_
      walk_at "w"
      refine i_ifB (fun h => ?_) (fun h => ?_)
      · walk_at "w"
        refine i_putD rfl (ixN_lt (by rw [foundD_len]; exact hkm)) ?_
        walk_at "w"
        refine i_ix rfl (at_map (f := PyData.bool) (l := os) (k := k) false (by omega)) ?_
        rw [h]
        walk_at "w"
        refine hN _ ⟨g, _, _, l8, hs8, ai.next fnd hk hkm (rows := rows) (by rw [hc]; exact hfst) hw (by omega) (.inl ⟨h, rfl⟩), ?_⟩
        have er : PyData.tuple [.str "open", .tuple (rows.map consD)] = rowD (os.getD k false, rows) := by rw [h]; rfl
        rw [zA, ← foundD_put, ← er, hc, show ((a + c : Nat) : Int) = (a : Int) + (c : Int) from by omega]
        rfl
      · walk_at "w"
        refine i_putD rfl (ixN_lt (by rw [foundD_len]; exact hkm)) ?_
        walk_at "w"
        refine i_ix rfl (at_map (f := PyData.bool) (l := os) (k := k) false (by omega)) ?_
        rw [h]
        walk_at "w"
        have hgl := ai.gl
        have him := lt_of_get hk
        refine i_append rfl (lt_line (by rw [nsD_len]; omega)) ?_
        have h5 := hc1 h
        refine hN _ ⟨g ++ [k], _, _, l8, hs8, ai.next fnd hk hkm (rows := rows) (by rw [hc]; exact hfst) hw (by omega) (.inr ⟨h, rfl, hcl h (hgr (hc1 h))⟩), ?_⟩
        have er : PyData.tuple [.str "closed", .tuple (rows.map consD)] = rowD (os.getD k false, rows) := by rw [h]; rfl
        rw [zA, ← foundD_put, ← er, hc, nsD_app, show ((a + c : Nat) : Int) = (a : Int) + (c : Int) from by omega]
        rfl
  · obtain ⟨g, Rf, a, l6, hs6, ai, rfl⟩ := p
    rw [nsD_len] at ai
    obtain ⟨s, e, w1, w2, w3⟩ := ai.done fnd hf nd hm1 hm3
    unfold zA
    walk_at "w"
    rw [e]
    exact q s l6 w1 w2 w3 hs6
  · obtain ⟨h1, h2⟩ := List.mem_filter.mp hk
    exact ⟨List.mem_range.mp h1, .op h2⟩
  · have := List.length_filter_le (fun k => os.getD k false) (List.range m)
    rw [List.length_range] at this
    omega
end L3
namespace L3
open PySem PySem.Spec PyProof.Rows L2 PySem.SeqAt
def p_law_rich_signature : FS := pValid
theorem m_law_rich_signature : MonoF p_law_rich_signature := m_valid
theorem l_law_rich_signature : ∀ as R, p_law_rich_signature as R → as.length = 1 := l_valid
def p_law_signature : FS := pValid
theorem m_law_signature : MonoF p_law_signature := m_valid
theorem l_law_signature : ∀ as R, p_law_signature as R → as.length = 1 := l_valid
/-- 0 stream, 1 step, 2 flag, 3 other, 4 names, 5 flags, 6 steps, 7 types, 8 found -/
def w_law_rich_signature : WS :=
(wSeq (wAsg (wFrz (wCall p_law_order (wCons (wVar 0) (wCons (wC (.int 3)) wNil)))) (gTp [(gNm 1), (gNm 2), (gNm 3)]))
 (wSeq (wSet 4 (wFrz (wCall p_law_names (wCons (wVar 0) (wCons (wC (.int 11)) (wCons (wC (.int 2)) wNil))))))
 (wSeq (wSet 5 (wFrz (wSl (wFrz (wLst (wCons (wTup (wCons (wBin sIx (wVar 4) (wC (.int 3))) (wCons (wTup wNil) wNil))) (wCons (wTup (wCons (wBin sIx (wVar 4) (wC (.int 4))) (wCons (wTup wNil) wNil))) (wCons (wTup (wCons (wBin sIx (wVar 4) (wC (.int 5))) (wCons (wTup wNil) wNil))) (wCons (wTup (wCons (wBin sIx (wVar 4) (wC (.int 6))) (wCons (wTup wNil) wNil))) wNil)))))) wNoPart (wPart (wBin sAdd (wC (.int 1)) (wFrz (wCall p_law_next (wCons (wVar 0) (wCons (wC (.int 4)) wNil)))))))))
 (wSeq (wSetO 6 (wLst (wCons (wTup (wCons (wBin sIx (wVar 4) (wC (.int 0))) (wCons (wTup wNil) wNil))) (wCons (wTup (wCons (wBin sIx (wVar 4) (wC (.int 1))) (wCons (wTup (wCons (wVar 1) wNil)) wNil))) wNil))))
 (wSeq (wIfS (wTest (wBin sEq (wFrz (wCall p_law_next (wCons (wVar 0) (wCons (wC (.int 2)) wNil)))) (wC (.int 0))))
 (wDrop (wFrz (wBM "list" mAppend (wVar 6) (wCons (wTup (wCons (wBin sIx (wVar 4) (wC (.int 2))) (wCons (wFrz (wCall p_law_pick (wCons (wVar 0) (wCons (wFrz (wLst (wCons (wTup (wCons (wVar 1) (wCons (wVar 1) wNil))) (wCons (wTup (wCons (wVar 2) wNil)) (wCons (wTup (wCons (wVar 3) wNil)) (wCons (wTup (wCons (wVar 2) (wCons (wVar 1) wNil))) wNil)))))) wNil)))) wNil))) wNil))))
 wNext)
 (wSeq (wSetO 7 (wLst (wCons (wTup (wCons (wBin sIx (wVar 4) (wC (.int 7))) (wCons (wTup wNil) wNil))) (wCons (wTup (wCons (wBin sIx (wVar 4) (wC (.int 8))) (wCons (wTup (wCons (wVar 3) wNil)) wNil))) (wCons (wTup (wCons (wBin sIx (wVar 4) (wC (.int 9))) (wCons (wFrz (wCall p_law_pick (wCons (wVar 0) (wCons (wFrz (wLst (wCons (wTup (wCons (wVar 3) (wCons (wVar 3) wNil))) (wCons (wTup (wCons (wVar 2) (wCons (wVar 3) wNil))) wNil)))) wNil)))) wNil))) wNil)))))
 (wSeq (wDrop (wFrz (wBM "list" mAppend (wVar 7) (wCons (wTup (wCons (wBin sIx (wVar 4) (wC (.int 10))) (wCons (wFrz (wCall p_law_pick (wCons (wVar 0) (wCons (wFrz (wLst (wCons (wTup (wCons (wVar 1) wNil)) (wCons (wTup (wCons (wVar 2) wNil)) (wCons (wTup (wCons (wVar 1) (wCons (wVar 3) wNil))) (wCons (wTup (wCons (wVar 2) (wCons (wVar 2) wNil))) wNil)))))) wNil)))) wNil))) wNil))))
 (wSeq (wSetO 8 (wLst (wCons (wC .none) (wCons (wC .none) (wCons (wC .none) wNil)))))
 (wSeq (wPut (wTup (wCons (wC (.str "closed")) (wCons (wFrz (wCB (f1 sTupOf) (wCons (wVar 6) wNil))) wNil))) (wVar 8) (wVar 1))
 (wSeq (wPut (wTup (wCons (wC (.str "closed")) (wCons (wFrz (wCB (f1 sTupOf) (wCons (wVar 5) wNil))) wNil))) (wVar 8) (wVar 2))
 (wSeq (wPut (wTup (wCons (wC (.str "open")) (wCons (wFrz (wCB (f1 sTupOf) (wCons (wFrz (wSl (wVar 7) wNoPart (wPart (wBin sAdd (wC (.int 1)) (wFrz (wCall p_law_next (wCons (wVar 0) (wCons (wC (.int 4)) wNil)))))))) wNil))) wNil))) (wVar 8) (wVar 3))
 (wRet (wFrz (wCB (f1 sTupOf) (wCons (wVar 8) wNil)))))))))))))))
/-- 0 stream -/
def w_law_signature : WS :=
(wRetV (vIf (wTest (wBin sEq (wFrz (wCall p_law_next (wCons (wVar 0) (wCons (wC (.int 2)) wNil)))) (wC (.int 0)))) (vR (wCall p_law_any_signature (wCons (wVar 0) wNil))) (vR (wCall p_law_rich_signature (wCons (wVar 0) wNil)))))
local macro_rules | `(tactic| walk_at "w2") => `(tactic| first
  | (with_reducible refine' i_allM ?_) | (with_reducible refine' i_anyM ?_))
local macro_rules | `(tactic| walk_at "w3") => `(tactic| first
  | ((with_reducible refine' j_ix ?h1 ?_); (case h1 => rfl))
  | ((with_reducible refine' i_asgK ?h1 ?_); (case h1 => rfl); (dsimp only [List.set_cons_succ, List.set_cons_zero]))
  | ((with_reducible refine' i_srcK ?h1 ?_); (case h1 => rfl))
  | ((with_reducible refine' i_enmK ?h1 ?_); (case h1 => rfl))
  | ((with_reducible refine' i_evD ?h1 ?h2 ?_); (case h1 => rfl); (case h2 => (intro l e; cases e; done)))
  | ((with_reducible refine' i_isD ?h1 ?_); (case h1 => assumption))
  | ((with_reducible refine' i_len ?h1 ?_); (case h1 => rfl)) | ((with_reducible refine' i_list ?h1 ?_); (case h1 => rfl)) | ((with_reducible refine' i_tuple ?h1 ?_); (case h1 => rfl)) | ((with_reducible refine' i_slL ?h1 ?_); (case h1 => rfl))
  | ((with_reducible refine' i_rngD ?h1 ?h2 ?_); (case h1 => (first | omega | decide)); (case h2 => (first | omega | decide))) | ((with_reducible refine' i_rngD2 ?h1 ?_); (case h1 => (first | omega | decide)))
  | ((with_reducible refine' i_lrgP ?h1 ?_); (case h1 => (apply RgOk.of_le <;> omega)))
  | ((with_reducible refine' j_put ?h1 ?_); (case h1 => rfl))
  | ((with_reducible refine' i_mul ?h1 ?_); (case h1 => (first | exact .inr (by decide) | exact .inl (by decide)))) | ((with_reducible refine' i_mod ?h1 ?_); (case h1 => (first | omega | decide)))
  | ((with_reducible refine' i_fdiv ?h1 ?_); (case h1 => (first | exact ⟨by decide, by decide⟩ | exact ⟨by omega, by omega⟩))) | ((with_reducible refine' i_pow ?h1 ?_); (case h1 => exact pow_ok (by decide)))
  | ((with_reducible refine' i_ifT ?h1 ?_); (case h1 => (first | rfl | assumption | (simp [isA]; done)))) | ((with_reducible refine' i_ifF ?h1 ?_); (case h1 => (first | rfl | assumption | (simp [isA]; done))))
  | ((with_reducible refine' j_pop ?h1 ?_); (case h1 => rfl))
  | ((with_reducible refine' j_append ?h1 ?_); (case h1 => (first | (simp [sizeLine_eq]; done) | (apply lt_line; omega)))))
local macro_rules | `(tactic| walk_at "w") => `(tactic| (try dsimp only [List.cons_append, List.nil_append, List.set_cons_succ, List.set_cons_zero, killAll]); repeat' (first | (with_reducible refine' Run.imp ?_) | walk_at "w3" | walk_at "w2" | fail "open"))
local macro_rules | `(tactic| walk_at "w0") => `(tactic| refine start_en ?_; simp only [startS, hasOwn, List.map_cons, List.map_nil, List.length_cons, List.length_nil, List.cons_append, List.nil_append, List.replicate, Nat.reduceAdd, Nat.reduceSub, Nat.zero_add])
local macro_rules | `(tactic| walk_at "n") => `(tactic| walk_at "w")

theorem v_law_signature : ∀ as R, p_law_signature as R → w_law_signature (retEn (hasOwn as) R) (startS 1 as) := by
  rintro as R ⟨l, rfl, hs, q⟩
  unfold w_law_signature
  walk_at "w0"
  walk_at "w"
  refine ⟨l, _, rfl, hs, by decide, by decide, fun d l1 hs1 hd0 hd1 => ?_⟩
  walk_at "w"
  refine i_ifD (fun h => ?_) (fun h => ?_)
  · walk_at "w"
    refine ⟨l1, rfl, hs1, fun s l2 h1 h2 h3 hs2 => ?_⟩
    walk_at "w"
    exact q s l2 h1 h2 h3 hs2
  · walk_at "w"
    refine ⟨l1, rfl, hs1, fun s l2 h1 h2 h3 hs2 => ?_⟩
    walk_at "w"
    exact q s l2 h1 h2 h3 hs2
theorem len3 {f : List Nat} (fnd : f.Nodup) (hf : ∀ k, k ∈ f ↔ k < 3) : ∃ a b c, f = [a, b, c] ∧ a < 3 ∧ b < 3 ∧ c < 3 ∧ a ≠ b ∧ a ≠ c ∧ b ≠ c := by
  have h1 : f.length ≤ 3 := nodup_len fnd fun k hk => (hf k).mp hk
  have h2 := nodup_sub (a := List.range 3) (b := f) List.nodup_range fun k hk => (hf k).mpr (List.mem_range.mp hk)
  rw [List.length_range] at h2
  match f, (show f.length = 3 by omega) with
  | [a, b, c], _ =>
    simp only [List.nodup_cons, List.mem_cons, List.not_mem_nil, or_false, not_or] at fnd
    exact ⟨a, b, c, rfl, (hf a).mp (by simp), (hf b).mp (by simp), (hf c).mp (by simp), fnd.1.1, fnd.1.2, fnd.2.1⟩
theorem len11 {l : List Str} (h : l.length = 11) : ∃ n0 n1 n2 n3 n4 n5 n6 n7 n8 n9 n10, l = [n0, n1, n2, n3, n4, n5, n6, n7, n8, n9, n10] := by
  match l, h with
  | [n0, n1, n2, n3, n4, n5, n6, n7, n8, n9, n10], _ => exact ⟨n0, n1, n2, n3, n4, n5, n6, n7, n8, n9, n10, rfl⟩
theorem rich_fin {a b c : Nat} (ha : a < 3) (hb : b < 3) (hc : c < 3) (hab : a ≠ b) (hac : a ≠ c) (hbc : b ≠ c) (A B C : Rw) : ∃ s : Sg, ((([PyData.none, .none, .none].set a (rowD A)).set b (rowD B)).set c (rowD C)) = s.map rowD ∧ s.length = 3 ∧
    s[a]? = some A ∧ s[b]? = some B ∧ s[c]? = some C ∧ (∀ r ∈ s, r = A ∨ r = B ∨ r = C) ∧ (namesOf s).Perm (nmR A ++ nmR B ++ nmR C) := by
  have hp : ∀ X Y Z : Rw, (∀ n, (nmR X ++ nmR Y ++ nmR Z).count n = (nmR A ++ nmR B ++ nmR C).count n) → (namesOf [X, Y, Z]).Perm (nmR A ++ nmR B ++ nmR C) := fun X Y Z h => by
    refine List.perm_iff_count.mpr fun n => ?_
    rw [← h n]
    simp [namesOf, nmR, List.count_append, Nat.add_assoc]
  have : (a = 0 ∧ b = 1 ∧ c = 2) ∨ (a = 0 ∧ b = 2 ∧ c = 1) ∨ (a = 1 ∧ b = 0 ∧ c = 2) ∨ (a = 1 ∧ b = 2 ∧ c = 0) ∨ (a = 2 ∧ b = 0 ∧ c = 1) ∨ (a = 2 ∧ b = 1 ∧ c = 0) := by omega
  rcases this with ⟨rfl, rfl, rfl⟩ | ⟨rfl, rfl, rfl⟩ | ⟨rfl, rfl, rfl⟩ | ⟨rfl, rfl, rfl⟩ | ⟨rfl, rfl, rfl⟩ | ⟨rfl, rfl, rfl⟩
  · exact ⟨[A, B, C], rfl, rfl, rfl, rfl, rfl, by simp, hp _ _ _ fun n => rfl⟩
  · exact ⟨[A, C, B], rfl, rfl, rfl, rfl, rfl, by simp, hp _ _ _ fun n => by simp only [List.count_append]; omega⟩
  · exact ⟨[B, A, C], rfl, rfl, rfl, rfl, rfl, by simp, hp _ _ _ fun n => by simp only [List.count_append]; omega⟩
  · exact ⟨[C, A, B], rfl, rfl, rfl, rfl, rfl, by simp, hp _ _ _ fun n => by simp only [List.count_append]; omega⟩
  · exact ⟨[B, C, A], rfl, rfl, rfl, rfl, rfl, by simp, hp _ _ _ fun n => by simp only [List.count_append]; omega⟩
  · exact ⟨[C, B, A], rfl, rfl, rfl, rfl, rfl, by simp, hp _ _ _ fun n => by simp only [List.count_append]; omega⟩
theorem v_law_rich_signature : ∀ as R, p_law_rich_signature as R → w_law_rich_signature (retEn (hasOwn as) R) (startS 9 as) := by
  rintro as R ⟨l, rfl, hs, q⟩
  unfold w_law_rich_signature
  walk_at "w0"
  walk_at "n"
  refine ⟨l, 3, rfl, hs, by decide, fun f l1 fnd hf hs1 => ?_⟩
  obtain ⟨a, b, c, rfl, ha, hb, hc, hab, hac, hbc⟩ := len3 fnd hf
  walk_at "n"
  refine ⟨l1, 11, false, rfl, hs1, by decide, fun ns l2 nd hnl hnn hs2 => ?_⟩
  obtain ⟨n0, n1, n2, n3, n4, n5, n6, n7, n8, n9, n10, rfl⟩ := len11 hnl
  have fin : ∀ (sr fr tr : List Cn) (l' : List D), isStrm l' → (∀ x ∈ sr, wfCons 3 x) → (∀ x ∈ fr, wfCons 3 x) → (∀ x ∈ tr, wfCons 3 x) → sr.length ≤ 4 → fr.length ≤ 4 → tr.length ≤ 4 →
      (sr.map Prod.fst).Sublist [n0, n1, n2] → (fr.map Prod.fst).Sublist [n3, n4, n5, n6] → (tr.map Prod.fst).Sublist [n7, n8, n9, n10] → (∃ n, (n, []) ∈ sr) → (∃ n, (n, []) ∈ fr) →
      R (.d (.tuple ((([PyData.none, .none, .none].set a (rowD (false, sr))).set b (rowD (false, fr))).set c (rowD (true, tr))))) (some l') := fun sr fr tr l' hs' w1 w2 w3 g1 g2 g3 s1 s2 s3 ⟨x, e1⟩ ⟨y, e2⟩ => by
    obtain ⟨s, es, hl, sa, sb, sc, hm, hp⟩ := rich_fin ha hb hc hab hac hbc (false, sr) (false, fr) (true, tr)
    rw [es]
    refine q s l' ⟨by omega, by omega, fun r hr => ?_⟩ ?_ (fun k hk => ?_) hs'
    · rw [hl]
      rcases hm r hr with rfl | rfl | rfl
      · exact ⟨g1, w1⟩
      · exact ⟨g2, w2⟩
      · exact ⟨g3, w3⟩
    · rw [hp.nodup_iff]
      exact List.Nodup.sublist ((s1.append s2).append s3) nd
    · rw [hl] at hk
      have : k = a ∨ k = b ∨ k = c := by omega
      rcases this with rfl | rfl | rfl
      · exact .co sa e1 (by simp)
      · exact .co sb e2 (by simp)
      · exact .op sc rfl
  have nm : ∀ n ∈ [n0, n1, n2, n3, n4, n5, n6, n7, n8, n9, n10], ∀ ps : List Nat, ps.length ≤ 2 → (∀ p ∈ ps, p < 3) → wfCons 3 (n, ps) := fun n hn ps h1 h2 => ⟨hnn n hn, h1, h2⟩
  walk_at "n"
  refine ⟨l2, _, rfl, hs2, by decide, by decide, fun d3 l3 hs3 h30 h31 => ?_⟩
  walk_at "n"
  refine ⟨l3, _, rfl, hs3, by decide, by decide, fun d4 l4 hs4 h40 h41 => ?_⟩
  walk_at "n"
  refine i_ifD (fun h => ?_) (fun h => ?_)
  · walk_at "n"
    refine ⟨l4, ([[a, a], [b], [c], [b, a]] : List (List Nat)).map (fun ps => PyData.tuple (nsD ps)), rfl, hs4, by simp, by show 4 ≤ 100000; omega, fun dp4 l5 hd4 hs5 => ?_⟩
    obtain ⟨ps, hps, rfl⟩ := List.mem_map.mp hd4
    have hbps : ps.length ≤ 2 ∧ ∀ p ∈ ps, p < 3 := by
      simp only [List.mem_cons, List.not_mem_nil, or_false] at hps
      rcases hps with rfl | rfl | rfl | rfl <;> refine ⟨by simp, fun p hp => ?_⟩ <;> simp at hp <;> omega
    walk_at "n"
    refine ⟨l5, ([[c, c], [b, c]] : List (List Nat)).map (fun ps => PyData.tuple (nsD ps)), rfl, hs5, by simp, by show 2 ≤ 100000; omega, fun dp5 l6 hd5 hs6 => ?_⟩
    obtain ⟨qs, hqs, rfl⟩ := List.mem_map.mp hd5
    have hbqs : qs.length ≤ 2 ∧ ∀ p ∈ qs, p < 3 := by
      simp only [List.mem_cons, List.not_mem_nil, or_false] at hqs
      rcases hqs with rfl | rfl <;> refine ⟨by simp, fun p hp => ?_⟩ <;> simp at hp <;> omega
    walk_at "n"
    refine ⟨l6, ([[a], [b], [a, c], [b, b]] : List (List Nat)).map (fun ps => PyData.tuple (nsD ps)), rfl, hs6, by simp, by show 4 ≤ 100000; omega, fun dp6 l7 hd6 hs7 => ?_⟩
    obtain ⟨us, hus, rfl⟩ := List.mem_map.mp hd6
    have hbus : us.length ≤ 2 ∧ ∀ p ∈ us, p < 3 := by
      simp only [List.mem_cons, List.not_mem_nil, or_false] at hus
      rcases hus with rfl | rfl | rfl | rfl <;> refine ⟨by simp, fun p hp => ?_⟩ <;> simp at hp <;> omega
    walk_at "n"
    refine i_putD rfl (ixN_lt ha) ?_
    walk_at "n"
    refine i_putD rfl (ixN_lt (by rw [List.length_set]; exact hb)) ?_
    walk_at "n"
    refine ⟨l7, _, rfl, hs7, by decide, by decide, fun d9 l9 hs9 h90 h91 => ?_⟩
    walk_at "n"
    refine i_putD rfl (ixN_lt (by rw [List.length_set, List.length_set]; exact hc)) ?_
    walk_at "n"
    let fr : List Cn := [(n3, []), (n4, []), (n5, []), (n6, [])]
    let tr : List Cn := [(n7, []), (n8, [c]), (n9, qs), (n10, us)]
    have e1 : cutD (fr.map consD) none (some (1 + d3)) = (fr.take (1 + d3).toNat).map consD := by rw [cutD_to (by omega), List.map_take]
    have e2 : cutD (tr.map consD) none (some (1 + d9)) = (tr.take (1 + d9).toNat).map consD := by rw [cutD_to (by omega), List.map_take]
    have h9 := fin [(n0, []), (n1, [a]), (n2, ps)] (fr.take (1 + d3).toNat) (tr.take (1 + d9).toNat) l9 hs9 ?_ ?_ ?_ (by simp) (by rw [List.length_take]; exact Nat.min_le_right _ _) (by rw [List.length_take]; exact Nat.min_le_right _ _) ?_ ((List.take_sublist _ fr).map Prod.fst) ((List.take_sublist _ tr).map Prod.fst) ⟨n0, by simp⟩ ⟨n3, ?_⟩
    · unfold rowD at h9
      rw [← e1, ← e2] at h9
      exact h9
    · intro x hx
      simp only [List.mem_cons, List.not_mem_nil, or_false] at hx
      rcases hx with rfl | rfl | rfl
      · exact nm _ (by simp) _ (by simp) (by simp)
      · exact nm _ (by simp) _ (by simp) (by simpa using ha)
      · exact nm _ (by simp) _ hbps.1 hbps.2
    · intro x hx
      have hx := List.mem_of_mem_take hx
      simp only [fr, List.mem_cons, List.not_mem_nil, or_false] at hx
      rcases hx with rfl | rfl | rfl | rfl
      · exact nm _ (by simp) _ (by simp) (by simp)
      · exact nm _ (by simp) _ (by simp) (by simp)
      · exact nm _ (by simp) _ (by simp) (by simp)
      · exact nm _ (by simp) _ (by simp) (by simp)
    · intro x hx
      have hx := List.mem_of_mem_take hx
      simp only [tr, List.mem_cons, List.not_mem_nil, or_false] at hx
      rcases hx with rfl | rfl | rfl | rfl
      · exact nm _ (by simp) _ (by simp) (by simp)
      · exact nm _ (by simp) _ (by simp) (by simpa using hc)
      · exact nm _ (by simp) _ hbqs.1 hbqs.2
      · exact nm _ (by simp) _ hbus.1 hbus.2
    · exact List.Sublist.refl _
    · obtain ⟨m, hm⟩ : ∃ m, (1 + d3).toNat = m + 1 := ⟨d3.toNat, by omega⟩
      rw [hm]
      simp [fr]
  · walk_at "n"
    refine ⟨l4, ([[c, c], [b, c]] : List (List Nat)).map (fun ps => PyData.tuple (nsD ps)), rfl, hs4, by simp, by show 2 ≤ 100000; omega, fun dp4 l5 hd4 hs5 => ?_⟩
    obtain ⟨qs, hqs, rfl⟩ := List.mem_map.mp hd4
    have hbqs : qs.length ≤ 2 ∧ ∀ p ∈ qs, p < 3 := by
      simp only [List.mem_cons, List.not_mem_nil, or_false] at hqs
      rcases hqs with rfl | rfl <;> refine ⟨by simp, fun p hp => ?_⟩ <;> simp at hp <;> omega
    walk_at "n"
    refine ⟨l5, ([[a], [b], [a, c], [b, b]] : List (List Nat)).map (fun ps => PyData.tuple (nsD ps)), rfl, hs5, by simp, by show 4 ≤ 100000; omega, fun dp5 l6 hd5 hs6 => ?_⟩
    obtain ⟨us, hus, rfl⟩ := List.mem_map.mp hd5
    have hbus : us.length ≤ 2 ∧ ∀ p ∈ us, p < 3 := by
      simp only [List.mem_cons, List.not_mem_nil, or_false] at hus
      rcases hus with rfl | rfl | rfl | rfl <;> refine ⟨by simp, fun p hp => ?_⟩ <;> simp at hp <;> omega
    walk_at "n"
    refine i_putD rfl (ixN_lt ha) ?_
    walk_at "n"
    refine i_putD rfl (ixN_lt (by rw [List.length_set]; exact hb)) ?_
    walk_at "n"
    refine ⟨l6, _, rfl, hs6, by decide, by decide, fun d9 l9 hs9 h90 h91 => ?_⟩
    walk_at "n"
    refine i_putD rfl (ixN_lt (by rw [List.length_set, List.length_set]; exact hc)) ?_
    walk_at "n"
    let fr : List Cn := [(n3, []), (n4, []), (n5, []), (n6, [])]
    let tr : List Cn := [(n7, []), (n8, [c]), (n9, qs), (n10, us)]
    have e1 : cutD (fr.map consD) none (some (1 + d3)) = (fr.take (1 + d3).toNat).map consD := by rw [cutD_to (by omega), List.map_take]
    have e2 : cutD (tr.map consD) none (some (1 + d9)) = (tr.take (1 + d9).toNat).map consD := by rw [cutD_to (by omega), List.map_take]
    have h9 := fin [(n0, []), (n1, [a])] (fr.take (1 + d3).toNat) (tr.take (1 + d9).toNat) l9 hs9 ?_ ?_ ?_ (by simp) (by rw [List.length_take]; exact Nat.min_le_right _ _) (by rw [List.length_take]; exact Nat.min_le_right _ _) ?_ ((List.take_sublist _ fr).map Prod.fst) ((List.take_sublist _ tr).map Prod.fst) ⟨n0, by simp⟩ ⟨n3, ?_⟩
    · unfold rowD at h9
      rw [← e1, ← e2] at h9
      exact h9
    · intro x hx
      simp only [List.mem_cons, List.not_mem_nil, or_false] at hx
      rcases hx with rfl | rfl
      · exact nm _ (by simp) _ (by simp) (by simp)
      · exact nm _ (by simp) _ (by simp) (by simpa using ha)
    · intro x hx
      have hx := List.mem_of_mem_take hx
      simp only [fr, List.mem_cons, List.not_mem_nil, or_false] at hx
      rcases hx with rfl | rfl | rfl | rfl
      · exact nm _ (by simp) _ (by simp) (by simp)
      · exact nm _ (by simp) _ (by simp) (by simp)
      · exact nm _ (by simp) _ (by simp) (by simp)
      · exact nm _ (by simp) _ (by simp) (by simp)
    · intro x hx
      have hx := List.mem_of_mem_take hx
      simp only [tr, List.mem_cons, List.not_mem_nil, or_false] at hx
      rcases hx with rfl | rfl | rfl | rfl
      · exact nm _ (by simp) _ (by simp) (by simp)
      · exact nm _ (by simp) _ (by simp) (by simpa using hc)
      · exact nm _ (by simp) _ hbqs.1 hbqs.2
      · exact nm _ (by simp) _ hbus.1 hbus.2
    · exact List.take_sublist 2 [n0, n1, n2]
    · obtain ⟨m, hm⟩ : ∃ m, (1 + d3).toNat = m + 1 := ⟨d3.toNat, by omega⟩
      rw [hm]
      simp [fr]
end L3

namespace L3
open PySem PySem.Spec PyProof.Rows L2 PySem.SeqAt
section
variable {s : Sg} {r : Rw} {c : Cn} {z z1 : SS} {k : RV → Prop} {n : Nat} {gs : List GS} {T : String}
instance : SeqIs z (.d (sigD s)) (s.map rowD) := ⟨rfl⟩
instance : SeqIs z (.d (rowD r)) [.str (if r.1 then "open" else "closed"), .tuple (r.2.map consD)] := ⟨rfl⟩
instance : SeqIs z (.d (consD c)) [.str c.1, .tuple (nsD c.2)] := ⟨rfl⟩
instance : SrcIs (.d (sigD s)) (s.map rowD) := ⟨rfl⟩
instance : ItsIs (sigD s) (s.map rowD) := ⟨rfl⟩
instance [a : TgA gs [.str c.1, .tuple (nsD c.2)] z z1] : Tg (gTp gs) (consD c) z z1 := ⟨a.e⟩
instance [a : TgA gs [.str (if r.1 then "open" else "closed"), .tuple (r.2.map consD)] z z1] : Tg (gTp gs) (rowD r) z z1 := ⟨a.e⟩
instance : Stp (sIx z (.d (rowD r)) (.d (.int 0)) k) (k (.d (.str (if r.1 then "open" else "closed")))) := ⟨fun h => i_ix rfl rfl h⟩
instance : Stp (sIx z (.d (rowD r)) (.d (.int 1)) k) (k (.d (.tuple (r.2.map consD)))) := ⟨fun h => i_ix rfl rfl h⟩
instance : Stp (sIx z (.d (consD c)) (.d (.int 0)) k) (k (.d (.str c.1))) := ⟨fun h => i_ix rfl rfl h⟩
instance : Stp (sIx z (.d (consD c)) (.d (.int 1)) k) (k (.d (.tuple (nsD c.2)))) := ⟨fun h => i_ix rfl rfl h⟩
theorem atI_h0 {x : D} {t : List D} : atI (x :: t) 0 = some x := atI_nat (j := 0) rfl
theorem atI_h1 {x y : D} {t : List D} : atI (x :: y :: t) 1 = some y := atI_nat (j := 1) rfl
instance {x : D} {t : List D} : Stp (sIx z (.d (.tuple (x :: t))) (.d (.int 0)) k) (k (.d x)) := ⟨fun h => i_ix rfl atI_h0 h⟩
instance {x y : D} {t : List D} : Stp (sIx z (.d (.tuple (x :: y :: t))) (.d (.int 1)) k) (k (.d y)) := ⟨fun h => i_ix rfl atI_h1 h⟩
theorem i_sig (e : s[n]? = some r) (h : k (.d (rowD r))) : sIx z (.d (sigD s)) (.d (.int (n : Nat))) k := i_ix rfl (atI_nat (by rw [List.getElem?_map, e]; rfl)) h
end
theorem how_open (b : Bool) : ((if b then ("open" : Str) else "closed") = "open") ↔ b = true := by
  cases b <;> decide
/-- the parts of the constructor of that name -/
def findP (cs : List Cn) (n : Str) : Option (List Nat) := (cs.find? fun c => decide (c.1 = n)).map (·.2)
def optD : Option (List Nat) → D
  | some q => .tuple (nsD q)
  | none => .none
/-- the kinds of the parts that a value has below its name -/
def kbelow (r : Rw) : D → Option (List Nat)
  | .tuple (.str n :: ps) => if n = "#" then (if r.1 && (decide (ps.length = 1) && isWhole (ps.headD .none) 0) then some [] else none) else
    match findP r.2 n with
    | some q => if ps.length = q.length then some q else none
    | none => none
  | _ => none
mutual
/-- how many places a value of a kind has -/
def plc (s : Sg) : D → Nat → Option Nat
  | .tuple (.str n :: ps), k => match s[k]? with
    | some r => match kbelow r (.tuple (.str n :: ps)) with
      | some q => if n = "#" then some 1 else (plcA s ps q).map (· + 1)
      | none => none
    | none => none
  | _, _ => none
def plcA (s : Sg) : List D → List Nat → Option Nat
  | [], [] => some 0
  | d :: ds, q :: qs => match plc s d q, plcA s ds qs with
    | some a, some b => some (a + b)
    | _, _ => none
  | _, _ => none
end
def p_check_signature : FS := fun as R => ∃ v, as = [.val v] ∧ okD v = true ∧ IsSig v ∧ R (.d .none) none
theorem m_check_signature : MonoF p_check_signature := fun as R R' h ⟨a, b, c, d, k⟩ => ⟨a, b, c, d, h _ _ k⟩
theorem l_check_signature : ∀ as R, p_check_signature as R → as.length = 1 := fun as R ⟨a, e, _⟩ => by rw [e]; rfl
/-- a signature as the laws draw them -/
structure GoodS (s : Sg) : Prop where
  wf : Wf s
  nd : (namesOf s).Nodup
  wh : Whole s
theorem GoodS.is {s : Sg} (h : GoodS s) : IsSig (sigD s) := ⟨s, rfl, h.wf, h.nd, h.wh⟩
def p_check_kind : FS := fun as R => ∃ (s : Sg) (k : Nat), as = [.val (sigD s), .val (.int (k : Nat))] ∧ GoodS s ∧ k < s.length ∧ R (.d .none) none
theorem m_check_kind : MonoF p_check_kind := fun as R R' h ⟨a, b, c, d, e, k⟩ => ⟨a, b, c, d, e, h _ _ k⟩
theorem l_check_kind : ∀ as R, p_check_kind as R → as.length = 2 := fun as R ⟨a, _, e, _⟩ => by rw [e]; rfl
def p_is_open : FS := fun as R => ∃ (s : Sg) (k : Nat) (r : Rw), as = [.val (sigD s), .val (.int (k : Nat))] ∧ s[k]? = some r ∧ R (.d (.bool r.1)) none
theorem m_is_open : MonoF p_is_open := fun as R R' h ⟨a, b, c, d, e, k⟩ => ⟨a, b, c, d, e, h _ _ k⟩
theorem l_is_open : ∀ as R, p_is_open as R → as.length = 2 := fun as R ⟨a, _, _, e, _⟩ => by rw [e]; rfl
def p_parts_in : FS := fun as R => ∃ (s : Sg) (k : Nat) (r : Rw) (n : Str), as = [.val (sigD s), .val (.int (k : Nat)), .val (.str n)] ∧ s[k]? = some r ∧ R (.d (optD (findP r.2 n))) none
theorem m_parts_in : MonoF p_parts_in := fun as R R' h ⟨a, b, c, d, e, f, k⟩ => ⟨a, b, c, d, e, f, h _ _ k⟩
theorem l_parts_in : ∀ as R, p_parts_in as R → as.length = 3 := fun as R ⟨a, _, _, _, e, _⟩ => by rw [e]; rfl
/-- 0 signature -/
def w_check_signature : WS :=
(wIfS (wNot (wTest (wFrz (wCall p_is_signature (wCons (wVar 0) wNil)))))
 (fun _ _ => False)
 wNext)
/-- 0 signature, 1 kind -/
def w_check_kind : WS :=
(wSeq (wDrop (wFrz (wCall p_check_signature (wCons (wVar 0) wNil))))
 (wIfS (wNot (wTest (wFrz (wCall p_is_within (wCons (wVar 1) (wCons (wC (.int 0)) (wCons (wBin sSub (wFrz (wCB (f1 sLen) (wCons (wVar 0) wNil))) (wC (.int 1))) wNil)))))))
 (fun _ _ => False)
 wNext))
/-- 0 signature, 1 kind -/
def w_is_open : WS :=
(wRet (wBin sEq (wBin sIx (wBin sIx (wVar 0) (wVar 1)) (wC (.int 0))) (wC (.str "open"))))
/-- 0 signature, 1 kind, 2 name, 3 one, 4 parts -/
def w_parts_in : WS :=
(wSeq (wFor (wSrc (wBin sIx (wBin sIx (wVar 0) (wVar 1)) (wC (.int 1)))) (gTp [(gNm 3), (gNm 4)])
 (wKill [3, 4] (wIfS (wTest (wBin sEq (wVar 3) (wVar 2)))
 (wRet (wVar 4))
 wNext)))
 (wRet (wC .none)))
local macro_rules | `(tactic| walk_at "w2") => `(tactic| first
  | (with_reducible refine' i_allM ?_) | (with_reducible refine' i_anyM ?_))
local macro_rules | `(tactic| walk_at "w3") => `(tactic| first
  | ((with_reducible refine' j_ix ?h1 ?_); (case h1 => rfl))
  | ((with_reducible refine' i_asgK ?h1 ?_); (case h1 => rfl); (dsimp only [List.set_cons_succ, List.set_cons_zero]))
  | ((with_reducible refine' i_srcK ?h1 ?_); (case h1 => rfl))
  | ((with_reducible refine' i_enmK ?h1 ?_); (case h1 => rfl))
  | ((with_reducible refine' i_evD ?h1 ?h2 ?_); (case h1 => rfl); (case h2 => (intro l e; cases e; done)))
  | ((with_reducible refine' i_isD ?h1 ?_); (case h1 => assumption))
  | ((with_reducible refine' i_len ?h1 ?_); (case h1 => rfl)) | ((with_reducible refine' i_list ?h1 ?_); (case h1 => rfl)) | ((with_reducible refine' i_tuple ?h1 ?_); (case h1 => rfl)) | ((with_reducible refine' i_slL ?h1 ?_); (case h1 => rfl))
  | ((with_reducible refine' i_rngD ?h1 ?h2 ?_); (case h1 => (first | omega | decide)); (case h2 => (first | omega | decide))) | ((with_reducible refine' i_rngD2 ?h1 ?_); (case h1 => (first | omega | decide)))
  | ((with_reducible refine' i_lrgP ?h1 ?_); (case h1 => (apply RgOk.of_le <;> omega)))
  | ((with_reducible refine' j_put ?h1 ?_); (case h1 => rfl))
  | ((with_reducible refine' i_mul ?h1 ?_); (case h1 => (first | exact .inr (by decide) | exact .inl (by decide)))) | ((with_reducible refine' i_mod ?h1 ?_); (case h1 => (first | omega | decide)))
  | ((with_reducible refine' i_fdiv ?h1 ?_); (case h1 => (first | exact ⟨by decide, by decide⟩ | exact ⟨by omega, by omega⟩))) | ((with_reducible refine' i_pow ?h1 ?_); (case h1 => exact pow_ok (by decide)))
  | ((with_reducible refine' i_ifT ?h1 ?_); (case h1 => (first | rfl | assumption | (simp [isA]; done)))) | ((with_reducible refine' i_ifF ?h1 ?_); (case h1 => (first | rfl | assumption | (simp [isA]; done))))
  | ((with_reducible refine' j_pop ?h1 ?_); (case h1 => rfl))
  | ((with_reducible refine' j_append ?h1 ?_); (case h1 => (first | (simp [sizeLine_eq]; done) | (apply lt_line; omega)))))
local macro_rules | `(tactic| walk_at "w") => `(tactic| (try dsimp only [List.cons_append, List.nil_append, List.set_cons_succ, List.set_cons_zero, killAll]); repeat' (first | (with_reducible refine' Run.imp ?_) | walk_at "w3" | walk_at "w2" | fail "open"))
local macro_rules | `(tactic| walk_at "w0") => `(tactic| refine start_en ?_; simp only [startS, hasOwn, List.map_cons, List.map_nil, List.length_cons, List.length_nil, List.cons_append, List.nil_append, List.replicate, Nat.reduceAdd, Nat.reduceSub, Nat.zero_add])
local macro_rules | `(tactic| walk_at "n") => `(tactic| walk_at "w")

theorem v_check_signature : ∀ as R, p_check_signature as R → w_check_signature (retEn (hasOwn as) R) (startS 1 as) := by
  rintro as R ⟨v, rfl, hv, hs, q⟩
  unfold w_check_signature
  walk_at "w0"
  walk_at "n"
  refine ⟨v, rfl, hv, ?_⟩
  rw [isSig_true hs]
  walk_at "n"
  exact q
theorem okD_sig {s : Sg} (h : Wf s) : okD (sigD s) = true := by
  have h2 : ∀ l : List Cn, (∀ c ∈ l, wfCons s.length c) → okA (l.map consD) = true := fun l => by
    induction l with
    | nil => intro _; rfl
    | cons c l ih =>
      intro hc
      have hn : ∀ l : List Nat, okA (nsD l) = true := fun l => by
        induction l with
        | nil => rfl
        | cons n l ih => simp only [nsD, List.map_cons, okA, okD, Bool.true_and]; exact ih
      have h1 := (hc c (by simp)).1
      have h8 : c.1.length ≤ 1000 := by
        simp only [isName, Bool.and_eq_true, decide_eq_true_eq] at h1
        omega
      simp only [List.map_cons, okA, consD, okD, Bool.and_eq_true]
      exact ⟨⟨decide_eq_true h8, hn _, rfl⟩, ih fun x hx => hc x (List.mem_cons_of_mem _ hx)⟩
  have h3 : ∀ l : List Rw, (∀ r ∈ l, wfRow s.length r) → okA (l.map rowD) = true := fun l => by
    induction l with
    | nil => intro _; rfl
    | cons r l ih =>
      intro hr
      simp only [List.map_cons, okA, rowD, okD, Bool.and_eq_true]
      refine ⟨⟨?_, h2 _ (hr r (by simp)).2, rfl⟩, ih fun x hx => hr x (List.mem_cons_of_mem _ hx)⟩
      split <;> decide
  exact h3 s h.2.2
theorem within_true {k n : Nat} (h : k < n) : isWithin (.int (k : Nat)) 0 ((n : Int) - 1) = true := (within_iff n _).mpr ⟨k, rfl, h⟩
theorem v_check_kind : ∀ as R, p_check_kind as R → w_check_kind (retEn (hasOwn as) R) (startS 2 as) := by
  rintro as R ⟨s, k, rfl, hs, hk, q⟩
  unfold w_check_kind
  walk_at "w0"
  walk_at "n"
  refine ⟨_, rfl, okD_sig hs.wf, hs.is, ?_⟩
  walk_at "n"
  rw [List.length_map]
  refine ⟨_, _, _, rfl, rfl, ?_⟩
  rw [within_true hk]
  walk_at "n"
  exact q
theorem v_is_open : ∀ as R, p_is_open as R → w_is_open (retEn (hasOwn as) R) (startS 2 as) := by
  rintro as R ⟨s, k, r, rfl, hk, q⟩
  unfold w_is_open
  walk_at "w0"
  walk_at "n"
  refine i_sig hk ?_
  walk_at "n"
  rw [show decide ((if r.1 then ("open" : Str) else "closed") = "open") = r.1 by rw [Bool.eq_iff_iff, decide_eq_true_eq, how_open]]
  exact q
theorem v_parts_in : ∀ as R, p_parts_in as R → w_parts_in (retEn (hasOwn as) R) (startS 5 as) := by
  rintro as R ⟨s, k, r, n, rfl, hk, q⟩
  unfold w_parts_in
  walk_at "w0"
  walk_at "n"
  refine i_sig hk ?_
  walk_at "n"
  refine forL_inv (P := fun i z => (∀ c ∈ r.2.take i, ¬ c.1 = n) ∧ z = [some (.val (sigD s)), some (.val (.int (k : Nat))), some (.val (.str n)), none, none]) (fun i x z hx p N hN => ?_) (fun z p => ?_) ⟨by simp, rfl⟩
  · obtain ⟨h1, rfl⟩ := p
    rw [List.getElem?_map] at hx
    obtain ⟨c, hc, rfl⟩ := Option.map_eq_some_iff.mp hx
    walk_at "n"
    refine i_ifD (fun h => ?_) (fun h => ?_)
    · walk_at "n"
      have : findP r.2 n = some c.2 := by
        unfold findP
        have hi := (List.getElem?_eq_some_iff.mp hc)
        rw [show r.2 = r.2.take i ++ c :: r.2.drop (i + 1) by rw [← hi.2, ← List.drop_eq_getElem_cons hi.1, List.take_append_drop], List.find?_append, List.find?_eq_none.mpr (by simpa using h1)]
        simp [h]
      rw [this] at q
      exact q
    · walk_at "n"
      refine hN _ ⟨fun d hd => ?_, rfl⟩
      rw [List.take_add_one, hc] at hd
      rcases List.mem_append.mp hd with hd | hd
      · exact h1 d hd
      · have : d = c := by simpa using hd
        rw [this]
        exact h
  · obtain ⟨h1, rfl⟩ := p
    rw [List.length_map, List.take_length] at h1
    walk_at "n"
    have : findP r.2 n = none := by
      unfold findP
      rw [List.find?_eq_none.mpr (by simpa using h1)]
      rfl
    rw [this] at q
    exact q
end L3

namespace L3
open PySem PySem.Spec PyProof.Rows L2 PySem.SeqAt
def prD (p : Nat × D) : D := .tuple [.int (p.1 : Nat), p.2]
theorem findP_mem {cs : List Cn} {n : Str} {q : List Nat} (h : findP cs n = some q) : ∃ c ∈ cs, c.1 = n ∧ c.2 = q := by
  unfold findP at h
  obtain ⟨c, hc, rfl⟩ := Option.map_eq_some_iff.mp h
  exact ⟨c, List.mem_of_find?_eq_some hc, by simpa using List.find?_some hc, rfl⟩
local macro_rules | `(tactic| walk_at "w2") => `(tactic| first
  | (with_reducible refine' i_allM ?_) | (with_reducible refine' i_anyM ?_))
local macro_rules | `(tactic| walk_at "w3") => `(tactic| first
  | ((with_reducible refine' j_ix ?h1 ?_); (case h1 => rfl))
  | ((with_reducible refine' i_asgK ?h1 ?_); (case h1 => rfl); (dsimp only [List.set_cons_succ, List.set_cons_zero]))
  | ((with_reducible refine' i_srcK ?h1 ?_); (case h1 => rfl))
  | ((with_reducible refine' i_enmK ?h1 ?_); (case h1 => rfl))
  | ((with_reducible refine' i_evD ?h1 ?h2 ?_); (case h1 => rfl); (case h2 => (intro l e; cases e; done)))
  | ((with_reducible refine' i_isD ?h1 ?_); (case h1 => assumption))
  | ((with_reducible refine' i_len ?h1 ?_); (case h1 => rfl)) | ((with_reducible refine' i_list ?h1 ?_); (case h1 => rfl)) | ((with_reducible refine' i_tuple ?h1 ?_); (case h1 => rfl)) | ((with_reducible refine' i_slL ?h1 ?_); (case h1 => rfl))
  | ((with_reducible refine' i_rngD ?h1 ?h2 ?_); (case h1 => (first | omega | decide)); (case h2 => (first | omega | decide))) | ((with_reducible refine' i_rngD2 ?h1 ?_); (case h1 => (first | omega | decide)))
  | ((with_reducible refine' i_lrgP ?h1 ?_); (case h1 => (apply RgOk.of_le <;> omega)))
  | ((with_reducible refine' j_put ?h1 ?_); (case h1 => rfl))
  | ((with_reducible refine' i_mul ?h1 ?_); (case h1 => (first | exact .inr (by decide) | exact .inl (by decide)))) | ((with_reducible refine' i_mod ?h1 ?_); (case h1 => (first | omega | decide)))
  | ((with_reducible refine' i_fdiv ?h1 ?_); (case h1 => (first | exact ⟨by decide, by decide⟩ | exact ⟨by omega, by omega⟩))) | ((with_reducible refine' i_pow ?h1 ?_); (case h1 => exact pow_ok (by decide)))
  | ((with_reducible refine' i_ifT ?h1 ?_); (case h1 => (first | rfl | assumption | (simp [isA]; done)))) | ((with_reducible refine' i_ifF ?h1 ?_); (case h1 => (first | rfl | assumption | (simp [isA]; done))))
  | ((with_reducible refine' j_pop ?h1 ?_); (case h1 => rfl))
  | ((with_reducible refine' j_append ?h1 ?_); (case h1 => (first | (simp [sizeLine_eq]; done) | (apply lt_line; omega)))))
local macro_rules | `(tactic| walk_at "w") => `(tactic| (try dsimp only [List.cons_append, List.nil_append, List.set_cons_succ, List.set_cons_zero, killAll]); repeat' (first | (with_reducible refine' Run.imp ?_) | walk_at "w3" | walk_at "w2" | fail "open"))
local macro_rules | `(tactic| walk_at "w0") => `(tactic| refine start_en ?_; simp only [startS, hasOwn, List.map_cons, List.map_nil, List.length_cons, List.length_nil, List.cons_append, List.nil_append, List.replicate, Nat.reduceAdd, Nat.reduceSub, Nat.zero_add])
local macro_rules | `(tactic| walk_at "n") => `(tactic| walk_at "w")

section
variable {z z1 : SS} {k : RV → Prop} {n : Nat} {l : List D} {d : D} {RR : RV → SS → Prop} {P : Nat → SS → Prop} {m : Nat} {c : WT} {t : WS} {N : SS → Prop} {rt : RV → SS → Prop} {bk ct : SS → Prop}
instance {p : Nat × D} {gs : List GS} [a : TgA gs [.int (p.1 : Nat), p.2] z z1] : Tg (gTp gs) (prD p) z z1 := ⟨a.e⟩
end
theorem plainAll_map {α : Type} {f : α → D} (h : ∀ x, (f x).plain = true) : ∀ l : List α, PyData.plainAll (l.map f) = true
  | [] => rfl
  | x :: l => by rw [List.map_cons, PyData.plainAll, h, plainAll_map h l]; rfl
theorem nsD_plain (q : List Nat) : PyData.plainAll (nsD q) = true := plainAll_map (fun _ => rfl) q
theorem consD_plain (c : Cn) : (consD c).plain = true := by
  simp [consD, PyData.plain, PyData.plainAll, nsD_plain]
theorem eqv_nil (l : List D) : PyData.eqv (.list l) (.list []) = l.isEmpty := by
  cases l <;> simp [PyData.eqv, PyData.eqvAll]
section
variable {z z1 : SS} {k : RV → Prop} {l : List D} {x y : D}
theorem i_eqNil (p : PyData.plainAll l = true) (h : k (.d (.bool l.isEmpty))) : sEq z (.d (.list l)) (.d (.list [])) k :=
  ⟨_, _, rfl, rfl, by rw [PyData.plain]; exact p, by rfl, by simp [PyData.depth, PyData.depthAll], by rw [eqv_nil]; exact h⟩
theorem i_neNil (p : PyData.plainAll l = true) (h : k (.d (.bool (!l.isEmpty)))) : sNe z (.d (.list l)) (.d (.list [])) k :=
  ⟨_, _, rfl, rfl, by rw [PyData.plain]; exact p, by rfl, by simp [PyData.depth, PyData.depthAll], by rw [eqv_nil]; exact h⟩
instance : Stp (sIx z (.d (.list (x :: l))) (.d (.int 0)) k) (k (.d x)) := ⟨fun h => i_ix rfl atI_h0 h⟩
end
theorem snoc_of {α : Type} (l : List α) : l = [] ∨ ∃ a x, l = a ++ [x] := by
  rcases List.eq_nil_or_concat l with h | ⟨a, x, h⟩
  · exact .inl h
  · exact .inr ⟨a, x, by simpa using h⟩
end L3

namespace L3
open PySem PySem.Spec PyProof.Rows L2 PySem.SeqAt
def lg (ls : List Nat) (k : Nat) : Nat := ls[k]?.getD 0
def needN (ls : List Nat) (q : List Nat) : Nat := 1 + (q.map (lg ls)).sum
/-- what holds of the least numbers while they are found -/
structure LInv (s : Sg) (ls : List Nat) : Prop where
  len : ls.length = s.length
  pos : ∀ k r, s[k]? = some r → 1 ≤ lg ls k
  op : ∀ k r, s[k]? = some r → r.1 = true → lg ls k = 1
  cl : ∀ k r, s[k]? = some r → r.1 = false → lg ls k = 99 ∨ ∃ c ∈ r.2, needN ls c.2 ≤ lg ls k
structure LeastOk (s : Sg) (ls : List Nat) : Prop where
  len : ls.length = s.length
  pos : ∀ k r, s[k]? = some r → 1 ≤ lg ls k ∧ lg ls k ≤ 15
  op : ∀ k r, s[k]? = some r → r.1 = true → lg ls k = 1
  cl : ∀ k r, s[k]? = some r → r.1 = false → ∃ c ∈ r.2, needN ls c.2 ≤ lg ls k
theorem lg_set {ls : List Nat} {k v j : Nat} (h : k < ls.length) : lg (ls.set k v) j = if j = k then v else lg ls j := by
  unfold lg
  rw [List.getElem?_set]
  by_cases e : k = j
  · subst e
    simp [h]
  · rw [if_neg e, if_neg (fun h => e h.symm)]
theorem need_mono {a b : List Nat} (h : ∀ k, lg a k ≤ lg b k) : ∀ q : List Nat, needN a q ≤ needN b q := fun q => by
  unfold needN
  have : (q.map (lg a)).sum ≤ (q.map (lg b)).sum := by
    induction q with
    | nil => exact Nat.le_refl _
    | cons x q ih => simp only [List.map_cons, List.sum_cons]; have := h x; omega
  omega
theorem LInv.step {s : Sg} {ls : List Nat} (h : LInv s ls) {k : Nat} {r : Rw} {c : Cn} (hr : s[k]? = some r) (hc : c ∈ r.2) (hq : ∀ p ∈ c.2, 1 ≤ lg ls p) :
    LInv s (ls.set k (min (lg ls k) (needN ls c.2))) ∧ (∀ j, lg (ls.set k (min (lg ls k) (needN ls c.2))) j ≤ lg ls j) := by
  have hk : k < ls.length := by rw [h.len]; exact lt_of_get hr
  have le : ∀ j, lg (ls.set k (min (lg ls k) (needN ls c.2))) j ≤ lg ls j := fun j => by
    rw [lg_set hk]
    split
    · rename_i e; subst e; omega
    · exact Nat.le_refl _
  have n1 : 1 ≤ needN ls c.2 := by unfold needN; omega
  refine ⟨⟨by rw [List.length_set, h.len], fun j r' hj => ?_, fun j r' hj ho => ?_, fun j r' hj ho => ?_⟩, le⟩
  · rw [lg_set hk]
    have := h.pos j r' hj
    split
    · rename_i e; subst e; omega
    · exact this
  · have h1 := h.op j r' hj ho
    rw [lg_set hk]
    split
    · rename_i e; subst e; omega
    · exact h1
  · by_cases e : j = k
    · subst e
      rw [hr] at hj
      cases hj
      rw [lg_set hk, if_pos rfl]
      by_cases h2 : needN ls c.2 ≤ lg ls j
      · exact .inr ⟨c, hc, by have := need_mono le c.2; omega⟩
      · rcases h.cl j r hr ho with h3 | ⟨c', hc', h3⟩
        · exact .inl (by omega)
        · exact .inr ⟨c', hc', by have := need_mono le c'.2; omega⟩
    · rw [lg_set hk, if_neg e]
      rcases h.cl j r' hj ho with h3 | ⟨c', hc', h3⟩
      · exact .inl h3
      · exact .inr ⟨c', hc', Nat.le_trans (need_mono le _) h3⟩
/-- what holds after so many rounds -/
def LQ (s : Sg) (t : Nat) (ls : List Nat) : Prop := ∃ F, FI s F ∧ (∀ k ∈ F, lg ls k + 1 ≤ 2 ^ (F.length + 1)) ∧ ((∀ k, can s F k → k ∈ F) ∨ t ≤ F.length)
theorem LQ.done {s : Sg} (g : GoodS s) {ls : List Nat} (i : LInv s ls) (h : LQ s 4 ls) : LeastOk s ls := by
  obtain ⟨F, h1, h2, h3⟩ := h
  have hl := h1.len
  have h4 := g.wf.2.1
  have cl : ∀ k, can s F k → k ∈ F := by
    rcases h3 with h3 | h3
    · exact h3
    · omega
  have hb : ∀ k r, s[k]? = some r → lg ls k ≤ 15 := fun k r hr => by
    have hk := lt_of_get hr
    have := h2 k ((h1.all cl k).mpr ⟨hk, g.wh k hk⟩)
    have h5 : 2 ^ (F.length + 1) ≤ 2 ^ 4 := Nat.pow_le_pow_right (by decide) (by omega)
    have : (2 : Nat) ^ 4 = 16 := by decide
    omega
  refine ⟨i.len, fun k r hr => ⟨i.pos k r hr, hb k r hr⟩, i.op, fun k r hr ho => ?_⟩
  rcases i.cl k r hr ho with h6 | h6
  · have := hb k r hr
    omega
  · exact h6
local macro_rules | `(tactic| walk_at "w2") => `(tactic| first
  | (with_reducible refine' i_allM ?_) | (with_reducible refine' i_anyM ?_))
local macro_rules | `(tactic| walk_at "w3") => `(tactic| first
  | ((with_reducible refine' j_ix ?h1 ?_); (case h1 => rfl))
  | ((with_reducible refine' i_asgK ?h1 ?_); (case h1 => rfl); (dsimp only [List.set_cons_succ, List.set_cons_zero]))
  | ((with_reducible refine' i_srcK ?h1 ?_); (case h1 => rfl))
  | ((with_reducible refine' i_enmK ?h1 ?_); (case h1 => rfl))
  | ((with_reducible refine' i_evD ?h1 ?h2 ?_); (case h1 => rfl); (case h2 => (intro l e; cases e; done)))
  | ((with_reducible refine' i_isD ?h1 ?_); (case h1 => assumption))
  | ((with_reducible refine' i_len ?h1 ?_); (case h1 => rfl)) | ((with_reducible refine' i_list ?h1 ?_); (case h1 => rfl)) | ((with_reducible refine' i_tuple ?h1 ?_); (case h1 => rfl)) | ((with_reducible refine' i_slL ?h1 ?_); (case h1 => rfl))
  | ((with_reducible refine' i_rngD ?h1 ?h2 ?_); (case h1 => (first | omega | decide)); (case h2 => (first | omega | decide))) | ((with_reducible refine' i_rngD2 ?h1 ?_); (case h1 => (first | omega | decide)))
  | ((with_reducible refine' i_lrgP ?h1 ?_); (case h1 => (apply RgOk.of_le <;> omega)))
  | ((with_reducible refine' j_put ?h1 ?_); (case h1 => rfl))
  | ((with_reducible refine' i_mul ?h1 ?_); (case h1 => (first | exact .inr (by decide) | exact .inl (by decide)))) | ((with_reducible refine' i_mod ?h1 ?_); (case h1 => (first | omega | decide)))
  | ((with_reducible refine' i_fdiv ?h1 ?_); (case h1 => (first | exact ⟨by decide, by decide⟩ | exact ⟨by omega, by omega⟩))) | ((with_reducible refine' i_pow ?h1 ?_); (case h1 => exact pow_ok (by decide)))
  | ((with_reducible refine' i_ifT ?h1 ?_); (case h1 => (first | rfl | assumption | (simp [isA]; done)))) | ((with_reducible refine' i_ifF ?h1 ?_); (case h1 => (first | rfl | assumption | (simp [isA]; done))))
  | ((with_reducible refine' j_pop ?h1 ?_); (case h1 => rfl))
  | ((with_reducible refine' j_append ?h1 ?_); (case h1 => (first | (simp [sizeLine_eq]; done) | (apply lt_line; omega)))))
local macro_rules | `(tactic| walk_at "w") => `(tactic| (try dsimp only [List.cons_append, List.nil_append, List.set_cons_succ, List.set_cons_zero, killAll]); repeat' (first | (with_reducible refine' Run.imp ?_) | walk_at "w3" | walk_at "w2" | fail "open"))
local macro_rules | `(tactic| walk_at "w0") => `(tactic| refine start_en ?_; simp only [startS, hasOwn, List.map_cons, List.map_nil, List.length_cons, List.length_nil, List.cons_append, List.nil_append, List.replicate, Nat.reduceAdd, Nat.reduceSub, Nat.zero_add])
local macro_rules | `(tactic| walk_at "n") => `(tactic| walk_at "w")

theorem ixN_of {n k : Nat} (h : k < n) : ixN n (k : Nat) = some k := by
  unfold ixN
  simp
  omega
end L3

namespace L3
open PySem PySem.Spec PyProof.Rows L2 PySem.SeqAt
/-- a value of a kind, its strangers below a number -/
inductive Made (s : Sg) (m : Nat) : D → Nat → Prop
  | str {k : Nat} {r : Rw} {i : Nat} : s[k]? = some r → r.1 = true → i < m → Made s m (.tuple [.str "#", .int (i : Nat)]) k
  | con {k : Nat} {r : Rw} {c : Cn} {ps : List D} : s[k]? = some r → c ∈ r.2 → ps.length = c.2.length → (∀ (i p : Nat) (d : D), c.2[i]? = some p → ps[i]? = some d → Made s m d p) → Made s m (.tuple (.str c.1 :: ps)) k
theorem row_nodup {s : Sg} (h : (namesOf s).Nodup) {r : Rw} (hr : r ∈ s) : (r.2.map Prod.fst).Nodup := by
  induction s with
  | nil => cases hr
  | cons x s ih =>
    rw [namesOf, List.flatMap_cons, List.nodup_append] at h
    rcases List.mem_cons.mp hr with rfl | hr
    · exact h.1
    · exact ih h.2.1 hr
theorem find_nodup : ∀ {cs : List Cn} {c : Cn}, (cs.map Prod.fst).Nodup → c ∈ cs → findP cs c.1 = some c.2
  | x :: cs, c, h, hc => by
    rw [List.map_cons, List.nodup_cons] at h
    rcases List.mem_cons.mp hc with rfl | hc
    · simp [findP]
    · have hne : x.1 ≠ c.1 := fun e => h.1 (by rw [e]; exact List.mem_map_of_mem hc)
      have := find_nodup h.2 hc
      unfold findP at this ⊢
      rw [List.find?_cons_of_neg (by simpa using hne)]
      exact this
/-- what a drawn value is -/
structure Drawn (s : Sg) (m k most : Nat) (v : D) (c : Nat) : Prop where
  made : Made s m v k
  plc : plc s v k = some c
  le : c ≤ most
  ok : okD v = true
theorem Drawn.mono {s : Sg} {m k a b c : Nat} {v : D} (h : Drawn s m k a v c) (l : a ≤ b) : Drawn s m k b v c := ⟨h.made, h.plc, Nat.le_trans h.le l, h.ok⟩
local macro_rules | `(tactic| walk_at "w2") => `(tactic| first
  | (with_reducible refine' i_allM ?_) | (with_reducible refine' i_anyM ?_))
local macro_rules | `(tactic| walk_at "w3") => `(tactic| first
  | ((with_reducible refine' j_ix ?h1 ?_); (case h1 => rfl))
  | ((with_reducible refine' i_asgK ?h1 ?_); (case h1 => rfl); (dsimp only [List.set_cons_succ, List.set_cons_zero]))
  | ((with_reducible refine' i_srcK ?h1 ?_); (case h1 => rfl))
  | ((with_reducible refine' i_enmK ?h1 ?_); (case h1 => rfl))
  | ((with_reducible refine' i_evD ?h1 ?h2 ?_); (case h1 => rfl); (case h2 => (intro l e; cases e; done)))
  | ((with_reducible refine' i_isD ?h1 ?_); (case h1 => assumption))
  | ((with_reducible refine' i_len ?h1 ?_); (case h1 => rfl)) | ((with_reducible refine' i_list ?h1 ?_); (case h1 => rfl)) | ((with_reducible refine' i_tuple ?h1 ?_); (case h1 => rfl)) | ((with_reducible refine' i_slL ?h1 ?_); (case h1 => rfl))
  | ((with_reducible refine' i_rngD ?h1 ?h2 ?_); (case h1 => (first | omega | decide)); (case h2 => (first | omega | decide))) | ((with_reducible refine' i_rngD2 ?h1 ?_); (case h1 => (first | omega | decide)))
  | ((with_reducible refine' i_lrgP ?h1 ?_); (case h1 => (apply RgOk.of_le <;> omega)))
  | ((with_reducible refine' j_put ?h1 ?_); (case h1 => rfl))
  | ((with_reducible refine' i_mul ?h1 ?_); (case h1 => (first | exact .inr (by decide) | exact .inl (by decide)))) | ((with_reducible refine' i_mod ?h1 ?_); (case h1 => (first | omega | decide)))
  | ((with_reducible refine' i_fdiv ?h1 ?_); (case h1 => (first | exact ⟨by decide, by decide⟩ | exact ⟨by omega, by omega⟩))) | ((with_reducible refine' i_pow ?h1 ?_); (case h1 => exact pow_ok (by decide)))
  | ((with_reducible refine' i_ifT ?h1 ?_); (case h1 => (first | rfl | assumption | (simp [isA]; done)))) | ((with_reducible refine' i_ifF ?h1 ?_); (case h1 => (first | rfl | assumption | (simp [isA]; done))))
  | ((with_reducible refine' j_pop ?h1 ?_); (case h1 => rfl))
  | ((with_reducible refine' j_append ?h1 ?_); (case h1 => (first | (simp [sizeLine_eq]; done) | (apply lt_line; omega)))))
local macro_rules | `(tactic| walk_at "w") => `(tactic| (try dsimp only [List.cons_append, List.nil_append, List.set_cons_succ, List.set_cons_zero, killAll]); repeat' (first | (with_reducible refine' Run.imp ?_) | walk_at "w3" | walk_at "w2" | fail "open"))
local macro_rules | `(tactic| walk_at "w0") => `(tactic| refine start_en ?_; simp only [startS, hasOwn, List.map_cons, List.map_nil, List.length_cons, List.length_nil, List.cons_append, List.nil_append, List.replicate, Nat.reduceAdd, Nat.reduceSub, Nat.zero_add])
local macro_rules | `(tactic| walk_at "n") => `(tactic| walk_at "w")

section
variable {s : Sg} {r : Rw} {k M m n : Nat} {ls : List Nat} {st : List D} {rows : List Cn} {R : RV → Option (List D) → Prop}
end
end L3

namespace L3
open PySem PySem.Spec PyProof.Rows L2 PySem.SeqAt
def at2 (rows : List (List Nat)) (n k : Nat) : Nat := (rows[n]?.getD [])[k]?.getD 0
/-- how many values of a size a constructor makes -/
def ways (f : Nat → Nat → Nat) (q : List Nat) (size : Nat) : Nat :=
  match q with
  | [] => if size = 1 then 1 else 0
  | [a] => f (size - 1) a
  | a :: b :: _ => ((List.range (size - 2)).map fun i => f (1 + i) a * f (size - 1 - (1 + i)) b).sum
def nrow (s : Sg) (m : Nat) (f : Nat → Nat → Nat) (size : Nat) : List Nat := s.map fun r => (if size = 1 ∧ r.1 = true then m else 0) + (r.2.map fun c => ways f c.2 size).sum
def rowsN (s : Sg) (m : Nat) : Nat → List (List Nat)
  | 0 => [List.replicate s.length 0]
  | n + 1 => rowsN s m n ++ [nrow s m (at2 (rowsN s m n)) (n + 1)]
/-- the number of the values of a kind with n places, their strangers below m -/
def cnt (s : Sg) (m n k : Nat) : Nat := at2 (rowsN s m n) n k
section
variable {s : Sg} {m n k : Nat} {r : Rw} {c : Cn}
end
def Part (s : Sg) (k a : Nat) : Prop := ∃ r, s[k]? = some r ∧ ∃ c ∈ r.2, a ∈ c.2
inductive Reach (s : Sg) : Nat → Nat → Prop
  | one {k a : Nat} : Part s k a → Reach s k a
  | more {k a j : Nat} : Part s k a → Reach s a j → Reach s k j
def isOpen (s : Sg) (k : Nat) : Prop := ∃ r, s[k]? = some r ∧ r.1 = true
def FinK (s : Sg) (k : Nat) : Prop := ¬ isOpen s k ∧ ∀ j, Reach s k j → ¬ isOpen s j ∧ ¬ Reach s j j
section
variable {s : Sg} {m n k a j : Nat}
theorem Reach.snoc {i : Nat} (h : Reach s k j) (p : Part s j i) : Reach s k i := by
  induction h with
  | one q => exact .more q (.one p)
  | more q _ ih => exact .more q (ih p)
theorem FinK.part (h : FinK s k) (p : Part s k a) : FinK s a := ⟨(h.2 a (.one p)).1, fun j q => h.2 j (.more p q)⟩
theorem part_lt (w : Wf s) (p : Part s k a) : a < s.length := by
  obtain ⟨r, hr, c, hc, ha⟩ := p
  exact ((w.2.2 r (List.mem_of_getElem? hr)).2 c hc).2.2 a ha
theorem Reach.lt (w : Wf s) (h : Reach s k j) : j < s.length := by
  induction h with
  | one p => exact part_lt w p
  | more _ _ ih => exact ih
theorem Reach.start (h : Reach s k j) : k < s.length := by
  cases h with
  | one p => obtain ⟨r, hr, _⟩ := p; exact lt_of_get hr
  | more p _ => obtain ⟨r, hr, _⟩ := p; exact lt_of_get hr
end
end L3

namespace L3
open PySem PySem.Spec PyProof.Rows L2 PySem.SeqAt
def partsL (r : Rw) : List Nat := r.2.flatMap Prod.snd
def partsAt (s : Sg) (j : Nat) : List Nat := match s[j]? with
  | some r => partsL r
  | none => []
theorem mem_partsAt {s : Sg} {k a : Nat} : a ∈ partsAt s k ↔ Part s k a := by
  unfold partsAt Part partsL
  cases h : s[k]? with
  | none => simp
  | some r => simp [List.mem_flatMap]
theorem partsL_len {n : Nat} {r : Rw} (w : wfRow n r) (i : Nat) : ((r.2.take i).flatMap Prod.snd).length ≤ 8 := by
  have h : ∀ l : List Cn, (∀ c ∈ l, c.2.length ≤ 2) → (l.flatMap Prod.snd).length ≤ 2 * l.length := fun l => by
    induction l with
    | nil => intro _; simp
    | cons c l ih =>
      intro hc
      have h1 := hc c (by simp)
      have h2 := ih fun x hx => hc x (List.mem_cons_of_mem _ hx)
      rw [List.flatMap_cons, List.length_append, List.length_cons]
      omega
  have h3 := h (r.2.take i) fun c hc => (w.2 c (List.mem_of_mem_take hc)).2.1
  have h4 := w.1
  rw [List.length_take] at h3
  omega
theorem partsL_len' {n : Nat} {r : Rw} (w : wfRow n r) : (partsL r).length ≤ 8 := by
  have := partsL_len w r.2.length
  rw [List.take_length] at this
  exact this
/-- what holds while the kinds led to are found -/
structure LedI (s : Sg) (k t : Nat) (F : List Nat) : Prop where
  sub : ∀ j ∈ F, Reach s k j
  len : F.length ≤ 8
  first : ∀ a, Part s k a → a ∈ F
  grow : (∀ j ∈ F, ∀ a, Part s j a → a ∈ F) ∨ ∃ G : List Nat, G.Nodup ∧ (∀ j ∈ G, j ∈ F) ∧ t < G.length
def ledNext (s : Sg) (F : List Nat) : List Nat := (List.range s.length).filter fun j => decide (j ∈ F ++ F.flatMap (partsAt s))
theorem mem_ledNext {s : Sg} {F : List Nat} {j : Nat} (h : j < s.length) : j ∈ ledNext s F ↔ j ∈ F ∨ ∃ i ∈ F, Part s i j := by
  unfold ledNext
  rw [List.mem_filter, List.mem_range, decide_eq_true_eq, List.mem_append, List.mem_flatMap]
  simp only [mem_partsAt]
  exact ⟨fun h => h.2, fun x => ⟨h, x⟩⟩
theorem LedI.start {s : Sg} (w : Wf s) {k : Nat} {r : Rw} (hr : s[k]? = some r) : LedI s k 0 (partsL r) := by
  have e : partsAt s k = partsL r := by unfold partsAt; rw [hr]
  refine ⟨fun j hj => .one (mem_partsAt.mp (e ▸ hj)), partsL_len' (w.2.2 r (List.mem_of_getElem? hr)), fun a p => e ▸ mem_partsAt.mpr p, ?_⟩
  cases h : partsL r with
  | nil => exact .inl fun j hj => absurd hj (by simp)
  | cons a l => exact .inr ⟨[a], by simp, by simp, by simp⟩
theorem LedI.next {s : Sg} (w : Wf s) {k t : Nat} {F : List Nat} (h : LedI s k t F) : LedI s k (t + 1) (ledNext s F) := by
  have up : ∀ j ∈ F, j ∈ ledNext s F := fun j hj => (mem_ledNext ((h.sub j hj).lt w)).mpr (.inl hj)
  refine ⟨fun j hj => ?_, ?_, fun a p => up a (h.first a p), ?_⟩
  · have hl := List.mem_range.mp (List.mem_filter.mp hj).1
    rcases (mem_ledNext hl).mp hj with q | ⟨i, hi, p⟩
    · exact h.sub j q
    · exact (h.sub i hi).snoc p
  · have := List.length_filter_le (fun j => decide (j ∈ F ++ F.flatMap (partsAt s))) (List.range s.length)
    rw [List.length_range] at this
    have := w.2.1
    unfold ledNext
    omega
  · rcases h.grow with g | ⟨G, g1, g2, g3⟩
    · refine .inl fun j hj a p => ?_
      have hl := List.mem_range.mp (List.mem_filter.mp hj).1
      rcases (mem_ledNext hl).mp hj with q | ⟨i, hi, p'⟩
      · exact up a (g j q a p)
      · exact up a (g j (g i hi j p') a p)
    · by_cases c : ∀ j ∈ F, ∀ a, Part s j a → a ∈ F
      · refine .inl fun j hj a p => ?_
        have hl := List.mem_range.mp (List.mem_filter.mp hj).1
        rcases (mem_ledNext hl).mp hj with q | ⟨i, hi, p'⟩
        · exact up a (c j q a p)
        · exact up a (c j (c i hi j p') a p)
      · obtain ⟨j, h1⟩ := Classical.not_forall.mp c
        obtain ⟨hj, h2⟩ := Classical.not_imp.mp h1
        obtain ⟨a, h3⟩ := Classical.not_forall.mp h2
        obtain ⟨p, h4⟩ := Classical.not_imp.mp h3
        refine .inr ⟨a :: G, List.nodup_cons.mpr ⟨fun hg => h4 (g2 a hg), g1⟩, fun i hi => ?_, by rw [List.length_cons]; omega⟩
        rcases List.mem_cons.mp hi with rfl | hi
        · exact (mem_ledNext (part_lt w p)).mpr (.inr ⟨j, hj, p⟩)
        · exact up i (g2 i hi)
/-- the kinds that a kind leads to -/
def LedOk (s : Sg) (k : Nat) (L : List Nat) : Prop := ∀ j, j ∈ L ↔ Reach s k j
theorem LedI.done {s : Sg} (w : Wf s) {k : Nat} {F : List Nat} (h : LedI s k s.length F) : LedOk s k F := by
  have cl : ∀ j ∈ F, ∀ a, Part s j a → a ∈ F := by
    rcases h.grow with g | ⟨G, g1, g2, g3⟩
    · exact g
    · have := nodup_len (n := s.length) g1 fun j hj => (h.sub j (g2 j hj)).lt w
      omega
  have go : ∀ i j, Reach s i j → (∀ a, Part s i a → a ∈ F) → j ∈ F := fun i j q => by
    induction q with
    | one p => intro hi; exact hi _ p
    | more p _ ih => intro hi; exact ih (cl _ (hi _ p))
  exact fun j => ⟨h.sub j, fun q => go k j q h.first⟩
def p_constructors_of : FS := fun as R => ∃ (s : Sg) (k : Nat) (r : Rw), as = [.val (sigD s), .val (.int (k : Nat))] ∧ s[k]? = some r ∧ R (.d (.tuple (r.2.map consD))) none
theorem m_constructors_of : MonoF p_constructors_of := fun as R R' h ⟨a, b, c, d, e, k⟩ => ⟨a, b, c, d, e, h _ _ k⟩
theorem l_constructors_of : ∀ as R, p_constructors_of as R → as.length = 2 := fun as R ⟨a, _, _, e, _⟩ => by rw [e]; rfl
def p_kinds_led_to : FS := fun as R => ∃ (s : Sg) (k : Nat), as = [.val (sigD s), .val (.int (k : Nat))] ∧ Wf s ∧ k < s.length ∧ ∀ L, LedOk s k L → L.length ≤ 8 → R (.d (.tuple (nsD L))) none
theorem m_kinds_led_to : MonoF p_kinds_led_to := fun as R R' h ⟨a, b, c, d, e, k⟩ => ⟨a, b, c, d, e, fun l q u => h _ _ (k l q u)⟩
theorem l_kinds_led_to : ∀ as R, p_kinds_led_to as R → as.length = 2 := fun as R ⟨a, _, e, _⟩ => by rw [e]; rfl
def p_is_finite_kind : FS := fun as R => ∃ (s : Sg) (k : Nat), as = [.val (sigD s), .val (.int (k : Nat))] ∧ Wf s ∧ k < s.length ∧ ∀ b : Bool, (b = true ↔ FinK s k) → R (.d (.bool b)) none
theorem m_is_finite_kind : MonoF p_is_finite_kind := fun as R R' h ⟨a, b, c, d, e, k⟩ => ⟨a, b, c, d, e, fun l q => h _ _ (k l q)⟩
theorem l_is_finite_kind : ∀ as R, p_is_finite_kind as R → as.length = 2 := fun as R ⟨a, _, e, _⟩ => by rw [e]; rfl
def p_is_finite : FS := fun as R => ∃ (s : Sg) (k : Nat), as = [.val (sigD s), .val (.int (k : Nat))] ∧ GoodS s ∧ k < s.length ∧ ∀ b : Bool, (b = true ↔ FinK s k) → R (.d (.bool b)) none
theorem m_is_finite : MonoF p_is_finite := fun as R R' h ⟨a, b, c, d, e, k⟩ => ⟨a, b, c, d, e, fun l q => h _ _ (k l q)⟩
theorem l_is_finite : ∀ as R, p_is_finite as R → as.length = 2 := fun as R ⟨a, _, e, _⟩ => by rw [e]; rfl
/-- 0 signature, 1 kind -/
def w_constructors_of : WS :=
(wRet (wBin sIx (wBin sIx (wVar 0) (wVar 1)) (wC (.int 1))))
/-- 0 signature, 1 kind, 2 found, 3 turn, 4 name, 5 parts, 6 part, 7 other -/
def w_kinds_led_to : WS :=
(wSeq (wSetO 2 (wLc2 (wSrc (wBin sIx (wBin sIx (wVar 0) (wVar 1)) (wC (.int 1)))) (gTp [(gNm 4), (gNm 5)]) [4, 5, 6] wYes (wSrc (wVar 5)) (gNm 6) [6] wYes (wVar 6)))
 (wSeq (wFor (wSrc (wVar 0)) (gNm 3)
 (wKill [3] (wSeq (wDrop (wFrz (wBM "list" mExtend (wVar 2) (wCons (wFrz (wLcN ⟨(wSrc (wFrz (wCB (f1 sListOf) (wCons (wVar 2) wNil)))), (gNm 7), [7, 4, 5, 6], wYes⟩ [⟨(wSrc (wBin sIx (wBin sIx (wVar 0) (wVar 7)) (wC (.int 1)))), (gTp [(gNm 4), (gNm 5)]), [4, 5, 6], wYes⟩, ⟨(wSrc (wVar 5)), (gNm 6), [6], wYes⟩] (wVar 6))) wNil))))
 (wSetO 2 (wLc (wRng1 (wCons (wFrz (wCB (f1 sLen) (wCons (wVar 0) wNil))) wNil)) (gNm 7) [7] (wTest (wBin sIn (wVar 7) (wVar 2))) (wVar 7))))))
 (wRet (wFrz (wCB (f1 sTupOf) (wCons (wVar 2) wNil))))))
/-- 0 signature, 1 kind, 2 other -/
def w_is_finite_kind : WS :=
(wSeq (wFor (wSrc (wFrz (wCall p_kinds_led_to (wCons (wVar 0) (wCons (wVar 1) wNil))))) (gNm 2)
 (wKill [2] (wIfS (wOr (wTest (wFrz (wCall p_is_open (wCons (wVar 0) (wCons (wVar 2) wNil))))) (wTest (wBin sIn (wVar 2) (wFrz (wCall p_kinds_led_to (wCons (wVar 0) (wCons (wVar 2) wNil)))))))
 (wRet (wC (.bool false)))
 wNext)))
 (wRet (wNotV (wFrz (wCall p_is_open (wCons (wVar 0) (wCons (wVar 1) wNil)))))))
/-- 0 signature, 1 kind -/
def w_is_finite : WS :=
(wSeq (wDrop (wFrz (wCall p_check_kind (wCons (wVar 0) (wCons (wVar 1) wNil)))))
 (wRetR (wCall p_is_finite_kind (wCons (wVar 0) (wCons (wVar 1) wNil)))))

local macro_rules | `(tactic| walk_at "w2") => `(tactic| first
  | (with_reducible refine' i_allM ?_) | (with_reducible refine' i_anyM ?_))
local macro_rules | `(tactic| walk_at "w3") => `(tactic| first
  | ((with_reducible refine' j_ix ?h1 ?_); (case h1 => rfl))
  | ((with_reducible refine' i_asgK ?h1 ?_); (case h1 => rfl); (dsimp only [List.set_cons_succ, List.set_cons_zero]))
  | ((with_reducible refine' i_srcK ?h1 ?_); (case h1 => rfl))
  | ((with_reducible refine' i_enmK ?h1 ?_); (case h1 => rfl))
  | ((with_reducible refine' i_evD ?h1 ?h2 ?_); (case h1 => rfl); (case h2 => (intro l e; cases e; done)))
  | ((with_reducible refine' i_isD ?h1 ?_); (case h1 => assumption))
  | ((with_reducible refine' i_len ?h1 ?_); (case h1 => rfl)) | ((with_reducible refine' i_list ?h1 ?_); (case h1 => rfl)) | ((with_reducible refine' i_tuple ?h1 ?_); (case h1 => rfl)) | ((with_reducible refine' i_slL ?h1 ?_); (case h1 => rfl))
  | ((with_reducible refine' i_rngD ?h1 ?h2 ?_); (case h1 => (first | omega | decide)); (case h2 => (first | omega | decide))) | ((with_reducible refine' i_rngD2 ?h1 ?_); (case h1 => (first | omega | decide)))
  | ((with_reducible refine' i_lrgP ?h1 ?_); (case h1 => (apply RgOk.of_le <;> omega)))
  | ((with_reducible refine' j_put ?h1 ?_); (case h1 => rfl))
  | ((with_reducible refine' i_mul ?h1 ?_); (case h1 => (first | exact .inr (by decide) | exact .inl (by decide)))) | ((with_reducible refine' i_mod ?h1 ?_); (case h1 => (first | omega | decide)))
  | ((with_reducible refine' i_fdiv ?h1 ?_); (case h1 => (first | exact ⟨by decide, by decide⟩ | exact ⟨by omega, by omega⟩))) | ((with_reducible refine' i_pow ?h1 ?_); (case h1 => exact pow_ok (by decide)))
  | ((with_reducible refine' i_ifT ?h1 ?_); (case h1 => (first | rfl | assumption | (simp [isA]; done)))) | ((with_reducible refine' i_ifF ?h1 ?_); (case h1 => (first | rfl | assumption | (simp [isA]; done))))
  | ((with_reducible refine' j_pop ?h1 ?_); (case h1 => rfl))
  | ((with_reducible refine' j_append ?h1 ?_); (case h1 => (first | (simp [sizeLine_eq]; done) | (apply lt_line; omega)))))
local macro_rules | `(tactic| walk_at "w") => `(tactic| (try dsimp only [List.cons_append, List.nil_append, List.set_cons_succ, List.set_cons_zero, killAll]); repeat' (first | (with_reducible refine' Run.imp ?_) | walk_at "w3" | walk_at "w2" | fail "open"))
local macro_rules | `(tactic| walk_at "w0") => `(tactic| refine start_en ?_; simp only [startS, hasOwn, List.map_cons, List.map_nil, List.length_cons, List.length_nil, List.cons_append, List.nil_append, List.replicate, Nat.reduceAdd, Nat.reduceSub, Nat.zero_add])
local macro_rules | `(tactic| walk_at "n") => `(tactic| walk_at "w")

theorem v_constructors_of : ∀ as R, p_constructors_of as R → w_constructors_of (retEn (hasOwn as) R) (startS 2 as) := by
  rintro as R ⟨s, k, r, rfl, hr, q⟩
  unfold w_constructors_of
  walk_at "w0"
  walk_at "n"
  refine i_sig hr ?_
  walk_at "n"
  exact q
theorem i_inL {z : SS} {ev ew : EV} {F : List Nat} {n : Nat} {k : RV → Prop} (e : evD z ev = some (.int (n : Nat))) (e2 : evD z ew = some (.list (nsD F))) (h : k (.d (.bool (decide (n ∈ F))))) : sIn z ev ew k :=
  ⟨_, _, e, e2, plain_ns _, rfl, by simp [PyData.depth], by rw [in_ns]; exact h⟩
theorem i_inNs {z : SS} {q : List Nat} {n : Nat} {k : RV → Prop} (h : k (.d (.bool (decide (n ∈ q))))) : sIn z (.d (.int (n : Nat))) (.d (.tuple (nsD q))) k :=
  ⟨_, _, rfl, rfl, plain_ns _, rfl, by simp [PyData.depth], by rw [in_ns]; exact h⟩
theorem nsD_cat (a b : List Nat) : nsD a ++ nsD b = nsD (a ++ b) := by simp [nsD]
theorem ns_len (l : List Nat) : (nsD l).length = l.length := by rw [nsD, List.length_map]
theorem flat_take {α : Type} {f : α → List Nat} {l : List α} {i : Nat} {x : α} (h : l[i]? = some x) : (l.take (i + 1)).flatMap f = (l.take i).flatMap f ++ f x := by
  rw [List.take_add_one, h, List.flatMap_append]
  simp
theorem flat_len8 {s : Sg} (w : Wf s) (l : List Nat) : (l.flatMap (partsAt s)).length ≤ 8 * l.length := by
  induction l with
  | nil => simp
  | cons a l ih =>
    have h1 : (partsAt s a).length ≤ 8 := by
      unfold partsAt
      cases h : s[a]? with
      | none => simp
      | some r => exact partsL_len' (w.2.2 r (List.mem_of_getElem? h))
    rw [List.flatMap_cons, List.length_append, List.length_cons]
    omega
theorem v_kinds_led_to : ∀ as R, p_kinds_led_to as R → w_kinds_led_to (retEn (hasOwn as) R) (startS 8 as) := by
  rintro as R ⟨s, k, rfl, w, hk, q⟩
  obtain ⟨r, hr⟩ : ∃ r, s[k]? = some r := ⟨s[k]'hk, List.getElem?_eq_getElem _⟩
  have wr := w.2.2 r (List.mem_of_getElem? hr)
  have hs3 := w.2.1
  unfold w_kinds_led_to
  walk_at "w0"
  walk_at "n"
  refine i_sig hr ?_
  walk_at "n"
  refine lcL2_inv (P := fun i acc z => acc = nsD ((r.2.take i).flatMap Prod.snd) ∧ z = [some (.val (sigD s)), some (.val (.int (k : Nat))), none, none, none, none, none, none]) (fun i x acc z e p N hN => ?_) (fun acc z p => ?_) ⟨rfl, rfl⟩
  · obtain ⟨rfl, rfl⟩ := p
    rw [List.getElem?_map] at e
    obtain ⟨c, hc, rfl⟩ := Option.map_eq_some_iff.mp e
    have wc := wr.2 c (List.mem_of_getElem? hc)
    have hl := partsL_len wr i
    have wc2 := wc.2.1
    walk_at "n"
    refine lcL_mapA (fun x => x) ?_ (fun x hx N3 hN3 => ?_) ?_
    · rw [ns_len, ns_len]
      exact le_line (by omega)
    · obtain ⟨n, hn, rfl⟩ := List.mem_map.mp hx
      walk_at "n"
      exact hN3 _ rfl
    · refine hN _ _ ⟨?_, rfl⟩
      rw [List.map_id', flat_take hc, nsD_cat]
  · obtain ⟨rfl, rfl⟩ := p
    rw [List.length_map, List.take_length]
    walk_at "n"
    refine forT_inv (P := fun t z => ∃ F, z = [some (.val (sigD s)), some (.val (.int (k : Nat))), some (.own none (nsD F)), none, none, none, none, none] ∧ LedI s k t F) (fun t x z hx hz N hN => ?_) (fun z hz => ?_) ⟨partsL r, rfl, .start w hr⟩
    · obtain ⟨F, rfl, hF⟩ := hz
      have hF8 := hF.len
      walk_at "n"
      refine loopN_inv (P := fun i acc z => acc = nsD ((F.take i).flatMap (partsAt s)) ∧ z = [some (.val (sigD s)), some (.val (.int (k : Nat))), some (.own none (nsD F)), some (.val (rowD x)), none, none, none, none]) (fun i y acc z hy p N1 hN1 => ?_) (fun acc z p => ?_) ⟨rfl, rfl⟩
      · obtain ⟨rfl, rfl⟩ := p
        rw [nsD, List.getElem?_map] at hy
        obtain ⟨j, hj, rfl⟩ := Option.map_eq_some_iff.mp hy
        have hjl := (hF.sub j (List.mem_of_getElem? hj)).lt w
        obtain ⟨r1, hr1⟩ : ∃ r, s[j]? = some r := ⟨s[j]'hjl, List.getElem?_eq_getElem _⟩
        have wr1 := w.2.2 r1 (List.mem_of_getElem? hr1)
        have hl1 := flat_len8 w (F.take i)
        rw [List.length_take] at hl1
        dsimp only
        walk_at "n"
        refine i_sig hr1 ?_
        walk_at "n"
        refine loopN_inv (P := fun i2 acc z => acc = nsD ((F.take i).flatMap (partsAt s) ++ (r1.2.take i2).flatMap Prod.snd) ∧ z = [some (.val (sigD s)), some (.val (.int (k : Nat))), some (.own none (nsD F)), some (.val (rowD x)), none, none, none, some (.val (.int (j : Nat)))]) (fun i2 y acc z hy p N2 hN2 => ?_) (fun acc z p => ?_) ⟨by simp, rfl⟩
        · obtain ⟨rfl, rfl⟩ := p
          rw [List.getElem?_map] at hy
          obtain ⟨c, hc, rfl⟩ := Option.map_eq_some_iff.mp hy
          have wc := wr1.2 c (List.mem_of_getElem? hc)
          have hl2 := partsL_len wr1 i2
          dsimp only
          walk_at "n"
          refine loopN_inv (P := fun i3 acc z => acc = nsD ((F.take i).flatMap (partsAt s) ++ (r1.2.take i2).flatMap Prod.snd ++ c.2.take i3) ∧ z = [some (.val (sigD s)), some (.val (.int (k : Nat))), some (.own none (nsD F)), some (.val (rowD x)), some (.val (.str c.1)), some (.val (.tuple (nsD c.2))), none, some (.val (.int (j : Nat)))]) (fun i3 y acc z hy p N3 hN3 => ?_) (fun acc z p => ?_) ⟨by simp, rfl⟩
          · obtain ⟨rfl, rfl⟩ := p
            rw [nsD, List.getElem?_map] at hy
            obtain ⟨a, ha, rfl⟩ := Option.map_eq_some_iff.mp hy
            have hl3 : (c.2.take i3).length ≤ 2 := by rw [List.length_take]; have := wc.2.1; omega
            dsimp only
            walk_at "n"
            refine ⟨lt_line (by rw [ns_len, List.length_append, List.length_append]; omega), hN3 _ _ ⟨?_, rfl⟩⟩
            rw [List.take_add_one, ha, ← List.append_assoc, ← nsD_cat _ (Option.toList _)]
            rfl
          · obtain ⟨rfl, rfl⟩ := p
            refine hN2 _ _ ⟨?_, rfl⟩
            rw [ns_len, List.take_length, flat_take hc, List.append_assoc]
        · obtain ⟨rfl, rfl⟩ := p
          refine hN1 _ _ ⟨?_, rfl⟩
          rw [List.length_map, List.take_length, flat_take hj]
          congr 2
          unfold partsAt
          rw [hr1]
          rfl
      · obtain ⟨rfl, rfl⟩ := p
        have hl1 := flat_len8 w F
        rw [ns_len, List.take_length]
        walk_at "n"
        refine j_extend ?_ ?_
        · rw [ns_len, ns_len]
          exact le_line (by omega)
        rw [nsD_cat]
        walk_at "n"
        rw [List.length_map]
        walk_at "n"
        refine lcN_if (n := s.length) (fun j => decide (j ∈ F ++ F.flatMap (partsAt s))) (fun j => .int (j : Nat)) (le_line (by omega)) (fun j hj N0 N1 h0 h1 => ?_) ?_
        · walk_at "n"
          refine i_inL rfl rfl ?_
          walk_at "n"
          cases h : decide (j ∈ F ++ F.flatMap (partsAt s)) with
          | true =>
            walk_at "n"
            exact h1 h _ rfl
          | false =>
            walk_at "n"
            exact h0 h _ rfl
        · walk_at "n"
          exact hN _ ⟨_, rfl, hF.next w⟩
    · obtain ⟨F, rfl, hF⟩ := hz
      walk_at "n"
      exact q F (hF.done w) hF.len
theorem v_is_finite_kind : ∀ as R, p_is_finite_kind as R → w_is_finite_kind (retEn (hasOwn as) R) (startS 3 as) := by
  rintro as R ⟨s, k, rfl, w, hk, q⟩
  obtain ⟨r, hr⟩ : ∃ r, s[k]? = some r := ⟨s[k]'hk, List.getElem?_eq_getElem _⟩
  have op : ∀ {j : Nat} {r : Rw}, s[j]? = some r → (isOpen s j ↔ r.1 = true) := fun {j r} h => ⟨fun ⟨r', h', o⟩ => by rw [h] at h'; cases h'; exact o, fun o => ⟨r, h, o⟩⟩
  unfold w_is_finite_kind
  walk_at "w0"
  walk_at "n"
  refine ⟨s, k, rfl, w, hk, fun L hL _ => ?_⟩
  walk_at "n"
  refine forL_inv (P := fun i z => (∀ j ∈ L.take i, ¬ isOpen s j ∧ ¬ Reach s j j) ∧ z = [some (.val (sigD s)), some (.val (.int (k : Nat))), none]) (fun i x z hx p N hN => ?_) (fun z p => ?_) ⟨by simp, rfl⟩
  · obtain ⟨h1, rfl⟩ := p
    rw [nsD, List.getElem?_map] at hx
    obtain ⟨j, hj, rfl⟩ := Option.map_eq_some_iff.mp hx
    have hr1 := (hL j).mp (List.mem_of_getElem? hj)
    have hjl := hr1.lt w
    obtain ⟨r1, hrj⟩ : ∃ r, s[j]? = some r := ⟨s[j]'hjl, List.getElem?_eq_getElem _⟩
    walk_at "n"
    refine ⟨s, j, r1, rfl, hrj, ?_⟩
    walk_at "n"
    cases ho : r1.1 with
    | true =>
      walk_at "n"
      exact q false ⟨fun h => absurd h (by simp), fun h => absurd ((op hrj).mpr ho) (h.2 j hr1).1⟩
    | false =>
      walk_at "n"
      refine ⟨s, j, rfl, w, hjl, fun M hM _ => ?_⟩
      walk_at "n"
      refine i_inNs ?_
      walk_at "n"
      refine i_ifD (fun h => ?_) (fun h => ?_)
      · walk_at "n"
        exact q false ⟨fun h => absurd h (by simp), fun h2 => absurd ((hM j).mp h) (h2.2 j hr1).2⟩
      · walk_at "n"
        refine hN _ ⟨fun i hi => ?_, rfl⟩
        rw [List.take_add_one, hj] at hi
        rcases List.mem_append.mp hi with hi | hi
        · exact h1 i hi
        · have : i = j := by simpa using hi
          subst this
          exact ⟨fun o => absurd ((op hrj).mp o) (by rw [ho]; simp), fun c => h ((hM i).mpr c)⟩
  · obtain ⟨h1, rfl⟩ := p
    rw [ns_len, List.take_length] at h1
    walk_at "n"
    refine ⟨s, k, r, rfl, hr, ?_⟩
    walk_at "n"
    refine q _ ⟨fun h => ⟨fun o => ?_, fun j c => h1 j ((hL j).mpr c)⟩, fun h => ?_⟩
    · rw [(op hr).mp o] at h
      cases h
    · cases ho : r.1 with
      | true => exact absurd ((op hr).mpr ho) h.1
      | false => rfl
theorem v_is_finite : ∀ as R, p_is_finite as R → w_is_finite (retEn (hasOwn as) R) (startS 2 as) := by
  rintro as R ⟨s, k, rfl, g, hk, q⟩
  unfold w_is_finite
  walk_at "w0"
  walk_at "n"
  refine ⟨s, k, rfl, g, hk, ?_⟩
  walk_at "n"
  refine ⟨s, k, rfl, g.wf, hk, fun b hb => ?_⟩
  walk_at "n"
  exact q b hb
end L3

namespace L3
open PySem PySem.Spec PyProof.Rows L2 PySem.SeqAt
/-- so many steps lead down from a kind -/
def Ch (s : Sg) : Nat → Nat → Prop
  | 0, _ => True
  | n + 1, k => ∃ a, Part s k a ∧ Ch s n a
def mxL (l : List Nat) : Nat := l.foldl max 0
theorem foldl_max (l : List Nat) : ∀ i : Nat, i ≤ l.foldl max i ∧ (∀ x ∈ l, x ≤ l.foldl max i) ∧ (l.foldl max i = i ∨ l.foldl max i ∈ l) := by
  induction l with
  | nil => intro i; exact ⟨Nat.le_refl _, fun x hx => (by cases hx), .inl rfl⟩
  | cons a l ih =>
    intro i
    obtain ⟨h1, h2, h3⟩ := ih (max i a)
    rw [List.foldl_cons]
    refine ⟨by omega, fun x hx => ?_, ?_⟩
    · rcases List.mem_cons.mp hx with rfl | hx
      · omega
      · exact h2 x hx
    · rcases h3 with h3 | h3
      · rw [h3]
        rcases Nat.le_total i a with e | e
        · exact .inr (by rw [Nat.max_eq_right e]; simp)
        · exact .inl (Nat.max_eq_left e)
      · exact .inr (List.mem_cons_of_mem _ h3)
theorem mxL_le {l : List Nat} {x : Nat} (h : x ∈ l) : x ≤ mxL l := (foldl_max l 0).2.1 x h
theorem mxL_bd {l : List Nat} {b : Nat} (h : ∀ x ∈ l, x ≤ b) : mxL l ≤ b := by
  rcases (foldl_max l 0).2.2 with e | e
  · unfold mxL
    omega
  · exact h _ e
/-- the height of a kind, as far as so many steps tell -/
def hN (s : Sg) : Nat → Nat → Nat
  | 0, _ => 0
  | n + 1, k => mxL ((partsAt s k).map fun a => hN s n a + 1)
section
variable {s : Sg}
theorem hN_stop : ∀ (n k : Nat), ¬ Ch s (n + 1) k → hN s n k = hN s (n + 1) k
  | 0, k, h => by
    have : partsAt s k = [] := by
      cases e : partsAt s k with
      | nil => rfl
      | cons a l => exact absurd ⟨a, mem_partsAt.mp (by rw [e]; simp), trivial⟩ h
    show 0 = mxL _
    rw [this]
    rfl
  | n + 1, k, h => by
    show mxL _ = mxL _
    congr 1
    apply List.map_congr_left
    intro a ha
    rw [hN_stop n a fun c => h ⟨a, mem_partsAt.mp ha, c⟩]
theorem ch_down : ∀ (n k : Nat), Ch s (n + 1) k → Ch s n k
  | 0, _, _ => trivial
  | n + 1, k, ⟨a, p, c⟩ => ⟨a, p, ch_down n a c⟩
theorem fin_ch (w : Wf s) {k : Nat} (h : FinK s k) (hk : k < s.length) : ¬ Ch s 3 k := by
  rintro ⟨a, p1, b, p2, c, p3, _⟩
  have ra : Reach s k a := .one p1
  have rb : Reach s k b := ra.snoc p2
  have rc : Reach s k c := rb.snoc p3
  have hs := w.2.1
  have la := part_lt w p1
  have lb := part_lt w p2
  have lc := part_lt w p3
  have na := (h.2 a ra).2
  have nb := (h.2 b rb).2
  have nc := (h.2 c rc).2
  have e1 : k ≠ a := fun e => na (e ▸ ra)
  have e2 : k ≠ b := fun e => nb (e ▸ rb)
  have e3 : k ≠ c := fun e => nc (e ▸ rc)
  have e4 : a ≠ b := fun e => na (by have : Reach s a b := .one p2; rwa [← e] at this)
  have e5 : a ≠ c := fun e => na (by have : Reach s a c := .more p2 (.one p3); rwa [← e] at this)
  have e6 : b ≠ c := fun e => nb (by have : Reach s b c := .one p3; rwa [← e] at this)
  omega
/-- the height -/
abbrev hgt (s : Sg) (k : Nat) : Nat := hN s 3 k
theorem fin_hgt (w : Wf s) {k : Nat} (h : FinK s k) (hk : k < s.length) : hgt s k = mxL ((partsAt s k).map fun a => hgt s a + 1) := by
  have c := fin_ch w h hk
  show mxL _ = mxL _
  congr 1
  apply List.map_congr_left
  intro a ha
  show hN s 2 a + 1 = hN s 3 a + 1
  rw [hN_stop 2 a fun q => fin_ch w (h.part (mem_partsAt.mp ha)) (part_lt w (mem_partsAt.mp ha)) q]
theorem hgt_part (w : Wf s) {k a : Nat} (h : FinK s k) (hk : k < s.length) (p : Part s k a) : hgt s a < hgt s k := by
  rw [fin_hgt w h hk]
  exact mxL_le (List.mem_map.mpr ⟨a, mem_partsAt.mpr p, rfl⟩)
/-- the kinds that are asked: the kind and what it leads to -/
def Asked (s : Sg) (k j : Nat) : Prop := j = k ∨ Reach s k j
theorem reach_tr {k j i : Nat} (h : Reach s k j) : Reach s j i → Reach s k i := by
  induction h with
  | one p => exact fun q => .more p q
  | more p _ ih => exact fun q => .more p (ih q)
theorem Asked.fin {k j : Nat} (h : FinK s k) (a : Asked s k j) : FinK s j := by
  rcases a with rfl | r
  · exact h
  · exact ⟨(h.2 j r).1, fun i q => h.2 i (reach_tr r q)⟩
theorem Asked.part {k j a : Nat} (h : Asked s k j) (p : Part s j a) : Asked s k a := by
  rcases h with rfl | r
  · exact .inr (.one p)
  · exact .inr (r.snoc p)
theorem Asked.lt (w : Wf s) {k j : Nat} (hk : k < s.length) (h : Asked s k j) : j < s.length := by
  rcases h with rfl | r
  · exact hk
  · exact r.lt w
end
def hD : Option Nat → D
  | none => .none
  | some n => .int (n : Nat)
def hsD (l : List (Option Nat)) : List D := l.map hD
def okH (s : Sg) (k : Nat) (hs : List (Option Nat)) : Prop := hs.length = s.length ∧ (∀ h, some h ∈ hs → h ≤ 2) ∧ (∃ h, hs[k]? = some (some h)) ∧ ∀ i h, hs[i]? = some (some h) → ¬ isOpen s i ∧ ∀ a, Part s i a → ∃ b, hs[a]? = some (some b) ∧ b < h
/-- evidence that a kind is finite -/
noncomputable def isHts (s : Sg) (k : Nat) : D → Bool
  | .tuple l => @decide (∃ hs, l = hsD hs ∧ okH s k hs) (Classical.propDecidable _)
  | _ => false
theorem hD_inj : ∀ {a b : Option Nat}, hD a = hD b → a = b
  | none, none, _ => rfl
  | none, some _, h => by cases h
  | some _, none, h => by cases h
  | some a, some b, h => by
    have h : PyData.int (a : Nat) = PyData.int (b : Nat) := h
    injection h with h
    rw [Int.ofNat.inj h]
theorem hsD_inj : ∀ {a b : List (Option Nat)}, hsD a = hsD b → a = b
  | [], [], _ => rfl
  | [], _ :: _, h => by cases h
  | _ :: _, [], h => by cases h
  | x :: a, y :: b, h => by
    rw [hsD, hsD, List.map_cons, List.map_cons, List.cons.injEq] at h
    rw [hD_inj h.1, hsD_inj (a := a) (b := b) h.2]
end L3

namespace L3
open PySem PySem.Spec PyProof.Rows L2 PySem.SeqAt
abbrev Wy := List (Str × Nat)
def spD (p : Str × Nat) : D := .tuple [.str p.1, .int (p.2 : Nat)]
def wyD (w : Wy) : D := .tuple (w.map spD)
/-- the kind of a part -/
def nextK (s : Sg) (c : Nat) (n : Str) (i : Nat) : Option Nat := match s[c]? with
  | some r => match findP r.2 n with
    | some q => q[i]?
    | none => none
  | none => none
/-- the kinds that steps come to -/
def comeN (s : Sg) : Nat → Wy → Option (List Nat)
  | _, [] => some []
  | c, p :: w => match nextK s c p.1 p.2 with
    | some d => (comeN s d w).map (d :: ·)
    | none => none
/-- one step, of whatever form -/
def stepD (s : Sg) (c : Nat) : D → Option Nat
  | .tuple [.str n, .int i] => if 0 ≤ i then nextK s c n i.toNat else none
  | _ => none
def comeD (s : Sg) : Nat → List D → Option (List Nat)
  | _, [] => some []
  | c, d :: l => match stepD s c d with
    | some e => (comeD s e l).map (e :: ·)
    | none => none
def opB (s : Sg) (k : Nat) : Bool := match s[k]? with
  | some r => r.1
  | none => false
def lastK (k : Nat) (ks : List Nat) : Nat := ks.getLast?.getD k
theorem lastK_cons (k x : Nat) (ks : List Nat) : lastK k (x :: ks) = lastK x ks := by
  unfold lastK
  rw [List.getLast?_cons]
  rfl
theorem lastK_snoc (k : Nat) (ks : List Nat) (d : Nat) : lastK k (ks ++ [d]) = d := by
  unfold lastK
  rw [List.getLast?_concat]
  rfl
def goodM (s : Sg) (k : Nat) (ks : List Nat) : Bool := opB s (lastK k ks) || decide (lastK k ks ∈ (k :: ks).dropLast)
/-- evidence that a kind is not finite -/
def isWay (s : Sg) (k : Nat) : D → Bool
  | .tuple l => decide (l.length ≤ 3) && match comeD s k l with
    | some ks => goodM s k ks
    | none => false
  | _ => false
theorem stepD_st (s : Sg) (c : Nat) (p : Str × Nat) : stepD s c (spD p) = nextK s c p.1 p.2 := by
  unfold stepD spD
  simp
theorem comeD_wy (s : Sg) : ∀ (c : Nat) (w : Wy), comeD s c (w.map spD) = comeN s c w
  | _, [] => rfl
  | c, p :: w => by
    rw [List.map_cons, comeD, comeN, stepD_st]
    cases nextK s c p.1 p.2 with
    | none => rfl
    | some d => simp only [comeD_wy s d w]
theorem comeN_snoc (s : Sg) : ∀ (c : Nat) (w : Wy) (ks : List Nat) (p : Str × Nat) (d : Nat), comeN s c w = some ks → nextK s (lastK c ks) p.1 p.2 = some d → comeN s c (w ++ [p]) = some (ks ++ [d])
  | c, [], ks, p, d, h, h2 => by
    cases h
    have h2 : nextK s c p.1 p.2 = some d := h2
    rw [List.nil_append, comeN, h2]
    rfl
  | c, q :: w, ks, p, d, h, h2 => by
    rw [comeN] at h
    rw [List.cons_append, comeN]
    cases e : nextK s c q.1 q.2 with
    | none => rw [e] at h; cases h
    | some x =>
      rw [e] at h
      simp only at h ⊢
      obtain ⟨ks', h3, rfl⟩ := Option.map_eq_some_iff.mp h
      have h4 : nextK s (lastK x ks') p.1 p.2 = some d := by rwa [lastK_cons] at h2
      rw [comeN_snoc s x w ks' p d h3 h4]
      rfl
/-- the ways with one step more -/
def extW (s : Sg) (k : Nat) (w : Wy) : List Wy := match comeN s k w with
  | some ks => match s[lastK k ks]? with
    | some r => r.2.flatMap fun c => (List.range c.2.length).map fun i => w ++ [(c.1, i)]
    | none => []
  | none => []
def lvl (s : Sg) (k : Nat) : Nat → List Wy
  | 0 => [[]]
  | n + 1 => (lvl s k n).flatMap (extW s k)
def goodW (s : Sg) (k : Nat) (w : Wy) : Bool := match comeN s k w with
  | some ks => goodM s k ks
  | none => false
section
variable {s : Sg}
theorem nextK_lt (w : Wf s) {c d i : Nat} {n : Str} (h : nextK s c n i = some d) : Part s c d ∧ d < s.length := by
  unfold nextK at h
  cases hr : s[c]? with
  | none => rw [hr] at h; cases h
  | some r =>
    rw [hr] at h
    simp only at h
    cases hf : findP r.2 n with
    | none => rw [hf] at h; cases h
    | some q =>
      rw [hf] at h
      obtain ⟨cn, hc, _, rfl⟩ := findP_mem hf
      have hp : Part s c d := ⟨r, hr, cn, hc, List.mem_of_getElem? h⟩
      exact ⟨hp, part_lt w hp⟩
theorem comeN_lt (w : Wf s) : ∀ {c : Nat} {y : Wy} {ks : List Nat}, comeN s c y = some ks → c < s.length → ks.length = y.length ∧ (∀ j ∈ ks, j < s.length) ∧ lastK c ks < s.length
  | c, [], ks, h, hc => by
    cases h
    exact ⟨rfl, fun j hj => (by cases hj), hc⟩
  | c, p :: y, ks, h, hc => by
    rw [comeN] at h
    cases e : nextK s c p.1 p.2 with
    | none => rw [e] at h; cases h
    | some x =>
      rw [e] at h
      simp only at h
      obtain ⟨ks', h3, rfl⟩ := Option.map_eq_some_iff.mp h
      obtain ⟨a, b, d⟩ := comeN_lt w h3 (nextK_lt w e).2
      refine ⟨by simp [a], fun j hj => ?_, ?_⟩
      · rcases List.mem_cons.mp hj with rfl | hj
        · exact (nextK_lt w e).2
        · exact b j hj
      · rw [lastK_cons]
        exact d
theorem nextK_of (g : GoodS s) {c : Nat} {r : Rw} {cn : Cn} {i d : Nat} (hr : s[c]? = some r) (hc : cn ∈ r.2) (hd : cn.2[i]? = some d) : nextK s c cn.1 i = some d := by
  unfold nextK
  rw [hr]
  simp only
  rw [show findP r.2 cn.1 = some cn.2 from find_nodup (row_nodup g.nd (List.mem_of_getElem? hr)) hc]
  exact hd
/-- a step more -/
theorem ext_mem (g : GoodS s) {k : Nat} {w w' : Wy} (h : w' ∈ extW s k w) : ∃ ks p d, comeN s k w = some ks ∧ w' = w ++ [p] ∧ comeN s k w' = some (ks ++ [d]) := by
  unfold extW at h
  cases e : comeN s k w with
  | none => rw [e] at h; cases h
  | some ks =>
    rw [e] at h
    simp only at h
    cases hr : s[lastK k ks]? with
    | none => rw [hr] at h; cases h
    | some r =>
      rw [hr] at h
      obtain ⟨cn, hc, h2⟩ := List.mem_flatMap.mp h
      obtain ⟨i, hi, rfl⟩ := List.mem_map.mp h2
      have hi2 := List.mem_range.mp hi
      exact ⟨ks, (cn.1, i), cn.2[i], rfl, rfl, comeN_snoc s k w ks _ _ e (nextK_of g hr hc (List.getElem?_eq_getElem hi2))⟩
theorem ext_part (g : GoodS s) {k j : Nat} {w : Wy} {ks : List Nat} (h : comeN s k w = some ks) (p : Part s (lastK k ks) j) : ∃ w' ∈ extW s k w, comeN s k w' = some (ks ++ [j]) := by
  obtain ⟨r, hr, cn, hc, hj⟩ := p
  obtain ⟨i, hi⟩ := List.getElem?_of_mem hj
  have hil := (List.getElem?_eq_some_iff.mp hi).1
  refine ⟨w ++ [(cn.1, i)], ?_, comeN_snoc s k w ks _ _ h (nextK_of g hr hc hi)⟩
  unfold extW
  rw [h]
  simp only [hr]
  exact List.mem_flatMap.mpr ⟨cn, hc, List.mem_map.mpr ⟨i, List.mem_range.mpr hil, rfl⟩⟩
theorem lvl_ok (g : GoodS s) {k : Nat} : ∀ (n : Nat) (w : Wy), w ∈ lvl s k n → w.length = n ∧ ∃ ks, comeN s k w = some ks
  | 0, w, h => by
    rw [lvl, List.mem_singleton] at h
    subst h
    exact ⟨rfl, [], rfl⟩
  | n + 1, w, h => by
    rw [lvl] at h
    obtain ⟨v, hv, h2⟩ := List.mem_flatMap.mp h
    obtain ⟨ks, p, d, _, rfl, h3⟩ := ext_mem g h2
    rw [List.length_append, (lvl_ok g n v hv).1]
    exact ⟨rfl, _, h3⟩
theorem ext_len (w : Wf s) (k : Nat) (y : Wy) : (extW s k y).length ≤ 8 := by
  unfold extW
  cases comeN s k y with
  | none => exact Nat.zero_le _
  | some ks =>
    simp only
    cases hr : s[lastK k ks]? with
    | none => exact Nat.zero_le _
    | some r =>
      have hw := partsL_len' (w.2.2 r (List.mem_of_getElem? hr))
      have e : ∀ l : List Cn, (l.flatMap fun c => (List.range c.2.length).map fun i => y ++ [(c.1, i)]).length = (l.flatMap Prod.snd).length := fun l => by
        induction l with
        | nil => rfl
        | cons c l ih => rw [List.flatMap_cons, List.flatMap_cons, List.length_append, List.length_append, ih, List.length_map, List.length_range]
      simp only
      rw [e]
      exact hw
theorem lvl_len (w : Wf s) (k : Nat) : ∀ n : Nat, (lvl s k n).length ≤ 8 ^ n
  | 0 => by simp [lvl]
  | n + 1 => by
    have ih := lvl_len w k n
    have e : ∀ l : List Wy, (l.flatMap (extW s k)).length ≤ 8 * l.length := fun l => by
      induction l with
      | nil => exact Nat.le_refl _
      | cons a l ih =>
        have := ext_len w k a
        rw [List.flatMap_cons, List.length_append, List.length_cons]
        omega
    have := e (lvl s k n)
    rw [lvl, Nat.pow_succ]
    omega
theorem ch_of_reach {k j : Nat} (h : Reach s k j) : ∀ n, Ch s n j → Ch s (n + 1) k := by
  induction h with
  | one p => exact fun n c => ⟨_, p, c⟩
  | more p _ ih => exact fun n c => ⟨_, p, ch_down _ _ (ih n c)⟩
theorem ch_ring {j : Nat} (h : Reach s j j) : ∀ n, Ch s n j
  | 0 => trivial
  | n + 1 => ch_of_reach h n (ch_ring h n)
theorem opB_iff {k : Nat} : opB s k = true ↔ isOpen s k := by
  unfold opB isOpen
  cases s[k]? with
  | none => simp
  | some r => simp
theorem goodW_of {k : Nat} {w : Wy} {ks : List Nat} (h : comeN s k w = some ks) : goodW s k w = goodM s k ks := by
  unfold goodW
  rw [h]
theorem lvl_up (g : GoodS s) {k n j : Nat} {w : Wy} {ks : List Nat} (hw : w ∈ lvl s k n) (h : comeN s k w = some ks) (p : Part s (lastK k ks) j) : ∃ w' ∈ lvl s k (n + 1), comeN s k w' = some (ks ++ [j]) := by
  obtain ⟨w', h1, h2⟩ := ext_part g h p
  exact ⟨w', List.mem_flatMap.mpr ⟨w, hw, h1⟩, h2⟩
/-- a kind that is not finite has a way -/
theorem way_ex (g : GoodS s) {k : Nat} (hk : k < s.length) (h : ¬ FinK s k) : ∃ n, n ≤ 3 ∧ ∃ w ∈ lvl s k n, goodW s k w = true := by
  have w0 : [] ∈ lvl s k 0 := by simp [lvl]
  have c0 : comeN s k [] = some [] := rfl
  by_cases ho : isOpen s k
  · refine ⟨0, by decide, [], w0, ?_⟩
    rw [goodW_of c0]
    unfold goodM
    rw [show opB s (lastK k []) = true from opB_iff.mpr ho]
    rfl
  · by_cases hc : Ch s 3 k
    · obtain ⟨a, p1, b, p2, c, p3, _⟩ := hc
      obtain ⟨w1, m1, e1⟩ := lvl_up g w0 c0 p1
      obtain ⟨w2, m2, e2⟩ := lvl_up g m1 e1 (by rw [List.nil_append]; exact p2)
      obtain ⟨w3, m3, e3⟩ := lvl_up g m2 e2 (by rw [lastK_snoc]; exact p3)
      have la := part_lt g.wf p1
      have lb := part_lt g.wf p2
      have lc := part_lt g.wf p3
      have hs := g.wf.2.1
      by_cases q1 : a = k
      · refine ⟨1, by decide, w1, m1, ?_⟩
        rw [goodW_of e1]
        simp [goodM, lastK, q1]
      · by_cases q2 : b = k ∨ b = a
        · refine ⟨2, by decide, w2, m2, ?_⟩
          rw [goodW_of e2]
          rcases q2 with rfl | rfl <;> simp [goodM, lastK]
        · refine ⟨3, by decide, w3, m3, ?_⟩
          rw [goodW_of e3]
          have q3 : c = k ∨ c = a ∨ c = b := by omega
          rcases q3 with rfl | rfl | rfl <;> simp [goodM, lastK]
    · -- no ring can be reached
      have hr : ∃ j, Reach s k j ∧ isOpen s j := by
        by_cases q : ∃ j, Reach s k j ∧ isOpen s j
        · exact q
        · refine absurd ⟨ho, fun j r => ⟨fun o => q ⟨j, r, o⟩, fun rr => ?_⟩⟩ h
          exact hc (ch_of_reach r 2 (ch_ring rr 2))
      obtain ⟨j, r, o⟩ := hr
      have key : ∀ (i j : Nat), Reach s i j → ∀ (n : Nat) (w : Wy) (ks : List Nat), w ∈ lvl s k n → comeN s k w = some ks → lastK k ks = i → ∃ n' w' ks', n < n' ∧ w' ∈ lvl s k n' ∧ comeN s k w' = some ks' ∧ lastK k ks' = j := fun i j r => by
        induction r with
        | one p =>
          intro n w ks hw h e
          subst e
          obtain ⟨w', m', e'⟩ := lvl_up g hw h p
          exact ⟨n + 1, w', _, by omega, m', e', lastK_snoc _ _ _⟩
        | more p _ ih =>
          intro n w ks hw h e
          subst e
          obtain ⟨w', m', e'⟩ := lvl_up g hw h p
          obtain ⟨n2, w2, ks2, a1, a2, a3, a4⟩ := ih (n + 1) w' _ m' e' (lastK_snoc _ _ _)
          exact ⟨n2, w2, ks2, by omega, a2, a3, a4⟩
      obtain ⟨n, w, ks, h1, h2, h3, h4⟩ := key k j r 0 [] [] w0 c0 rfl
      -- as long a way as that leads down so many steps
      have down : ∀ (n : Nat) (w : Wy) (ks : List Nat), w ∈ lvl s k n → comeN s k w = some ks → ∀ m, Ch s m (lastK k ks) → Ch s (m + n) k := fun n => by
        induction n with
        | zero =>
          intro w ks hw h m c
          rw [lvl, List.mem_singleton] at hw
          subst hw
          cases h
          exact c
        | succ n ih =>
          intro w ks hw h m c
          rw [lvl] at hw
          obtain ⟨v, hv, h2⟩ := List.mem_flatMap.mp hw
          obtain ⟨ks0, p, d, e1, rfl, e2⟩ := ext_mem g h2
          rw [e2] at h
          cases h
          rw [lastK_snoc] at c
          have hp : Part s (lastK k ks0) d := by
            unfold extW at h2
            rw [e1] at h2
            simp only at h2
            cases hr : s[lastK k ks0]? with
            | none => rw [hr] at h2; cases h2
            | some r =>
              rw [hr] at h2
              obtain ⟨cn, hc, h3⟩ := List.mem_flatMap.mp h2
              obtain ⟨i, hi, h4⟩ := List.mem_map.mp h3
              have hi2 := List.mem_range.mp hi
              have h5 := comeN_snoc s k v ks0 (cn.1, i) _ e1 (nextK_of g hr hc (List.getElem?_eq_getElem hi2))
              rw [h4, e2] at h5
              have h6 := List.append_cancel_left (Option.some.inj h5)
              rw [List.cons.inj h6 |>.1]
              exact ⟨r, hr, cn, hc, List.getElem_mem hi2⟩
          have := ih v ks0 hv e1 (m + 1) ⟨d, hp, c⟩
          rwa [show m + (n + 1) = m + 1 + n by omega]
      have hn : n ≤ 2 := by
        rcases Nat.lt_or_ge 2 n with q | q
        · have c := down n w ks h2 h3 0 trivial
          rw [Nat.zero_add] at c
          have : ∀ m, Ch s (3 + m) k → Ch s 3 k := fun m => by
            induction m with
            | zero => exact id
            | succ m ih => exact fun c => ih (ch_down _ _ c)
          exact absurd (this (n - 3) (by rwa [show 3 + (n - 3) = n by omega])) hc
        · exact q
      refine ⟨n, by omega, w, h2, ?_⟩
      rw [goodW_of h3]
      unfold goodM
      rw [h4, opB_iff.mpr o]
      rfl
end
/-- the told way -/
def toldW (s : Sg) (k : Nat) : Wy := ((lvl s k 0 ++ (lvl s k 1 ++ (lvl s k 2 ++ lvl s k 3))).find? (goodW s k)).getD []
end L3

namespace L3
open PySem PySem.Spec PyProof.Rows L2 PySem.SeqAt
noncomputable def tfP (P : Prop) : Bool := @decide P (Classical.propDecidable P)
theorem tfP_iff {P : Prop} : tfP P = true ↔ P := @decide_eq_true_iff P (Classical.propDecidable P)
theorem tfP_true {P : Prop} (h : P) : tfP P = true := tfP_iff.mpr h
theorem tfP_false {P : Prop} (h : ¬ P) : tfP P = false := by
  cases e : tfP P with
  | false => rfl
  | true => exact absurd (tfP_iff.mp e) h
/-- the told heights -/
noncomputable def toldH (s : Sg) (k : Nat) : List (Option Nat) := (List.range s.length).map fun i => if tfP (Asked s k i) = true then some (hgt s i) else none
/-- heights of some of the asked kinds, for all others none -/
noncomputable def setH (s : Sg) (X : Nat → Prop) : List (Option Nat) := (List.range s.length).map fun i => if tfP (X i) = true then some (hgt s i) else none
theorem setH_at {s : Sg} {X : Nat → Prop} {i : Nat} (h : i < s.length) : (hsD (setH s X))[i]? = some (if tfP (X i) = true then .int (hgt s i : Nat) else .none) := by
  rw [hsD, setH, List.getElem?_map, List.getElem?_map, List.getElem?_range h]
  simp only [Option.map_some]
  split <;> rfl
theorem setH_len (s : Sg) (X : Nat → Prop) : (hsD (setH s X)).length = s.length := by
  rw [hsD, setH, List.length_map, List.length_map, List.length_range]
theorem setH_congr {s : Sg} {X Y : Nat → Prop} (h : ∀ i, i < s.length → (X i ↔ Y i)) : setH s X = setH s Y := by
  unfold setH
  apply List.map_congr_left
  intro i hi
  have := h i (List.mem_range.mp hi)
  rw [show tfP (X i) = tfP (Y i) from by rw [Bool.eq_iff_iff, tfP_iff, tfP_iff, this]]
theorem setH_put {s : Sg} {X : Nat → Prop} {j : Nat} (hj : j < s.length) : (hsD (setH s X)).set j (.int (hgt s j : Nat)) = hsD (setH s fun i => X i ∨ i = j) := by
  apply List.ext_getElem?
  intro i
  rw [List.getElem?_set, setH_len]
  by_cases e : j = i
  · subst e
    rw [if_pos rfl, if_pos hj, setH_at hj, tfP_true (.inr rfl)]
    rfl
  · rw [if_neg e]
    by_cases hi : i < s.length
    · rw [setH_at hi, setH_at hi]
      rw [show tfP (X i ∨ i = j) = tfP (X i) from by rw [Bool.eq_iff_iff, tfP_iff, tfP_iff]; exact ⟨fun h => h.resolve_right (Ne.symm e), .inl⟩]
    · rw [List.getElem?_eq_none (by rw [setH_len]; omega), List.getElem?_eq_none (by rw [setH_len]; omega)]
/-- the evidence that is told -/
noncomputable def finEv (s : Sg) (k : Nat) : D := if tfP (FinK s k) = true then .tuple [.str "finite", .tuple (hsD (toldH s k))] else .tuple [.str "endless", wyD (toldW s k)]
/-- whether it is evidence -/
noncomputable def isEv (s : Sg) (k : Nat) : D → Bool
  | .tuple [.str w, x] => if w = "finite" then isHts s k x else (decide (w = "endless") && isWay s k x)
  | _ => false
def p_told_heights : FS := fun as R => ∃ (s : Sg) (k : Nat), as = [.val (sigD s), .val (.int (k : Nat))] ∧ Wf s ∧ k < s.length ∧ FinK s k ∧ R (.d (.tuple (hsD (toldH s k)))) none
theorem m_told_heights : MonoF p_told_heights := fun as R R' h ⟨a, b, c, d, e, f, k⟩ => ⟨a, b, c, d, e, f, h _ _ k⟩
theorem l_told_heights : ∀ as R, p_told_heights as R → as.length = 2 := fun as R ⟨_, _, e, _⟩ => by rw [e]; rfl
def p_told_way : FS := fun as R => ∃ (s : Sg) (k : Nat), as = [.val (sigD s), .val (.int (k : Nat))] ∧ GoodS s ∧ k < s.length ∧ ¬ FinK s k ∧ R (.d (wyD (toldW s k))) none
theorem m_told_way : MonoF p_told_way := fun as R R' h ⟨a, b, c, d, e, f, k⟩ => ⟨a, b, c, d, e, f, h _ _ k⟩
theorem l_told_way : ∀ as R, p_told_way as R → as.length = 2 := fun as R ⟨_, _, e, _⟩ => by rw [e]; rfl
def p_are_heights : FS := fun as R => ∃ (s : Sg) (k : Nat) (v : D), as = [.val (sigD s), .val (.int (k : Nat)), .val v] ∧ Wf s ∧ k < s.length ∧ okD v = true ∧ R (.d (.bool (isHts s k v))) none
theorem m_are_heights : MonoF p_are_heights := fun as R R' h ⟨a, b, c, d, e, f, g, k⟩ => ⟨a, b, c, d, e, f, g, h _ _ k⟩
theorem l_are_heights : ∀ as R, p_are_heights as R → as.length = 3 := fun as R ⟨_, _, _, e, _⟩ => by rw [e]; rfl
def p_is_way : FS := fun as R => ∃ (s : Sg) (k : Nat) (v : D), as = [.val (sigD s), .val (.int (k : Nat)), .val v] ∧ GoodS s ∧ k < s.length ∧ okD v = true ∧ R (.d (.bool (isWay s k v))) none
theorem m_is_way : MonoF p_is_way := fun as R R' h ⟨a, b, c, d, e, f, g, k⟩ => ⟨a, b, c, d, e, f, g, h _ _ k⟩
theorem l_is_way : ∀ as R, p_is_way as R → as.length = 3 := fun as R ⟨_, _, _, e, _⟩ => by rw [e]; rfl
def p_finite_evidence : FS := fun as R => ∃ (s : Sg) (k : Nat), as = [.val (sigD s), .val (.int (k : Nat))] ∧ GoodS s ∧ k < s.length ∧ R (.d (finEv s k)) none
theorem m_finite_evidence : MonoF p_finite_evidence := fun as R R' h ⟨a, b, c, d, e, k⟩ => ⟨a, b, c, d, e, h _ _ k⟩
theorem l_finite_evidence : ∀ as R, p_finite_evidence as R → as.length = 2 := fun as R ⟨_, _, e, _⟩ => by rw [e]; rfl
def p_is_finite_evidence : FS := fun as R => ∃ (s : Sg) (k : Nat) (v : D), as = [.val (sigD s), .val (.int (k : Nat)), .val v] ∧ GoodS s ∧ k < s.length ∧ okD v = true ∧ R (.d (.bool (isEv s k v))) none
theorem m_is_finite_evidence : MonoF p_is_finite_evidence := fun as R R' h ⟨a, b, c, d, e, f, g, k⟩ => ⟨a, b, c, d, e, f, g, h _ _ k⟩
theorem l_is_finite_evidence : ∀ as R, p_is_finite_evidence as R → as.length = 3 := fun as R ⟨_, _, _, e, _⟩ => by rw [e]; rfl
/-- 0 signature, 1 kind, 2 heights, 3 asked, 4 turn, 5 other, 6 below, 7 name, 8 parts, 9 part, 10 height -/
def w_told_heights : WS :=
(wSeq (wSetO 2 (wBinR sMul (wFrz (wLst (wCons (wC .none) wNil))) (wFrz (wCB (f1 sLen) (wCons (wVar 0) wNil)))))
 (wSeq (wSet 3 (wBin sAdd (wTup (wCons (wVar 1) wNil)) (wFrz (wCall p_kinds_led_to (wCons (wVar 0) (wCons (wVar 1) wNil))))))
 (wSeq (wFor (wRng1 (wCons (wC (.int 3)) wNil)) (gNm 4)
 (wKill [4, 5, 6] (wFor (wSrc (wVar 3)) (gNm 5)
 (wKill [5, 6] (wSeq (wLcSet 6 (wLc2 (wSrc (wFrz (wCall p_constructors_of (wCons (wVar 0) (wCons (wVar 5) wNil))))) (gTp [(gNm 7), (gNm 8)]) [7, 8, 9] wYes (wSrc (wVar 8)) (gNm 9) [9] wYes (wBin sIx (wVar 2) (wVar 9))))
 (wIfS (wTest (wFrz (wCB (f1 sAll) (wCons (wFrz (wLc (wSrc (wVar 6)) (gNm 10) [10] wYes (wBin (sIsN not) (wVar 10) (wC .none)))) wNil))))
 (wPut (wBin sAdd (wC (.int 1)) (wFrz (wCB (f1 sMax1) (wCons (wBin sAdd (wFrz (wLst (wCons (wNeg (wC (.int 1))) wNil))) (wVar 6)) wNil)))) (wVar 2) (wVar 5))
 wNext))))))
 (wRet (wFrz (wCB (f1 sTupOf) (wCons (wVar 2) wNil)))))))
/-- 0 signature, 1 kind, 2 ways, 3 turn, 4 further, 5 way, 6 met, 7 name, 8 parts, 9 place, 10 part -/
def w_told_way : WS :=
(wSeq (wSet 2 (wFrz (wLst (wCons (wTup (wCons (wTup wNil) (wCons (wFrz (wLst (wCons (wVar 1) wNil))) wNil))) wNil))))
 (wSeq (wFor (wRng1 (wCons (wBin sAdd (wC (.int 3)) (wC (.int 1))) wNil)) (gNm 3)
 (wKill [3, 4, 5, 6, 7, 8] (wSeq (wSetO 4 (wLst wNil))
 (wSeq (wFor (wSrc (wVar 2)) (gTp [(gNm 5), (gNm 6)])
 (wKill [5, 6, 7, 8] (wSeq (wIfS (wOr (wTest (wFrz (wCall p_is_open (wCons (wVar 0) (wCons (wBin sIx (wVar 6) (wNeg (wC (.int 1)))) wNil))))) (wTest (wBin sIn (wBin sIx (wVar 6) (wNeg (wC (.int 1)))) (wFrz (wSl (wVar 6) wNoPart (wPart (wNeg (wC (.int 1)))))))))
 (wRet (wVar 5))
 wNext)
 (wFor (wSrc (wFrz (wCall p_constructors_of (wCons (wVar 0) (wCons (wBin sIx (wVar 6) (wNeg (wC (.int 1)))) wNil))))) (gTp [(gNm 7), (gNm 8)])
 (wKill [7, 8] (wDrop (wFrz (wBM "list" mExtend (wVar 4) (wCons (wFrz (wLc (wEnum (wCons (wVar 8) wNil)) (gTp [(gNm 9), (gNm 10)]) [9, 10] wYes (wTup (wCons (wBin sAdd (wVar 5) (wTup (wCons (wTup (wCons (wVar 7) (wCons (wVar 9) wNil))) wNil))) (wCons (wBin sAdd (wVar 6) (wFrz (wLst (wCons (wVar 10) wNil)))) wNil))))) wNil)))))))))
 (wFreeze 4 (wSet 2 (wVar 4)))))))
 (wRet (wC .none))))
/-- 0 signature, 1 kind, 2 value, 3 other, 4 height, 5 below, 6 name, 7 parts, 8 part -/
def w_are_heights : WS :=
(wSeq (wIfS (wOr (wNot (wTest (wIsa "tuple" (wVar 2)))) (wOr (wTest (wBin sNe (wFrz (wCB (f1 sLen) (wCons (wVar 2) wNil))) (wFrz (wCB (f1 sLen) (wCons (wVar 0) wNil))))) (wTest (wBin (sIsN id) (wBin sIx (wVar 2) (wVar 1)) (wC .none)))))
 (wRet (wC (.bool false)))
 wNext)
 (wSeq (wIfS (wNot (wTest (wFrz (wCB (f1 sAll) (wCons (wFrz (wLc (wSrc (wVar 2)) (gNm 4) [4] wYes (wOrV (wBin (sIsN id) (wVar 4) (wC .none)) (wFrz (wCall p_is_within (wCons (wVar 4) (wCons (wC (.int 0)) (wCons (wBin sSub (wC (.int 3)) (wC (.int 1))) wNil)))))))) wNil)))))
 (wRet (wC (.bool false)))
 wNext)
 (wSeq (wFor (wEnum (wCons (wVar 2) wNil)) (gTp [(gNm 3), (gNm 4)])
 (wKill [3, 4, 5] (wIfS (wTest (wBin (sIsN not) (wVar 4) (wC .none)))
 (wSeq (wLcSet 5 (wLc2 (wSrc (wFrz (wCall p_constructors_of (wCons (wVar 0) (wCons (wVar 3) wNil))))) (gTp [(gNm 6), (gNm 7)]) [6, 7, 8] wYes (wSrc (wVar 7)) (gNm 8) [8] wYes (wBin sIx (wVar 2) (wVar 8))))
 (wIfS (wOr (wTest (wFrz (wCall p_is_open (wCons (wVar 0) (wCons (wVar 3) wNil))))) (wNot (wTest (wFrz (wCB (f1 sAll) (wCons (wFrz (wLc (wSrc (wVar 5)) (gNm 8) [8] wYes (wAndV (wBin (sIsN not) (wVar 8) (wC .none)) (wBin sLt (wVar 8) (wVar 4))))) wNil))))))
 (wRet (wC (.bool false)))
 wNext))
 wNext)))
 (wRet (wC (.bool true))))))
/-- 0 signature, 1 kind, 2 value, 3 met, 4 step, 5 parts -/
def w_is_way : WS :=
(wSeq (wIfS (wOr (wNot (wTest (wIsa "tuple" (wVar 2)))) (wTest (wBin sGt (wFrz (wCB (f1 sLen) (wCons (wVar 2) wNil))) (wC (.int 3)))))
 (wRet (wC (.bool false)))
 wNext)
 (wSeq (wSetO 3 (wLst (wCons (wVar 1) wNil)))
 (wSeq (wFor (wSrc (wVar 2)) (gNm 4)
 (wKill [4, 5] (wSeq (wIfS (wOr (wNot (wTest (wIsa "tuple" (wVar 4)))) (wOr (wTest (wBin sNe (wFrz (wCB (f1 sLen) (wCons (wVar 4) wNil))) (wC (.int 2)))) (wNot (wTest (wIsa "str" (wBin sIx (wVar 4) (wC (.int 0))))))))
 (wRet (wC (.bool false)))
 wNext)
 (wSeq (wSet 5 (wFrz (wCall p_parts_in (wCons (wVar 0) (wCons (wBin sIx (wVar 3) (wNeg (wC (.int 1)))) (wCons (wBin sIx (wVar 4) (wC (.int 0))) wNil))))))
 (wSeq (wIfS (wOr (wTest (wBin (sIsN id) (wVar 5) (wC .none))) (wNot (wTest (wFrz (wCall p_is_within (wCons (wBin sIx (wVar 4) (wC (.int 1))) (wCons (wC (.int 0)) (wCons (wBin sSub (wFrz (wCB (f1 sLen) (wCons (wVar 5) wNil))) (wC (.int 1))) wNil))))))))
 (wRet (wC (.bool false)))
 wNext)
 (wDrop (wFrz (wBM "list" mAppend (wVar 3) (wCons (wBin sIx (wVar 5) (wBin sIx (wVar 4) (wC (.int 1)))) wNil)))))))))
 (wRet (wOrV (wFrz (wCall p_is_open (wCons (wVar 0) (wCons (wBin sIx (wVar 3) (wNeg (wC (.int 1)))) wNil)))) (wBin sIn (wBin sIx (wVar 3) (wNeg (wC (.int 1)))) (wFrz (wSl (wVar 3) wNoPart (wPart (wNeg (wC (.int 1))))))))))))
/-- 0 signature, 1 kind -/
def w_finite_evidence : WS :=
(wSeq (wDrop (wFrz (wCall p_check_kind (wCons (wVar 0) (wCons (wVar 1) wNil)))))
 (wSeq (wIfS (wTest (wFrz (wCall p_is_finite_kind (wCons (wVar 0) (wCons (wVar 1) wNil)))))
 (wRet (wTup (wCons (wC (.str "finite")) (wCons (wFrz (wCall p_told_heights (wCons (wVar 0) (wCons (wVar 1) wNil)))) wNil))))
 wNext)
 (wRet (wTup (wCons (wC (.str "endless")) (wCons (wFrz (wCall p_told_way (wCons (wVar 0) (wCons (wVar 1) wNil)))) wNil))))))
/-- 0 signature, 1 kind, 2 value -/
def w_is_finite_evidence : WS :=
(wSeq (wDrop (wFrz (wCall p_check_kind (wCons (wVar 0) (wCons (wVar 1) wNil)))))
 (wSeq (wIfS (wOr (wNot (wTest (wIsa "tuple" (wVar 2)))) (wOr (wTest (wBin sNe (wFrz (wCB (f1 sLen) (wCons (wVar 2) wNil))) (wC (.int 2)))) (wNot (wTest (wIsa "str" (wBin sIx (wVar 2) (wC (.int 0))))))))
 (wRet (wC (.bool false)))
 wNext)
 (wSeq (wIfS (wTest (wBin sEq (wBin sIx (wVar 2) (wC (.int 0))) (wC (.str "finite"))))
 (wRetR (wCall p_are_heights (wCons (wVar 0) (wCons (wVar 1) (wCons (wBin sIx (wVar 2) (wC (.int 1))) wNil)))))
 wNext)
 (wRet (wAndV (wBin sEq (wBin sIx (wVar 2) (wC (.int 0))) (wC (.str "endless"))) (wFrz (wCall p_is_way (wCons (wVar 0) (wCons (wVar 1) (wCons (wBin sIx (wVar 2) (wC (.int 1))) wNil))))))))))

local macro_rules | `(tactic| walk_at "w2") => `(tactic| first
  | (with_reducible refine' i_allM ?_) | (with_reducible refine' i_anyM ?_))
local macro_rules | `(tactic| walk_at "w3") => `(tactic| first
  | ((with_reducible refine' j_ix ?h1 ?_); (case h1 => rfl))
  | ((with_reducible refine' i_asgK ?h1 ?_); (case h1 => rfl); (dsimp only [List.set_cons_succ, List.set_cons_zero]))
  | ((with_reducible refine' i_srcK ?h1 ?_); (case h1 => rfl))
  | ((with_reducible refine' i_enmK ?h1 ?_); (case h1 => rfl))
  | ((with_reducible refine' i_evD ?h1 ?h2 ?_); (case h1 => rfl); (case h2 => (intro l e; cases e; done)))
  | ((with_reducible refine' i_isD ?h1 ?_); (case h1 => assumption))
  | ((with_reducible refine' i_len ?h1 ?_); (case h1 => rfl)) | ((with_reducible refine' i_list ?h1 ?_); (case h1 => rfl)) | ((with_reducible refine' i_tuple ?h1 ?_); (case h1 => rfl)) | ((with_reducible refine' i_slL ?h1 ?_); (case h1 => rfl))
  | ((with_reducible refine' i_rngD ?h1 ?h2 ?_); (case h1 => (first | omega | decide)); (case h2 => (first | omega | decide))) | ((with_reducible refine' i_rngD2 ?h1 ?_); (case h1 => (first | omega | decide)))
  | ((with_reducible refine' i_lrgP ?h1 ?_); (case h1 => (apply RgOk.of_le <;> omega)))
  | ((with_reducible refine' j_put ?h1 ?_); (case h1 => rfl))
  | ((with_reducible refine' i_mul ?h1 ?_); (case h1 => (first | exact .inr (by decide) | exact .inl (by decide)))) | ((with_reducible refine' i_mod ?h1 ?_); (case h1 => (first | omega | decide)))
  | ((with_reducible refine' i_fdiv ?h1 ?_); (case h1 => (first | exact ⟨by decide, by decide⟩ | exact ⟨by omega, by omega⟩))) | ((with_reducible refine' i_pow ?h1 ?_); (case h1 => exact pow_ok (by decide)))
  | ((with_reducible refine' i_ifT ?h1 ?_); (case h1 => (first | rfl | assumption | (simp [isA]; done)))) | ((with_reducible refine' i_ifF ?h1 ?_); (case h1 => (first | rfl | assumption | (simp [isA]; done))))
  | ((with_reducible refine' j_pop ?h1 ?_); (case h1 => rfl))
  | ((with_reducible refine' j_append ?h1 ?_); (case h1 => (first | (simp [sizeLine_eq]; done) | (apply lt_line; omega)))))
local macro_rules | `(tactic| walk_at "w") => `(tactic| (try dsimp only [List.cons_append, List.nil_append, List.set_cons_succ, List.set_cons_zero, killAll]); repeat' (first | (with_reducible refine' Run.imp ?_) | walk_at "w3" | walk_at "w2" | fail "open"))
local macro_rules | `(tactic| walk_at "w0") => `(tactic| refine start_en ?_; simp only [startS, hasOwn, List.map_cons, List.map_nil, List.length_cons, List.length_nil, List.cons_append, List.nil_append, List.replicate, Nat.reduceAdd, Nat.reduceSub, Nat.zero_add])
local macro_rules | `(tactic| walk_at "n") => `(tactic| walk_at "w")

/-- the height of a kind among some -/
noncomputable def hX (s : Sg) (X : Nat → Prop) (a : Nat) : D := if tfP (X a) = true then .int (hgt s a : Nat) else .none
theorem hX_true {s : Sg} {X : Nat → Prop} {a : Nat} (h : X a) : hX s X a = .int (hgt s a : Nat) := by
  unfold hX
  rw [if_pos (tfP_true h)]
theorem hX_false {s : Sg} {X : Nat → Prop} {a : Nat} (h : tfP (X a) = false) : hX s X a = .none := by
  unfold hX
  rw [h]
  rfl
theorem lcK_mapA {g : GS} {own : List Nat} {te : WE} {k : List D → SS → Prop} {q : List Nat} {acc0 : List D} {z0 : SS} (G : Nat → D) (hl : acc0.length + q.length ≤ sizeLine)
    (step : ∀ n ∈ q, ∀ N : D → SS → Prop, (∀ z, killAll own z = z0 → N (G n) z) → ∃ z1, g (.int (n : Nat)) z0 = some z1 ∧ te z1 fun ev z3 => ∃ d, ev = .d d ∧ N d z3) (fin : k (acc0 ++ q.map G) z0) : wLcL g own wYes te k (nsD q) acc0 z0 := by
  refine lcL_mapA (fun d => match d with
    | .int i => G i.toNat
    | _ => .none) (by rw [nsD, List.length_map]; exact hl) (fun x hx N hN => ?_) ?_
  · obtain ⟨n, hn, rfl⟩ := List.mem_map.mp hx
    exact step n hn N fun z hz => by
      have := hN z hz
      simpa using this
  · rw [nsD, List.map_map]
    rw [show ((fun d : D => match d with
      | .int i => G i.toNat
      | _ => .none) ∘ fun n : Nat => PyData.int (n : Nat)) = G from funext fun n => by simp]
    exact fin
theorem max_hgt {s : Sg} {o : Nat} {l : List Nat} {m : Int} (h1 : m ∈ -1 :: l.map fun a => ((hgt s a : Nat) : Int)) (h2 : ∀ y ∈ -1 :: l.map fun a => ((hgt s a : Nat) : Int), y ≤ m) (e : hgt s o = mxL (l.map fun a => hgt s a + 1)) : 1 + m = ((hgt s o : Nat) : Int) := by
  rw [e]
  have h3 : ∀ a ∈ l, ((hgt s a : Nat) : Int) ≤ m := fun a ha => h2 _ (List.mem_cons_of_mem _ (List.mem_map.mpr ⟨a, ha, rfl⟩))
  rcases List.mem_cons.mp h1 with rfl | h1
  · cases l with
    | nil => rfl
    | cons a l =>
      have := h3 a (by simp)
      omega
  · obtain ⟨a, ha, rfl⟩ := List.mem_map.mp h1
    have h4 : mxL (l.map fun a => hgt s a + 1) = hgt s a + 1 := Nat.le_antisymm (mxL_bd fun x hx => by
      obtain ⟨b, hb, rfl⟩ := List.mem_map.mp hx
      have := h3 b hb
      omega) (mxL_le (List.mem_map.mpr ⟨a, ha, rfl⟩))
    rw [h4]
    omega
theorem hsD_rep (n : Nat) : (List.replicate n [PyData.none]).flatten = hsD ((List.range n).map fun _ => none) := by
  rw [hsD, List.map_map]
  induction n with
  | zero => rfl
  | succ n ih => rw [List.replicate_succ, List.flatten_cons, ih, List.range_succ_eq_map, List.map_cons, List.map_map]; rfl
theorem v_told_heights : ∀ as R, p_told_heights as R → w_told_heights (retEn (hasOwn as) R) (startS 11 as) := by
  rintro as R ⟨s, k, rfl, w, hk, hf, q⟩
  have hs3 := w.2.1
  unfold w_told_heights
  walk_at "w0"
  walk_at "n"
  rw [List.length_map]
  refine i_mulL rfl (by omega) (by omega) (le_line (by simp; omega)) ?_
  rw [Int.toNat_natCast, hsD_rep]
  rw [show ((List.range s.length).map fun _ => (none : Option Nat)) = setH s fun _ => False by
    unfold setH
    apply List.map_congr_left
    intro i _
    rw [tfP_false (fun h => h)]
    rfl]
  walk_at "n"
  refine ⟨s, k, rfl, w, hk, fun L hL hl => ?_⟩
  walk_at "n"
  refine i_addT (le_line (by rw [List.length_singleton, nsD, List.length_map]; omega)) ?_
  rw [show [PyData.int (k : Nat)] ++ nsD L = nsD (k :: L) from rfl]
  have hmem : ∀ o, o ∈ k :: L ↔ Asked s k o := fun o => by
    rw [List.mem_cons, hL]
    exact Iff.rfl
  walk_at "n"
  refine forL_inv (P := fun t z => ∃ X : Nat → Prop, z = [some (.val (sigD s)), some (.val (.int (k : Nat))), some (.own none (hsD (setH s X))), some (.val (.tuple (nsD (k :: L)))), none, none, none, none, none, none, none] ∧ (∀ i, X i → Asked s k i) ∧ ∀ i, Asked s k i → ¬ Ch s t i → X i) (fun t x z hx p N hN => ?_) (fun z p => ?_) ⟨_, rfl, fun i h => h.elim, fun i _ c => absurd trivial c⟩
  · obtain ⟨X, rfl, hX1, hX2⟩ := p
    walk_at "n"
    refine forL_inv (P := fun j z => ∃ X : Nat → Prop, z = [some (.val (sigD s)), some (.val (.int (k : Nat))), some (.own none (hsD (setH s X))), some (.val (.tuple (nsD (k :: L)))), some (.val x), none, none, none, none, none, none] ∧ (∀ i, X i → Asked s k i) ∧ (∀ i, Asked s k i → ¬ Ch s t i → X i) ∧ ∀ m i, m < j → (k :: L)[m]? = some i → ¬ Ch s (t + 1) i → X i) (fun j y z hy p N1 hN1 => ?_) (fun z p => ?_) ⟨X, rfl, hX1, hX2, fun m i hm => absurd hm (Nat.not_lt_zero m)⟩
    · obtain ⟨X, rfl, hX1, hX2, hX3⟩ := p
      rw [nsD, List.getElem?_map] at hy
      obtain ⟨o, ho, rfl⟩ := Option.map_eq_some_iff.mp hy
      have hao := (hmem o).mp (List.mem_of_getElem? ho)
      have hol := hao.lt w hk
      have hof := hao.fin hf
      obtain ⟨r, hr⟩ : ∃ r, s[o]? = some r := ⟨s[o]'hol, List.getElem?_eq_getElem _⟩
      have wr := w.2.2 r (List.mem_of_getElem? hr)
      have hpl := partsL_len' wr
      have hpo : partsAt s o = partsL r := by unfold partsAt; rw [hr]
      have up : ∀ Y : Nat → Prop, (∀ i, X i → Y i) → (¬ Ch s (t + 1) o → Y o) → ∀ m i, m < j + 1 → (k :: L)[m]? = some i → ¬ Ch s (t + 1) i → Y i := fun Y h1 h2 m i hm hi c => by
        rcases Nat.lt_or_ge m j with q | q
        · exact h1 i (hX3 m i q hi c)
        · have : m = j := by omega
          subst this
          rw [ho] at hi
          cases hi
          exact h2 c
      walk_at "n"
      refine ⟨s, o, r, rfl, hr, ?_⟩
      walk_at "n"
      refine lcL2_inv (P := fun i acc z => acc = ((r.2.take i).flatMap Prod.snd).map (hX s X) ∧ z = [some (.val (sigD s)), some (.val (.int (k : Nat))), some (.own none (hsD (setH s X))), some (.val (.tuple (nsD (k :: L)))), some (.val x), some (.val (.int (o : Nat))), none, none, none, none, none]) (fun i x acc z e p N2 hN2 => ?_) (fun acc z p => ?_) ⟨rfl, rfl⟩
      · obtain ⟨rfl, rfl⟩ := p
        rw [List.getElem?_map] at e
        obtain ⟨c, hc, rfl⟩ := Option.map_eq_some_iff.mp e
        have wc := wr.2 c (List.mem_of_getElem? hc)
        have hl := partsL_len wr i
        have wc2 := wc.2.1
        walk_at "n"
        refine lcK_mapA (hX s X) ?_ (fun a ha N3 hN3 => ?_) ?_
        · rw [List.length_map]
          exact le_line (by omega)
        · walk_at "n"
          refine i_ix rfl (atI_nat (setH_at (wc.2.2 a ha))) ?_
          walk_at "n"
          exact hN3 _ rfl
        · refine hN2 _ _ ⟨?_, rfl⟩
          rw [← List.map_append, flat_take hc]
      · obtain ⟨rfl, rfl⟩ := p
        rw [List.length_map, List.take_length, show r.2.flatMap Prod.snd = partsL r from rfl, ← hpo]
        walk_at "n"
        refine lcT_map (xs := partsAt s o) (f := hX s X) (fun a => .bool (tfP (X a))) (le_line (by rw [hpo]; omega)) (fun a ha N3 hN3 => ?_) ?_
        · cases e : tfP (X a) with
          | true =>
            have hN4 := hN3
            rw [e] at hN4
            rw [hX_true (tfP_iff.mp e)]
            walk_at "n"
            exact hN4 _ rfl
          | false =>
            have hN4 := hN3
            rw [e] at hN4
            rw [hX_false e]
            walk_at "n"
            exact hN4 _ rfl
        walk_at "n"
        refine i_all (bs := (partsAt s o).map fun a => tfP (X a)) (by rw [List.map_map]; rfl) ?_
        rw [List.all_map]
        walk_at "n"
        cases hA : (partsAt s o).all (id ∘ fun a => tfP (X a)) with
        | false =>
          walk_at "n"
          refine hN1 _ ⟨X, rfl, hX1, hX2, up X (fun _ h => h) fun c => ?_⟩
          rw [← Bool.not_eq_true, List.all_eq_true] at hA
          refine absurd (fun a ha => ?_) hA
          exact tfP_true (hX2 a (hao.part (mem_partsAt.mp ha)) fun q => c ⟨a, mem_partsAt.mp ha, q⟩)
        | true =>
          have hall : ∀ a ∈ partsAt s o, X a := fun a ha => tfP_iff.mp (List.all_eq_true.mp hA a ha)
          have hmap : (partsAt s o).map (hX s X) = ((partsAt s o).map fun a => ((hgt s a : Nat) : Int)).map PyData.int := by
            rw [List.map_map]
            apply List.map_congr_left
            intro a ha
            exact hX_true (hall a ha)
          rw [hmap]
          walk_at "n"
          refine i_addL LstIs.e LstIs.e (le_line (by rw [List.length_map, List.length_map, List.length_singleton, hpo]; omega)) ?_
          walk_at "n"
          refine i_max1 (ns := -1 :: (partsAt s o).map fun a => ((hgt s a : Nat) : Int)) rfl (by simp) fun m hm1 hm2 => ?_
          have em : 1 + m = ((hgt s o : Nat) : Int) := max_hgt hm1 hm2 (fin_hgt w hof hol)
          walk_at "n"
          rw [em]
          refine j_put (ixN_of (by rw [setH_len]; exact hol)) ?_
          walk_at "n"
          rw [setH_put hol]
          refine hN1 _ ⟨_, rfl, fun i h => ?_, fun i h c => .inl (hX2 i h c), up _ (fun _ h => .inl h) fun _ => .inr rfl⟩
          rcases h with h | rfl
          · exact hX1 i h
          · exact hao
    · obtain ⟨X, rfl, hX1, hX2, hX3⟩ := p
      walk_at "n"
      refine hN _ ⟨X, rfl, hX1, fun i hi c => ?_⟩
      obtain ⟨m, hm⟩ := List.getElem?_of_mem ((hmem i).mpr hi)
      exact hX3 m i (by rw [nsD, List.length_map]; exact (List.getElem?_eq_some_iff.mp hm).1) hm c
  · obtain ⟨X, rfl, hX1, hX2⟩ := p
    rw [rangeD_len] at hX2
    walk_at "n"
    rw [show setH s X = toldH s k from setH_congr fun i hi => ⟨hX1 i, fun h => hX2 i h (fin_ch w (h.fin hf) hi)⟩]
    walk_at "n"
    exact q
end L3

namespace L3
open PySem PySem.Spec PyProof.Rows L2 PySem.SeqAt
local macro_rules | `(tactic| walk_at "w2") => `(tactic| first
  | (with_reducible refine' i_allM ?_) | (with_reducible refine' i_anyM ?_))
local macro_rules | `(tactic| walk_at "w3") => `(tactic| first
  | ((with_reducible refine' j_ix ?h1 ?_); (case h1 => rfl))
  | ((with_reducible refine' i_asgK ?h1 ?_); (case h1 => rfl); (dsimp only [List.set_cons_succ, List.set_cons_zero]))
  | ((with_reducible refine' i_srcK ?h1 ?_); (case h1 => rfl))
  | ((with_reducible refine' i_enmK ?h1 ?_); (case h1 => rfl))
  | ((with_reducible refine' i_evD ?h1 ?h2 ?_); (case h1 => rfl); (case h2 => (intro l e; cases e; done)))
  | ((with_reducible refine' i_isD ?h1 ?_); (case h1 => assumption))
  | ((with_reducible refine' i_len ?h1 ?_); (case h1 => rfl)) | ((with_reducible refine' i_list ?h1 ?_); (case h1 => rfl)) | ((with_reducible refine' i_tuple ?h1 ?_); (case h1 => rfl)) | ((with_reducible refine' i_slL ?h1 ?_); (case h1 => rfl))
  | ((with_reducible refine' i_rngD ?h1 ?h2 ?_); (case h1 => (first | omega | decide)); (case h2 => (first | omega | decide))) | ((with_reducible refine' i_rngD2 ?h1 ?_); (case h1 => (first | omega | decide)))
  | ((with_reducible refine' i_lrgP ?h1 ?_); (case h1 => (apply RgOk.of_le <;> omega)))
  | ((with_reducible refine' j_put ?h1 ?_); (case h1 => rfl))
  | ((with_reducible refine' i_mul ?h1 ?_); (case h1 => (first | exact .inr (by decide) | exact .inl (by decide)))) | ((with_reducible refine' i_mod ?h1 ?_); (case h1 => (first | omega | decide)))
  | ((with_reducible refine' i_fdiv ?h1 ?_); (case h1 => (first | exact ⟨by decide, by decide⟩ | exact ⟨by omega, by omega⟩))) | ((with_reducible refine' i_pow ?h1 ?_); (case h1 => exact pow_ok (by decide)))
  | ((with_reducible refine' i_ifT ?h1 ?_); (case h1 => (first | rfl | assumption | (simp [isA]; done)))) | ((with_reducible refine' i_ifF ?h1 ?_); (case h1 => (first | rfl | assumption | (simp [isA]; done))))
  | ((with_reducible refine' j_pop ?h1 ?_); (case h1 => rfl))
  | ((with_reducible refine' j_append ?h1 ?_); (case h1 => (first | (simp [sizeLine_eq]; done) | (apply lt_line; omega)))))
local macro_rules | `(tactic| walk_at "w") => `(tactic| (try dsimp only [List.cons_append, List.nil_append, List.set_cons_succ, List.set_cons_zero, killAll]); repeat' (first | (with_reducible refine' Run.imp ?_) | walk_at "w3" | walk_at "w2" | fail "open"))
local macro_rules | `(tactic| walk_at "w0") => `(tactic| refine start_en ?_; simp only [startS, hasOwn, List.map_cons, List.map_nil, List.length_cons, List.length_nil, List.cons_append, List.nil_append, List.replicate, Nat.reduceAdd, Nat.reduceSub, Nat.zero_add])
local macro_rules | `(tactic| walk_at "n") => `(tactic| walk_at "w")

theorem comeD_snoc (s : Sg) (d : D) : ∀ (c : Nat) (l : List D) (ks : List Nat), comeD s c l = some ks → comeD s c (l ++ [d]) = (stepD s (lastK c ks) d).map fun e => ks ++ [e]
  | c, [], ks, h => by
    cases h
    rw [List.nil_append, comeD, show lastK c [] = c from rfl]
    cases stepD s c d with
    | none => rfl
    | some e => rfl
  | c, x :: l, ks, h => by
    rw [comeD] at h
    rw [List.cons_append, comeD]
    cases e : stepD s c x with
    | none => rw [e] at h; cases h
    | some y =>
      rw [e] at h
      simp only at h ⊢
      obtain ⟨ks', h3, rfl⟩ := Option.map_eq_some_iff.mp h
      rw [comeD_snoc s d y l ks' h3, lastK_cons]
      cases stepD s (lastK y ks') d with
      | none => rfl
      | some z => rfl
theorem comeD_none (s : Sg) (m : List D) : ∀ (c : Nat) (l : List D), comeD s c l = none → comeD s c (l ++ m) = none
  | c, [], h => by cases h
  | c, x :: l, h => by
    rw [comeD] at h
    rw [List.cons_append, comeD]
    cases e : stepD s c x with
    | none => rfl
    | some y =>
      rw [e] at h
      simp only at h ⊢
      have := Option.map_eq_none_iff.mp h
      rw [comeD_none s m y l this]
      rfl
theorem stepD_two {s : Sg} {c : Nat} {r : Rw} (hr : s[c]? = some r) (n : Str) (b : D) : stepD s c (.tuple [.str n, b]) = match b with
    | .int i => if 0 ≤ i then (match findP r.2 n with
      | some q => q[i.toNat]?
      | none => none) else none
    | _ => none := by
  unfold stepD nextK
  rw [hr]
  cases b <;> rfl
theorem stepD_len {s : Sg} {c : Nat} {l : List D} (h : l.length ≠ 2) : stepD s c (.tuple l) = none := by
  cases l with
  | nil => rfl
  | cons a l =>
    cases l with
    | nil => cases a <;> rfl
    | cons b l =>
      cases l with
      | nil => exact absurd rfl h
      | cons d l => cases a <;> cases b <;> rfl
theorem i_inLs {z : SS} {ev ew : EV} {F : List Nat} {n : Nat} {k : RV → Prop} (e : evD z ev = some (.int (n : Nat))) (e2 : evD z ew = some (.list (nsD F))) (h : k (.d (.bool (decide (n ∈ F))))) : sIn z ev ew k :=
  ⟨_, _, e, e2, plain_ns _, rfl, by simp [PyData.depth], by rw [in_ns]; exact h⟩
theorem last_ns (k : Nat) (ks : List Nat) : atI (nsD (k :: ks)) (-1) = some (.int (lastK k ks : Nat)) := by
  rcases snoc_of ks with rfl | ⟨l, d, rfl⟩
  · rfl
  · rw [lastK_snoc]
    have : nsD (k :: (l ++ [d])) = nsD (k :: l) ++ [.int (d : Nat)] := by simp [nsD]
    rw [this]
    unfold atI ixN
    simp
    rw [if_pos (by omega), Option.bind_some, show ((-1 : Int) + (((nsD (k :: l)).length : Int) + 1)).toNat = (nsD (k :: l)).length by omega]
    simp
theorem front_ns (k : Nat) (ks : List Nat) : cutD (nsD (k :: ks)) none (some (-1)) = nsD ((k :: ks).dropLast) := by
  rw [cutD_neg1, nsD, nsD, List.map_dropLast]
theorem v_is_way : ∀ as R, p_is_way as R → w_is_way (retEn (hasOwn as) R) (startS 6 as) := by
  rintro as R ⟨s, k, v, rfl, g, hk, hv, q⟩
  have w := g.wf
  unfold w_is_way
  walk_at "w0"
  walk_at "n"
  cases v with
  | tuple l =>
    walk_at "n"
    by_cases h3 : l.length ≤ 3
    · rw [decide_eq_false (show ¬ (3 : Int) < (l.length : Nat) by omega)]
      have q' : R (.d (.bool (match comeD s k l with
        | some ks => goodM s k ks
        | none => false))) none := by
        have e : isWay s k (.tuple l) = (decide (l.length ≤ 3) && match comeD s k l with
          | some ks => goodM s k ks
          | none => false) := rfl
        rw [e, decide_eq_true h3, Bool.true_and] at q
        exact q
      walk_at "n"
      refine forL_inv (P := fun i z => ∃ ks, z = [some (.val (sigD s)), some (.val (.int (k : Nat))), some (.val (.tuple l)), some (.own none (nsD (k :: ks))), none, none] ∧ comeD s k (l.take i) = some ks ∧ lastK k ks < s.length ∧ ks.length = i) (fun i x z hx p N hN => ?_) (fun z p => ?_) ⟨[], rfl, rfl, hk, rfl⟩
      · obtain ⟨ks, rfl, p1, p2, p3⟩ := p
        have hi := (List.getElem?_eq_some_iff.mp hx).1
        have htk : l.take (i + 1) = l.take i ++ [x] := by rw [List.take_add_one, hx]; rfl
        have hsn := comeD_snoc s x k _ ks p1
        rw [← htk] at hsn
        obtain ⟨r, hr⟩ : ∃ r, s[lastK k ks]? = some r := ⟨s[lastK k ks]'p2, List.getElem?_eq_getElem _⟩
        have hxo := okA_mem (show okA l = true from hv) (List.mem_of_getElem? hx)
        have no : stepD s (lastK k ks) x = none → R (.d (.bool false)) none := fun e => by
          rw [e] at hsn
          have := comeD_none s (l.drop (i + 1)) k _ hsn
          rw [List.take_append_drop] at this
          rw [this] at q'
          exact q'
        walk_at "n"
        cases x with
        | tuple m =>
          walk_at "n"
          by_cases h2 : m.length = 2
          · obtain ⟨a, b, rfl⟩ : ∃ a b, m = [a, b] := by
              match m, h2 with
              | [a, b], _ => exact ⟨a, b, rfl⟩
            walk_at "n"
            cases a with
            | str n =>
              walk_at "n"
              refine i_ix rfl (last_ns k ks) ?_
              walk_at "n"
              refine ⟨s, lastK k ks, r, n, rfl, hr, ?_⟩
              rw [stepD_two hr] at hsn no
              cases hf : findP r.2 n with
              | none =>
                rw [show optD none = PyData.none from rfl]
                walk_at "n"
                refine no ?_
                rw [hf]
                cases b <;> simp
              | some p =>
                rw [show optD (some p) = PyData.tuple (nsD p) from rfl]
                rw [hf] at hsn no
                walk_at "n"
                refine ⟨b, _, _, rfl, okA_mem (show okA [PyData.str n, b] = true from hxo) (by simp), ?_⟩
                rw [show (nsD p).length = p.length by rw [nsD, List.length_map]]
                cases hb : isWithin b 0 ((p.length : Nat) - 1) with
                | true =>
                  cases b with
                  | int i =>
                    have hb : (decide (0 ≤ i) && decide (i ≤ ((p.length : Nat) : Int) - 1)) = true := hb
                    rw [Bool.and_eq_true, decide_eq_true_eq, decide_eq_true_eq] at hb
                    obtain ⟨j, rfl⟩ := Int.eq_ofNat_of_zero_le hb.1
                    have hj : j < p.length := by omega
                    have hsn : comeD s k (l.take (i + 1)) = some (ks ++ [p[j]]) := by
                      rw [hsn]
                      simp only [if_pos hb.1, Int.toNat_natCast, List.getElem?_eq_getElem hj]
                      rfl
                    have hnx : nextK s (lastK k ks) n j = some p[j] := by
                      unfold nextK
                      rw [hr]
                      simp only [hf, List.getElem?_eq_getElem hj]
                    have hll : (nsD (k :: ks)).length ≤ 100 := by
                      rw [nsD, List.length_map, List.length_cons]
                      omega
                    walk_at "n"
                    refine i_ix rfl (atI_nat (v := .int (p[j] : Nat)) (by rw [nsD, List.getElem?_map, List.getElem?_eq_getElem hj]; rfl)) ?_
                    walk_at "n"
                    refine hN _ ⟨ks ++ [p[j]], by simp [nsD], hsn, by rw [lastK_snoc]; exact (nextK_lt w hnx).2, by rw [List.length_append, List.length_singleton]; omega⟩
                  | _ => cases hb
                | false =>
                  walk_at "n"
                  refine no ?_
                  cases b with
                  | int i =>
                    have hb : (decide (0 ≤ i) && decide (i ≤ ((p.length : Nat) : Int) - 1)) = false := hb
                    simp only
                    split
                    · rename_i h0
                      rw [decide_eq_true h0, Bool.true_and, decide_eq_false_iff_not] at hb
                      exact List.getElem?_eq_none (by omega)
                    · rfl
                  | _ => rfl
            | dict _ => walk_at "n"; refine i_isD (okA_mem (show okA _ = true from hxo) List.mem_cons_self) ?_; walk_at "n"; exact no rfl
            | _ => walk_at "n"; exact no rfl
          · rw [decide_eq_false (show ¬ ((m.length : Nat) : Int) = 2 by omega)]
            walk_at "n"
            exact no (stepD_len h2)
        | _ => walk_at "n"; exact no rfl
      · obtain ⟨ks, rfl, p1, p2, p3⟩ := p
        rw [List.take_length] at p1
        rw [p1] at q'
        obtain ⟨r, hr⟩ : ∃ r, s[lastK k ks]? = some r := ⟨s[lastK k ks]'p2, List.getElem?_eq_getElem _⟩
        have q' : R (.d (.bool (r.1 || decide (lastK k ks ∈ (k :: ks).dropLast)))) none := by
          have e : goodM s k ks = (r.1 || decide (lastK k ks ∈ (k :: ks).dropLast)) := by
            unfold goodM opB
            rw [hr]
          rw [← e]
          exact q'
        walk_at "n"
        refine i_ix rfl (last_ns k ks) ?_
        walk_at "n"
        refine ⟨s, lastK k ks, r, rfl, hr, ?_⟩
        walk_at "n"
        cases ho : r.1 with
        | true =>
          rw [ho] at q'
          walk_at "n"
          exact q'
        | false =>
          rw [ho, Bool.false_or] at q'
          walk_at "n"
          refine i_ix rfl (last_ns k ks) ?_
          walk_at "n"
          rw [front_ns]
          refine i_inLs rfl rfl ?_
          walk_at "n"
          first | exact q' | skip
    · rw [decide_eq_true (show (3 : Int) < (l.length : Nat) by omega)]
      walk_at "n"
      have e : isWay s k (.tuple l) = (decide (l.length ≤ 3) && match comeD s k l with
          | some ks => goodM s k ks
          | none => false) := rfl
      rw [e, decide_eq_false h3, Bool.false_and] at q
      exact q
  | none => walk_at "n"; exact q
  | bool _ => walk_at "n"; exact q
  | int _ => walk_at "n"; exact q
  | str _ => walk_at "n"; exact q
  | list _ => walk_at "n"; exact q
  | dict _ => walk_at "n"; exact q
end L3

namespace L3
open PySem PySem.Spec PyProof.Rows L2 PySem.SeqAt
local macro_rules | `(tactic| walk_at "w2") => `(tactic| first
  | (with_reducible refine' i_allM ?_) | (with_reducible refine' i_anyM ?_))
local macro_rules | `(tactic| walk_at "w3") => `(tactic| first
  | ((with_reducible refine' j_ix ?h1 ?_); (case h1 => rfl))
  | ((with_reducible refine' i_asgK ?h1 ?_); (case h1 => rfl); (dsimp only [List.set_cons_succ, List.set_cons_zero]))
  | ((with_reducible refine' i_srcK ?h1 ?_); (case h1 => rfl))
  | ((with_reducible refine' i_enmK ?h1 ?_); (case h1 => rfl))
  | ((with_reducible refine' i_evD ?h1 ?h2 ?_); (case h1 => rfl); (case h2 => (intro l e; cases e; done)))
  | ((with_reducible refine' i_isD ?h1 ?_); (case h1 => assumption))
  | ((with_reducible refine' i_len ?h1 ?_); (case h1 => rfl)) | ((with_reducible refine' i_list ?h1 ?_); (case h1 => rfl)) | ((with_reducible refine' i_tuple ?h1 ?_); (case h1 => rfl)) | ((with_reducible refine' i_slL ?h1 ?_); (case h1 => rfl))
  | ((with_reducible refine' i_rngD ?h1 ?h2 ?_); (case h1 => (first | omega | decide)); (case h2 => (first | omega | decide))) | ((with_reducible refine' i_rngD2 ?h1 ?_); (case h1 => (first | omega | decide)))
  | ((with_reducible refine' i_lrgP ?h1 ?_); (case h1 => (apply RgOk.of_le <;> omega)))
  | ((with_reducible refine' j_put ?h1 ?_); (case h1 => rfl))
  | ((with_reducible refine' i_mul ?h1 ?_); (case h1 => (first | exact .inr (by decide) | exact .inl (by decide)))) | ((with_reducible refine' i_mod ?h1 ?_); (case h1 => (first | omega | decide)))
  | ((with_reducible refine' i_fdiv ?h1 ?_); (case h1 => (first | exact ⟨by decide, by decide⟩ | exact ⟨by omega, by omega⟩))) | ((with_reducible refine' i_pow ?h1 ?_); (case h1 => exact pow_ok (by decide)))
  | ((with_reducible refine' i_ifT ?h1 ?_); (case h1 => (first | rfl | assumption | (simp [isA]; done)))) | ((with_reducible refine' i_ifF ?h1 ?_); (case h1 => (first | rfl | assumption | (simp [isA]; done))))
  | ((with_reducible refine' j_pop ?h1 ?_); (case h1 => rfl))
  | ((with_reducible refine' j_append ?h1 ?_); (case h1 => (first | (simp [sizeLine_eq]; done) | (apply lt_line; omega)))))
local macro_rules | `(tactic| walk_at "w") => `(tactic| (try dsimp only [List.cons_append, List.nil_append, List.set_cons_succ, List.set_cons_zero, killAll]); repeat' (first | (with_reducible refine' Run.imp ?_) | walk_at "w3" | walk_at "w2" | fail "open"))
local macro_rules | `(tactic| walk_at "w0") => `(tactic| refine start_en ?_; simp only [startS, hasOwn, List.map_cons, List.map_nil, List.length_cons, List.length_nil, List.cons_append, List.nil_append, List.replicate, Nat.reduceAdd, Nat.reduceSub, Nat.zero_add])
local macro_rules | `(tactic| walk_at "n") => `(tactic| walk_at "w")

theorem told_of {s : Sg} {k t : Nat} (ht : t ≤ 3) (h1 : ∀ n, n < t → ∀ w ∈ lvl s k n, goodW s k w = false) {a b : List Wy} {w : Wy} (e : lvl s k t = a ++ w :: b) (h2 : ∀ v ∈ a, goodW s k v = false) (h3 : goodW s k w = true) : toldW s k = w := by
  have no : ∀ {l : List Wy}, (∀ v ∈ l, goodW s k v = false) → l.find? (goodW s k) = none := fun h => List.find?_eq_none.mpr fun v hv => by rw [h v hv]; simp
  have yes : ∀ r : List Wy, (lvl s k t ++ r).find? (goodW s k) = some w := fun r => by
    rw [e, List.append_assoc, List.find?_append, no h2, List.cons_append, List.find?_cons, h3]
    rfl
  have yes' : (lvl s k t).find? (goodW s k) = some w := by
    have := yes []
    rwa [List.append_nil] at this
  unfold toldW
  match t, ht with
  | 0, _ => rw [yes]; rfl
  | 1, _ => rw [List.find?_append, no (h1 0 (by decide)), Option.none_or, yes]; rfl
  | 2, _ => rw [List.find?_append, no (h1 0 (by decide)), Option.none_or, List.find?_append, no (h1 1 (by decide)), Option.none_or, yes]; rfl
  | 3, _ => rw [List.find?_append, no (h1 0 (by decide)), Option.none_or, List.find?_append, no (h1 1 (by decide)), Option.none_or, List.find?_append, no (h1 2 (by decide)), Option.none_or, yes']; rfl
/-- a way with the kinds that it meets -/
def prW (s : Sg) (k : Nat) (w : Wy) : D := .tuple [wyD w, .list (nsD (k :: (comeN s k w).getD []))]
section
variable {z z1 : SS} {gs : List GS} {s : Sg} {k : Nat} {w : Wy}
instance [a : TgA gs [wyD w, .list (nsD (k :: (comeN s k w).getD []))] z z1] : Tg (gTp gs) (prW s k w) z z1 := ⟨a.e⟩
end
theorem ext_of {s : Sg} {k : Nat} {w : Wy} {ks : List Nat} {r : Rw} (h : comeN s k w = some ks) (hr : s[lastK k ks]? = some r) : extW s k w = r.2.flatMap fun c => (List.range c.2.length).map fun i => w ++ [(c.1, i)] := by
  unfold extW
  rw [h]
  simp only [hr]
/-- the ways with one step more, by some constructors -/
def extC (v : Wy) (cs : List Cn) : List Wy := cs.flatMap fun c => (List.range c.2.length).map fun i => v ++ [(c.1, i)]
theorem extC_len (v : Wy) (cs : List Cn) : (extC v cs).length = (cs.flatMap Prod.snd).length := by
  unfold extC
  induction cs with
  | nil => rfl
  | cons c cs ih => rw [List.flatMap_cons, List.flatMap_cons, List.length_append, List.length_append, ih, List.length_map, List.length_range]
theorem extC_take {v : Wy} {cs : List Cn} {j : Nat} {c : Cn} (h : cs[j]? = some c) : extC v (cs.take (j + 1)) = extC v (cs.take j) ++ (List.range c.2.length).map fun i => v ++ [(c.1, i)] := by
  unfold extC
  rw [List.take_add_one, h, List.flatMap_append]
  simp
theorem flat_ext {s : Sg} (w : Wf s) (k : Nat) : ∀ (l : List Wy) {n : Nat}, l.length ≤ n → (l.flatMap (extW s k)).length ≤ 8 * n := by
  intro l
  induction l with
  | nil => intro n _; simp
  | cons a l ih =>
    intro n h
    rw [List.length_cons] at h
    have := ih (n := n - 1) (by omega)
    have := ext_len w k a
    rw [List.flatMap_cons, List.length_append]
    omega
theorem enumD_ns (q : List Nat) : enumD (nsD q) = q.zipIdx.map fun p => wt [.int (p.2 : Nat), .int (p.1 : Nat)] := by
  unfold enumD nsD
  rw [List.zipIdx_map, List.map_map]
  rfl
theorem zip_rng {α : Type} (l : List α) (G : Nat → D) : (l.zipIdx.map fun p => G p.2) = (List.range l.length).map G := by
  apply List.ext_getElem
  · simp
  · intro i h1 h2
    simp
theorem v_told_way : ∀ as R, p_told_way as R → w_told_way (retEn (hasOwn as) R) (startS 11 as) := by
  rintro as R ⟨s, k, rfl, g, hk, hf, q⟩
  have w := g.wf
  have hlen : ∀ t, t ≤ 3 → (lvl s k t).length ≤ 512 := fun t ht => Nat.le_trans (lvl_len w k t) (by
    match t, ht with
    | 0, _ => decide
    | 1, _ => decide
    | 2, _ => decide
    | 3, _ => decide)
  unfold w_told_way
  walk_at "w0"
  walk_at "n"
  refine forL_inv (P := fun t z => z = [some (.val (sigD s)), some (.val (.int (k : Nat))), some (.val (.list ((lvl s k t).map (prW s k)))), none, none, none, none, none, none, none, none] ∧ ∀ n, n < t → ∀ w ∈ lvl s k n, goodW s k w = false) (fun t x z hx p N hN => ?_) (fun z p => ?_) ⟨rfl, fun n hn => absurd hn (Nat.not_lt_zero n)⟩
  · obtain ⟨rfl, h1⟩ := p
    have ht : t ≤ 3 := by
      have := (List.getElem?_eq_some_iff.mp hx).1
      rw [rangeD_len] at this
      omega
    have hl := hlen t ht
    walk_at "n"
    refine forT_inv (xs := lvl s k t) (f := prW s k) (P := fun i z => z = [some (.val (sigD s)), some (.val (.int (k : Nat))), some (.val (.list ((lvl s k t).map (prW s k)))), some (.val x), some (.own none ((((lvl s k t).take i).flatMap (extW s k)).map (prW s k))), none, none, none, none, none, none] ∧ ∀ v ∈ (lvl s k t).take i, goodW s k v = false) (fun i v z hv p N1 hN1 => ?_) (fun z p => ?_) ⟨rfl, fun v hv => by rw [List.take_zero] at hv; cases hv⟩
    · obtain ⟨rfl, h2⟩ := p
      have hi := (List.getElem?_eq_some_iff.mp hv).1
      have hvm := List.mem_of_getElem? hv
      obtain ⟨hvl, ks, hks⟩ := lvl_ok g t v hvm
      obtain ⟨b1, b2, b3⟩ := comeN_lt w hks hk
      obtain ⟨r, hr⟩ : ∃ r, s[lastK k ks]? = some r := ⟨s[lastK k ks]'b3, List.getElem?_eq_getElem _⟩
      have hgd : goodW s k v = (r.1 || decide (lastK k ks ∈ (k :: ks).dropLast)) := by
        rw [goodW_of hks]
        unfold goodM opB
        rw [hr]
      have yes : goodW s k v = true → R (.d (wyD v)) none := fun e => by
        have e2 : lvl s k t = (lvl s k t).take i ++ v :: (lvl s k t).drop (i + 1) := by
          have := List.getElem_cons_drop (as := lvl s k t) hi
          rw [(List.getElem?_eq_some_iff.mp hv).2] at this
          rw [this, List.take_append_drop]
        rw [told_of ht h1 e2 h2 e] at q
        exact q
      walk_at "n"
      rw [hks, Option.getD_some]
      refine i_ix rfl (last_ns k ks) ?_
      walk_at "n"
      refine ⟨s, lastK k ks, r, rfl, hr, ?_⟩
      walk_at "n"
      cases ho : r.1 with
      | true =>
        walk_at "n"
        exact yes (by rw [hgd, ho]; rfl)
      | false =>
        rw [ho, Bool.false_or] at hgd
        walk_at "n"
        refine i_ix rfl (last_ns k ks) ?_
        walk_at "n"
        rw [front_ns]
        refine i_inLs rfl rfl ?_
        cases hin : decide (lastK k ks ∈ (k :: ks).dropLast) with
        | true =>
          walk_at "n"
          exact yes (by rw [hgd, hin])
        | false =>
          have hfl : (((lvl s k t).take i).flatMap (extW s k)).length ≤ 8 * i := flat_ext w k _ (by rw [List.length_take]; omega)
          have wr := w.2.2 r (List.mem_of_getElem? hr)
          walk_at "n"
          refine i_ix rfl (last_ns k ks) ?_
          walk_at "n"
          refine ⟨s, lastK k ks, r, rfl, hr, ?_⟩
          walk_at "n"
          refine forT_inv (xs := r.2) (f := consD) (P := fun j z => z = [some (.val (sigD s)), some (.val (.int (k : Nat))), some (.val (.list ((lvl s k t).map (prW s k)))), some (.val x), some (.own none ((((lvl s k t).take i).flatMap (extW s k) ++ extC v (r.2.take j)).map (prW s k))), some (.val (wyD v)), some (.val (.list (nsD (k :: ks)))), none, none, none, none]) (fun j c z hc p N2 hN2 => ?_) (fun z p => ?_) (by rw [List.take_zero, extC, List.flatMap_nil, List.append_nil])
          · subst p
            have hcm := List.mem_of_getElem? hc
            have wc := wr.2 c hcm
            have wc2 := wc.2.1
            have hel : (extC v (r.2.take j)).length ≤ 8 := by
              rw [extC_len]
              exact partsL_len wr j
            walk_at "n"
            rw [show enumD (nsD c.2) = c.2.zipIdx.map fun p => wt [.int (p.2 : Nat), .int (p.1 : Nat)] from enumD_ns c.2]
            refine lcT_map (xs := c.2.zipIdx) (f := fun p => wt [.int (p.2 : Nat), .int (p.1 : Nat)]) (fun p => prW s k (v ++ [(c.1, p.2)])) (le_line (by rw [List.length_zipIdx]; omega)) (fun p hp N3 hN3 => ?_) ?_
            · obtain ⟨a, m⟩ := p
              have hm := List.mem_zipIdx_iff_getElem?.mp hp
              have hcn := comeN_snoc s k v ks (c.1, m) a hks (nextK_of g hr hcm hm)
              have e : prW s k (v ++ [(c.1, m)]) = .tuple [.tuple (v.map spD ++ [.tuple [.str c.1, .int (m : Nat)]]), .list (nsD (k :: ks) ++ [.int (a : Nat)])] := by
                unfold prW
                rw [hcn, Option.getD_some, wyD, List.map_append, show nsD (k :: (ks ++ [a])) = nsD (k :: ks) ++ [.int (a : Nat)] by simp [nsD]]
                rfl
              simp only at hN3
              rw [e] at hN3
              walk_at "n"
              unfold wyD
              refine i_addT (le_line (by rw [List.length_map]; simp; omega)) ?_
              walk_at "n"
              refine i_addL LstIs.e LstIs.e (le_line (by rw [nsD, List.length_map]; simp; omega)) ?_
              walk_at "n"
              exact hN3 _ rfl
            · walk_at "n"
              refine j_extend (le_line (by rw [List.length_map, List.length_map, List.length_append, List.length_zipIdx]; omega)) ?_
              walk_at "n"
              refine hN2 _ ?_
              rw [extC_take hc, ← List.append_assoc, List.map_append (l₂ := (List.range c.2.length).map _), List.map_map, zip_rng c.2 fun i => prW s k (v ++ [(c.1, i)])]
              rfl
          · subst p
            rw [List.take_length]
            walk_at "n"
            refine hN1 _ ⟨?_, fun u hu => ?_⟩
            · rw [List.take_add_one, hv, List.flatMap_append, Option.toList_some, List.flatMap_singleton, ext_of hks hr]
              rfl
            · rw [List.take_add_one, hv] at hu
              rcases List.mem_append.mp hu with hu | hu
              · exact h2 u hu
              · rw [List.mem_singleton.mp (show u ∈ [v] from hu), hgd, hin]
    · obtain ⟨rfl, h2⟩ := p
      rw [List.take_length] at h2 ⊢
      walk_at "n"
      refine hN _ ⟨rfl, fun n hn v hv => ?_⟩
      rcases Nat.lt_or_ge n t with h | h
      · exact h1 n h v hv
      · have : n = t := by omega
        subst this
        exact h2 v hv
  · obtain ⟨rfl, h1⟩ := p
    rw [rangeD_len] at h1
    obtain ⟨n, hn, v, hv, hg⟩ := way_ex g hk hf
    rw [h1 n (by omega) v hv] at hg
    cases hg
end L3

namespace L3
open PySem PySem.Spec PyProof.Rows L2 PySem.SeqAt
local macro_rules | `(tactic| walk_at "w2") => `(tactic| first
  | (with_reducible refine' i_allM ?_) | (with_reducible refine' i_anyM ?_))
local macro_rules | `(tactic| walk_at "w3") => `(tactic| first
  | ((with_reducible refine' j_ix ?h1 ?_); (case h1 => rfl))
  | ((with_reducible refine' i_asgK ?h1 ?_); (case h1 => rfl); (dsimp only [List.set_cons_succ, List.set_cons_zero]))
  | ((with_reducible refine' i_srcK ?h1 ?_); (case h1 => rfl))
  | ((with_reducible refine' i_enmK ?h1 ?_); (case h1 => rfl))
  | ((with_reducible refine' i_evD ?h1 ?h2 ?_); (case h1 => rfl); (case h2 => (intro l e; cases e; done)))
  | ((with_reducible refine' i_isD ?h1 ?_); (case h1 => assumption))
  | ((with_reducible refine' i_len ?h1 ?_); (case h1 => rfl)) | ((with_reducible refine' i_list ?h1 ?_); (case h1 => rfl)) | ((with_reducible refine' i_tuple ?h1 ?_); (case h1 => rfl)) | ((with_reducible refine' i_slL ?h1 ?_); (case h1 => rfl))
  | ((with_reducible refine' i_rngD ?h1 ?h2 ?_); (case h1 => (first | omega | decide)); (case h2 => (first | omega | decide))) | ((with_reducible refine' i_rngD2 ?h1 ?_); (case h1 => (first | omega | decide)))
  | ((with_reducible refine' i_lrgP ?h1 ?_); (case h1 => (apply RgOk.of_le <;> omega)))
  | ((with_reducible refine' j_put ?h1 ?_); (case h1 => rfl))
  | ((with_reducible refine' i_mul ?h1 ?_); (case h1 => (first | exact .inr (by decide) | exact .inl (by decide)))) | ((with_reducible refine' i_mod ?h1 ?_); (case h1 => (first | omega | decide)))
  | ((with_reducible refine' i_fdiv ?h1 ?_); (case h1 => (first | exact ⟨by decide, by decide⟩ | exact ⟨by omega, by omega⟩))) | ((with_reducible refine' i_pow ?h1 ?_); (case h1 => exact pow_ok (by decide)))
  | ((with_reducible refine' i_ifT ?h1 ?_); (case h1 => (first | rfl | assumption | (simp [isA]; done)))) | ((with_reducible refine' i_ifF ?h1 ?_); (case h1 => (first | rfl | assumption | (simp [isA]; done))))
  | ((with_reducible refine' j_pop ?h1 ?_); (case h1 => rfl))
  | ((with_reducible refine' j_append ?h1 ?_); (case h1 => (first | (simp [sizeLine_eq]; done) | (apply lt_line; omega)))))
local macro_rules | `(tactic| walk_at "w") => `(tactic| (try dsimp only [List.cons_append, List.nil_append, List.set_cons_succ, List.set_cons_zero, killAll]); repeat' (first | (with_reducible refine' Run.imp ?_) | walk_at "w3" | walk_at "w2" | fail "open"))
local macro_rules | `(tactic| walk_at "w0") => `(tactic| refine start_en ?_; simp only [startS, hasOwn, List.map_cons, List.map_nil, List.length_cons, List.length_nil, List.cons_append, List.nil_append, List.replicate, Nat.reduceAdd, Nat.reduceSub, Nat.zero_add])
local macro_rules | `(tactic| walk_at "n") => `(tactic| walk_at "w")

def okAt (s : Sg) (hs : List (Option Nat)) (i : Nat) : Prop := ∀ h, hs[i]? = some (some h) → ¬ isOpen s i ∧ ∀ a, Part s i a → ∃ b, hs[a]? = some (some b) ∧ b < h
theorem isHts_no {s : Sg} {k : Nat} {l : List D} (h : ∀ hs, l = hsD hs → ¬ okH s k hs) : isHts s k (.tuple l) = false := tfP_false fun ⟨hs, e, o⟩ => h hs e o
theorem isHts_hs {s : Sg} {k : Nat} {hs : List (Option Nat)} : isHts s k (.tuple (hsD hs)) = tfP (okH s k hs) := by
  show tfP _ = tfP _
  rw [Bool.eq_iff_iff, tfP_iff, tfP_iff]
  exact ⟨fun ⟨hs', e, o⟩ => by rw [hsD_inj e]; exact o, fun o => ⟨hs, rfl, o⟩⟩
theorem isNone_no {x : D} (h : x ≠ .none) : isNone x = false := by
  cases x with
  | none => exact absurd rfl h
  | _ => rfl
def hB (x : D) : Bool := match x with
  | .none => true
  | x => isWithin x 0 2
theorem hB_of : ∀ {l : List D}, l.all hB = true → ∃ hs, l = hsD hs ∧ ∀ h, some h ∈ hs → h ≤ 2
  | [], _ => ⟨[], rfl, fun h hh => (by cases hh)⟩
  | x :: l, h => by
    rw [List.all_cons, Bool.and_eq_true] at h
    obtain ⟨hs, rfl, h2⟩ := hB_of h.2
    have h1 := h.1
    cases x with
    | none => exact ⟨none :: hs, rfl, fun h hh => h2 h (by simpa using hh)⟩
    | int i =>
      have h1 : (decide (0 ≤ i) && decide (i ≤ 2)) = true := h1
      rw [Bool.and_eq_true, decide_eq_true_eq, decide_eq_true_eq] at h1
      obtain ⟨n, rfl⟩ := Int.eq_ofNat_of_zero_le h1.1
      refine ⟨some n :: hs, rfl, fun h hh => ?_⟩
      rcases List.mem_cons.mp hh with e | hh
      · cases e
        omega
      · exact h2 h hh
    | bool _ => cases h1
    | str _ => cases h1
    | list _ => cases h1
    | tuple _ => cases h1
    | dict _ => cases h1
theorem hB_hs {hs : List (Option Nat)} (h : ∀ h, some h ∈ hs → h ≤ 2) : (hsD hs).all hB = true := by
  rw [List.all_eq_true]
  intro x hx
  obtain ⟨o, ho, rfl⟩ := List.mem_map.mp hx
  cases o with
  | none => rfl
  | some n =>
    have := h n ho
    show (decide (0 ≤ ((n : Nat) : Int)) && decide (((n : Nat) : Int) ≤ 2)) = true
    rw [decide_eq_true (by omega), decide_eq_true (by omega)]
    rfl
def hAt (hs : List (Option Nat)) (a : Nat) : D := hD (hs[a]?.getD none)
theorem hsD_at {hs : List (Option Nat)} {a : Nat} (h : a < hs.length) : (hsD hs)[a]? = some (hAt hs a) := by
  rw [hsD, List.getElem?_map, hAt, List.getElem?_eq_getElem h]
  rfl
/-- a part is lower -/
def lowB (hs : List (Option Nat)) (h a : Nat) : Bool := match hs[a]?.getD none with
  | some b => decide (b < h)
  | none => false
theorem lowB_iff {hs : List (Option Nat)} {h a : Nat} : lowB hs h a = true ↔ ∃ b, hs[a]? = some (some b) ∧ b < h := by
  unfold lowB
  cases e : hs[a]? with
  | none => simp
  | some o =>
    cases o with
    | none => simp
    | some b => simp
theorem v_are_heights : ∀ as R, p_are_heights as R → w_are_heights (retEn (hasOwn as) R) (startS 9 as) := by
  rintro as R ⟨s, k, v, rfl, w, hk, hv, q⟩
  have hs3 := w.2.1
  unfold w_are_heights
  walk_at "w0"
  walk_at "n"
  cases v with
  | tuple l =>
    walk_at "n"
    rw [List.length_map]
    by_cases hl : l.length = s.length
    · rw [decide_eq_true (show ((l.length : Nat) : Int) = ((s.length : Nat) : Int) by omega)]
      walk_at "n"
      refine i_ix rfl (atI_nat (List.getElem?_eq_getElem (show k < l.length by omega))) ?_
      have hko := okA_mem (show okA l = true from hv) (List.getElem_mem (show k < l.length by omega))
      by_cases hn : l[k]'(by omega) = .none
      · rw [hn]
        walk_at "n"
        rw [isHts_no fun hs e o => by
          subst e
          obtain ⟨h, e⟩ := o.2.2.1
          have h1 : (hsD hs)[k]? = some (.int (h : Nat)) := by rw [hsD, List.getElem?_map, e]; rfl
          rw [List.getElem?_eq_getElem (by omega), hn] at h1
          cases h1] at q
        exact q
      · walk_at "n"
        rw [isNone_no hn]
        walk_at "n"
        refine lcL_mapA (fun x => .bool (hB x)) (by simp; exact le_line (by omega)) (fun x hx N hN => ?_) ?_
        · have hxo := okA_mem (show okA l = true from hv) hx
          by_cases e : x = .none
          · subst e
            walk_at "n"
            exact hN _ rfl
          · have hN' := hN
            rw [show hB x = isWithin x 0 2 by cases x with
              | none => exact absurd rfl e
              | _ => rfl] at hN'
            walk_at "n"
            rw [isNone_no e]
            walk_at "n"
            refine ⟨x, _, _, rfl, hxo, ?_⟩
            walk_at "n"
            exact hN' _ rfl
        rw [List.nil_append]
        walk_at "n"
        cases hA : l.all hB with
        | false =>
          walk_at "n"
          rw [isHts_no fun hs e o => by
            subst e
            rw [hB_hs o.2.1] at hA
            cases hA] at q
          exact q
        | true =>
          obtain ⟨hs, rfl, h2⟩ := hB_of hA
          have hhl : hs.length = s.length := by rw [← hl, hsD, List.length_map]
          rw [isHts_hs] at q
          have hkk : ∃ h, hs[k]? = some (some h) := by
            have hk' : k < hs.length := by omega
            cases e : hs[k] with
            | none =>
              refine absurd ?_ hn
              have := hsD_at hk'
              rw [List.getElem?_eq_getElem (by rw [hsD, List.length_map]; exact hk')] at this
              rw [Option.some.inj this, hAt, List.getElem?_eq_getElem hk', e]
              rfl
            | some h => exact ⟨h, by rw [List.getElem?_eq_getElem hk', e]⟩
          walk_at "n"
          rw [show enumD (hsD hs) = hs.zipIdx.map fun p => wt [.int (p.2 : Nat), hD p.1] from by
            unfold enumD hsD
            rw [List.zipIdx_map, List.map_map]
            rfl]
          refine forT_inv (xs := hs.zipIdx) (f := fun p => wt [.int (p.2 : Nat), hD p.1]) (P := fun i z => z = [some (.val (sigD s)), some (.val (.int (k : Nat))), some (.val (.tuple (hsD hs))), none, none, none, none, none, none] ∧ ∀ j, j < i → okAt s hs j) (fun i p z hp hzz N hN => ?_) (fun z hzz => ?_) ⟨rfl, fun j hj => absurd hj (Nat.not_lt_zero j)⟩
          · obtain ⟨rfl, h3⟩ := hzz
            obtain ⟨o, j⟩ := p
            obtain ⟨rfl, ho⟩ : j = i ∧ hs[i]? = some o := by
              rw [List.getElem?_zipIdx] at hp
              obtain ⟨a, ha, e⟩ := Option.map_eq_some_iff.mp hp
              simp only [Prod.mk.injEq, Nat.zero_add] at e
              exact ⟨e.2.symm, by rw [ha, e.1]⟩
            have hj := (List.getElem?_eq_some_iff.mp ho).1
            obtain ⟨r, hr⟩ : ∃ r, s[j]? = some r := ⟨s[j]'(by omega), List.getElem?_eq_getElem _⟩
            have wr := w.2.2 r (List.mem_of_getElem? hr)
            have hpl := partsL_len' wr
            have hpo : partsAt s j = partsL r := by unfold partsAt; rw [hr]
            have nx : okAt s hs j → ∀ i, i < j + 1 → okAt s hs i := fun h i hi => by
              rcases Nat.lt_or_ge i j with q | q
              · exact h3 i q
              · have : i = j := by omega
                rw [this]; exact h
            cases o with
            | none =>
              rw [show hD none = PyData.none from rfl]
              walk_at "n"
              exact hN _ ⟨rfl, nx fun h e => by rw [ho] at e; cases e⟩
            | some h =>
              rw [show hD (some h) = PyData.int (h : Nat) from rfl]
              walk_at "n"
              refine ⟨s, j, r, rfl, hr, ?_⟩
              walk_at "n"
              refine lcL2_inv (P := fun i acc z => acc = ((r.2.take i).flatMap Prod.snd).map (hAt hs) ∧ z = [some (.val (sigD s)), some (.val (.int (k : Nat))), some (.val (.tuple (hsD hs))), some (.val (.int (j : Nat))), some (.val (.int (h : Nat))), none, none, none, none]) (fun i x acc z e p N2 hN2 => ?_) (fun acc z p => ?_) ⟨rfl, rfl⟩
              · obtain ⟨rfl, rfl⟩ := p
                rw [List.getElem?_map] at e
                obtain ⟨c, hc, rfl⟩ := Option.map_eq_some_iff.mp e
                have wc := wr.2 c (List.mem_of_getElem? hc)
                have hl := partsL_len wr i
                have wc2 := wc.2.1
                walk_at "n"
                refine lcK_mapA (hAt hs) ?_ (fun a ha N3 hN3 => ?_) ?_
                · rw [List.length_map]
                  exact le_line (by omega)
                · walk_at "n"
                  refine i_ix rfl (atI_nat (hsD_at (by have := wc.2.2 a ha; omega))) ?_
                  walk_at "n"
                  exact hN3 _ rfl
                · refine hN2 _ _ ⟨?_, rfl⟩
                  rw [← List.map_append, flat_take hc]
              · obtain ⟨rfl, rfl⟩ := p
                rw [List.length_map, List.take_length, show r.2.flatMap Prod.snd = partsL r from rfl, ← hpo]
                walk_at "n"
                refine ⟨s, j, r, rfl, hr, ?_⟩
                walk_at "n"
                have no : ¬ okAt s hs j → R (.d (.bool false)) none := fun h => by
                  rw [tfP_false fun o => h (o.2.2.2 j)] at q
                  exact q
                cases hop : r.1 with
                | true =>
                  walk_at "n"
                  exact no fun h => (h _ ho).1 ⟨r, hr, hop⟩
                | false =>
                  walk_at "n"
                  refine lcT_map (xs := partsAt s j) (f := hAt hs) (fun a => .bool (lowB hs h a)) (le_line (by rw [hpo]; omega)) (fun a ha N3 hN3 => ?_) ?_
                  · cases e : hs[a]?.getD none with
                    | none =>
                      have hN4 := hN3
                      unfold lowB at hN4
                      rw [e] at hN4
                      rw [show hAt hs a = PyData.none by rw [hAt, e]; rfl]
                      walk_at "n"
                      exact hN4 _ rfl
                    | some b =>
                      have hN4 := hN3
                      unfold lowB at hN4
                      rw [e] at hN4
                      rw [show hAt hs a = PyData.int (b : Nat) by rw [hAt, e]; rfl]
                      walk_at "n"
                      rw [show decide (((b : Nat) : Int) < ((h : Nat) : Int)) = decide (b < h) from decide_eq_decide.mpr (by omega)]
                      exact hN4 _ rfl
                  walk_at "n"
                  refine i_all (bs := (partsAt s j).map (lowB hs h)) (by rw [List.map_map]; rfl) ?_
                  rw [List.all_map]
                  walk_at "n"
                  cases hB2 : (partsAt s j).all (id ∘ lowB hs h) with
                  | true =>
                    walk_at "n"
                    refine hN _ ⟨rfl, nx fun h' e => ?_⟩
                    rw [ho] at e
                    cases e
                    refine ⟨fun ⟨r', e1, e2⟩ => ?_, fun a pa => lowB_iff.mp (List.all_eq_true.mp hB2 a (mem_partsAt.mpr pa))⟩
                    rw [hr] at e1
                    cases e1
                    rw [hop] at e2
                    cases e2
                  | false =>
                    walk_at "n"
                    refine no fun h' => ?_
                    rw [← Bool.not_eq_true, List.all_eq_true] at hB2
                    exact hB2 fun a ha => lowB_iff.mpr ((h' _ ho).2 a (mem_partsAt.mp ha))
          · obtain ⟨rfl, h3⟩ := hzz
            rw [List.length_zipIdx] at h3
            walk_at "n"
            rw [tfP_true ⟨hhl, h2, hkk, fun i h e => h3 i (List.getElem?_eq_some_iff.mp e).1 h e⟩] at q
            exact q
    · rw [decide_eq_false (show ¬ ((l.length : Nat) : Int) = ((s.length : Nat) : Int) by omega)]
      walk_at "n"
      rw [isHts_no fun hs e o => by
        subst e
        exact hl (by rw [hsD, List.length_map]; exact o.1)] at q
      exact q
  | none => walk_at "n"; exact q
  | bool _ => walk_at "n"; exact q
  | int _ => walk_at "n"; exact q
  | str _ => walk_at "n"; exact q
  | list _ => walk_at "n"; exact q
  | dict _ => walk_at "n"; exact q
theorem v_finite_evidence : ∀ as R, p_finite_evidence as R → w_finite_evidence (retEn (hasOwn as) R) (startS 2 as) := by
  rintro as R ⟨s, k, rfl, g, hk, q⟩
  unfold w_finite_evidence
  walk_at "w0"
  walk_at "n"
  refine ⟨s, k, rfl, g, hk, ?_⟩
  walk_at "n"
  refine ⟨s, k, rfl, g.wf, hk, fun b hb => ?_⟩
  unfold finEv at q
  cases b with
  | true =>
    have hf := hb.mp rfl
    rw [tfP_true hf] at q
    walk_at "n"
    refine ⟨s, k, rfl, g.wf, hk, hf, ?_⟩
    walk_at "n"
    exact q
  | false =>
    have hf : ¬ FinK s k := fun h => by have := hb.mpr h; cases this
    rw [tfP_false hf] at q
    walk_at "n"
    refine ⟨s, k, rfl, g, hk, hf, ?_⟩
    walk_at "n"
    exact q
theorem isEv_len {s : Sg} {k : Nat} {l : List D} (h : l.length ≠ 2) : isEv s k (.tuple l) = false := by
  cases l with
  | nil => rfl
  | cons a l =>
    cases l with
    | nil => cases a <;> rfl
    | cons b l =>
      cases l with
      | nil => exact absurd rfl h
      | cons d l => cases a <;> rfl
theorem v_is_finite_evidence : ∀ as R, p_is_finite_evidence as R → w_is_finite_evidence (retEn (hasOwn as) R) (startS 3 as) := by
  rintro as R ⟨s, k, v, rfl, g, hk, hv, q⟩
  unfold w_is_finite_evidence
  walk_at "w0"
  walk_at "n"
  refine ⟨s, k, rfl, g, hk, ?_⟩
  walk_at "n"
  cases v with
  | tuple m =>
    walk_at "n"
    by_cases h2 : m.length = 2
    · obtain ⟨a, b, rfl⟩ : ∃ a b, m = [a, b] := by
        match m, h2 with
        | [a, b], _ => exact ⟨a, b, rfl⟩
      have hb := okA_mem (show okA [a, b] = true from hv) (show b ∈ [a, b] by simp)
      walk_at "n"
      cases a with
      | str n =>
        have q' : R (.d (.bool (if n = "finite" then isHts s k b else (decide (n = "endless") && isWay s k b)))) none := q
        walk_at "n"
        by_cases e1 : n = "finite"
        · rw [if_pos e1] at q'
          rw [decide_eq_true e1]
          walk_at "n"
          refine ⟨s, k, b, rfl, g.wf, hk, hb, ?_⟩
          walk_at "n"
          exact q'
        · rw [if_neg e1] at q'
          rw [decide_eq_false e1]
          walk_at "n"
          by_cases e2 : n = "endless"
          · rw [decide_eq_true e2, Bool.true_and] at q'
            rw [decide_eq_true e2]
            walk_at "n"
            refine ⟨s, k, b, rfl, g, hk, hb, ?_⟩
            walk_at "n"
            exact q'
          · rw [decide_eq_false e2, Bool.false_and] at q'
            rw [decide_eq_false e2]
            walk_at "n"
            exact q'
      | dict _ => walk_at "n"; refine i_isD (okA_mem (show okA _ = true from hv) List.mem_cons_self) ?_; walk_at "n"; exact q
      | _ => walk_at "n"; exact q
    · rw [decide_eq_false (show ¬ ((m.length : Nat) : Int) = 2 by omega)]
      walk_at "n"
      rw [isEv_len h2] at q
      exact q
  | none => walk_at "n"; exact q
  | bool _ => walk_at "n"; exact q
  | int _ => walk_at "n"; exact q
  | str _ => walk_at "n"; exact q
  | list _ => walk_at "n"; exact q
  | dict _ => walk_at "n"; exact q
end L3

namespace L3
open PySem PySem.Spec PyProof.Rows L2 PySem.SeqAt
/-- what holds of the kinds that are found -/
structure LwI (s : Sg) (k t : Nat) (F : List Nat) : Prop where
  sub : ∀ j ∈ F, Reach s k j
  cnt : ∀ j, F.count j ≤ 2
  grow : (∀ o, o = k ∨ o ∈ F → ∀ a, Part s o a → a ∈ F) ∨ ∃ G : List Nat, G.Nodup ∧ (∀ j ∈ G, j ∈ F) ∧ t ≤ G.length
theorem cnt_len : ∀ {l : List Nat}, (∀ j ∈ l, j < 3) → l.length = l.count 0 + l.count 1 + l.count 2
  | [], _ => rfl
  | x :: l, h => by
    have ih := cnt_len (l := l) fun j hj => h j (by simp [hj])
    have hx := h x (by simp)
    rw [List.length_cons, List.count_cons, List.count_cons, List.count_cons, ih]
    have : x = 0 ∨ x = 1 ∨ x = 2 := by omega
    rcases this with rfl | rfl | rfl <;> simp <;> omega
theorem LwI.len {s : Sg} (w : Wf s) {k t : Nat} {F : List Nat} (h : LwI s k t F) : F.length ≤ 6 := by
  have hs := w.2.1
  rw [cnt_len fun j hj => by have := (h.sub j hj).lt w; omega]
  have := h.cnt 0
  have := h.cnt 1
  have := h.cnt 2
  omega
/-- more parts, each but if it is there -/
def addP (F q : List Nat) : List Nat := F ++ q.filter fun a => decide (a ∉ F)
theorem mem_addP {F q : List Nat} {x : Nat} : x ∈ addP F q ↔ x ∈ F ∨ x ∈ q := by
  unfold addP
  rw [List.mem_append, List.mem_filter, decide_eq_true_eq]
  exact ⟨fun h => h.imp id (·.1), fun h => by
    by_cases hx : x ∈ F
    · exact .inl hx
    · exact .inr ⟨h.resolve_left hx, hx⟩⟩
theorem addP_cnt {F q : List Nat} (hq : q.length ≤ 2) (h : ∀ j, F.count j ≤ 2) (j : Nat) : (addP F q).count j ≤ 2 := by
  unfold addP
  rw [List.count_append]
  by_cases hj : j ∈ F
  · have e : (q.filter fun a => decide (a ∉ F)).count j = 0 := List.count_eq_zero.mpr fun hm => (of_decide_eq_true (List.mem_filter.mp hm).2 : j ∉ F) hj
    rw [e]
    exact h j
  · rw [List.count_eq_zero.mpr hj]
    have := List.count_le_length (a := j) (l := q.filter fun a => decide (a ∉ F))
    have := List.length_filter_le (fun a => decide (a ∉ F)) q
    omega
/-- a turn: all parts of the kind and of what was found are found -/
theorem LwI.turn {s : Sg} (w : Wf s) {k t : Nat} {F F' : List Nat} (h : LwI s k t F) (up : ∀ j ∈ F, j ∈ F') (hc : ∀ j, F'.count j ≤ 2) (hin : ∀ x ∈ F', x ∈ F ∨ ∃ o, (o = k ∨ o ∈ F) ∧ Part s o x) (hall : ∀ o, o = k ∨ o ∈ F → ∀ a, Part s o a → a ∈ F') : LwI s k (t + 1) F' where
  sub := fun j hj => by
    rcases hin j hj with q | ⟨o, rfl | ho, p⟩
    · exact h.sub j q
    · exact .one p
    · exact (h.sub o ho).snoc p
  cnt := hc
  grow := by
    have keep : (∀ o, o = k ∨ o ∈ F → ∀ a, Part s o a → a ∈ F) → (∀ o, o = k ∨ o ∈ F' → ∀ a, Part s o a → a ∈ F') := fun g o ho a p => by
      refine up a (g o ?_ a p)
      rcases ho with e | ho
      · exact .inl e
      · rcases hin o ho with q | ⟨i, hi, p2⟩
        · exact .inr q
        · exact .inr (g i hi o p2)
    rcases h.grow with g | ⟨G, g1, g2, g3⟩
    · exact .inl (keep g)
    · by_cases c : ∀ o, o = k ∨ o ∈ F → ∀ a, Part s o a → a ∈ F
      · exact .inl (keep c)
      · simp only [Classical.not_forall] at c
        obtain ⟨o, ho, a, p, na⟩ := c
        refine .inr ⟨a :: G, List.nodup_cons.mpr ⟨fun hg => na (g2 a hg), g1⟩, fun j hj => ?_, by rw [List.length_cons]; omega⟩
        rcases List.mem_cons.mp hj with rfl | hj
        · exact hall o ho j p
        · exact up j (g2 j hj)
theorem LwI.done {s : Sg} (w : Wf s) {k : Nat} {F : List Nat} (h : LwI s k 4 F) : LedOk s k F := by
  have hs := w.2.1
  have cl : ∀ o, o = k ∨ o ∈ F → ∀ a, Part s o a → a ∈ F := by
    rcases h.grow with g | ⟨G, g1, g2, g3⟩
    · exact g
    · have := nodup_len (n := s.length) g1 fun j hj => (h.sub j (g2 j hj)).lt w
      omega
  have go : ∀ i j, Reach s i j → (∀ a, Part s i a → a ∈ F) → j ∈ F := fun i j q => by
    induction q with
    | one p => intro hi; exact hi _ p
    | more p _ ih => intro hi; exact ih (cl _ (.inr (hi _ p)))
  exact fun j => ⟨h.sub j, fun q => go k j q (cl k (.inl rfl))⟩
def p_law_leads : FS := fun as R => ∃ (s : Sg) (k : Nat), as = [.val (sigD s), .val (.int (k : Nat))] ∧ Wf s ∧ k < s.length ∧ ∀ L, LedOk s k L → L.length ≤ 6 → R (.d (.list (nsD L))) none
theorem m_law_leads : MonoF p_law_leads := fun as R R' h ⟨a, b, c, d, e, k⟩ => ⟨a, b, c, d, e, fun l q u => h _ _ (k l q u)⟩
theorem l_law_leads : ∀ as R, p_law_leads as R → as.length = 2 := fun as R ⟨_, _, e, _⟩ => by rw [e]; rfl
def p_law_is_endless : FS := fun as R => ∃ (s : Sg) (k : Nat), as = [.val (sigD s), .val (.int (k : Nat))] ∧ Wf s ∧ k < s.length ∧ R (.d (.bool (tfP (¬ FinK s k)))) none
theorem m_law_is_endless : MonoF p_law_is_endless := fun as R R' h ⟨a, b, c, d, e, k⟩ => ⟨a, b, c, d, e, h _ _ k⟩
theorem l_law_is_endless : ∀ as R, p_law_is_endless as R → as.length = 2 := fun as R ⟨_, _, e, _⟩ => by rw [e]; rfl
def p_law_told_heights : FS := fun as R => ∃ (s : Sg) (k : Nat), as = [.val (sigD s), .val (.int (k : Nat))] ∧ Wf s ∧ k < s.length ∧ FinK s k ∧ R (.d (.tuple [.str "finite", .tuple (hsD (toldH s k))])) none
theorem m_law_told_heights : MonoF p_law_told_heights := fun as R R' h ⟨a, b, c, d, e, f, k⟩ => ⟨a, b, c, d, e, f, h _ _ k⟩
theorem l_law_told_heights : ∀ as R, p_law_told_heights as R → as.length = 2 := fun as R ⟨_, _, e, _⟩ => by rw [e]; rfl
/-- 0 signature, 1 kind, 2 found, 3 turn, 4 other, 5 name, 6 parts, 7 part -/
def w_law_leads : WS :=
(wSeq (wSet 2 (wFrz (wLst wNil)))
 (wSeq (wFor (wRng1 (wCons (wC (.int 4)) wNil)) (gNm 3)
 (wKill [3, 4, 5, 6] (wFor (wSrc (wBin sAdd (wFrz (wLst (wCons (wVar 1) wNil))) (wVar 2))) (gNm 4)
 (wKill [4, 5, 6] (wFor (wSrc (wBin sIx (wBin sIx (wVar 0) (wVar 4)) (wC (.int 1)))) (gTp [(gNm 5), (gNm 6)])
 (wKill [5, 6] (wSet 2 (wBin sAdd (wVar 2) (wFrz (wLc (wSrc (wVar 6)) (gNm 7) [7] (wTest (wBin sNotIn (wVar 7) (wVar 2))) (wVar 7)))))))))))
 (wRet (wVar 2))))
/-- 0 signature, 1 kind, 2 below, 3 other -/
def w_law_is_endless : WS :=
(wSeq (wSet 2 (wFrz (wCall p_law_leads (wCons (wVar 0) (wCons (wVar 1) wNil)))))
 (wRet (wFrz (wCB (f1 sAny) (wCons (wFrz (wLc (wSrc (wBin sAdd (wFrz (wLst (wCons (wVar 1) wNil))) (wVar 2))) (gNm 3) [3] wYes (wOrV (wBin sEq (wBin sIx (wBin sIx (wVar 0) (wVar 3)) (wC (.int 0))) (wC (.str "open"))) (wBin sIn (wVar 3) (wFrz (wCall p_law_leads (wCons (wVar 0) (wCons (wVar 3) wNil)))))))) wNil)))))
/-- 0 signature, 1 kind, 2 below, 3 heights, 4 turn, 5 other, 6 name, 7 parts, 8 part -/
def w_law_told_heights : WS :=
(wSeq (wSet 2 (wBin sAdd (wFrz (wLst (wCons (wVar 1) wNil))) (wFrz (wCall p_law_leads (wCons (wVar 0) (wCons (wVar 1) wNil))))))
 (wSeq (wSetO 3 (wLc (wRng1 (wCons (wFrz (wCB (f1 sLen) (wCons (wVar 0) wNil))) wNil)) (gNm 5) [5] wYes (wIf (wTest (wBin sIn (wVar 5) (wVar 2))) (wC (.int 0)) (wC .none))))
 (wSeq (wFor (wRng1 (wCons (wC (.int 3)) wNil)) (gNm 4)
 (wKill [4, 5, 6, 7] (wFor (wSrc (wVar 2)) (gNm 5)
 (wKill [5, 6, 7] (wFor (wSrc (wBin sIx (wBin sIx (wVar 0) (wVar 5)) (wC (.int 1)))) (gTp [(gNm 6), (gNm 7)])
 (wKill [6, 7] (wPut (wFrz (wCB (f1 sMax1) (wCons (wBin sAdd (wFrz (wLst (wCons (wBin sIx (wVar 3) (wVar 5)) wNil))) (wFrz (wLc (wSrc (wVar 7)) (gNm 8) [8] wYes (wBin sAdd (wBin sIx (wVar 3) (wVar 8)) (wC (.int 1)))))) wNil))) (wVar 3) (wVar 5))))))))
 (wRet (wTup (wCons (wC (.str "finite")) (wCons (wFrz (wCB (f1 sTupOf) (wCons (wVar 3) wNil))) wNil)))))))

local macro_rules | `(tactic| walk_at "w2") => `(tactic| first
  | (with_reducible refine' i_allM ?_) | (with_reducible refine' i_anyM ?_))
local macro_rules | `(tactic| walk_at "w3") => `(tactic| first
  | ((with_reducible refine' j_ix ?h1 ?_); (case h1 => rfl))
  | ((with_reducible refine' i_asgK ?h1 ?_); (case h1 => rfl); (dsimp only [List.set_cons_succ, List.set_cons_zero]))
  | ((with_reducible refine' i_srcK ?h1 ?_); (case h1 => rfl))
  | ((with_reducible refine' i_enmK ?h1 ?_); (case h1 => rfl))
  | ((with_reducible refine' i_evD ?h1 ?h2 ?_); (case h1 => rfl); (case h2 => (intro l e; cases e; done)))
  | ((with_reducible refine' i_isD ?h1 ?_); (case h1 => assumption))
  | ((with_reducible refine' i_len ?h1 ?_); (case h1 => rfl)) | ((with_reducible refine' i_list ?h1 ?_); (case h1 => rfl)) | ((with_reducible refine' i_tuple ?h1 ?_); (case h1 => rfl)) | ((with_reducible refine' i_slL ?h1 ?_); (case h1 => rfl))
  | ((with_reducible refine' i_rngD ?h1 ?h2 ?_); (case h1 => (first | omega | decide)); (case h2 => (first | omega | decide))) | ((with_reducible refine' i_rngD2 ?h1 ?_); (case h1 => (first | omega | decide)))
  | ((with_reducible refine' i_lrgP ?h1 ?_); (case h1 => (apply RgOk.of_le <;> omega)))
  | ((with_reducible refine' j_put ?h1 ?_); (case h1 => rfl))
  | ((with_reducible refine' i_mul ?h1 ?_); (case h1 => (first | exact .inr (by decide) | exact .inl (by decide)))) | ((with_reducible refine' i_mod ?h1 ?_); (case h1 => (first | omega | decide)))
  | ((with_reducible refine' i_fdiv ?h1 ?_); (case h1 => (first | exact ⟨by decide, by decide⟩ | exact ⟨by omega, by omega⟩))) | ((with_reducible refine' i_pow ?h1 ?_); (case h1 => exact pow_ok (by decide)))
  | ((with_reducible refine' i_ifT ?h1 ?_); (case h1 => (first | rfl | assumption | (simp [isA]; done)))) | ((with_reducible refine' i_ifF ?h1 ?_); (case h1 => (first | rfl | assumption | (simp [isA]; done))))
  | ((with_reducible refine' j_pop ?h1 ?_); (case h1 => rfl))
  | ((with_reducible refine' j_append ?h1 ?_); (case h1 => (first | (simp [sizeLine_eq]; done) | (apply lt_line; omega)))))
local macro_rules | `(tactic| walk_at "w") => `(tactic| (try dsimp only [List.cons_append, List.nil_append, List.set_cons_succ, List.set_cons_zero, killAll]); repeat' (first | (with_reducible refine' Run.imp ?_) | walk_at "w3" | walk_at "w2" | fail "open"))
local macro_rules | `(tactic| walk_at "w0") => `(tactic| refine start_en ?_; simp only [startS, hasOwn, List.map_cons, List.map_nil, List.length_cons, List.length_nil, List.cons_append, List.nil_append, List.replicate, Nat.reduceAdd, Nat.reduceSub, Nat.zero_add])
local macro_rules | `(tactic| walk_at "n") => `(tactic| walk_at "w")

theorem v_law_leads : ∀ as R, p_law_leads as R → w_law_leads (retEn (hasOwn as) R) (startS 8 as) := by
  rintro as R ⟨s, k, rfl, w, hk, q⟩
  unfold w_law_leads
  walk_at "w0"
  walk_at "n"
  refine forL_inv (P := fun t z => ∃ F, z = [some (.val (sigD s)), some (.val (.int (k : Nat))), some (.val (.list (nsD F))), none, none, none, none, none] ∧ LwI s k t F) (fun t x z hx p N hN => ?_) (fun z p => ?_) ⟨[], rfl, fun j hj => (by cases hj), fun j => (by simp), .inr ⟨[], by simp, by simp, by simp⟩⟩
  · obtain ⟨F, rfl, hF⟩ := p
    have hl := hF.len w
    walk_at "n"
    refine i_addL LstIs.e LstIs.e (le_line (by rw [nsD, List.length_map]; simp; omega)) ?_
    walk_at "n"
    rw [show PyData.int (k : Nat) :: nsD F = nsD (k :: F) from rfl]
    refine forL_inv (P := fun j z => ∃ F', z = [some (.val (sigD s)), some (.val (.int (k : Nat))), some (.val (.list (nsD F'))), some (.val x), none, none, none, none] ∧ (∀ j ∈ F, j ∈ F') ∧ (∀ j, F'.count j ≤ 2) ∧ (∀ x ∈ F', x ∈ F ∨ ∃ o, (o = k ∨ o ∈ F) ∧ Part s o x) ∧ ∀ m o, m < j → (k :: F)[m]? = some o → ∀ a, Part s o a → a ∈ F') (fun j y z hy p N1 hN1 => ?_) (fun z p => ?_) ⟨F, rfl, fun _ h => h, hF.cnt, fun x h => .inl h, fun m o hm => absurd hm (Nat.not_lt_zero m)⟩
    · obtain ⟨F', rfl, f1, f2, f3, f4⟩ := p
      rw [nsD, List.getElem?_map] at hy
      obtain ⟨o, ho, rfl⟩ := Option.map_eq_some_iff.mp hy
      have hom := List.mem_of_getElem? ho
      have ho2 : o = k ∨ o ∈ F := List.mem_cons.mp hom
      have hol : o < s.length := by
        rcases ho2 with rfl | h
        · exact hk
        · exact (hF.sub o h).lt w
      obtain ⟨r, hr⟩ : ∃ r, s[o]? = some r := ⟨s[o]'hol, List.getElem?_eq_getElem _⟩
      have wr := w.2.2 r (List.mem_of_getElem? hr)
      walk_at "n"
      refine i_sig hr ?_
      walk_at "n"
      refine forT_inv (xs := r.2) (f := consD) (P := fun i z => ∃ F', z = [some (.val (sigD s)), some (.val (.int (k : Nat))), some (.val (.list (nsD F'))), some (.val x), some (.val (.int (o : Nat))), none, none, none] ∧ (∀ j ∈ F, j ∈ F') ∧ (∀ j, F'.count j ≤ 2) ∧ (∀ x ∈ F', x ∈ F ∨ ∃ o, (o = k ∨ o ∈ F) ∧ Part s o x) ∧ (∀ m o, m < j → (k :: F)[m]? = some o → ∀ a, Part s o a → a ∈ F') ∧ ∀ m c, m < i → r.2[m]? = some c → ∀ a ∈ c.2, a ∈ F') (fun i c z hc p N2 hN2 => ?_) (fun z p => ?_) ⟨F', rfl, f1, f2, f3, f4, fun m c hm => absurd hm (Nat.not_lt_zero m)⟩
      · obtain ⟨F', rfl, f1, f2, f3, f4, f5⟩ := p
        have hcm := List.mem_of_getElem? hc
        have wc := wr.2 c hcm
        have wc2 := wc.2.1
        have hF6 : F'.length ≤ 6 := by
          rw [cnt_len fun j hj => by
            have := w.2.1
            rcases f3 j hj with h | ⟨i, hi, p⟩
            · have := (hF.sub j h).lt w
              omega
            · have := part_lt w p
              omega]
          have := f2 0
          have := f2 1
          have := f2 2
          omega
        walk_at "n"
        rw [show nsD c.2 = c.2.map fun (a : Nat) => PyData.int (a : Nat) from rfl]
        refine lcT_if (xs := c.2) (f := fun (a : Nat) => PyData.int (a : Nat)) (fun a => decide (a ∉ F')) (fun (a : Nat) => .int (a : Nat)) (le_line (by omega)) (fun a ha N0 N3 h0 h3 => ?_) ?_
        · walk_at "n"
          refine i_notinNs rfl rfl ?_
          by_cases hin : a ∈ F'
          · rw [decide_eq_true hin]
            walk_at "n"
            exact h0 (decide_eq_false fun h => h hin) _ rfl
          · rw [decide_eq_false hin]
            walk_at "n"
            exact h3 (decide_eq_true hin) _ rfl
        · walk_at "n"
          refine i_addL LstIs.e LstIs.e (le_line ?_) ?_
          · have := List.length_filter_le (fun a => decide (a ∉ F')) c.2
            rw [nsD, List.length_map, List.length_map]
            omega
          rw [show nsD F' ++ (c.2.filter fun a => decide (a ∉ F')).map (fun (a : Nat) => PyData.int (a : Nat)) = nsD (addP F' c.2) by rw [nsD, nsD, addP, List.map_append]]
          walk_at "n"
          refine hN2 _ ⟨addP F' c.2, rfl, fun j hj => mem_addP.mpr (.inl (f1 j hj)), addP_cnt wc2 f2, fun x hx => ?_, fun m o hm e a p => mem_addP.mpr (.inl (f4 m o hm e a p)), fun m c' hm e a ha => mem_addP.mpr ?_⟩
          · rcases mem_addP.mp hx with h | h
            · exact f3 x h
            · exact .inr ⟨o, ho2, r, hr, c, hcm, h⟩
          · rcases Nat.lt_or_ge m i with h | h
            · exact .inl (f5 m c' h e a ha)
            · have : m = i := by omega
              subst this
              rw [hc] at e
              cases e
              exact .inr ha
      · obtain ⟨F', rfl, f1, f2, f3, f4, f5⟩ := p
        walk_at "n"
        refine hN1 _ ⟨F', rfl, f1, f2, f3, fun m o' hm e a p => ?_⟩
        rcases Nat.lt_or_ge m j with h | h
        · exact f4 m o' h e a p
        · have : m = j := by omega
          subst this
          rw [ho] at e
          cases e
          obtain ⟨r', e1, c, hc, ha⟩ := p
          rw [hr] at e1
          cases e1
          obtain ⟨i, hi⟩ := List.getElem?_of_mem hc
          exact f5 i c (List.getElem?_eq_some_iff.mp hi).1 hi a ha
    · obtain ⟨F', rfl, f1, f2, f3, f4⟩ := p
      walk_at "n"
      refine hN _ ⟨F', rfl, hF.turn w f1 f2 f3 fun o ho a p => ?_⟩
      obtain ⟨m, hm⟩ := List.getElem?_of_mem (List.mem_cons.mpr ho)
      exact f4 m o (by rw [nsD, List.length_map]; exact (List.getElem?_eq_some_iff.mp hm).1) hm a p
  · obtain ⟨F, rfl, hF⟩ := p
    rw [rangeD_len] at hF
    walk_at "n"
    exact q F (hF.done w) (hF.len w)
theorem v_law_is_endless : ∀ as R, p_law_is_endless as R → w_law_is_endless (retEn (hasOwn as) R) (startS 4 as) := by
  rintro as R ⟨s, k, rfl, w, hk, q⟩
  unfold w_law_is_endless
  walk_at "w0"
  walk_at "n"
  refine ⟨s, k, rfl, w, hk, fun L hL hl => ?_⟩
  walk_at "n"
  refine i_addL LstIs.e LstIs.e (le_line (by rw [nsD, List.length_map]; simp; omega)) ?_
  walk_at "n"
  rw [show PyData.int (k : Nat) :: nsD L = (k :: L).map fun (a : Nat) => PyData.int (a : Nat) from rfl]
  refine lcT_map (xs := k :: L) (f := fun (a : Nat) => PyData.int (a : Nat)) (fun j => .bool (tfP (isOpen s j ∨ Reach s j j))) (le_line (by rw [List.length_cons]; omega)) (fun j hj N hN => ?_) ?_
  · have hjl : j < s.length := by
      rcases List.mem_cons.mp hj with rfl | h
      · exact hk
      · exact ((hL j).mp h).lt w
    obtain ⟨r, hr⟩ : ∃ r, s[j]? = some r := ⟨s[j]'hjl, List.getElem?_eq_getElem _⟩
    walk_at "n"
    refine i_sig hr ?_
    walk_at "n"
    have hop : isOpen s j ↔ r.1 = true := by rw [← opB_iff, opB, hr]
    cases ho : r.1 with
    | true =>
      have hN' := hN
      rw [tfP_true (.inl (hop.mpr ho))] at hN'
      walk_at "n"
      exact hN' _ rfl
    | false =>
      have hN' := hN
      have e : tfP (isOpen s j ∨ Reach s j j) = tfP (Reach s j j) := by
        rw [Bool.eq_iff_iff, tfP_iff, tfP_iff]
        exact ⟨fun h => h.resolve_left fun o => (by rw [hop.mp o] at ho; cases ho), Or.inr⟩
      rw [e] at hN'
      walk_at "n"
      refine ⟨s, j, rfl, w, hjl, fun M hM hm => ?_⟩
      walk_at "n"
      refine i_inLs rfl rfl ?_
      walk_at "n"
      rw [show decide (j ∈ M) = tfP (Reach s j j) by rw [Bool.eq_iff_iff, decide_eq_true_eq, tfP_iff]; exact hM j]
      exact hN' _ rfl
  · walk_at "n"
    refine i_any (bs := (k :: L).map fun j => tfP (isOpen s j ∨ Reach s j j)) (by rw [List.map_map]; rfl) ?_
    rw [List.any_map]
    walk_at "n"
    rw [show (k :: L).any (id ∘ fun j => tfP (isOpen s j ∨ Reach s j j)) = tfP (¬ FinK s k) by
      rw [Bool.eq_iff_iff, List.any_eq_true, tfP_iff]
      constructor
      · rintro ⟨j, hj, h⟩ hf
        have h := tfP_iff.mp h
        rcases List.mem_cons.mp hj with rfl | hj
        · rcases h with h | h
          · exact hf.1 h
          · exact (hf.2 _ h).2 h
        · have := hf.2 j ((hL j).mp hj)
          exact h.elim this.1 this.2
      · intro hf
        by_cases ho : isOpen s k
        · exact ⟨k, by simp, tfP_true (.inl ho)⟩
        · have hf2 : ¬ ∀ j, Reach s k j → ¬ isOpen s j ∧ ¬ Reach s j j := fun h => hf ⟨ho, h⟩
          obtain ⟨j, h1⟩ := Classical.not_forall.mp hf2
          obtain ⟨hr, h⟩ := Classical.not_imp.mp h1
          refine ⟨j, List.mem_cons_of_mem _ ((hL j).mpr hr), tfP_true ?_⟩
          by_cases hjo : isOpen s j
          · exact .inl hjo
          · exact .inr (Classical.not_not.mp fun x => h ⟨hjo, x⟩)]
    exact q
/-- the law's heights while they grow: none for kinds that are not asked -/
structure HtI (s : Sg) (k : Nat) (lo : Nat → Nat) (H : List (Option Nat)) : Prop where
  len : H.length = s.length
  out : ∀ i, i < s.length → ¬ Asked s k i → H[i]? = some none
  inn : ∀ i, Asked s k i → ∃ h, H[i]? = some (some h) ∧ lo i ≤ h ∧ h ≤ hgt s i
theorem HtI.put {s : Sg} (w : Wf s) {k : Nat} (hk : k < s.length) {lo lo' : Nat → Nat} {H : List (Option Nat)} (h : HtI s k lo H) {o m : Nat} (ho : Asked s k o) (h1 : lo' o ≤ m) (h2 : m ≤ hgt s o) (h3 : ∀ i, i ≠ o → lo' i ≤ lo i) : HtI s k lo' (H.set o (some m)) where
  len := by rw [List.length_set]; exact h.len
  out := fun i hi na => by
    have e : o ≠ i := fun e => na (by rw [← e]; exact ho)
    rw [List.getElem?_set_ne e]
    exact h.out i hi na
  inn := fun i ha => by
    by_cases e : o = i
    · subst e
      exact ⟨m, by rw [List.getElem?_set_self (by rw [h.len]; exact ho.lt w hk)], h1, h2⟩
    · obtain ⟨x, e1, e2, e3⟩ := h.inn i ha
      exact ⟨x, by rw [List.getElem?_set_ne e]; exact e1, Nat.le_trans (h3 i (Ne.symm e)) e2, e3⟩
theorem HtI.end {s : Sg} {k : Nat} {H : List (Option Nat)} (h : HtI s k (hgt s) H) : H = toldH s k := by
  apply List.ext_getElem?
  intro i
  by_cases hi : i < s.length
  · rw [toldH, List.getElem?_map, List.getElem?_range hi, Option.map_some]
    by_cases ha : Asked s k i
    · obtain ⟨x, e1, e2, e3⟩ := h.inn i ha
      rw [e1, tfP_true ha, if_pos rfl, show x = hgt s i by omega]
    · rw [h.out i hi ha, tfP_false ha]
      rfl
  · rw [List.getElem?_eq_none (by rw [h.len]; omega), List.getElem?_eq_none (by rw [toldH, List.length_map, List.length_range]; omega)]
def hv (H : List (Option Nat)) (a : Nat) : Nat := (H[a]?.getD none).getD 0
theorem HtI.at' {s : Sg} {k : Nat} {lo : Nat → Nat} {H : List (Option Nat)} (h : HtI s k lo H) {a : Nat} (ha : Asked s k a) : (hsD H)[a]? = some (.int (hv H a : Nat)) ∧ lo a ≤ hv H a ∧ hv H a ≤ hgt s a := by
  obtain ⟨x, e1, e2, e3⟩ := h.inn a ha
  have e : hv H a = x := by unfold hv; rw [e1]; rfl
  rw [e, hsD, List.getElem?_map, e1]
  exact ⟨rfl, e2, e3⟩
theorem hv_set {H : List (Option Nat)} {o m : Nat} (h : o < H.length) : hv (H.set o (some m)) o = m := by
  unfold hv
  rw [List.getElem?_set_self h]
  rfl
theorem hv_ne {H : List (Option Nat)} {o i m : Nat} (h : o ≠ i) : hv (H.set o (some m)) i = hv H i := by
  unfold hv
  rw [List.getElem?_set_ne h]
theorem hsD_set (H : List (Option Nat)) (o m : Nat) : (hsD H).set o (.int (m : Nat)) = hsD (H.set o (some m)) := by
  rw [hsD, hsD, List.map_set]
  rfl
theorem v_law_told_heights : ∀ as R, p_law_told_heights as R → w_law_told_heights (retEn (hasOwn as) R) (startS 9 as) := by
  rintro as R ⟨s, k, rfl, w, hk, hf, q⟩
  have hs3 := w.2.1
  unfold w_law_told_heights
  walk_at "w0"
  walk_at "n"
  refine ⟨s, k, rfl, w, hk, fun L hL hl => ?_⟩
  walk_at "n"
  refine i_addL LstIs.e LstIs.e (le_line (by rw [nsD, List.length_map]; simp; omega)) ?_
  walk_at "n"
  rw [show PyData.int (k : Nat) :: nsD L = nsD (k :: L) from rfl, List.length_map]
  have hmem : ∀ o, o ∈ k :: L ↔ Asked s k o := fun o => by
    rw [List.mem_cons, hL]
    exact Iff.rfl
  walk_at "n"
  refine lcN_map (n := s.length) (fun i => hD (if tfP (Asked s k i) = true then some 0 else none)) (le_line (by omega)) (fun i hi N hN => ?_) ?_
  · walk_at "n"
    refine i_inLs rfl rfl ?_
    rw [show decide (i ∈ k :: L) = tfP (Asked s k i) by rw [Bool.eq_iff_iff, decide_eq_true_eq, tfP_iff]; exact hmem i]
    cases e : tfP (Asked s k i) with
    | true =>
      rw [e, if_pos rfl] at hN
      walk_at "n"
      exact hN _ rfl
    | false =>
      rw [e] at hN
      walk_at "n"
      exact hN _ rfl
  rw [show ((List.range s.length).map fun i => hD (if tfP (Asked s k i) = true then some 0 else none)) = hsD ((List.range s.length).map fun i => if tfP (Asked s k i) = true then some 0 else none) by rw [hsD, List.map_map]; rfl]
  have hI0 : HtI s k (hN s 0) ((List.range s.length).map fun i => if tfP (Asked s k i) = true then some 0 else none) := ⟨by simp, fun i hi na => by
    rw [List.getElem?_map, List.getElem?_range hi, Option.map_some, tfP_false na]
    rfl, fun i ha => ⟨0, by
    rw [List.getElem?_map, List.getElem?_range (ha.lt w hk), Option.map_some, tfP_true ha, if_pos rfl], Nat.zero_le _, Nat.zero_le _⟩⟩
  generalize ((List.range s.length).map fun i => if tfP (Asked s k i) = true then some 0 else none) = H0 at hI0 ⊢
  walk_at "n"
  refine forL_inv (P := fun t z => ∃ H, z = [some (.val (sigD s)), some (.val (.int (k : Nat))), some (.val (.list (nsD (k :: L)))), some (.own none (hsD H)), none, none, none, none, none] ∧ HtI s k (hN s t) H) (fun t x z hx p N hN1 => ?_) (fun z p => ?_) ⟨H0, rfl, hI0⟩
  · obtain ⟨H, rfl, hI⟩ := p
    walk_at "n"
    refine forL_inv (P := fun j z => ∃ H, z = [some (.val (sigD s)), some (.val (.int (k : Nat))), some (.val (.list (nsD (k :: L)))), some (.own none (hsD H)), some (.val x), none, none, none, none] ∧ HtI s k (hN s t) H ∧ ∀ m i, m < j → (k :: L)[m]? = some i → hN s (t + 1) i ≤ hv H i) (fun j y z hy p N1 hN2 => ?_) (fun z p => ?_) ⟨H, rfl, hI, fun m i hm => absurd hm (Nat.not_lt_zero m)⟩
    · obtain ⟨H, rfl, hI, hJ⟩ := p
      rw [nsD, List.getElem?_map] at hy
      obtain ⟨o, ho, rfl⟩ := Option.map_eq_some_iff.mp hy
      have hao := (hmem o).mp (List.mem_of_getElem? ho)
      have hol := hao.lt w hk
      have hof := hao.fin hf
      obtain ⟨r, hr⟩ : ∃ r, s[o]? = some r := ⟨s[o]'hol, List.getElem?_eq_getElem _⟩
      have wr := w.2.2 r (List.mem_of_getElem? hr)
      walk_at "n"
      refine i_sig hr ?_
      walk_at "n"
      refine forT_inv (xs := r.2) (f := consD) (P := fun i z => ∃ H, z = [some (.val (sigD s)), some (.val (.int (k : Nat))), some (.val (.list (nsD (k :: L)))), some (.own none (hsD H)), some (.val x), some (.val (.int (o : Nat))), none, none, none] ∧ HtI s k (hN s t) H ∧ (∀ m i, m < j → (k :: L)[m]? = some i → hN s (t + 1) i ≤ hv H i) ∧ ∀ m c, m < i → r.2[m]? = some c → ∀ a ∈ c.2, hN s t a + 1 ≤ hv H o) (fun i c z hc p N3 hN3 => ?_) (fun z p => ?_) ⟨H, rfl, hI, hJ, fun m c hm => absurd hm (Nat.not_lt_zero m)⟩
      · obtain ⟨H, rfl, hI, hJ, hC⟩ := p
        have hcm := List.mem_of_getElem? hc
        have wc := wr.2 c hcm
        have wc2 := wc.2.1
        obtain ⟨v1, v2, v3⟩ := hI.at' hao
        have hpa : ∀ a ∈ c.2, Asked s k a ∧ hgt s a < hgt s o := fun a ha => by
          have p : Part s o a := ⟨r, hr, c, hcm, ha⟩
          exact ⟨hao.part p, hgt_part w hof hol p⟩
        walk_at "n"
        refine i_ix rfl (atI_nat v1) ?_
        walk_at "n"
        rw [show nsD c.2 = c.2.map fun (a : Nat) => PyData.int (a : Nat) from rfl]
        refine lcT_map (xs := c.2) (f := fun (a : Nat) => PyData.int (a : Nat)) (fun a => .int (((hv H a : Nat) : Int) + 1)) (le_line (by omega)) (fun a ha N4 hN4 => ?_) ?_
        · walk_at "n"
          refine i_ix rfl (atI_nat (hI.at' (hpa a ha).1).1) ?_
          walk_at "n"
          exact hN4 _ rfl
        walk_at "n"
        refine i_addL LstIs.e LstIs.e (le_line (by rw [List.length_map]; simp; omega)) ?_
        walk_at "n"
        refine i_max1 (ns := ((hv H o : Nat) : Int) :: c.2.map fun a => ((hv H a : Nat) : Int) + 1) (by show some _ = some _; rw [List.map_cons, List.map_map]; rfl) (by simp) fun m hm1 hm2 => ?_
        have hm0 : ((hv H o : Nat) : Int) ≤ m := hm2 _ (by simp)
        obtain ⟨m, rfl⟩ := Int.eq_ofNat_of_zero_le (show 0 ≤ m by omega)
        have hma : ∀ a ∈ c.2, hv H a + 1 ≤ m := fun a ha => by
          have := hm2 _ (List.mem_cons_of_mem _ (List.mem_map.mpr ⟨a, ha, rfl⟩))
          omega
        have hmh : m ≤ hgt s o := by
          rcases List.mem_cons.mp hm1 with e | e
          · omega
          · obtain ⟨a, ha, e⟩ := List.mem_map.mp e
            have := (hI.at' (hpa a ha).1).2.2
            have := (hpa a ha).2
            omega
        walk_at "n"
        refine j_put (ixN_of (by rw [hsD, List.length_map, hI.len]; exact hol)) ?_
        rw [hsD_set]
        walk_at "n"
        have hol2 : o < H.length := by rw [hI.len]; exact hol
        have grow : ∀ i, hv H i ≤ hv (H.set o (some m)) i := fun i => by
          by_cases e : o = i
          · subst e
            rw [hv_set hol2]
            omega
          · rw [hv_ne e]
            exact Nat.le_refl _
        refine hN3 _ ⟨H.set o (some m), rfl, hI.put w hk hao (by omega) hmh fun i _ => Nat.le_refl _, fun m' i' hm' e => Nat.le_trans (hJ m' i' hm' e) (grow i'), fun m' c' hm' e a ha => ?_⟩
        rcases Nat.lt_or_ge m' i with h | h
        · exact Nat.le_trans (hC m' c' h e a ha) (grow o)
        · have : m' = i := by omega
          subst this
          rw [hc] at e
          cases e
          rw [hv_set hol2]
          have := (hI.at' (hpa a ha).1).2.1
          have := hma a ha
          omega
      · obtain ⟨H, rfl, hI, hJ, hC⟩ := p
        walk_at "n"
        refine hN2 _ ⟨H, rfl, hI, fun m i hm e => ?_⟩
        rcases Nat.lt_or_ge m j with h | h
        · exact hJ m i h e
        · have : m = j := by omega
          subst this
          rw [ho] at e
          cases e
          refine mxL_bd fun x hx => ?_
          obtain ⟨a, ha, rfl⟩ := List.mem_map.mp hx
          obtain ⟨r', e1, c, hc, ha⟩ := mem_partsAt.mp ha
          rw [hr] at e1
          cases e1
          obtain ⟨i, hi⟩ := List.getElem?_of_mem hc
          exact hC i c (List.getElem?_eq_some_iff.mp hi).1 hi a ha
    · obtain ⟨H, rfl, hI, hJ⟩ := p
      walk_at "n"
      refine hN1 _ ⟨H, rfl, hI.len, hI.out, fun i ha => ?_⟩
      obtain ⟨v1, v2, v3⟩ := hI.inn i ha
      obtain ⟨u1, u2, u3⟩ := hI.at' ha
      obtain ⟨m, hm⟩ := List.getElem?_of_mem ((hmem i).mpr ha)
      have := hJ m i (by rw [nsD, List.length_map]; exact (List.getElem?_eq_some_iff.mp hm).1) hm
      refine ⟨hv H i, ?_, this, u3⟩
      unfold hv
      rw [v2]
      rfl
  · obtain ⟨H, rfl, hI⟩ := p
    rw [rangeD_len] at hI
    rw [hI.end]
    walk_at "n"
    exact q
end L3

namespace L3
open PySem PySem.Spec PyProof.Rows L2 PySem.SeqAt
def p_law_come_to : FS := fun as R => ∃ (s : Sg) (k : Nat) (l : List D), as = [.val (sigD s), .val (.int (k : Nat)), .val (.tuple l)] ∧ Wf s ∧ k < s.length ∧ okA l = true ∧ l.length ≤ 10 ∧ (∀ ks, comeD s k l = some ks → R (.n (nsD (k :: ks))) none) ∧ (comeD s k l = none → R (.d .none) none)
theorem m_law_come_to : MonoF p_law_come_to := fun as R R' h ⟨a, b, c, d, e, f, g, i, k1, k2⟩ => ⟨a, b, c, d, e, f, g, i, fun x y => h _ _ (k1 x y), fun x => h _ _ (k2 x)⟩
theorem l_law_come_to : ∀ as R, p_law_come_to as R → as.length = 3 := fun as R ⟨_, _, _, e, _⟩ => by rw [e]; rfl
def p_law_is_way : FS := fun as R => ∃ (s : Sg) (k : Nat) (v : D), as = [.val (sigD s), .val (.int (k : Nat)), .val v] ∧ GoodS s ∧ k < s.length ∧ okD v = true ∧ R (.d (.bool (isWay s k v))) none
theorem m_law_is_way : MonoF p_law_is_way := m_is_way
theorem l_law_is_way : ∀ as R, p_law_is_way as R → as.length = 3 := l_is_way
def p_law_further : FS := fun as R => ∃ (s : Sg) (k : Nat) (ws : List Wy), as = [.val (sigD s), .val (.int (k : Nat)), .val (.list (ws.map wyD))] ∧ GoodS s ∧ k < s.length ∧ ws.length ≤ 512 ∧ (∀ w ∈ ws, w.length ≤ 9 ∧ ∃ ks, comeN s k w = some ks) ∧ R (.n ((ws.flatMap (extW s k)).map wyD)) none
theorem m_law_further : MonoF p_law_further := fun as R R' h ⟨a, b, c, d, e, f, g, i, k⟩ => ⟨a, b, c, d, e, f, g, i, h _ _ k⟩
theorem l_law_further : ∀ as R, p_law_further as R → as.length = 3 := fun as R ⟨_, _, _, e, _⟩ => by rw [e]; rfl
def p_law_told_way : FS := fun as R => ∃ (s : Sg) (k : Nat), as = [.val (sigD s), .val (.int (k : Nat))] ∧ GoodS s ∧ k < s.length ∧ ¬ FinK s k ∧ R (.d (.tuple [.str "endless", wyD (toldW s k)])) none
theorem m_law_told_way : MonoF p_law_told_way := fun as R R' h ⟨a, b, c, d, e, f, k⟩ => ⟨a, b, c, d, e, f, h _ _ k⟩
theorem l_law_told_way : ∀ as R, p_law_told_way as R → as.length = 2 := fun as R ⟨_, _, e, _⟩ => by rw [e]; rfl
def p_law_are_heights : FS := fun as R => ∃ (s : Sg) (k : Nat) (v : D), as = [.val (sigD s), .val (.int (k : Nat)), .val v] ∧ Wf s ∧ k < s.length ∧ okD v = true ∧ R (.d (.bool (isHts s k v))) none
theorem m_law_are_heights : MonoF p_law_are_heights := m_are_heights
theorem l_law_are_heights : ∀ as R, p_law_are_heights as R → as.length = 3 := l_are_heights
/-- 0 signature, 1 kind, 2 way, 3 found, 4 step, 5 rows, 6 row -/
def w_law_come_to : WS :=
(wSeq (wSetO 3 (wLst (wCons (wVar 1) wNil)))
 (wSeq (wFor (wSrc (wVar 2)) (gNm 4)
 (wKill [4, 5] (wSeq (wIfS (wOr (wNot (wTest (wIsa "tuple" (wVar 4)))) (wOr (wTest (wBin sNe (wFrz (wCB (f1 sLen) (wCons (wVar 4) wNil))) (wC (.int 2)))) (wOr (wNot (wTest (wIsa "str" (wBin sIx (wVar 4) (wC (.int 0)))))) (wNot (wTest (wFrz (wCall p_law_is_integer (wCons (wBin sIx (wVar 4) (wC (.int 1))) wNil))))))))
 (wRet (wC .none))
 wNext)
 (wSeq (wLcSet 5 (wLc (wSrc (wBin sIx (wBin sIx (wVar 0) (wBin sIx (wVar 3) (wNeg (wC (.int 1))))) (wC (.int 1)))) (gNm 6) [6] (wTest (wBin sEq (wBin sIx (wVar 6) (wC (.int 0))) (wBin sIx (wVar 4) (wC (.int 0))))) (wVar 6)))
 (wSeq (wIfS (wOr (wTest (wBin sEq (wVar 5) (wFrz (wLst wNil)))) (wNot (wTest (wChain sLe sLt (wC (.int 0)) (wBin sIx (wVar 4) (wC (.int 1))) (wFrz (wCB (f1 sLen) (wCons (wBin sIx (wBin sIx (wVar 5) (wC (.int 0))) (wC (.int 1))) wNil)))))))
 (wRet (wC .none))
 wNext)
 (wDrop (wFrz (wBM "list" mAppend (wVar 3) (wCons (wBin sIx (wBin sIx (wBin sIx (wVar 5) (wC (.int 0))) (wC (.int 1))) (wBin sIx (wVar 4) (wC (.int 1)))) wNil)))))))))
 (wRetO 3)))
/-- 0 signature, 1 kind, 2 ways, 3 found, 4 way, 5 last, 6 name, 7 parts, 8 place -/
def w_law_further : WS :=
(wSeq (wSetO 3 (wLst wNil))
 (wSeq (wFor (wSrc (wVar 2)) (gNm 4)
 (wKill [4, 5, 6, 7] (wSeq (wSet 5 (wBin sIx (wFrz (wCall p_law_come_to (wCons (wVar 0) (wCons (wVar 1) (wCons (wVar 4) wNil))))) (wNeg (wC (.int 1)))))
 (wFor (wSrc (wBin sIx (wBin sIx (wVar 0) (wVar 5)) (wC (.int 1)))) (gTp [(gNm 6), (gNm 7)])
 (wKill [6, 7] (wDrop (wFrz (wBM "list" mExtend (wVar 3) (wCons (wFrz (wLc (wRng1 (wCons (wFrz (wCB (f1 sLen) (wCons (wVar 7) wNil))) wNil)) (gNm 8) [8] wYes (wBin sAdd (wVar 4) (wTup (wCons (wTup (wCons (wVar 6) (wCons (wVar 8) wNil))) wNil))))) wNil)))))))))
 (wRetO 3)))
/-- 0 signature, 1 kind, 2 way, 3 kinds -/
def w_law_is_way : WS :=
(wSeq (wIfS (wOr (wNot (wTest (wIsa "tuple" (wVar 2)))) (wTest (wBin sGt (wFrz (wCB (f1 sLen) (wCons (wVar 2) wNil))) (wC (.int 3)))))
 (wRet (wC (.bool false)))
 wNext)
 (wSeq (wSet 3 (wFrz (wCall p_law_come_to (wCons (wVar 0) (wCons (wVar 1) (wCons (wVar 2) wNil))))))
 (wRet (wAndV (wBin (sIsN not) (wVar 3) (wC .none)) (wOrV (wBin sEq (wBin sIx (wBin sIx (wVar 0) (wBin sIx (wVar 3) (wNeg (wC (.int 1))))) (wC (.int 0))) (wC (.str "open"))) (wBin sIn (wBin sIx (wVar 3) (wNeg (wC (.int 1)))) (wFrz (wSl (wVar 3) wNoPart (wPart (wNeg (wC (.int 1))))))))))))
/-- 0 signature, 1 kind, 2 ways, 3 turn, 4 some, 5 way -/
def w_law_told_way : WS :=
(wSeq (wSet 2 (wFrz (wLst (wCons (wTup wNil) wNil))))
 (wSeq (wFor (wRng1 (wCons (wC (.int 4)) wNil)) (gNm 3)
 (wKill [3, 4] (wSeq (wLcSet 4 (wLc (wSrc (wVar 2)) (gNm 5) [5] (wTest (wFrz (wCall p_law_is_way (wCons (wVar 0) (wCons (wVar 1) (wCons (wVar 5) wNil)))))) (wVar 5)))
 (wSeq (wIfS (wTest (wBin sNe (wVar 4) (wFrz (wLst wNil))))
 (wRet (wTup (wCons (wC (.str "endless")) (wCons (wBin sIx (wVar 4) (wC (.int 0))) wNil))))
 wNext)
 (wSet 2 (wFrz (wCall p_law_further (wCons (wVar 0) (wCons (wVar 1) (wCons (wVar 2) wNil))))))))))
 (wRet (wC .none))))
/-- 0 signature, 1 kind, 2 heights, 3 height, 4 other, 5 parts, 6 name, 7 row, 8 part -/
def w_law_are_heights : WS :=
(wSeq (wIfS (wOr (wNot (wTest (wIsa "tuple" (wVar 2)))) (wTest (wBin sNe (wFrz (wCB (f1 sLen) (wCons (wVar 2) wNil))) (wFrz (wCB (f1 sLen) (wCons (wVar 0) wNil))))))
 (wRet (wC (.bool false)))
 wNext)
 (wSeq (wFor (wSrc (wVar 2)) (gNm 3)
 (wKill [3] (wIfS (wAnd (wTest (wBin (sIsN not) (wVar 3) (wC .none))) (wOr (wNot (wTest (wFrz (wCall p_law_is_integer (wCons (wVar 3) wNil))))) (wNot (wTest (wChain sLe sLe (wC (.int 0)) (wVar 3) (wC (.int 2)))))))
 (wRet (wC (.bool false)))
 wNext)))
 (wSeq (wFor (wRng1 (wCons (wFrz (wCB (f1 sLen) (wCons (wVar 0) wNil))) wNil)) (gNm 4)
 (wKill [4, 5, 6, 7] (wIfS (wTest (wBin (sIsN not) (wBin sIx (wVar 2) (wVar 4)) (wC .none)))
 (wSeq (wSetO 5 (wLst wNil))
 (wSeq (wFor (wSrc (wBin sIx (wBin sIx (wVar 0) (wVar 4)) (wC (.int 1)))) (gTp [(gNm 6), (gNm 7)])
 (wKill [6, 7] (wDrop (wFrz (wBM "list" mExtend (wVar 5) (wCons (wFrz (wCB (f1 sListOf) (wCons (wVar 7) wNil))) wNil))))))
 (wSeq (wFreeze 5 (wIfS (wOr (wTest (wBin sEq (wBin sIx (wBin sIx (wVar 0) (wVar 4)) (wC (.int 0))) (wC (.str "open")))) (wTest (wFrz (wCB (f1 sAny) (wCons (wFrz (wLc (wSrc (wVar 5)) (gNm 8) [8] wYes (wBin (sIsN id) (wBin sIx (wVar 2) (wVar 8)) (wC .none)))) wNil)))))
 (wRet (wC (.bool false)))
 wNext))
 (wIfS (wTest (wFrz (wCB (f1 sAny) (wCons (wFrz (wLc (wSrc (wVar 5)) (gNm 8) [8] wYes (wBin sGe (wBin sIx (wVar 2) (wVar 8)) (wBin sIx (wVar 2) (wVar 4))))) wNil))))
 (wRet (wC (.bool false)))
 wNext))))
 wNext)))
 (wRet (wBin (sIsN not) (wBin sIx (wVar 2) (wVar 1)) (wC .none))))))

local macro_rules | `(tactic| walk_at "w2") => `(tactic| first
  | (with_reducible refine' i_allM ?_) | (with_reducible refine' i_anyM ?_))
local macro_rules | `(tactic| walk_at "w3") => `(tactic| first
  | ((with_reducible refine' j_ix ?h1 ?_); (case h1 => rfl))
  | ((with_reducible refine' i_asgK ?h1 ?_); (case h1 => rfl); (dsimp only [List.set_cons_succ, List.set_cons_zero]))
  | ((with_reducible refine' i_srcK ?h1 ?_); (case h1 => rfl))
  | ((with_reducible refine' i_enmK ?h1 ?_); (case h1 => rfl))
  | ((with_reducible refine' i_evD ?h1 ?h2 ?_); (case h1 => rfl); (case h2 => (intro l e; cases e; done)))
  | ((with_reducible refine' i_isD ?h1 ?_); (case h1 => assumption))
  | ((with_reducible refine' i_len ?h1 ?_); (case h1 => rfl)) | ((with_reducible refine' i_list ?h1 ?_); (case h1 => rfl)) | ((with_reducible refine' i_tuple ?h1 ?_); (case h1 => rfl)) | ((with_reducible refine' i_slL ?h1 ?_); (case h1 => rfl))
  | ((with_reducible refine' i_rngD ?h1 ?h2 ?_); (case h1 => (first | omega | decide)); (case h2 => (first | omega | decide))) | ((with_reducible refine' i_rngD2 ?h1 ?_); (case h1 => (first | omega | decide)))
  | ((with_reducible refine' i_lrgP ?h1 ?_); (case h1 => (apply RgOk.of_le <;> omega)))
  | ((with_reducible refine' j_put ?h1 ?_); (case h1 => rfl))
  | ((with_reducible refine' i_mul ?h1 ?_); (case h1 => (first | exact .inr (by decide) | exact .inl (by decide)))) | ((with_reducible refine' i_mod ?h1 ?_); (case h1 => (first | omega | decide)))
  | ((with_reducible refine' i_fdiv ?h1 ?_); (case h1 => (first | exact ⟨by decide, by decide⟩ | exact ⟨by omega, by omega⟩))) | ((with_reducible refine' i_pow ?h1 ?_); (case h1 => exact pow_ok (by decide)))
  | ((with_reducible refine' i_ifT ?h1 ?_); (case h1 => (first | rfl | assumption | (simp [isA]; done)))) | ((with_reducible refine' i_ifF ?h1 ?_); (case h1 => (first | rfl | assumption | (simp [isA]; done))))
  | ((with_reducible refine' j_pop ?h1 ?_); (case h1 => rfl))
  | ((with_reducible refine' j_append ?h1 ?_); (case h1 => (first | (simp [sizeLine_eq]; done) | (apply lt_line; omega)))))
local macro_rules | `(tactic| walk_at "w") => `(tactic| (try dsimp only [List.cons_append, List.nil_append, List.set_cons_succ, List.set_cons_zero, killAll]); repeat' (first | (with_reducible refine' Run.imp ?_) | walk_at "w3" | walk_at "w2" | fail "open"))
local macro_rules | `(tactic| walk_at "w0") => `(tactic| refine start_en ?_; simp only [startS, hasOwn, List.map_cons, List.map_nil, List.length_cons, List.length_nil, List.cons_append, List.nil_append, List.replicate, Nat.reduceAdd, Nat.reduceSub, Nat.zero_add])
local macro_rules | `(tactic| walk_at "n") => `(tactic| walk_at "w")

theorem findP_head (cs : List Cn) (n : Str) : findP cs n = (cs.filter fun c => decide (c.1 = n)).head?.map (·.2) := by
  unfold findP
  rw [List.head?_filter]
theorem v_law_come_to : ∀ as R, p_law_come_to as R → w_law_come_to (retEn (hasOwn as) R) (startS 7 as) := by
  rintro as R ⟨s, k, l, rfl, w, hk, hv, hl10, q1, q2⟩
  unfold w_law_come_to
  walk_at "w0"
  walk_at "n"
  refine forL_inv (P := fun i z => ∃ ks, z = [some (.val (sigD s)), some (.val (.int (k : Nat))), some (.val (.tuple l)), some (.own none (nsD (k :: ks))), none, none, none] ∧ comeD s k (l.take i) = some ks ∧ lastK k ks < s.length ∧ ks.length = i) (fun i x z hx p N hN => ?_) (fun z p => ?_) ⟨[], rfl, rfl, hk, rfl⟩
  · obtain ⟨ks, rfl, p1, p2, p3⟩ := p
    have hi := (List.getElem?_eq_some_iff.mp hx).1
    have htk : l.take (i + 1) = l.take i ++ [x] := by rw [List.take_add_one, hx]; rfl
    have hsn := comeD_snoc s x k _ ks p1
    rw [← htk] at hsn
    obtain ⟨r, hr⟩ : ∃ r, s[lastK k ks]? = some r := ⟨s[lastK k ks]'p2, List.getElem?_eq_getElem _⟩
    have wr := w.2.2 r (List.mem_of_getElem? hr)
    have wr4 := wr.1
    have hxo := okA_mem hv (List.mem_of_getElem? hx)
    have no : stepD s (lastK k ks) x = none → R (.d .none) none := fun e => by
      rw [e] at hsn
      have := comeD_none s (l.drop (i + 1)) k _ hsn
      rw [List.take_append_drop] at this
      exact q2 this
    walk_at "n"
    cases x with
    | tuple m =>
      walk_at "n"
      by_cases h2 : m.length = 2
      · obtain ⟨a, b, rfl⟩ : ∃ a b, m = [a, b] := by
          match m, h2 with
          | [a, b], _ => exact ⟨a, b, rfl⟩
        have hbo := okA_mem (show okA [a, b] = true from hxo) (show b ∈ [a, b] by simp)
        walk_at "n"
        cases a with
        | str n =>
          rw [stepD_two hr] at hsn no
          walk_at "n"
          refine ⟨b, rfl, hbo, ?_⟩
          walk_at "n"
          cases b with
          | int i' =>
            rw [show isInt (.int i') = true from rfl]
            walk_at "n"
            refine i_ix rfl (last_ns k ks) ?_
            walk_at "n"
            refine i_sig hr ?_
            walk_at "n"
            refine lcT_if (xs := r.2) (f := consD) (fun c => decide (c.1 = n)) consD (le_line (by omega)) (fun c hc N0 N1 h0 h1 => ?_) ?_
            · walk_at "n"
              by_cases e : c.1 = n
              · rw [decide_eq_true e]
                walk_at "n"
                exact h1 (decide_eq_true e) _ rfl
              · rw [decide_eq_false e]
                walk_at "n"
                exact h0 (decide_eq_false e) _ rfl
            rw [findP_head] at hsn no
            have hsub : ∀ c ∈ r.2.filter (fun c => decide (c.1 = n)), c ∈ r.2 := fun c hc => (List.mem_filter.mp hc).1
            have hfn : ∀ c ∈ r.2.filter (fun c => decide (c.1 = n)), c.1 = n := fun c hc => of_decide_eq_true (List.mem_filter.mp hc).2
            have hfp := findP_head r.2 n
            generalize (r.2.filter fun c => decide (c.1 = n)) = rows at hsn no hsub hfn hfp ⊢
            walk_at "n"
            refine i_eqNil (plainAll_map consD_plain _) ?_
            cases rows with
            | nil =>
              walk_at "n"
              refine no ?_
              simp
            | cons c rows =>
              rw [show ((c :: rows).map consD).isEmpty = false from rfl]
              have hcm := hsub c (by simp)
              have wc := wr.2 c hcm
              have wc2 := wc.2.1
              have hfq : findP r.2 n = some c.2 := hfp
              rw [List.map_cons]
              walk_at "n"
              have hnsl : (nsD c.2).length = c.2.length := by rw [nsD, List.length_map]
              by_cases h0 : 0 ≤ i'
              · rw [decide_eq_true h0]
                obtain ⟨j, rfl⟩ := Int.eq_ofNat_of_zero_le h0
                walk_at "n"
                rw [hnsl]
                by_cases hj : j < c.2.length
                · rw [decide_eq_true (show ((j : Nat) : Int) < ((c.2.length : Nat) : Int) by omega)]
                  have hsn : comeD s k (l.take (i + 1)) = some (ks ++ [c.2[j]]) := by
                    rw [hsn]
                    simp only [if_pos h0, Int.toNat_natCast, List.head?_cons, Option.map_some, List.getElem?_eq_getElem hj]
                  have hnx : nextK s (lastK k ks) n j = some c.2[j] := by
                    unfold nextK
                    rw [hr]
                    simp only [hfq, List.getElem?_eq_getElem hj]
                  have hll : (nsD (k :: ks)).length ≤ 100 := by
                    rw [nsD, List.length_map, List.length_cons]
                    omega
                  walk_at "n"
                  refine i_ix rfl (atI_nat (v := .int (c.2[j] : Nat)) (by rw [nsD, List.getElem?_map, List.getElem?_eq_getElem hj]; rfl)) ?_
                  walk_at "n"
                  exact hN _ ⟨ks ++ [c.2[j]], by simp [nsD], hsn, by rw [lastK_snoc]; exact (nextK_lt w hnx).2, by rw [List.length_append, List.length_singleton]; omega⟩
                · rw [decide_eq_false (show ¬ ((j : Nat) : Int) < ((c.2.length : Nat) : Int) by omega)]
                  walk_at "n"
                  refine no ?_
                  simp only [if_pos h0, Int.toNat_natCast, List.head?_cons, Option.map_some]
                  exact List.getElem?_eq_none (by omega)
              · rw [decide_eq_false h0]
                walk_at "n"
                refine no ?_
                simp only [if_neg h0]
          | _ => rw [show isInt _ = false from rfl]; walk_at "n"; exact no rfl
        | dict _ => walk_at "n"; refine i_isD (okA_mem (show okA _ = true from hxo) List.mem_cons_self) ?_; walk_at "n"; exact no rfl
        | _ => walk_at "n"; exact no rfl
      · rw [decide_eq_false (show ¬ ((m.length : Nat) : Int) = 2 by omega)]
        walk_at "n"
        exact no (stepD_len h2)
    | _ => walk_at "n"; exact no rfl
  · obtain ⟨ks, rfl, p1, p2, p3⟩ := p
    rw [List.take_length] at p1
    walk_at "n"
    exact q1 ks p1
theorem isWay_tup (s : Sg) (k : Nat) (l : List D) : isWay s k (.tuple l) = (decide (l.length ≤ 3) && match comeD s k l with
  | some ks => goodM s k ks
  | none => false) := rfl
theorem comeD_last {s : Sg} (w : Wf s) : ∀ {c : Nat} {l : List D} {ks : List Nat}, comeD s c l = some ks → c < s.length → lastK c ks < s.length
  | c, [], ks, h, hc => by
    cases h
    exact hc
  | c, x :: l, ks, h, hc => by
    rw [comeD] at h
    cases e : stepD s c x with
    | none => rw [e] at h; cases h
    | some y =>
      rw [e] at h
      simp only at h
      obtain ⟨ks', h3, rfl⟩ := Option.map_eq_some_iff.mp h
      rw [lastK_cons]
      refine comeD_last w h3 ?_
      unfold stepD at e
      split at e
      · split at e
        · exact (nextK_lt w e).2
        · cases e
      · cases e
theorem v_law_is_way : ∀ as R, p_law_is_way as R → w_law_is_way (retEn (hasOwn as) R) (startS 4 as) := by
  rintro as R ⟨s, k, v, rfl, g, hk, hv, q⟩
  have w := g.wf
  unfold w_law_is_way
  walk_at "w0"
  walk_at "n"
  cases v with
  | tuple l =>
    rw [isWay_tup] at q
    walk_at "n"
    by_cases h3 : l.length ≤ 3
    · rw [decide_eq_false (show ¬ (3 : Int) < (l.length : Nat) by omega)]
      rw [decide_eq_true h3, Bool.true_and] at q
      walk_at "n"
      refine ⟨s, k, l, rfl, w, hk, hv, by omega, fun ks e => ?_, fun e => ?_⟩
      · rw [e] at q
        have hlt := comeD_last w e hk
        obtain ⟨r, hr⟩ : ∃ r, s[lastK k ks]? = some r := ⟨s[lastK k ks]'hlt, List.getElem?_eq_getElem _⟩
        have q' : R (.d (.bool (r.1 || decide (lastK k ks ∈ (k :: ks).dropLast)))) none := by
          have e : goodM s k ks = (r.1 || decide (lastK k ks ∈ (k :: ks).dropLast)) := by
            unfold goodM opB
            rw [hr]
          rw [← e]
          exact q
        walk_at "n"
        refine i_ix rfl (last_ns k ks) ?_
        walk_at "n"
        refine i_sig hr ?_
        walk_at "n"
        cases ho : r.1 with
        | true =>
          rw [ho] at q'
          walk_at "n"
          exact q'
        | false =>
          rw [ho, Bool.false_or] at q'
          walk_at "n"
          refine i_ix rfl (last_ns k ks) ?_
          walk_at "n"
          rw [front_ns]
          refine i_inLs rfl rfl ?_
          walk_at "n"
          first | exact q' | skip
      · rw [e] at q
        walk_at "n"
        exact q
    · rw [decide_eq_true (show (3 : Int) < (l.length : Nat) by omega)]
      rw [decide_eq_false h3, Bool.false_and] at q
      walk_at "n"
      exact q
  | none => walk_at "n"; exact q
  | bool _ => walk_at "n"; exact q
  | int _ => walk_at "n"; exact q
  | str _ => walk_at "n"; exact q
  | list _ => walk_at "n"; exact q
  | dict _ => walk_at "n"; exact q
theorem wy_ok {s : Sg} (w : Wf s) : ∀ {c : Nat} {y : Wy} {ks : List Nat}, comeN s c y = some ks → okA (y.map spD) = true
  | c, [], ks, h => rfl
  | c, p :: y, ks, h => by
    rw [comeN] at h
    cases e : nextK s c p.1 p.2 with
    | none => rw [e] at h; cases h
    | some x =>
      rw [e] at h
      simp only at h
      obtain ⟨ks', h3, _⟩ := Option.map_eq_some_iff.mp h
      have hn : okD (spD p) = true := by
        unfold nextK at e
        cases hr : s[c]? with
        | none => rw [hr] at e; cases e
        | some r =>
          rw [hr] at e
          simp only at e
          cases hf : findP r.2 p.1 with
          | none => rw [hf] at e; cases e
          | some q =>
            obtain ⟨cn, hc, e1, _⟩ := findP_mem hf
            have := ((w.2.2 r (List.mem_of_getElem? hr)).2 cn hc).1
            rw [e1] at this
            simp only [isName, Bool.and_eq_true, decide_eq_true_eq] at this
            show (decide (p.1.length ≤ 1000) && (true && decide True)) = true
            rw [decide_eq_true (show p.1.length ≤ 1000 by omega)]
            rfl
      rw [List.map_cons, okA, hn, wy_ok w h3]
      rfl
theorem v_law_further : ∀ as R, p_law_further as R → w_law_further (retEn (hasOwn as) R) (startS 9 as) := by
  rintro as R ⟨s, k, ws, rfl, g, hk, hl, hws, q⟩
  have w := g.wf
  unfold w_law_further
  walk_at "w0"
  walk_at "n"
  refine forT_inv (xs := ws) (f := wyD) (P := fun i z => z = [some (.val (sigD s)), some (.val (.int (k : Nat))), some (.val (.list (ws.map wyD))), some (.own none (((ws.take i).flatMap (extW s k)).map wyD)), none, none, none, none, none]) (fun i v z hv p N hN => ?_) (fun z p => ?_) rfl
  · subst p
    obtain ⟨hv9, ks, hks⟩ := hws v (List.mem_of_getElem? hv)
    have hi := (List.getElem?_eq_some_iff.mp hv).1
    have hcd : comeD s k (v.map spD) = some ks := by rw [comeD_wy]; exact hks
    obtain ⟨b1, b2, b3⟩ := comeN_lt w hks hk
    obtain ⟨r, hr⟩ : ∃ r, s[lastK k ks]? = some r := ⟨s[lastK k ks]'b3, List.getElem?_eq_getElem _⟩
    have wr := w.2.2 r (List.mem_of_getElem? hr)
    have hfl : ((ws.take i).flatMap (extW s k)).length ≤ 8 * i := flat_ext w k _ (by rw [List.length_take]; omega)
    walk_at "n"
    refine ⟨s, k, v.map spD, rfl, w, hk, wy_ok w hks, by rw [List.length_map]; omega, fun ks2 e => ?_, fun e => by rw [hcd] at e; cases e⟩
    rw [hcd] at e
    cases e
    walk_at "n"
    refine i_ix rfl (last_ns k ks) ?_
    walk_at "n"
    refine i_sig hr ?_
    walk_at "n"
    refine forT_inv (xs := r.2) (f := consD) (P := fun j z => z = [some (.val (sigD s)), some (.val (.int (k : Nat))), some (.val (.list (ws.map wyD))), some (.own none (((ws.take i).flatMap (extW s k) ++ extC v (r.2.take j)).map wyD)), some (.val (wyD v)), some (.val (.int (lastK k ks : Nat))), none, none, none]) (fun j c z hc p N2 hN2 => ?_) (fun z p => ?_) (by rw [List.take_zero, extC, List.flatMap_nil, List.append_nil])
    · subst p
      have hcm := List.mem_of_getElem? hc
      have wc := wr.2 c hcm
      have wc2 := wc.2.1
      have hel : (extC v (r.2.take j)).length ≤ 8 := by
        rw [extC_len]
        exact partsL_len wr j
      walk_at "n"
      rw [show (nsD c.2).length = c.2.length by rw [nsD, List.length_map]]
      walk_at "n"
      refine lcN_map (n := c.2.length) (fun m => wyD (v ++ [(c.1, m)])) (le_line (by omega)) (fun m hm N3 hN3 => ?_) ?_
      · have e : wyD (v ++ [(c.1, m)]) = .tuple (v.map spD ++ [.tuple [.str c.1, .int (m : Nat)]]) := by
          rw [wyD, List.map_append]
          rfl
        rw [e] at hN3
        walk_at "n"
        unfold wyD
        refine i_addT (le_line (by rw [List.length_map]; simp; omega)) ?_
        walk_at "n"
        exact hN3 _ rfl
      · walk_at "n"
        refine j_extend (le_line (by rw [List.length_map, List.length_map, List.length_append, List.length_range]; omega)) ?_
        walk_at "n"
        refine hN2 _ ?_
        rw [extC_take hc, ← List.append_assoc, List.map_append (l₂ := (List.range c.2.length).map _), List.map_map]
        rfl
    · subst p
      rw [List.take_length]
      walk_at "n"
      refine hN _ ?_
      rw [List.take_add_one, hv, List.flatMap_append, Option.toList_some, List.flatMap_singleton, ext_of hks hr]
      rfl
  · subst p
    rw [List.take_length]
    walk_at "n"
    exact q
theorem filt_split {p : Wy → Bool} : ∀ {l : List Wy} {v : Wy} {r : List Wy}, l.filter p = v :: r → ∃ a b, l = a ++ v :: b ∧ (∀ x ∈ a, p x = false) ∧ p v = true
  | [], v, r, h => by cases h
  | x :: l, v, r, h => by
    rw [List.filter_cons] at h
    split at h
    · rename_i hp
      cases h
      exact ⟨[], l, rfl, fun y hy => (by cases hy), hp⟩
    · rename_i hp
      obtain ⟨a, b, rfl, h2, h3⟩ := filt_split h
      refine ⟨x :: a, b, rfl, fun y hy => ?_, h3⟩
      rcases List.mem_cons.mp hy with rfl | hy
      · simpa using hp
      · exact h2 y hy
theorem wy_plain : ∀ w : Wy, (wyD w).plain = true := fun w => by
  rw [wyD, PyData.plain]
  exact plainAll_map (fun _ => rfl) w
theorem v_law_told_way : ∀ as R, p_law_told_way as R → w_law_told_way (retEn (hasOwn as) R) (startS 6 as) := by
  rintro as R ⟨s, k, rfl, g, hk, hf, q⟩
  have w := g.wf
  have hlen : ∀ t, t ≤ 3 → (lvl s k t).length ≤ 512 := fun t ht => Nat.le_trans (lvl_len w k t) (by
    match t, ht with
    | 0, _ => decide
    | 1, _ => decide
    | 2, _ => decide
    | 3, _ => decide)
  unfold w_law_told_way
  walk_at "w0"
  walk_at "n"
  refine forL_inv (P := fun t z => z = [some (.val (sigD s)), some (.val (.int (k : Nat))), some (.val (.list ((lvl s k t).map wyD))), none, none, none] ∧ ∀ n, n < t → ∀ w ∈ lvl s k n, goodW s k w = false) (fun t x z hx p N hN => ?_) (fun z p => ?_) ⟨rfl, fun n hn => absurd hn (Nat.not_lt_zero n)⟩
  · obtain ⟨rfl, h1⟩ := p
    have ht : t ≤ 3 := by
      have := (List.getElem?_eq_some_iff.mp hx).1
      rw [rangeD_len] at this
      omega
    have hl := hlen t ht
    walk_at "n"
    refine lcT_if (xs := lvl s k t) (f := wyD) (goodW s k) wyD (le_line (by omega)) (fun v hv N0 N3 h0 h3 => ?_) ?_
    · obtain ⟨hvl, ks, hks⟩ := lvl_ok g t v hv
      have e : isWay s k (wyD v) = goodW s k v := by
        rw [wyD, isWay_tup, List.length_map, hvl, decide_eq_true ht, Bool.true_and, comeD_wy]
        rfl
      walk_at "n"
      refine ⟨s, k, wyD v, rfl, g, hk, by rw [wyD, okD]; exact wy_ok w hks, ?_⟩
      rw [e]
      walk_at "n"
      cases hg : goodW s k v with
      | true =>
        walk_at "n"
        exact h3 hg _ rfl
      | false =>
        walk_at "n"
        exact h0 hg _ rfl
    · have hfl := List.length_filter_le (goodW s k) (lvl s k t)
      walk_at "n"
      refine i_neNil (plainAll_map wy_plain _) ?_
      cases hF : (lvl s k t).filter (goodW s k) with
      | nil =>
        have hno : ∀ v ∈ lvl s k t, goodW s k v = false := fun v hv => by
          have := List.filter_eq_nil_iff.mp hF v hv
          simpa using this
        rw [show (([] : List Wy).map wyD).isEmpty = true from rfl]
        walk_at "n"
        refine ⟨s, k, lvl s k t, rfl, g, hk, by omega, fun v hv => ?_, ?_⟩
        · obtain ⟨hvl, hks⟩ := lvl_ok g t v hv
          exact ⟨by omega, hks⟩
        walk_at "n"
        refine hN _ ⟨rfl, fun n hn v hv => ?_⟩
        rcases Nat.lt_or_ge n t with h | h
        · exact h1 n h v hv
        · have : n = t := by omega
          subst this
          exact hno v hv
      | cons v rest =>
        rw [show ((v :: rest).map wyD).isEmpty = false from rfl, List.map_cons]
        obtain ⟨a, b, e1, e2, e3⟩ := filt_split hF
        rw [told_of ht h1 e1 e2 e3] at q
        walk_at "n"
        exact q
  · obtain ⟨rfl, h1⟩ := p
    rw [rangeD_len] at h1
    obtain ⟨n, hn, v, hv, hg⟩ := way_ex g hk hf
    rw [h1 n (by omega) v hv] at hg
    cases hg
theorem v_law_are_heights : ∀ as R, p_law_are_heights as R → w_law_are_heights (retEn (hasOwn as) R) (startS 9 as) := by
  rintro as R ⟨s, k, v, rfl, w, hk, hv, q⟩
  have hs3 := w.2.1
  unfold w_law_are_heights
  walk_at "w0"
  walk_at "n"
  cases v with
  | tuple l =>
    walk_at "n"
    rw [List.length_map]
    by_cases hl : l.length = s.length
    · rw [decide_eq_true (show ((l.length : Nat) : Int) = ((s.length : Nat) : Int) by omega)]
      walk_at "n"
      refine forL_inv (P := fun i z => z = [some (.val (sigD s)), some (.val (.int (k : Nat))), some (.val (.tuple l)), none, none, none, none, none, none] ∧ (l.take i).all hB = true) (fun i x z hx p N hN => ?_) (fun z p => ?_) ⟨rfl, rfl⟩
      · obtain ⟨rfl, hA⟩ := p
        have hxo := okA_mem (show okA l = true from hv) (List.mem_of_getElem? hx)
        have yes : hB x = true → (l.take (i + 1)).all hB = true := fun h => by
          rw [List.take_add_one, hx, List.all_append, hA]
          simp [h]
        have no : hB x = false → R (.d (.bool false)) none := fun h => by
          rw [isHts_no fun hs e o => by
            subst e
            have := List.all_eq_true.mp (hB_hs o.2.1) x (List.mem_of_getElem? hx)
            rw [h] at this
            cases this] at q
          exact q
        walk_at "n"
        by_cases e : x = .none
        · subst e
          walk_at "n"
          exact hN _ ⟨rfl, yes rfl⟩
        · rw [isNone_no e]
          walk_at "n"
          refine ⟨x, rfl, hxo, ?_⟩
          walk_at "n"
          cases x with
          | int i' =>
            rw [show isInt (.int i') = true from rfl]
            walk_at "n"
            have hb : hB (.int i') = (decide (0 ≤ i') && decide (i' ≤ 2)) := rfl
            by_cases h0 : 0 ≤ i'
            · rw [decide_eq_true h0] at hb ⊢
              walk_at "n"
              by_cases h2 : i' ≤ 2
              · rw [decide_eq_true h2] at hb ⊢
                walk_at "n"
                exact hN _ ⟨rfl, yes hb⟩
              · rw [decide_eq_false h2] at hb ⊢
                walk_at "n"
                exact no hb
            · rw [decide_eq_false h0] at hb ⊢
              walk_at "n"
              exact no hb
          | none => exact absurd rfl e
          | _ => rw [show isInt _ = false from rfl]; walk_at "n"; exact no rfl
      · obtain ⟨rfl, hA⟩ := p
        rw [List.take_length] at hA
        obtain ⟨hs, rfl, h2⟩ := hB_of hA
        have hhl : hs.length = s.length := by rw [← hl, hsD, List.length_map]
        rw [isHts_hs] at q
        walk_at "n"
        rw [List.length_map]
        walk_at "n"
        refine forN_inv (n := s.length) (P := fun i z => z = [some (.val (sigD s)), some (.val (.int (k : Nat))), some (.val (.tuple (hsD hs))), none, none, none, none, none, none] ∧ ∀ j, j < i → okAt s hs j) (fun j z hj p N hN => ?_) (fun z p => ?_) ⟨rfl, fun j hj => absurd hj (Nat.not_lt_zero j)⟩
        · obtain ⟨rfl, h3⟩ := p
          obtain ⟨r, hr⟩ : ∃ r, s[j]? = some r := ⟨s[j]'hj, List.getElem?_eq_getElem _⟩
          have wr := w.2.2 r (List.mem_of_getElem? hr)
          have hpl := partsL_len' wr
          have hpo : partsAt s j = partsL r := by unfold partsAt; rw [hr]
          have hlt : ∀ a ∈ partsAt s j, a < hs.length := fun a ha => by
            have := part_lt w (mem_partsAt.mp ha)
            omega
          have nx : okAt s hs j → ∀ i, i < j + 1 → okAt s hs i := fun h i hi => by
            rcases Nat.lt_or_ge i j with q | q
            · exact h3 i q
            · have : i = j := by omega
              rw [this]; exact h
          have ho : hs[j]? = some (hs[j]'(by omega)) := List.getElem?_eq_getElem _
          generalize hs[j]'(by omega) = o at ho
          have hat : hAt hs j = hD o := by rw [hAt, ho]; rfl
          walk_at "n"
          refine i_ix rfl (atI_nat (hsD_at (show j < hs.length by omega))) ?_
          rw [hat]
          cases o with
          | none =>
            rw [show hD none = PyData.none from rfl]
            walk_at "n"
            exact hN _ ⟨rfl, nx fun h e => by rw [ho] at e; cases e⟩
          | some h =>
            have no : ¬ okAt s hs j → R (.d (.bool false)) none := fun h => by
              rw [tfP_false fun o => h (o.2.2.2 j)] at q
              exact q
            rw [show hD (some h) = PyData.int (h : Nat) from rfl] at hat ⊢
            walk_at "n"
            refine i_sig hr ?_
            walk_at "n"
            refine forT_inv (xs := r.2) (f := consD) (P := fun i z => z = [some (.val (sigD s)), some (.val (.int (k : Nat))), some (.val (.tuple (hsD hs))), none, some (.val (.int (j : Nat))), some (.own none (nsD ((r.2.take i).flatMap Prod.snd))), none, none, none]) (fun i c z hc p N2 hN2 => ?_) (fun z p => ?_) rfl
            · subst p
              have wc := wr.2 c (List.mem_of_getElem? hc)
              have wc2 := wc.2.1
              have hl2 := partsL_len wr i
              walk_at "n"
              refine j_extend (le_line (by rw [nsD, nsD, List.length_map, List.length_map]; omega)) ?_
              walk_at "n"
              refine hN2 _ ?_
              rw [nsD_cat, flat_take hc]
            · subst p
              rw [List.take_length, show r.2.flatMap Prod.snd = partsL r from rfl, ← hpo]
              walk_at "n"
              refine i_sig hr ?_
              walk_at "n"
              cases hop : r.1 with
              | true =>
                walk_at "n"
                exact no fun h => (h _ ho).1 ⟨r, hr, hop⟩
              | false =>
                walk_at "n"
                rw [show nsD (partsAt s j) = (partsAt s j).map fun (a : Nat) => PyData.int (a : Nat) from rfl]
                refine lcT_map (xs := partsAt s j) (f := fun (a : Nat) => PyData.int (a : Nat)) (fun a => .bool (isNone (hAt hs a))) (le_line (by rw [hpo]; omega)) (fun a ha N3 hN3 => ?_) ?_
                · walk_at "n"
                  refine i_ix rfl (atI_nat (hsD_at (hlt a ha))) ?_
                  walk_at "n"
                  exact hN3 _ rfl
                walk_at "n"
                refine i_any (bs := (partsAt s j).map fun a => isNone (hAt hs a)) (by rw [List.map_map]; rfl) ?_
                rw [List.any_map]
                walk_at "n"
                cases hN0 : (partsAt s j).any (id ∘ fun a => isNone (hAt hs a)) with
                | true =>
                  walk_at "n"
                  refine no fun hk2 => ?_
                  obtain ⟨a, ha, e⟩ := List.any_eq_true.mp hN0
                  obtain ⟨b, e1, _⟩ := (hk2 _ ho).2 a (mem_partsAt.mp ha)
                  have e : isNone (hAt hs a) = true := e
                  rw [hAt, e1] at e
                  cases e
                | false =>
                  have hsm : ∀ a ∈ partsAt s j, ∃ b, hs[a]? = some (some b) := fun a ha => by
                    have e : isNone (hAt hs a) = false := by
                      cases e : isNone (hAt hs a) with
                      | false => rfl
                      | true =>
                        have := List.any_eq_false.mp hN0 a ha
                        exact absurd e this
                    have e2 : hs[a]? = some (hs[a]'(hlt a ha)) := List.getElem?_eq_getElem _
                    cases e3 : hs[a]'(hlt a ha) with
                    | none => rw [hAt, e2, e3] at e; cases e
                    | some b => exact ⟨b, by rw [e2, e3]⟩
                  walk_at "n"
                  refine lcT_map (xs := partsAt s j) (f := fun (a : Nat) => PyData.int (a : Nat)) (fun a => .bool (!lowB hs h a)) (le_line (by rw [hpo]; omega)) (fun a ha N3 hN3 => ?_) ?_
                  · obtain ⟨b, eb⟩ := hsm a ha
                    have hN4 := hN3
                    unfold lowB at hN4
                    rw [eb, Option.getD_some] at hN4
                    simp only at hN4
                    walk_at "n"
                    refine i_ix rfl (atI_nat (hsD_at (hlt a ha))) ?_
                    rw [show hAt hs a = PyData.int (b : Nat) by rw [hAt, eb]; rfl]
                    walk_at "n"
                    refine i_ix rfl (atI_nat (hsD_at (show j < hs.length by omega))) ?_
                    rw [hat]
                    walk_at "n"
                    rw [show decide (((h : Nat) : Int) ≤ ((b : Nat) : Int)) = !decide (b < h) from by
                      rw [Bool.eq_iff_iff]
                      simp only [decide_eq_true_eq, Bool.not_eq_true', decide_eq_false_iff_not]
                      omega]
                    exact hN4 _ rfl
                  walk_at "n"
                  refine i_any (bs := (partsAt s j).map fun a => !lowB hs h a) (by rw [List.map_map]; rfl) ?_
                  rw [List.any_map]
                  walk_at "n"
                  cases hB2 : (partsAt s j).any (id ∘ fun a => !lowB hs h a) with
                  | true =>
                    walk_at "n"
                    refine no fun hk2 => ?_
                    obtain ⟨a, ha, e⟩ := List.any_eq_true.mp hB2
                    have e : (!lowB hs h a) = true := e
                    rw [lowB_iff.mpr ((hk2 _ ho).2 a (mem_partsAt.mp ha))] at e
                    cases e
                  | false =>
                    walk_at "n"
                    refine hN _ ⟨rfl, nx fun h' e => ?_⟩
                    rw [ho] at e
                    cases e
                    refine ⟨fun ⟨r', e1, e2⟩ => ?_, fun a pa => lowB_iff.mp ?_⟩
                    · rw [hr] at e1
                      cases e1
                      rw [hop] at e2
                      cases e2
                    · have e := List.any_eq_false.mp hB2 a (mem_partsAt.mpr pa)
                      have e : ¬ (!lowB hs h a) = true := e
                      cases el : lowB hs h a with
                      | true => rfl
                      | false => rw [el] at e; exact absurd rfl e
        · obtain ⟨rfl, h3⟩ := p
          walk_at "n"
          refine i_ix rfl (atI_nat (hsD_at (show k < hs.length by omega))) ?_
          walk_at "n"
          rw [show (!isNone (hAt hs k)) = tfP (okH s k hs) from ?_]
          · exact q
          have hkk : hs[k]? = some (hs[k]'(by omega)) := List.getElem?_eq_getElem _
          cases e : hs[k]'(by omega) with
          | none =>
            rw [hAt, hkk, e, tfP_false fun o => ?_]
            · rfl
            · obtain ⟨x, hx⟩ := o.2.2.1
              rw [hkk, e] at hx
              cases hx
          | some x =>
            rw [hAt, hkk, e, tfP_true ⟨hhl, h2, ⟨x, by rw [hkk, e]⟩, fun i h e => h3 i (by have := (List.getElem?_eq_some_iff.mp e).1; omega) h e⟩]
            rfl
    · rw [decide_eq_false (show ¬ ((l.length : Nat) : Int) = ((s.length : Nat) : Int) by omega)]
      walk_at "n"
      rw [isHts_no fun hs e o => by
        subst e
        exact hl (by rw [hsD, List.length_map]; exact o.1)] at q
      exact q
  | none => walk_at "n"; exact q
  | bool _ => walk_at "n"; exact q
  | int _ => walk_at "n"; exact q
  | str _ => walk_at "n"; exact q
  | list _ => walk_at "n"; exact q
  | dict _ => walk_at "n"; exact q
end L3

namespace L3
open PySem PySem.Spec PyProof.Rows L2 PySem.SeqAt
def p_law_all_tuples : FS := fun as R => ∃ (n : Nat), as = [.val (.list (List.replicate n (.list [.none, .int 0, .int 1, .int 2]))), .val (.int 64)] ∧ n ≤ 10 ∧ ∀ X : List (List D), X.length ≤ 64 → (∀ x ∈ X, okA x = true) → R (.d (.list (X.map PyData.tuple))) none
theorem m_law_all_tuples : MonoF p_law_all_tuples := fun as R R' h ⟨a, b, c, k⟩ => ⟨a, b, c, fun x y z => h _ _ (k x y z)⟩
theorem l_law_all_tuples : ∀ as R, p_law_all_tuples as R → as.length = 2 := fun as R ⟨_, e, _⟩ => by rw [e]; rfl
def p_law_spoilt_way : FS := fun as R => ∃ (st : List D) (s : Sg) (w : Wy), as = [.own st, .val (sigD s), .val (wyD w)] ∧ isStrm st ∧ Wf s ∧ okA (w.map spD) = true ∧ w.length ≤ 10 ∧ ∀ d st', okD d = true → isStrm st' → R (.d d) (some st')
theorem m_law_spoilt_way : MonoF p_law_spoilt_way := fun as R R' h ⟨a, b, c, d, e, f, g, i, k⟩ => ⟨a, b, c, d, e, f, g, i, fun x y z u => h _ _ (k x y z u)⟩
theorem l_law_spoilt_way : ∀ as R, p_law_spoilt_way as R → as.length = 3 := fun as R ⟨_, _, _, e, _⟩ => by rw [e]; rfl
def p_law_asked : FS := fun as R => ∃ (st : List D) (s : Sg) (k : Nat), as = [.own st, .val (sigD s), .val (.int (k : Nat))] ∧ isStrm st ∧ GoodS s ∧ k < s.length ∧ ∀ st', isStrm st' → R (.d (.bool true)) (some st')
theorem m_law_asked : MonoF p_law_asked := fun as R R' h ⟨a, b, c, d, e, f, g, k⟩ => ⟨a, b, c, d, e, f, g, fun x y => h _ _ (k x y)⟩
theorem l_law_asked : ∀ as R, p_law_asked as R → as.length = 3 := fun as R ⟨_, _, _, e, _⟩ => by rw [e]; rfl
abbrev p_law : FS := pLaw
theorem l_law : ∀ as R, p_law as R → as.length = 1 := fun as R ⟨a, e, _⟩ => by rw [e]; rfl
/-- 0 lists, 1 cap, 2 found, 3 rows, 4 further, 5 one, 6 item -/
def w_law_all_tuples : WS :=
(wSeq (wSet 2 (wFrz (wLst (wCons (wTup wNil) wNil))))
 (wSeq (wFor (wSrc (wVar 0)) (gNm 3)
 (wKill [3, 4, 5] (wSeq (wSetO 4 (wLst wNil))
 (wSeq (wFor (wSrc (wVar 2)) (gNm 5)
 (wKill [5] (wDrop (wFrz (wBM "list" mExtend (wVar 4) (wCons (wFrz (wLc (wSrc (wVar 3)) (gNm 6) [6] wYes (wBin sAdd (wVar 5) (wTup (wCons (wVar 6) wNil))))) wNil))))))
 (wSet 2 (wFrz (wSl (wVar 4) wNoPart (wPart (wVar 1)))))))))
 (wRet (wVar 2))))
/-- 0 stream, 1 signature, 2 way, 3 names, 4 how, 5 rows, 6 step, 7 options, 8 row -/
def w_law_spoilt_way : WS :=
(wSeq (wSetO 3 (wLst (wCons (wC (.str "none")) wNil)))
 (wSeq (wFor (wSrc (wVar 1)) (gTp [(gNm 4), (gNm 5)])
 (wKill [4, 5] (wDrop (wFrz (wBM "list" mExtend (wVar 3) (wCons (wFrz (wLc (wSrc (wVar 5)) (gNm 8) [8] wYes (wBin sIx (wVar 8) (wC (.int 0))))) wNil))))))
 (wSeq (wFreeze 3 (wSet 6 (wTup (wCons (wFrz (wCall p_law_pick (wCons (wVar 0) (wCons (wVar 3) wNil)))) (wCons (wBin sSub (wFrz (wCall p_law_next (wCons (wVar 0) (wCons (wC (.int 3)) wNil)))) (wC (.int 1))) wNil)))))
 (wSeq (wSet 7 (wFrz (wLst (wCons (wBin sAdd (wVar 2) (wTup (wCons (wVar 6) wNil))) (wCons (wBin sAdd (wFrz (wSl (wVar 2) wNoPart (wPart (wNeg (wC (.int 1)))))) (wTup (wCons (wVar 6) wNil))) (wCons (wBin sAdd (wTup (wCons (wVar 6) wNil)) (wFrz (wSl (wVar 2) (wPart (wC (.int 1))) wNoPart))) (wCons (wBin sAdd (wVar 2) (wTup (wCons (wTup (wCons (wBin sIx (wVar 6) (wC (.int 0))) (wCons (wC (.bool true)) wNil))) wNil))) (wCons (wBin sAdd (wVar 2) (wVar 2)) (wCons (wFrz (wCB (f1 sListOf) (wCons (wVar 2) wNil))) (wCons (wFrz (wSl (wVar 2) (wPart (wC (.int 1))) wNoPart)) wNil))))))))))
 (wSeq (wSet 7 (wBin sAdd (wVar 7) (wFrz (wLst (wCons (wBin sAdd (wVar 2) (wTup (wCons (wBin sIx (wVar 6) (wC (.int 0))) wNil))) (wCons (wBin sAdd (wVar 2) (wTup (wCons (wFrz (wCB (f1 sListOf) (wCons (wVar 6) wNil))) wNil))) (wCons (wBin sAdd (wVar 2) (wTup (wCons (wBin sAdd (wVar 6) (wTup (wCons (wC (.int 0)) wNil))) wNil))) (wCons (wBin sAdd (wVar 2) (wTup (wCons (wTup (wCons (wBin sIx (wVar 6) (wC (.int 0))) (wCons (wC .none) wNil))) wNil))) (wCons (wC .none) (wCons (wC (.int 0)) (wCons (wVar 6) wNil)))))))))))
 (wRetR (wCall p_law_pick (wCons (wVar 0) (wCons (wVar 7) wNil)))))))))

local macro_rules | `(tactic| walk_at "w2") => `(tactic| first
  | (with_reducible refine' i_allM ?_) | (with_reducible refine' i_anyM ?_))
local macro_rules | `(tactic| walk_at "w3") => `(tactic| first
  | ((with_reducible refine' j_ix ?h1 ?_); (case h1 => rfl))
  | ((with_reducible refine' i_asgK ?h1 ?_); (case h1 => rfl); (dsimp only [List.set_cons_succ, List.set_cons_zero]))
  | ((with_reducible refine' i_srcK ?h1 ?_); (case h1 => rfl))
  | ((with_reducible refine' i_enmK ?h1 ?_); (case h1 => rfl))
  | ((with_reducible refine' i_evD ?h1 ?h2 ?_); (case h1 => rfl); (case h2 => (intro l e; cases e; done)))
  | ((with_reducible refine' i_isD ?h1 ?_); (case h1 => assumption))
  | ((with_reducible refine' i_len ?h1 ?_); (case h1 => rfl)) | ((with_reducible refine' i_list ?h1 ?_); (case h1 => rfl)) | ((with_reducible refine' i_tuple ?h1 ?_); (case h1 => rfl)) | ((with_reducible refine' i_slL ?h1 ?_); (case h1 => rfl))
  | ((with_reducible refine' i_rngD ?h1 ?h2 ?_); (case h1 => (first | omega | decide)); (case h2 => (first | omega | decide))) | ((with_reducible refine' i_rngD2 ?h1 ?_); (case h1 => (first | omega | decide)))
  | ((with_reducible refine' i_lrgP ?h1 ?_); (case h1 => (apply RgOk.of_le <;> omega)))
  | ((with_reducible refine' j_put ?h1 ?_); (case h1 => rfl))
  | ((with_reducible refine' i_mul ?h1 ?_); (case h1 => (first | exact .inr (by decide) | exact .inl (by decide)))) | ((with_reducible refine' i_mod ?h1 ?_); (case h1 => (first | omega | decide)))
  | ((with_reducible refine' i_fdiv ?h1 ?_); (case h1 => (first | exact ⟨by decide, by decide⟩ | exact ⟨by omega, by omega⟩))) | ((with_reducible refine' i_pow ?h1 ?_); (case h1 => exact pow_ok (by decide)))
  | ((with_reducible refine' i_ifT ?h1 ?_); (case h1 => (first | rfl | assumption | (simp [isA]; done)))) | ((with_reducible refine' i_ifF ?h1 ?_); (case h1 => (first | rfl | assumption | (simp [isA]; done))))
  | ((with_reducible refine' j_pop ?h1 ?_); (case h1 => rfl))
  | ((with_reducible refine' j_append ?h1 ?_); (case h1 => (first | (simp [sizeLine_eq]; done) | (apply lt_line; omega)))))
local macro_rules | `(tactic| walk_at "w") => `(tactic| (try dsimp only [List.cons_append, List.nil_append, List.set_cons_succ, List.set_cons_zero, killAll]); repeat' (first | (with_reducible refine' Run.imp ?_) | walk_at "w3" | walk_at "w2" | fail "open"))
local macro_rules | `(tactic| walk_at "w0") => `(tactic| refine start_en ?_; simp only [startS, hasOwn, List.map_cons, List.map_nil, List.length_cons, List.length_nil, List.cons_append, List.nil_append, List.replicate, Nat.reduceAdd, Nat.reduceSub, Nat.zero_add])
local macro_rules | `(tactic| walk_at "n") => `(tactic| walk_at "w")

theorem okA_of' : ∀ {l : List D}, (∀ d ∈ l, okD d = true) → okA l = true
  | [], _ => by simp [okA]
  | x :: r, h => by
    simp only [okA, Bool.and_eq_true]
    exact ⟨h x (by simp), okA_of' fun d hd => h d (by simp [hd])⟩
theorem okA_app' {l m : List D} (h : okA l = true) (hm : okA m = true) : okA (l ++ m) = true := okA_of' fun d hd => by
  rcases List.mem_append.mp hd with hd | hd
  · exact okA_mem h hd
  · exact okA_mem hm hd
theorem okA_cut' {l : List D} (h : okA l = true) (lo hi : Option Int) : okA (cutD l lo hi) = true := okA_of' fun d hd => by
  unfold cutD at hd
  exact okA_mem h (List.mem_of_mem_drop (List.mem_of_mem_take hd))
theorem cutD_le' (l : List D) (lo hi : Option Int) : (cutD l lo hi).length ≤ l.length := by
  unfold cutD
  rw [List.length_take, List.length_drop]
  omega
theorem v_law_all_tuples : ∀ as R, p_law_all_tuples as R → w_law_all_tuples (retEn (hasOwn as) R) (startS 7 as) := by
  rintro as R ⟨n, rfl, hn, q⟩
  unfold w_law_all_tuples
  walk_at "w0"
  walk_at "n"
  refine forL_inv (P := fun i z => ∃ X : List (List D), z = [some (.val (.list (List.replicate n (.list [.none, .int 0, .int 1, .int 2])))), some (.val (.int 64)), some (.val (.list (X.map PyData.tuple))), none, none, none, none] ∧ X.length ≤ 64 ∧ ∀ x ∈ X, okA x = true ∧ x.length ≤ i) (fun i x z hx p N hN => ?_) (fun z p => ?_) ⟨[[]], rfl, by simp, fun x hx => by rw [List.mem_singleton.mp hx]; exact ⟨rfl, Nat.zero_le _⟩⟩
  · obtain ⟨X, rfl, h1, h2⟩ := p
    have hi := (List.getElem?_eq_some_iff.mp hx).1
    rw [List.length_replicate] at hi
    have hx2 := List.eq_of_mem_replicate (List.mem_of_getElem? hx)
    subst hx2
    walk_at "n"
    refine forT_inv (xs := X) (f := PyData.tuple) (P := fun j z => ∃ Y : List (List D), z = [some (.val (.list (List.replicate n (.list [.none, .int 0, .int 1, .int 2])))), some (.val (.int 64)), some (.val (.list (X.map PyData.tuple))), some (.val (.list [.none, .int 0, .int 1, .int 2])), some (.own none (Y.map PyData.tuple)), none, none] ∧ Y.length = 4 * j ∧ ∀ x ∈ Y, okA x = true ∧ x.length ≤ i + 1) (fun j x z hx p N1 hN1 => ?_) (fun z p => ?_) ⟨[], rfl, rfl, fun x hx => (by cases hx)⟩
    · obtain ⟨Y, rfl, h3, h4⟩ := p
      have hj := (List.getElem?_eq_some_iff.mp hx).1
      obtain ⟨x1, x2⟩ := h2 x (List.mem_of_getElem? hx)
      walk_at "n"
      rw [show [PyData.none, .int 0, .int 1, .int 2] = ([PyData.none, .int 0, .int 1, .int 2] : List D).map id from rfl]
      refine lcT_map (xs := [PyData.none, .int 0, .int 1, .int 2]) (f := id) (fun d => .tuple (x ++ [d])) (le_line (by simp)) (fun d hd N2 hN2 => ?_) ?_
      · walk_at "n"
        refine i_addT (le_line (by simp; omega)) ?_
        walk_at "n"
        exact hN2 _ rfl
      · walk_at "n"
        refine j_extend (le_line (by rw [List.length_map, List.length_map]; simp; omega)) ?_
        walk_at "n"
        refine hN1 _ ⟨Y ++ [x ++ [.none], x ++ [.int 0], x ++ [.int 1], x ++ [.int 2]], by rw [List.map_append]; rfl, by rw [List.length_append, h3]; rfl, fun y hy => ?_⟩
        rcases List.mem_append.mp hy with hy | hy
        · exact h4 y hy
        · simp only [List.mem_cons, List.not_mem_nil, or_false] at hy
          rcases hy with rfl | rfl | rfl | rfl <;> exact ⟨okA_app' x1 rfl, by simp; omega⟩
    · obtain ⟨Y, rfl, h3, h4⟩ := p
      walk_at "n"
      rw [cutD_to (by omega), show (64 : Int).toNat = 64 from rfl, ← List.map_take]
      refine hN _ ⟨Y.take 64, rfl, by rw [List.length_take]; omega, fun y hy => h4 y (List.mem_of_mem_take hy)⟩
  · obtain ⟨X, rfl, h1, h2⟩ := p
    walk_at "n"
    exact q X h1 fun x hx => (h2 x hx).1
theorem v_law_spoilt_way : ∀ as R, p_law_spoilt_way as R → w_law_spoilt_way (retEn (hasOwn as) R) (startS 9 as) := by
  rintro as R ⟨st, s, w, rfl, hst, hs, hw, hl, q⟩
  have hs3 := hs.2.1
  unfold w_law_spoilt_way
  walk_at "w0"
  walk_at "n"
  refine forT_inv (xs := s) (f := rowD) (P := fun i z => ∃ T : List Str, z = [some (.own (some 0) st), some (.val (sigD s)), some (.val (wyD w)), some (.own none (txs T)), none, none, none, none, none] ∧ T ≠ [] ∧ T.length ≤ 1 + 4 * i ∧ ∀ t ∈ T, t.length ≤ 1000) (fun i r z hr p N hN => ?_) (fun z p => ?_) ⟨["none"], rfl, by simp, by simp, fun t ht => by rw [List.mem_singleton.mp ht]; decide⟩
  · obtain ⟨T, rfl, h1, h2, h3⟩ := p
    have hi := (List.getElem?_eq_some_iff.mp hr).1
    have wr := hs.2.2 r (List.mem_of_getElem? hr)
    have wr4 := wr.1
    walk_at "n"
    refine lcT_map (xs := r.2) (f := consD) (fun c => .str c.1) (le_line (by omega)) (fun c hc N1 hN1 => ?_) ?_
    · walk_at "n"
      exact hN1 _ rfl
    · walk_at "n"
      refine j_extend (le_line (by rw [List.length_map, txs, List.length_map]; omega)) ?_
      walk_at "n"
      refine hN _ ⟨T ++ r.2.map (·.1), ?_, by simp [h1], by rw [List.length_append, List.length_map]; omega, fun t ht => ?_⟩
      · rw [txs, txs, List.map_append, List.map_map]
        rfl
      · rcases List.mem_append.mp ht with ht | ht
        · exact h3 t ht
        · obtain ⟨c, hc, rfl⟩ := List.mem_map.mp ht
          have := (wr.2 c hc).1
          simp only [isName, Bool.and_eq_true, decide_eq_true_eq] at this
          omega
  · obtain ⟨T, rfl, h1, h2, h3⟩ := p
    have hne : txs T ≠ [] := fun e => h1 (List.map_eq_nil_iff.mp e)
    have htl : (txs T).length ≤ 20 := by rw [txs, List.length_map]; omega
    walk_at "n"
    refine ⟨st, _, rfl, hst, hne, by omega, fun d st hd hst => ?_⟩
    obtain ⟨t, ht, rfl⟩ := List.mem_map.mp hd
    have ht3 := h3 t ht
    walk_at "n"
    refine ⟨st, _, rfl, hst, by decide, by decide, fun d st hst hd0 hd1 => ?_⟩
    have hwl : (w.map spD).length ≤ 10 := by rw [List.length_map]; exact hl
    unfold wyD
    generalize w.map spD = W at hw hwl
    have c1 := cutD_le' W (some 1) none
    have c2 := cutD_le' W none (some (-1))
    walk_at "n"
    refine i_addT (le_line (by (try simp only [List.length_append, List.length_cons, List.length_nil]); omega)) ?_
    walk_at "n"
    refine i_addT (le_line (by (try simp only [List.length_append, List.length_cons, List.length_nil]); omega)) ?_
    walk_at "n"
    refine i_addT (le_line (by (try simp only [List.length_append, List.length_cons, List.length_nil]); omega)) ?_
    walk_at "n"
    refine i_addT (le_line (by (try simp only [List.length_append, List.length_cons, List.length_nil]); omega)) ?_
    walk_at "n"
    refine i_addT (le_line (by (try simp only [List.length_append, List.length_cons, List.length_nil]); omega)) ?_
    walk_at "n"
    refine i_addT (le_line (by (try simp only [List.length_append, List.length_cons, List.length_nil]); omega)) ?_
    walk_at "n"
    refine i_addT (le_line (by (try simp only [List.length_append, List.length_cons, List.length_nil]); omega)) ?_
    walk_at "n"
    refine i_addT (le_line (by (try simp only [List.length_append, List.length_cons, List.length_nil]); omega)) ?_
    walk_at "n"
    refine i_addT (le_line (by (try simp only [List.length_append, List.length_cons, List.length_nil]); omega)) ?_
    walk_at "n"
    refine i_addT (le_line (by (try simp only [List.length_append, List.length_cons, List.length_nil]); omega)) ?_
    walk_at "n"
    refine i_addL LstIs.e LstIs.e (le_line (by simp)) ?_
    walk_at "n"
    refine ⟨st, _, rfl, hst, by simp, by simp, fun d3 st3 hd3 hst3 => ?_⟩
    walk_at "n"
    have ht : okD (.str t) = true := decide_eq_true ht3
    have hsp : ∀ x : D, okD x = true → okD (.tuple [.str t, x]) = true := fun x h => by
      simp only [okD, okA, h, Bool.and_true, Bool.true_and] at ht ⊢
      simpa using ht
    have one : ∀ x : D, okD x = true → okA [x] = true := fun x h => by
      simp only [okA, h, Bool.true_and]
      rfl
    have hst' := hsp (.int (d - 1)) rfl
    refine q d3 st3 ?_ hst3
    simp only [List.mem_append, List.mem_cons, List.not_mem_nil, or_false] at hd3
    rcases hd3 with rfl | rfl | rfl | rfl | rfl | rfl | rfl | rfl | rfl | rfl | rfl | rfl | rfl | rfl
    · exact okA_app' hw (one _ hst')
    · exact okA_app' (okA_cut' hw _ _) (one _ hst')
    · exact okA_app' (one _ hst') (okA_cut' hw _ _)
    · exact okA_app' hw (one _ (hsp _ rfl))
    · exact okA_app' hw hw
    · exact hw
    · exact okA_cut' hw _ _
    · exact okA_app' hw (one _ ht)
    · exact okA_app' hw (one _ hst')
    · exact okA_app' hw (one _ (okA_app' (l := [.str t, .int (d - 1)]) hst' rfl))
    · exact okA_app' hw (one _ (hsp _ rfl))
    · rfl
    · rfl
    · exact hst'
end L3

namespace L3
open PySem PySem.Spec PyProof.Rows L2 PySem.SeqAt
def w_asked_f : WS :=
 (wIfS (wTest (wBin sLt (wVar 7) (wC (.int 3))))
 (wSet 6 (wFrz (wCall p_law_further (wCons (wVar 1) (wCons (wVar 2) (wCons (wVar 6) wNil))))))
 wNext)
def w_asked_t : WS :=
 (wSeq (wIfS (wNot (wTest (wFrz (wCall p_law_same (wCons (wFrz (wCall p_finite_evidence (wCons (wVar 1) (wCons (wVar 2) wNil)))) (wCons (wVar 4) wNil))))))
 (wRet (wC (.bool false)))
 wNext)
 (wSeq (wFor (wSrc (wFrz (wCall p_law_all_tuples (wCons (wFrz (wLc (wSrc (wVar 1)) (gNm 11) [11] wYes (wFrz (wLst (wCons (wC .none) (wCons (wC (.int 0)) (wCons (wC (.int 1)) (wCons (wC (.int 2)) wNil)))))))) (wCons (wC (.int 64)) wNil))))) (gNm 5)
 (wKill [5] (wIfS (wNot (wTest (wFrz (wCall p_law_same (wCons (wFrz (wCall p_is_finite_evidence (wCons (wVar 1) (wCons (wVar 2) (wCons (wTup (wCons (wC (.str "finite")) (wCons (wVar 5) wNil))) wNil))))) (wCons (wFrz (wCall p_law_are_heights (wCons (wVar 1) (wCons (wVar 2) (wCons (wVar 5) wNil))))) wNil))))))
 (wRet (wC (.bool false)))
 wNext)))
 (wSeq (wFor (wSrc (wTup (wCons (wC .none) (wCons (wTup wNil) (wCons (wTup (wCons (wC (.int 0)) (wCons (wC (.int 1)) (wCons (wC (.int 2)) (wCons (wC (.int 2)) wNil))))) (wCons (wFrz (wSl (wFrz (wLst (wCons (wC (.int 0)) (wCons (wC (.int 0)) (wCons (wC (.int 0)) wNil))))) wNoPart (wPart (wFrz (wCB (f1 sLen) (wCons (wVar 1) wNil)))))) (wCons (wFrz (wSl (wTup (wCons (wC (.int 0)) (wCons (wC (.int 1)) (wCons (wC (.int 3)) wNil)))) (wPart (wNeg (wFrz (wCB (f1 sLen) (wCons (wVar 1) wNil))))) wNoPart)) (wCons (wBin sMulT (wTup (wCons (wC (.bool true)) wNil)) (wFrz (wCB (f1 sLen) (wCons (wVar 1) wNil)))) wNil)))))))) (gNm 5)
 (wKill [5] (wIfS (wNot (wTest (wFrz (wCall p_law_same (wCons (wFrz (wCall p_is_finite_evidence (wCons (wVar 1) (wCons (wVar 2) (wCons (wTup (wCons (wC (.str "finite")) (wCons (wVar 5) wNil))) wNil))))) (wCons (wFrz (wCall p_law_are_heights (wCons (wVar 1) (wCons (wVar 2) (wCons (wVar 5) wNil))))) wNil))))))
 (wRet (wC (.bool false)))
 wNext)))
 (wSeq (wSet 6 (wFrz (wLst (wCons (wTup wNil) wNil))))
 (wSeq (wFor (wRng1 (wCons (wC (.int 4)) wNil)) (gNm 7)
 (wKill [7, 8, 9] (wSeq (wFor (wSrc (wIf (wTest (wBin sNe (wVar 6) (wFrz (wLst wNil)))) (wBin sAdd (wFrz (wLc (wRng1 (wCons (wC (.int 8)) wNil)) (gNm 11) [11] wYes (wFrz (wCall p_law_pick (wCons (wVar 0) (wCons (wVar 6) wNil)))))) (wFrz (wSl (wVar 6) wNoPart (wPart (wC (.int 8)))))) (wFrz (wLst wNil)))) (gNm 8)
 (wKill [8, 9] (wFor (wSrc (wTup (wCons (wVar 8) (wCons (wFrz (wCall p_law_spoilt_way (wCons (wVar 0) (wCons (wVar 1) (wCons (wVar 8) wNil))))) wNil)))) (gNm 9)
 (wKill [9] (wIfS (wNot (wTest (wFrz (wCall p_law_same (wCons (wFrz (wCall p_is_finite_evidence (wCons (wVar 1) (wCons (wVar 2) (wCons (wTup (wCons (wC (.str "endless")) (wCons (wVar 9) wNil))) wNil))))) (wCons (wFrz (wCall p_law_is_way (wCons (wVar 1) (wCons (wVar 2) (wCons (wVar 9) wNil))))) wNil))))))
 (wRet (wC (.bool false)))
 wNext)))))
 w_asked_f)))
 (wSeq (wSet 10 (wFrz (wLst (wCons (wBin sAdd (wVar 4) (wTup (wCons (wBin sIx (wVar 4) (wC (.int 1))) wNil))) (wCons (wFrz (wCB (f1 sListOf) (wCons (wVar 4) wNil))) (wCons (wTup (wCons (wBin sIx (wVar 4) (wC (.int 0))) wNil)) (wCons (wTup (wCons (wBin sIx (wVar 4) (wC (.int 1))) (wCons (wBin sIx (wVar 4) (wC (.int 0))) wNil))) (wCons (wTup (wCons (wC (.str "open")) (wCons (wBin sIx (wVar 4) (wC (.int 1))) wNil))) (wCons (wTup (wCons (wC .none) (wCons (wBin sIx (wVar 4) (wC (.int 1))) wNil))) (wCons (wC .none) (wCons (wC (.str "finite")) (wCons (wBin sIx (wVar 4) (wC (.int 1))) wNil))))))))))))
 (wRet (wFrz (wCB (f1 sAll) (wCons (wFrz (wLc (wSrc (wVar 10)) (gNm 9) [9] wYes (wBin (sIsB id) (wFrz (wCall p_is_finite_evidence (wCons (wVar 1) (wCons (wVar 2) (wCons (wVar 9) wNil))))) (wC (.bool false))))) wNil))))))))))
/-- 0 stream, 1 signature, 2 kind, 3 endless, 4 due, 5 heights, 6 ways, 7 turn, 8 way, 9 value, 10 wrong, 11 other -/
def w_law_asked : WS :=
(wSeq (wSet 3 (wFrz (wCall p_law_is_endless (wCons (wVar 1) (wCons (wVar 2) wNil)))))
 (wSeq (wIfS (wNot (wTest (wFrz (wCall p_law_same (wCons (wFrz (wCall p_is_finite (wCons (wVar 1) (wCons (wVar 2) wNil)))) (wCons (wNotV (wVar 3)) wNil))))))
 (wRet (wC (.bool false)))
 wNext)
 (wSeq (wSet 4 (wIf (wTest (wVar 3)) (wFrz (wCall p_law_told_way (wCons (wVar 1) (wCons (wVar 2) wNil)))) (wFrz (wCall p_law_told_heights (wCons (wVar 1) (wCons (wVar 2) wNil))))))
 w_asked_t)))
local macro_rules | `(tactic| walk_at "w2") => `(tactic| first
  | (with_reducible refine' i_allM ?_) | (with_reducible refine' i_anyM ?_))
local macro_rules | `(tactic| walk_at "w3") => `(tactic| first
  | ((with_reducible refine' j_ix ?h1 ?_); (case h1 => rfl))
  | ((with_reducible refine' i_asgK ?h1 ?_); (case h1 => rfl); (dsimp only [List.set_cons_succ, List.set_cons_zero]))
  | ((with_reducible refine' i_srcK ?h1 ?_); (case h1 => rfl))
  | ((with_reducible refine' i_enmK ?h1 ?_); (case h1 => rfl))
  | ((with_reducible refine' i_evD ?h1 ?h2 ?_); (case h1 => rfl); (case h2 => (intro l e; cases e; done)))
  | ((with_reducible refine' i_isD ?h1 ?_); (case h1 => assumption))
  | ((with_reducible refine' i_len ?h1 ?_); (case h1 => rfl)) | ((with_reducible refine' i_list ?h1 ?_); (case h1 => rfl)) | ((with_reducible refine' i_tuple ?h1 ?_); (case h1 => rfl)) | ((with_reducible refine' i_slL ?h1 ?_); (case h1 => rfl))
  | ((with_reducible refine' i_rngD ?h1 ?h2 ?_); (case h1 => (first | omega | decide)); (case h2 => (first | omega | decide))) | ((with_reducible refine' i_rngD2 ?h1 ?_); (case h1 => (first | omega | decide)))
  | ((with_reducible refine' i_lrgP ?h1 ?_); (case h1 => (apply RgOk.of_le <;> omega)))
  | ((with_reducible refine' j_put ?h1 ?_); (case h1 => rfl))
  | ((with_reducible refine' i_mul ?h1 ?_); (case h1 => (first | exact .inr (by decide) | exact .inl (by decide)))) | ((with_reducible refine' i_mod ?h1 ?_); (case h1 => (first | omega | decide)))
  | ((with_reducible refine' i_fdiv ?h1 ?_); (case h1 => (first | exact ⟨by decide, by decide⟩ | exact ⟨by omega, by omega⟩))) | ((with_reducible refine' i_pow ?h1 ?_); (case h1 => exact pow_ok (by decide)))
  | ((with_reducible refine' i_ifT ?h1 ?_); (case h1 => (first | rfl | assumption | (simp [isA]; done)))) | ((with_reducible refine' i_ifF ?h1 ?_); (case h1 => (first | rfl | assumption | (simp [isA]; done))))
  | ((with_reducible refine' j_pop ?h1 ?_); (case h1 => rfl))
  | ((with_reducible refine' j_append ?h1 ?_); (case h1 => (first | (simp [sizeLine_eq]; done) | (apply lt_line; omega)))))
local macro_rules | `(tactic| walk_at "w") => `(tactic| (try dsimp only [List.cons_append, List.nil_append, List.set_cons_succ, List.set_cons_zero, killAll]); repeat' (first | (with_reducible refine' Run.imp ?_) | walk_at "w3" | walk_at "w2" | fail "open"))
local macro_rules | `(tactic| walk_at "w0") => `(tactic| refine start_en ?_; simp only [startS, hasOwn, List.map_cons, List.map_nil, List.length_cons, List.length_nil, List.cons_append, List.nil_append, List.replicate, Nat.reduceAdd, Nat.reduceSub, Nat.zero_add])
local macro_rules | `(tactic| walk_at "n") => `(tactic| walk_at "w")

theorem isEv_fin (s : Sg) (k : Nat) (x : D) : isEv s k (.tuple [.str "finite", x]) = isHts s k x := by
  show (if ("finite" : Str) = "finite" then isHts s k x else (decide (("finite" : Str) = "endless") && isWay s k x)) = _
  rw [if_pos rfl]
theorem isEv_end (s : Sg) (k : Nat) (x : D) : isEv s k (.tuple [.str "endless", x]) = isWay s k x := by
  show (if ("endless" : Str) = "finite" then isHts s k x else (decide (("endless" : Str) = "endless") && isWay s k x)) = _
  rw [if_neg (by decide), decide_eq_true rfl, Bool.true_and]
theorem same_refl {d : D} {R : RV → Option (List D) → Prop} (e : okD d = true ∧ noDct d = true ∧ nodes d ≤ 50000) (h : R (.d (.bool true)) none) : p_law_same [.val d, .val d] R :=
  ⟨d, d, rfl, e.1, e.1, e.2.1, e.2.2, fun c hc => by rw [hc.mpr rfl]; exact h⟩
theorem hs_small : ∀ hs : List (Option Nat), okA (hsD hs) = true ∧ noDctA (hsD hs) = true ∧ nodesA (hsD hs) = hs.length
  | [] => ⟨rfl, rfl, rfl⟩
  | h :: hs => by
    obtain ⟨a, b, c⟩ := hs_small hs
    rw [hsD] at a b c
    rw [hsD, List.map_cons]
    cases h with
    | none =>
      refine ⟨?_, ?_, ?_⟩
      · rw [okA, a]; rfl
      · rw [noDctA, b]; rfl
      · rw [nodesA, c, List.length_cons]
        show nodes PyData.none + _ = _
        rw [show nodes PyData.none = 1 from rfl]
        omega
    | some n =>
      refine ⟨?_, ?_, ?_⟩
      · rw [okA, a]; rfl
      · rw [noDctA, b]; rfl
      · rw [nodesA, c, List.length_cons]
        show nodes (PyData.int (n : Nat)) + _ = _
        rw [show nodes (PyData.int (n : Nat)) = 1 from rfl]
        omega
theorem wy_small : ∀ w : Wy, noDctA (w.map spD) = true ∧ nodesA (w.map spD) = 3 * w.length
  | [] => ⟨rfl, rfl⟩
  | p :: w => by
    obtain ⟨a, b⟩ := wy_small w
    rw [List.map_cons, noDctA, nodesA, a, b, List.length_cons]
    refine ⟨rfl, ?_⟩
    rw [show nodes (spD p) = 3 from rfl]
    omega
theorem told_in {s : Sg} (g : GoodS s) {k : Nat} (hk : k < s.length) (hf : ¬ FinK s k) : ∃ n, n ≤ 3 ∧ toldW s k ∈ lvl s k n := by
  obtain ⟨n, hn, v, hv, hg⟩ := way_ex g hk hf
  have hm : ∀ x, x ∈ lvl s k 0 ++ (lvl s k 1 ++ (lvl s k 2 ++ lvl s k 3)) ↔ ∃ n, n ≤ 3 ∧ x ∈ lvl s k n := fun x => by
    simp only [List.mem_append]
    constructor
    · rintro (h | h | h | h)
      · exact ⟨0, by decide, h⟩
      · exact ⟨1, by decide, h⟩
      · exact ⟨2, by decide, h⟩
      · exact ⟨3, by decide, h⟩
    · rintro ⟨n, hn, h⟩
      match n, hn with
      | 0, _ => exact .inl h
      | 1, _ => exact .inr (.inl h)
      | 2, _ => exact .inr (.inr (.inl h))
      | 3, _ => exact .inr (.inr (.inr h))
  unfold toldW
  cases e : (lvl s k 0 ++ (lvl s k 1 ++ (lvl s k 2 ++ lvl s k 3))).find? (goodW s k) with
  | none => exact absurd hg (List.find?_eq_none.mp e v ((hm v).mpr ⟨n, hn, hv⟩))
  | some w => exact (hm w).mp (List.mem_of_find?_eq_some e)
/-- the form of what is told -/
theorem fin_form {s : Sg} (g : GoodS s) {k : Nat} (hk : k < s.length) : ∃ W X, finEv s k = .tuple [.str W, .tuple X] ∧ (∀ x ∈ X, ∀ n, x ≠ .str n) ∧ W.length ≤ 1000 ∧ okA X = true ∧ noDctA X = true ∧ nodesA X ≤ 1000 := by
  have hs3 := g.wf.2.1
  unfold finEv
  by_cases hf : FinK s k
  · rw [tfP_true hf, if_pos rfl]
    obtain ⟨a, b, c⟩ := hs_small (toldH s k)
    refine ⟨_, _, rfl, fun x hx n e => ?_, by decide, a, b, ?_⟩
    · obtain ⟨o, _, rfl⟩ := List.mem_map.mp hx
      cases o <;> cases e
    · rw [c, toldH, List.length_map, List.length_range]
      omega
  · rw [tfP_false hf]
    obtain ⟨n, hn, hm⟩ := told_in g hk hf
    obtain ⟨hl, ks, hks⟩ := lvl_ok g n _ hm
    obtain ⟨b, c⟩ := wy_small (toldW s k)
    refine ⟨"endless", (toldW s k).map spD, rfl, fun x hx n e => ?_, by decide, wy_ok g.wf hks, b, by omega⟩
    obtain ⟨o, _, rfl⟩ := List.mem_map.mp hx
    cases e
theorem v_asked_f {st : List D} {s : Sg} {k t : Nat} {t3 t4 t8 t9 : Option S} {N bk ct : SS → Prop} {rt : RV → SS → Prop} (g : GoodS s) (hk : k < s.length) (ht : t ≤ 3) (hl : (lvl s k t).length ≤ 512)
    (hN : N [some (.own (some 0) st), some (.val (sigD s)), some (.val (.int (k : Nat))), t3, t4, none, some (.val (.list ((lvl s k (min (t + 1) 3)).map wyD))), some (.val (.int (t : Nat))), t8, t9, none, none]) :
    w_asked_f ⟨N, rt, bk, ct⟩ [some (.own (some 0) st), some (.val (sigD s)), some (.val (.int (k : Nat))), t3, t4, none, some (.val (.list ((lvl s k t).map wyD))), some (.val (.int (t : Nat))), t8, t9, none, none] := by
  unfold w_asked_f
  walk_at "n"
  by_cases h : t < 3
  · rw [decide_eq_true (show ((t : Nat) : Int) < 3 by omega)]
    rw [Nat.min_eq_left (show t + 1 ≤ 3 by omega)] at hN
    walk_at "n"
    refine ⟨s, k, lvl s k t, rfl, g, hk, hl, fun v hv => ?_, ?_⟩
    · obtain ⟨hvl, hks⟩ := lvl_ok g t v hv
      exact ⟨by omega, hks⟩
    walk_at "n"
    exact hN
  · rw [decide_eq_false (show ¬ ((t : Nat) : Int) < 3 by omega)]
    have : t = 3 := by omega
    subst this
    walk_at "n"
    exact hN
theorem v_asked_t {st : List D} {s : Sg} {k : Nat} {t3 : Option S} {R : RV → Option (List D) → Prop} (hst : isStrm st) (g : GoodS s) (hk : k < s.length) (q : ∀ st', isStrm st' → R (.d (.bool true)) (some st')) :
    w_asked_t ⟨nxK true R, rtK true R, fun _ => False, fun _ => False⟩ [some (.own (some 0) st), some (.val (sigD s)), some (.val (.int (k : Nat))), t3, some (.val (finEv s k)), none, none, none, none, none, none, none] := by
  have w := g.wf
  have hs3 := w.2.1
  have hs1 := w.1
  obtain ⟨W, X, hW, hX, hWl, hXo, hXd, hXn⟩ := fin_form g hk
  have hlen : ∀ t, t ≤ 3 → (lvl s k t).length ≤ 512 := fun t ht => Nat.le_trans (lvl_len w k t) (by
    match t, ht with
    | 0, _ => decide
    | 1, _ => decide
    | 2, _ => decide
    | 3, _ => decide)
  have okS : ∀ {t : Str} {x : D}, t.length ≤ 1000 → okD x = true → okD (.tuple [.str t, x]) = true := fun h1 h2 => by
    simp only [okD, okA, h2, Bool.true_and, Bool.and_true, decide_eq_true_eq]
    simpa using h1
  unfold w_asked_t
  walk_at "n"
  refine ⟨s, k, rfl, g, hk, ?_⟩
  walk_at "n"
  rw [hW]
  refine same_refl ⟨okS hWl hXo, by simp [noDct, noDctA, hXd], by simp only [nodes, nodesA]; omega⟩ ?_
  walk_at "n"
  refine lcT_map (xs := s) (f := rowD) (fun _ => .list [.none, .int 0, .int 1, .int 2]) (le_line (by omega)) (fun r hr N hN => ?_) ?_
  · walk_at "n"
    exact hN _ rfl
  walk_at "n"
  refine ⟨s.length, by rw [List.map_const'], by omega, fun Xs _ hXs => ?_⟩
  walk_at "n"
  refine forT_inv (xs := Xs) (f := PyData.tuple) (P := fun i z => z = [some (.own (some 0) st), some (.val (sigD s)), some (.val (.int (k : Nat))), t3, some (.val (.tuple [.str W, .tuple X])), none, none, none, none, none, none, none]) (fun i x z hx p N hN => ?_) (fun z p => ?_) rfl
  · subst p
    have hxo := hXs x (List.mem_of_getElem? hx)
    walk_at "n"
    refine ⟨s, k, _, rfl, g, hk, okS (by decide) hxo, ?_⟩
    rw [isEv_fin]
    walk_at "n"
    refine ⟨s, k, _, rfl, w, hk, hxo, ?_⟩
    walk_at "n"
    refine same_refl ⟨rfl, rfl, by simp [nodes]⟩ ?_
    walk_at "n"
    exact hN _ rfl
  subst p
  walk_at "n"
  rw [List.length_map]
  refine i_mulT (by simp) (by omega) (by omega) (by simp) ?_
  rw [Int.toNat_natCast]
  have hm5 : ∀ x ∈ [PyData.none, .tuple [], .tuple [.int 0, .int 1, .int 2, .int 2], .list (cutD [PyData.int 0, .int 0, .int 0] none (some (s.length : Nat))), .tuple (cutD [PyData.int 0, .int 1, .int 3] (some (-(s.length : Nat))) none), .tuple (List.replicate s.length [PyData.bool true]).flatten], okD x = true := fun x hx => by
    simp only [List.mem_cons, List.not_mem_nil, or_false] at hx
    rcases hx with rfl | rfl | rfl | rfl | rfl | rfl
    · rfl
    · rfl
    · rfl
    · exact okA_cut' rfl _ _
    · exact okA_cut' rfl _ _
    · refine okA_of' fun d hd => ?_
      obtain ⟨l, hl, hd⟩ := List.mem_flatten.mp hd
      rw [List.eq_of_mem_replicate hl] at hd
      rw [List.mem_singleton.mp hd]
      rfl
  walk_at "n"
  refine forL_inv (P := fun i z => z = [some (.own (some 0) st), some (.val (sigD s)), some (.val (.int (k : Nat))), t3, some (.val (.tuple [.str W, .tuple X])), none, none, none, none, none, none, none]) (fun i x z hx p N hN => ?_) (fun z p => ?_) rfl
  · subst p
    have hxo := hm5 x (List.mem_of_getElem? hx)
    walk_at "n"
    refine ⟨s, k, _, rfl, g, hk, okS (by decide) hxo, ?_⟩
    rw [isEv_fin]
    walk_at "n"
    refine ⟨s, k, _, rfl, w, hk, hxo, ?_⟩
    walk_at "n"
    refine same_refl ⟨rfl, rfl, by simp [nodes]⟩ ?_
    walk_at "n"
    exact hN _ rfl
  subst p
  walk_at "n"
  refine forL_inv (P := fun t z => ∃ st, isStrm st ∧ z = [some (.own (some 0) st), some (.val (sigD s)), some (.val (.int (k : Nat))), t3, some (.val (.tuple [.str W, .tuple X])), none, some (.val (.list ((lvl s k (min t 3)).map wyD))), none, none, none, none, none]) (fun t x z hx p N hN => ?_) (fun z p => ?_) ⟨st, hst, rfl⟩
  · obtain ⟨st, hst, rfl⟩ := p
    obtain ⟨rfl, ht⟩ := rangeD_get hx
    have ht3 : t ≤ 3 := by omega
    rw [Nat.min_eq_left ht3, show (0 : Int) + ((t : Nat) : Int) = ((t : Nat) : Int) by omega]
    have hl := hlen t ht3
    have hok : ∀ v ∈ lvl s k t, okA (v.map spD) = true ∧ v.length ≤ 10 := fun v hv => by
      obtain ⟨hvl, ks, hks⟩ := lvl_ok g t v hv
      exact ⟨wy_ok w hks, by omega⟩
    have hNx : ∀ (st : List D) (t8 t9 : Option S), isStrm st → killK [7, 8, 9] N [some (.own (some 0) st), some (.val (sigD s)), some (.val (.int (k : Nat))), t3, some (.val (.tuple [.str W, .tuple X])), none, some (.val (.list ((lvl s k (min (t + 1) 3)).map wyD))), some (.val (.int (t : Nat))), t8, t9, none, none] := fun st t8 t9 hst => by
      walk_at "n"
      exact hN _ ⟨st, hst, rfl⟩
    walk_at "n"
    refine i_neNil (plainAll_map wy_plain _) ?_
    by_cases he : lvl s k t = []
    · rw [show ((lvl s k t).map wyD).isEmpty = true by rw [he]; rfl]
      walk_at "n"
      refine forL_inv (P := fun i z => z = [some (.own (some 0) st), some (.val (sigD s)), some (.val (.int (k : Nat))), t3, some (.val (.tuple [.str W, .tuple X])), none, some (.val (.list ((lvl s k t).map wyD))), some (.val (.int (t : Nat))), none, none, none, none]) (fun i x z hx p N hN => by simp at hx) (fun z p => ?_) rfl
      subst p
      exact v_asked_f g hk ht3 hl (hNx _ _ _ hst)
    · have hne : (lvl s k t).map wyD ≠ [] := fun e => he (List.map_eq_nil_iff.mp e)
      rw [show ((lvl s k t).map wyD).isEmpty = false by
        cases e : lvl s k t with
        | nil => exact absurd e he
        | cons a b => rfl]
      walk_at "n"
      refine lcL_inv (P := fun i acc z => ∃ (st : List D) (Y : List Wy), z = [some (.own (some 0) st), some (.val (sigD s)), some (.val (.int (k : Nat))), t3, some (.val (.tuple [.str W, .tuple X])), none, some (.val (.list ((lvl s k t).map wyD))), some (.val (.int (t : Nat))), none, none, none, none] ∧ isStrm st ∧ acc = Y.map wyD ∧ Y.length = i ∧ ∀ y ∈ Y, y ∈ lvl s k t) (fun i x acc z hx p N2 hN2 => ?_) (fun acc z p => ?_) ⟨st, [], rfl, hst, rfl, rfl, fun y hy => (by cases hy)⟩
      · obtain ⟨st, Y, rfl, hst, rfl, hY1, hY2⟩ := p
        have hi := (List.getElem?_eq_some_iff.mp hx).1
        rw [rangeD_len] at hi
        walk_at "n"
        refine ⟨st, _, rfl, hst, hne, by rw [List.length_map]; omega, fun d st2 hd hst2 => ?_⟩
        obtain ⟨v, hv, rfl⟩ := List.mem_map.mp hd
        walk_at "n"
        refine ⟨lt_line (by rw [List.length_map]; omega), hN2 _ _ ⟨st2, Y ++ [v], rfl, hst2, by rw [List.map_append]; rfl, by rw [List.length_append, hY1]; rfl, fun y hy => ?_⟩⟩
        rcases List.mem_append.mp hy with hy | hy
        · exact hY2 y hy
        · rw [List.mem_singleton.mp hy]
          exact hv
      · obtain ⟨st, Y, rfl, hst, rfl, hY1, hY2⟩ := p
        rw [rangeD_len] at hY1
        walk_at "n"
        rw [cutD_to (by omega), show (8 : Int).toNat = 8 from rfl, ← List.map_take]
        refine i_addL LstIs.e LstIs.e (le_line (by rw [List.length_map, List.length_map, List.length_take]; omega)) ?_
        rw [← List.map_append]
        have hZ : ∀ y ∈ Y ++ (lvl s k t).take 8, y ∈ lvl s k t := fun y hy => by
          rcases List.mem_append.mp hy with hy | hy
          · exact hY2 y hy
          · exact List.mem_of_mem_take hy
        generalize Y ++ (lvl s k t).take 8 = Z at hZ ⊢
        walk_at "n"
        refine forT_inv (xs := Z) (f := wyD) (P := fun i z => ∃ st, isStrm st ∧ z = [some (.own (some 0) st), some (.val (sigD s)), some (.val (.int (k : Nat))), t3, some (.val (.tuple [.str W, .tuple X])), none, some (.val (.list ((lvl s k t).map wyD))), some (.val (.int (t : Nat))), none, none, none, none]) (fun i v z hv p N3 hN3 => ?_) (fun z p => ?_) ⟨st, hst, rfl⟩
        · obtain ⟨st, hst, rfl⟩ := p
          obtain ⟨o1, o2⟩ := hok v (hZ v (List.mem_of_getElem? hv))
          walk_at "n"
          refine ⟨st, s, v, rfl, hst, w, o1, o2, fun d st hdo hst => ?_⟩
          walk_at "n"
          refine forL_inv (P := fun i z => z = [some (.own (some 0) st), some (.val (sigD s)), some (.val (.int (k : Nat))), t3, some (.val (.tuple [.str W, .tuple X])), none, some (.val (.list ((lvl s k t).map wyD))), some (.val (.int (t : Nat))), some (.val (wyD v)), none, none, none]) (fun i x z hx p N4 hN4 => ?_) (fun z p => ?_) rfl
          · subst p
            have hxo : okD x = true := by
              have := List.mem_of_getElem? hx
              simp only [List.mem_cons, List.not_mem_nil, or_false] at this
              rcases this with rfl | rfl
              · exact o1
              · exact hdo
            walk_at "n"
            refine ⟨s, k, _, rfl, g, hk, okS (by decide) hxo, ?_⟩
            rw [isEv_end]
            walk_at "n"
            refine ⟨s, k, _, rfl, g, hk, hxo, ?_⟩
            walk_at "n"
            refine same_refl ⟨rfl, rfl, by simp [nodes]⟩ ?_
            walk_at "n"
            exact hN4 _ rfl
          · subst p
            walk_at "n"
            exact hN3 _ ⟨st, hst, rfl⟩
        · obtain ⟨st, hst, rfl⟩ := p
          exact v_asked_f g hk ht3 hl (hNx _ _ _ hst)
  · obtain ⟨st, hst, rfl⟩ := p
    have bad : ∀ x ∈ [PyData.tuple [.str W, .tuple X, .tuple X], .list [.str W, .tuple X], .tuple [.str W], .tuple [.tuple X, .str W], .tuple [.str "open", .tuple X], .tuple [.none, .tuple X], .none, .str "finite", .tuple X], okD x = true ∧ isEv s k x = false := fun x hx => by
      have hXo' : okD (.tuple X) = true := hXo
      have hWo : okD (.str W) = true := decide_eq_true hWl
      simp only [List.mem_cons, List.not_mem_nil, or_false] at hx
      rcases hx with rfl | rfl | rfl | rfl | rfl | rfl | rfl | rfl | rfl
      · exact ⟨by simp [okD, okA, hXo, hWl], isEv_len (by simp)⟩
      · exact ⟨by simp [okD, okA, hXo, hWl], rfl⟩
      · exact ⟨by simp [okD, okA, hWl], isEv_len (by simp)⟩
      · exact ⟨by simp [okD, okA, hXo, hWl], rfl⟩
      · exact ⟨okS (by decide) hXo, rfl⟩
      · exact ⟨by simp [okD, okA, hXo], rfl⟩
      · exact ⟨rfl, rfl⟩
      · exact ⟨by decide +kernel, rfl⟩
      · refine ⟨hXo, ?_⟩
        unfold isEv
        split
        · rename_i w' x' e
          injection e with e
          exact absurd rfl (hX (.str w') (by rw [e]; simp) w')
        · rfl
    walk_at "n"
    refine i_addT (le_line (by simp)) ?_
    walk_at "n"
    obtain ⟨B, hB⟩ : ∃ B : List D, B = [PyData.tuple [.str W, .tuple X, .tuple X], .list [.str W, .tuple X], .tuple [.str W], .tuple [.tuple X, .str W], .tuple [.str "open", .tuple X], .tuple [.none, .tuple X], .none, .str "finite", .tuple X] := ⟨_, rfl⟩
    have hBl : B.length = 9 := by rw [hB]; rfl
    rw [← hB] at bad ⊢
    refine lcL_mapA (fun _ => .bool true) (by rw [hBl]; exact le_line (by decide)) (fun x hx N hN => ?_) ?_
    · obtain ⟨b1, b2⟩ := bad x hx
      walk_at "n"
      refine ⟨s, k, x, rfl, g, hk, b1, ?_⟩
      rw [b2]
      walk_at "n"
      exact hN _ rfl
    · rw [List.nil_append]
      walk_at "n"
      have e : B.all (fun _ => true) = true := List.all_eq_true.mpr fun _ _ => rfl
      first
      | (rw [e]; exact q _ hst)
      | done
theorem v_law_asked : ∀ as R, p_law_asked as R → w_law_asked (retEn (hasOwn as) R) (startS 12 as) := by
  rintro as R ⟨st, s, k, rfl, hst, g, hk, q⟩
  have tail := fun t3 => v_asked_t (t3 := t3) (R := R) (st := st) (s := s) (k := k) hst g hk q
  unfold w_law_asked
  walk_at "w0"
  walk_at "n"
  refine ⟨s, k, rfl, g.wf, hk, ?_⟩
  walk_at "n"
  refine ⟨s, k, rfl, g, hk, fun b hb => ?_⟩
  unfold finEv at tail
  by_cases hf : FinK s k
  · rw [tfP_false (fun h => h hf)]
    rw [tfP_true hf, if_pos rfl] at tail
    obtain rfl : b = true := hb.mpr hf
    walk_at "n"
    refine same_refl ⟨rfl, rfl, by simp [nodes]⟩ ?_
    walk_at "n"
    refine ⟨s, k, rfl, g.wf, hk, hf, ?_⟩
    walk_at "n"
    exact tail _
  · rw [tfP_true hf]
    rw [tfP_false hf] at tail
    obtain rfl : b = false := by
      cases b with
      | false => rfl
      | true => exact absurd (hb.mp rfl) hf
    walk_at "n"
    refine same_refl ⟨rfl, rfl, by simp [nodes]⟩ ?_
    walk_at "n"
    refine ⟨s, k, rfl, g, hk, hf, ?_⟩
    walk_at "n"
    exact tail _
end L3

namespace L3
open PySem PySem.Spec PyProof.Rows L2 PySem.SeqAt
/-- 0 script, 1 stream, 2 turn, 3 signature, 4 top, 5 middle, 6 low, 7 names, 8 rows, 9 ring, 10 loop, 11 shapes, 12 shape, 13 kind -/
def w_law : WS :=
(wSeq (wSetO 1 (wCall p_law_stream (wCons (wVar 0) wNil)))
 (wSeq (wFor (wRng1 (wCons (wC (.int 2)) wNil)) (gNm 2)
 (wKill [2, 3] (wSeq (wSet 3 (wFrz (wCall p_law_signature (wCons (wVar 1) wNil))))
 (wIfS (wNot (wTest (wFrz (wCB (f1 sAll) (wCons (wFrz (wLc (wRng1 (wCons (wFrz (wCB (f1 sLen) (wCons (wVar 3) wNil))) wNil)) (gNm 13) [13] wYes (wFrz (wCall p_law_asked (wCons (wVar 1) (wCons (wVar 3) (wCons (wVar 13) wNil))))))) wNil)))))
 (wRet (wC (.bool false)))
 wNext))))
 (wSeq (wAsg (wFrz (wCall p_law_order (wCons (wVar 1) (wCons (wC (.int 3)) wNil)))) (gTp [(gNm 4), (gNm 5), (gNm 6)]))
 (wSeq (wSet 7 (wFrz (wCall p_law_names (wCons (wVar 1) (wCons (wC (.int 6)) (wCons (wC (.int 2)) wNil))))))
 (wSeq (wSetO 8 (wLst (wCons (wC .none) (wCons (wC .none) (wCons (wC .none) wNil)))))
 (wSeq (wPut (wTup (wCons (wC (.str "closed")) (wCons (wTup (wCons (wTup (wCons (wBin sIx (wVar 7) (wC (.int 0))) (wCons (wTup (wCons (wVar 6) wNil)) wNil))) (wCons (wTup (wCons (wBin sIx (wVar 7) (wC (.int 1))) (wCons (wTup (wCons (wVar 5) (wCons (wVar 6) wNil))) wNil))) wNil))) wNil))) (wVar 8) (wVar 4))
 (wSeq (wPut (wTup (wCons (wC (.str "closed")) (wCons (wTup (wCons (wTup (wCons (wBin sIx (wVar 7) (wC (.int 2))) (wCons (wTup wNil) wNil))) (wCons (wTup (wCons (wBin sIx (wVar 7) (wC (.int 3))) (wCons (wTup (wCons (wVar 6) (wCons (wVar 6) wNil))) wNil))) wNil))) wNil))) (wVar 8) (wVar 5))
 (wSeq (wPut (wTup (wCons (wC (.str "closed")) (wCons (wTup (wCons (wTup (wCons (wBin sIx (wVar 7) (wC (.int 4))) (wCons (wTup wNil) wNil))) wNil)) wNil))) (wVar 8) (wVar 6))
 (wSeq (wSetO 9 (wCB (f1 sListOf) (wCons (wVar 8) wNil)))
 (wSeq (wPut (wTup (wCons (wC (.str "closed")) (wCons (wTup (wCons (wTup (wCons (wBin sIx (wVar 7) (wC (.int 4))) (wCons (wTup wNil) wNil))) (wCons (wTup (wCons (wBin sIx (wVar 7) (wC (.int 5))) (wCons (wTup (wCons (wVar 4) wNil)) wNil))) wNil))) wNil))) (wVar 9) (wVar 6))
 (wSeq (wSetO 10 (wCB (f1 sListOf) (wCons (wVar 8) wNil)))
 (wSeq (wPut (wTup (wCons (wC (.str "closed")) (wCons (wTup (wCons (wTup (wCons (wBin sIx (wVar 7) (wC (.int 4))) (wCons (wTup wNil) wNil))) (wCons (wTup (wCons (wBin sIx (wVar 7) (wC (.int 5))) (wCons (wTup (wCons (wVar 6) wNil)) wNil))) wNil))) wNil))) (wVar 10) (wVar 6))
 (wSeq (wSet 11 (wFrz (wLst (wCons (wFrz (wCB (f1 sTupOf) (wCons (wVar 8) wNil))) (wCons (wFrz (wCB (f1 sTupOf) (wCons (wVar 9) wNil))) (wCons (wFrz (wCB (f1 sTupOf) (wCons (wVar 10) wNil))) wNil))))))
 (wRet (wFrz (wCB (f1 sAll) (wCons (wFrz (wLc (wSrc (wVar 11)) (gNm 12) [12] wYes (wFrz (wCB (f1 sAll) (wCons (wFrz (wLc (wRng1 (wCons (wC (.int 3)) wNil)) (gNm 13) [13] wYes (wFrz (wCall p_law_asked (wCons (wVar 1) (wCons (wVar 12) (wCons (wVar 13) wNil))))))) wNil))))) wNil)))))))))))))))))

local macro_rules | `(tactic| walk_at "w2") => `(tactic| first
  | (with_reducible refine' i_allM ?_) | (with_reducible refine' i_anyM ?_))
local macro_rules | `(tactic| walk_at "w3") => `(tactic| first
  | ((with_reducible refine' j_ix ?h1 ?_); (case h1 => rfl))
  | ((with_reducible refine' i_asgK ?h1 ?_); (case h1 => rfl); (dsimp only [List.set_cons_succ, List.set_cons_zero]))
  | ((with_reducible refine' i_srcK ?h1 ?_); (case h1 => rfl))
  | ((with_reducible refine' i_enmK ?h1 ?_); (case h1 => rfl))
  | ((with_reducible refine' i_evD ?h1 ?h2 ?_); (case h1 => rfl); (case h2 => (intro l e; cases e; done)))
  | ((with_reducible refine' i_isD ?h1 ?_); (case h1 => assumption))
  | ((with_reducible refine' i_len ?h1 ?_); (case h1 => rfl)) | ((with_reducible refine' i_list ?h1 ?_); (case h1 => rfl)) | ((with_reducible refine' i_tuple ?h1 ?_); (case h1 => rfl)) | ((with_reducible refine' i_slL ?h1 ?_); (case h1 => rfl))
  | ((with_reducible refine' i_rngD ?h1 ?h2 ?_); (case h1 => (first | omega | decide)); (case h2 => (first | omega | decide))) | ((with_reducible refine' i_rngD2 ?h1 ?_); (case h1 => (first | omega | decide)))
  | ((with_reducible refine' i_lrgP ?h1 ?_); (case h1 => (apply RgOk.of_le <;> omega)))
  | ((with_reducible refine' j_put ?h1 ?_); (case h1 => rfl))
  | ((with_reducible refine' i_mul ?h1 ?_); (case h1 => (first | exact .inr (by decide) | exact .inl (by decide)))) | ((with_reducible refine' i_mod ?h1 ?_); (case h1 => (first | omega | decide)))
  | ((with_reducible refine' i_fdiv ?h1 ?_); (case h1 => (first | exact ⟨by decide, by decide⟩ | exact ⟨by omega, by omega⟩))) | ((with_reducible refine' i_pow ?h1 ?_); (case h1 => exact pow_ok (by decide)))
  | ((with_reducible refine' i_ifT ?h1 ?_); (case h1 => (first | rfl | assumption | (simp [isA]; done)))) | ((with_reducible refine' i_ifF ?h1 ?_); (case h1 => (first | rfl | assumption | (simp [isA]; done))))
  | ((with_reducible refine' j_pop ?h1 ?_); (case h1 => rfl))
  | ((with_reducible refine' j_append ?h1 ?_); (case h1 => (first | (simp [sizeLine_eq]; done) | (apply lt_line; omega)))))
local macro_rules | `(tactic| walk_at "w") => `(tactic| (try dsimp only [List.cons_append, List.nil_append, List.set_cons_succ, List.set_cons_zero, killAll]); repeat' (first | (with_reducible refine' Run.imp ?_) | walk_at "w3" | walk_at "w2" | fail "open"))
local macro_rules | `(tactic| walk_at "w0") => `(tactic| refine start_en ?_; simp only [startS, hasOwn, List.map_cons, List.map_nil, List.length_cons, List.length_nil, List.cons_append, List.nil_append, List.replicate, Nat.reduceAdd, Nat.reduceSub, Nat.zero_add])
local macro_rules | `(tactic| walk_at "n") => `(tactic| walk_at "w")

theorem len6 {l : List Str} (h : l.length = 6) : ∃ n0 n1 n2 n3 n4 n5, l = [n0, n1, n2, n3, n4, n5] := by
  match l, h with
  | [n0, n1, n2, n3, n4, n5], _ => exact ⟨n0, n1, n2, n3, n4, n5, rfl⟩
theorem shape_good {a b c : Nat} (ha : a < 3) (hb : b < 3) (hc : c < 3) (hab : a ≠ b) (hac : a ≠ c) (hbc : b ≠ c) {n0 n1 n2 n3 n4 n5 : Str} (nd : [n0, n1, n2, n3, n4, n5].Nodup) (hnn : ∀ n ∈ [n0, n1, n2, n3, n4, n5], nmB false n = true) (rest : List Cn) (hr : rest = [] ∨ ∃ x, x < 3 ∧ rest = [(n5, [x])]) :
    ∃ s, GoodS s ∧ s.length = 3 ∧ ((([PyData.none, .none, .none].set a (rowD (false, [(n0, [c]), (n1, [b, c])]))).set b (rowD (false, [(n2, []), (n3, [c, c])]))).set c (rowD (false, (n4, []) :: rest))) = s.map rowD := by
  obtain ⟨s, es, hl, sa, sb, sc, hm, hp⟩ := rich_fin ha hb hc hab hac hbc (false, [(n0, [c]), (n1, [b, c])]) (false, [(n2, []), (n3, [c, c])]) (false, (n4, []) :: rest)
  refine ⟨s, ⟨⟨by omega, by omega, fun r hr2 => ?_⟩, ?_, fun k hk => ?_⟩, hl, es⟩
  · rw [hl]
    have nm : ∀ n ∈ [n0, n1, n2, n3, n4, n5], ∀ ps : List Nat, ps.length ≤ 2 → (∀ p ∈ ps, p < 3) → wfCons 3 (n, ps) := fun n hn ps h1 h2 => ⟨hnn n hn, h1, h2⟩
    rcases hm r hr2 with rfl | rfl | rfl
    · refine ⟨by simp, fun x hx => ?_⟩
      simp only [List.mem_cons, List.not_mem_nil, or_false] at hx
      rcases hx with rfl | rfl <;> exact nm _ (by simp) _ (by simp) (by simp; omega)
    · refine ⟨by simp, fun x hx => ?_⟩
      simp only [List.mem_cons, List.not_mem_nil, or_false] at hx
      rcases hx with rfl | rfl <;> exact nm _ (by simp) _ (by simp) (by simp; try omega)
    · rcases hr with rfl | ⟨y, hy, rfl⟩
      · refine ⟨by simp, fun x hx => ?_⟩
        simp only [List.mem_cons, List.not_mem_nil, or_false] at hx
        subst hx
        exact nm _ (by simp) _ (by simp) (by simp)
      · refine ⟨by simp, fun x hx => ?_⟩
        simp only [List.mem_cons, List.not_mem_nil, or_false] at hx
        rcases hx with rfl | rfl <;> exact nm _ (by simp) _ (by simp) (by simp; try omega)
  · rw [hp.nodup_iff]
    rcases hr with rfl | ⟨y, hy, rfl⟩
    · have : [n0, n1, n2, n3, n4].Nodup := List.Sublist.nodup (by
        exact List.sublist_append_left [n0, n1, n2, n3, n4] [n5]) nd
      exact this
    · exact nd
  · have fc : Filled s c := .co sc (c := (n4, [])) (by simp) (by simp)
    have fb : Filled s b := .co sb (c := (n2, [])) (by simp) (by simp)
    have fa : Filled s a := .co sa (c := (n0, [c])) (by simp) (by simpa using fc)
    rw [hl] at hk
    have : k = a ∨ k = b ∨ k = c := by omega
    rcases this with rfl | rfl | rfl
    · exact fa
    · exact fb
    · exact fc
theorem v_law : ∀ as R, p_law as R → w_law (retEn (hasOwn as) R) (startS 14 as) := by
  rintro as R ⟨ns, rfl, hn, q⟩
  unfold w_law
  walk_at "w0"
  walk_at "n"
  refine ⟨ns, rfl, hn, fun st hst => ?_⟩
  generalize (PyData.dict [(.none, .list (ns.map PyData.int))]) = scr
  walk_at "n"
  refine forL_inv (P := fun i z => ∃ st, isStrm st ∧ z = [some (.val scr), some (.own none st), none, none, none, none, none, none, none, none, none, none, none, none]) (fun i x z hx p N hN => ?_) (fun z p => ?_) ⟨st, hst, rfl⟩
  · obtain ⟨st, hst, rfl⟩ := p
    walk_at "n"
    refine ⟨st, rfl, hst, fun s st w nd wh hst => ?_⟩
    have g : GoodS s := ⟨w, nd, wh⟩
    have hs3 := w.2.1
    walk_at "n"
    rw [List.length_map]
    walk_at "n"
    refine lcL_inv (P := fun i acc z => ∃ st, isStrm st ∧ acc = List.replicate i (PyData.bool true) ∧ z = [some (.val scr), some (.own none st), some (.val x), some (.val (sigD s)), none, none, none, none, none, none, none, none, none, none]) (fun i y acc z hy p N2 hN2 => ?_) (fun acc z p => ?_) ⟨st, hst, rfl, rfl⟩
    · obtain ⟨st, hst, rfl, rfl⟩ := p
      obtain ⟨rfl, hlt⟩ := rangeD_get hy
      rw [show (0 : Int) + ((i : Nat) : Int) = ((i : Nat) : Int) by omega]
      walk_at "n"
      refine ⟨st, s, i, rfl, hst, g, by omega, fun st hst => ?_⟩
      walk_at "n"
      refine ⟨lt_line (by rw [List.length_replicate]; omega), hN2 _ _ ⟨st, hst, ?_, rfl⟩⟩
      rw [List.replicate_succ']
    · obtain ⟨st, hst, rfl, rfl⟩ := p
      walk_at "n"
      refine i_all (bs := List.replicate (rangeD 0 (s.length : Nat)).length true) (by show some _ = some _; rw [List.map_replicate]) ?_
      rw [show (List.replicate (rangeD 0 (s.length : Nat)).length true).all id = true from List.all_eq_true.mpr fun b hb => by rw [List.eq_of_mem_replicate hb]; rfl]
      walk_at "n"
      exact hN _ ⟨st, hst, rfl⟩
  · obtain ⟨st, hst, rfl⟩ := p
    walk_at "n"
    refine ⟨st, 3, rfl, hst, by decide, fun f l1 fnd hf hs1 => ?_⟩
    obtain ⟨a, b, c, rfl, ha, hb, hc, hab, hac, hbc⟩ := len3 fnd hf
    walk_at "n"
    refine ⟨l1, 6, false, rfl, hs1, by decide, fun ns l2 nd hnl hnn hs2 => ?_⟩
    obtain ⟨n0, n1, n2, n3, n4, n5, rfl⟩ := len6 hnl
    obtain ⟨s1, g1, l31, e1⟩ := shape_good ha hb hc hab hac hbc nd hnn [] (.inl rfl)
    obtain ⟨s2, g2, l32, e2⟩ := shape_good ha hb hc hab hac hbc nd hnn [(n5, [a])] (.inr ⟨a, ha, rfl⟩)
    obtain ⟨s3, g3, l33, e3⟩ := shape_good ha hb hc hab hac hbc nd hnn [(n5, [c])] (.inr ⟨c, hc, rfl⟩)
    walk_at "n"
    refine i_putD rfl (ixN_lt ha) ?_
    walk_at "n"
    refine i_putD rfl (ixN_lt (by rw [List.length_set]; exact hb)) ?_
    walk_at "n"
    refine i_putD rfl (ixN_lt (by rw [List.length_set, List.length_set]; exact hc)) ?_
    walk_at "n"
    refine i_putD rfl (ixN_lt (by rw [List.length_set, List.length_set, List.length_set]; exact hc)) ?_
    walk_at "n"
    refine i_putD rfl (ixN_lt (by rw [List.length_set, List.length_set, List.length_set]; exact hc)) ?_
    walk_at "n"
    rw [List.set_set, List.set_set, show ((([PyData.none, .none, .none].set a (PyData.tuple [.str "closed", .tuple [.tuple [.str n0, .tuple [.int (c : Nat)]], .tuple [.str n1, .tuple [.int (b : Nat), .int (c : Nat)]]]])).set b (PyData.tuple [.str "closed", .tuple [.tuple [.str n2, .tuple []], .tuple [.str n3, .tuple [.int (c : Nat), .int (c : Nat)]]]])).set c (PyData.tuple [.str "closed", .tuple [.tuple [.str n4, .tuple []]]])) = s1.map rowD from e1, show ((([PyData.none, .none, .none].set a (PyData.tuple [.str "closed", .tuple [.tuple [.str n0, .tuple [.int (c : Nat)]], .tuple [.str n1, .tuple [.int (b : Nat), .int (c : Nat)]]]])).set b (PyData.tuple [.str "closed", .tuple [.tuple [.str n2, .tuple []], .tuple [.str n3, .tuple [.int (c : Nat), .int (c : Nat)]]]])).set c (PyData.tuple [.str "closed", .tuple [.tuple [.str n4, .tuple []], .tuple [.str n5, .tuple [.int (a : Nat)]]]])) = s2.map rowD from e2, show ((([PyData.none, .none, .none].set a (PyData.tuple [.str "closed", .tuple [.tuple [.str n0, .tuple [.int (c : Nat)]], .tuple [.str n1, .tuple [.int (b : Nat), .int (c : Nat)]]]])).set b (PyData.tuple [.str "closed", .tuple [.tuple [.str n2, .tuple []], .tuple [.str n3, .tuple [.int (c : Nat), .int (c : Nat)]]]])).set c (PyData.tuple [.str "closed", .tuple [.tuple [.str n4, .tuple []], .tuple [.str n5, .tuple [.int (c : Nat)]]]])) = s3.map rowD from e3]
    rw [show PyData.tuple (s1.map rowD) = sigD s1 from rfl, show PyData.tuple (s2.map rowD) = sigD s2 from rfl, show PyData.tuple (s3.map rowD) = sigD s3 from rfl]
    refine lcL_inv (P := fun i acc z => ∃ st, isStrm st ∧ acc = List.replicate i (PyData.bool true) ∧ z = [some (.val scr), some (.own none st), none, none, some (.val (.int (a : Nat))), some (.val (.int (b : Nat))), some (.val (.int (c : Nat))), some (.val (.list (txs [n0, n1, n2, n3, n4, n5]))), some (.own none (s1.map rowD)), some (.own none (s2.map rowD)), some (.own none (s3.map rowD)), some (.val (.list [sigD s1, sigD s2, sigD s3])), none, none]) (fun i x acc z hx p N hN => ?_) (fun acc z p => ?_) ⟨l2, hs2, rfl, rfl⟩
    · obtain ⟨st, hst, rfl, rfl⟩ := p
      have hi := (List.getElem?_eq_some_iff.mp hx).1
      have hi3 : i < 3 := hi
      obtain ⟨s, g, l3, rfl⟩ : ∃ s, GoodS s ∧ s.length = 3 ∧ x = sigD s := by
        have := List.mem_of_getElem? hx
        simp only [List.mem_cons, List.not_mem_nil, or_false] at this
        rcases this with rfl | rfl | rfl
        · exact ⟨s1, g1, l31, rfl⟩
        · exact ⟨s2, g2, l32, rfl⟩
        · exact ⟨s3, g3, l33, rfl⟩
      walk_at "n"
      refine lcL_inv (P := fun i acc z => ∃ st, isStrm st ∧ acc = List.replicate i (PyData.bool true) ∧ z = [some (.val scr), some (.own none st), none, none, some (.val (.int (a : Nat))), some (.val (.int (b : Nat))), some (.val (.int (c : Nat))), some (.val (.list (txs [n0, n1, n2, n3, n4, n5]))), some (.own none (s1.map rowD)), some (.own none (s2.map rowD)), some (.own none (s3.map rowD)), some (.val (.list [sigD s1, sigD s2, sigD s3])), some (.val (sigD s)), none]) (fun i y acc z hy p N2 hN2 => ?_) (fun acc z p => ?_) ⟨st, hst, rfl, rfl⟩
      · obtain ⟨st, hst, rfl, rfl⟩ := p
        have hy3 := (List.getElem?_eq_some_iff.mp hy).1
        rw [rangeD_len] at hy3
        obtain ⟨rfl, hlt⟩ := rangeD_get hy
        rw [show (0 : Int) + ((i : Nat) : Int) = ((i : Nat) : Int) by omega]
        walk_at "n"
        refine ⟨st, s, i, rfl, hst, g, by omega, fun st hst => ?_⟩
        walk_at "n"
        refine ⟨lt_line (by rw [List.length_replicate]; omega), hN2 _ _ ⟨st, hst, ?_, rfl⟩⟩
        rw [List.replicate_succ']
      · obtain ⟨st, hst, rfl, rfl⟩ := p
        walk_at "n"
        refine i_all (bs := List.replicate (rangeD 0 3).length true) (by show some _ = some _; rw [List.map_replicate]) ?_
        rw [show (List.replicate (rangeD 0 3).length true).all id = true from List.all_eq_true.mpr fun b hb => by rw [List.eq_of_mem_replicate hb]; rfl]
        walk_at "n"
        refine ⟨lt_line (by rw [List.length_replicate]; omega), hN _ _ ⟨st, hst, ?_, rfl⟩⟩
        rw [List.replicate_succ']
    · obtain ⟨st, hst, rfl, rfl⟩ := p
      walk_at "n"
      refine i_all (bs := List.replicate [sigD s1, sigD s2, sigD s3].length true) (by show some _ = some _; rw [List.map_replicate]) ?_
      rw [show (List.replicate [sigD s1, sigD s2, sigD s3].length true).all id = true from List.all_eq_true.mpr fun b hb => by rw [List.eq_of_mem_replicate hb]; rfl]
      walk_at "n"
      exact q
end L3
namespace K03
open PySem PySem.Spec PyProof.Rows L2 L3
def topS (i : Nat) : Stmt := PySem.Challenge.pw_closestfit_k03_whole_finite_kinds.main.body.getD i (.Pass ⟨0, 0, 0, 0⟩)
abbrev s_is_whole : Stmt := topS 8
abbrev s_is_within : Stmt := topS 9
abbrev s_is_name : Stmt := topS 10
abbrev s_are_kinds : Stmt := topS 11
abbrev s_is_constructor : Stmt := topS 12
abbrev s_is_kind_row : Stmt := topS 13
abbrev s_filled_kinds : Stmt := topS 14
abbrev s_is_signature : Stmt := topS 15
abbrev s_check_signature : Stmt := topS 16
abbrev s_check_kind : Stmt := topS 17
abbrev s_is_open : Stmt := topS 18
abbrev s_constructors_of : Stmt := topS 19
abbrev s_parts_in : Stmt := topS 20
abbrev s_kinds_led_to : Stmt := topS 21
abbrev s_is_finite_kind : Stmt := topS 22
abbrev s_is_finite : Stmt := topS 23
abbrev s_told_heights : Stmt := topS 25
abbrev s_told_way : Stmt := topS 26
abbrev s_are_heights : Stmt := topS 27
abbrev s_is_way : Stmt := topS 28
abbrev s_finite_evidence : Stmt := topS 29
abbrev s_is_finite_evidence : Stmt := topS 30
abbrev s_law_stream : Stmt := topS 32
abbrev s_law_next : Stmt := topS 33
abbrev s_law_pick : Stmt := topS 34
abbrev s_law_order : Stmt := topS 35
abbrev s_law_is_integer : Stmt := topS 36
abbrev s_law_same : Stmt := topS 37
abbrev s_law_word : Stmt := topS 38
abbrev s_law_names : Stmt := topS 39
abbrev s_law_any_signature : Stmt := topS 40
abbrev s_law_rich_signature : Stmt := topS 41
abbrev s_law_signature : Stmt := topS 42
abbrev s_law_all_tuples : Stmt := topS 43
abbrev s_law_leads : Stmt := topS 44
abbrev s_law_is_endless : Stmt := topS 45
abbrev s_law_told_heights : Stmt := topS 46
abbrev s_law_come_to : Stmt := topS 48
abbrev s_law_further : Stmt := topS 47
abbrev s_law_is_way : Stmt := topS 49
abbrev s_law_told_way : Stmt := topS 50
abbrev s_law_are_heights : Stmt := topS 51
abbrev s_law_spoilt_way : Stmt := topS 52
abbrev s_law_asked : Stmt := topS 53
abbrev s_law : Stmt := topS 54
structure Bl (P : Program) (w : World) (K : PySem.W.Frag) (mg : Str → Option Value) (base : Heap) : Prop where
  b_abs : mg "abs" = none
  b_all : mg "all" = none
  b_any : mg "any" = none
  b_bool : mg "bool" = none
  b_enumerate : mg "enumerate" = none
  b_int : mg "int" = none
  b_isinstance : mg "isinstance" = none
  b_len : mg "len" = none
  b_list : mg "list" = none
  b_max : mg "max" = none
  b_range : mg "range" = none
  b_str : mg "str" = none
  b_sum : mg "sum" = none
  b_tuple : mg "tuple" = none
  c_MOST_KINDS : ∃ t, mg "MOST_KINDS" = some (.int 3 t)
  c_MOST_CONSTRUCTORS : ∃ t, mg "MOST_CONSTRUCTORS" = some (.int 4 t)
  c_MOST_PARTS : ∃ t, mg "MOST_PARTS" = some (.int 2 t)
  c_LETTERS : ∃ t, mg "LETTERS" = some (.str "abcdefghijklmnopqrstuvwxyz" t)
section
variable {P : Program} {w : World} {K : PySem.W.Frag} {mg : Str → Option Value} {base : Heap}
theorem sc_is_whole : FnScope ["value", "low"] ["value", "low"] (defScope s_is_whole) := ⟨rfl, rfl, rfl, by decide +kernel, rfl, by decide +kernel, by decide +kernel⟩
theorem x_is_whole (T : Bl P w K mg base) {f : Addr} {fd : FuncData} (Fn : Fun K "is_whole" "is_whole" s_is_whole f fd) : FnOk P w K mg base CX0 31 f fd ["value", "low"] (spOf K p_is_whole) :=
  have nd := sc_is_whole.nd
  fn_ok Fn sc_is_whole l_is_whole (t := w_is_whole) (fun cdv A outer s H E F hr =>
(xss_one (xs_ret (xe_and (xe_isa (n := "int") kit_int (by rfl) T.b_isinstance (xe_v 0) (by rfl) T.b_int (by decide +kernel)) (xe_and (xe_not (xe_isa (n := "bool") kit_bool (by rfl) T.b_isinstance (xe_v 0) (by rfl) T.b_bool (by decide +kernel))) (xe_one (xe_cmp op_ge (vr_ii0 fun _ _ _ => .bl _) (xe_v 0) (xe_v 1) (nomark _)))))))) v_is_whole
theorem sc_is_within : FnScope ["value", "low", "high"] ["value", "low", "high"] (defScope s_is_within) := ⟨rfl, rfl, rfl, by decide +kernel, rfl, by decide +kernel, by decide +kernel⟩
theorem x_is_within (T : Bl P w K mg base) (d_is_whole : Fd P w K mg base "is_whole" 31 ["value", "low"] p_is_whole) {f : Addr} {fd : FuncData} (Fn : Fun K "is_within" "is_within" s_is_within f fd) : FnOk P w K mg base CX0 32 f fd ["value", "low", "high"] (spOf K p_is_within) :=
  have nd := sc_is_within.nd
  fn_ok Fn sc_is_within l_is_within (t := w_is_within) (fun cdv A outer s H E F hr =>
(xss_one (xs_ret (xe_and (XR.xe (xr_call m_is_whole (d_is_whole.ok.mono (by decide)) hr (by rfl) d_is_whole.mg d_is_whole.kp d_is_whole.b (xa_cons (xe_v 0) (xa_cons (xe_v 1) xa_nil)))) (xe_one (xe_cmp op_le (vr_ii0 fun _ _ _ => .bl _) (xe_v 0) (xe_v 2) (nomark _))))))) v_is_within
theorem sc_is_name : FnScope ["value", "letter"] ["value"] (defScope s_is_name) := ⟨rfl, rfl, rfl, by decide +kernel, rfl, by decide +kernel, by decide +kernel⟩
theorem x_is_name (T : Bl P w K mg base) {f : Addr} {fd : FuncData} (Fn : Fun K "is_name" "is_name" s_is_name f fd) : FnOk P w K mg base CX0 31 f fd ["value"] (spOf K p_is_name) :=
  have nd := sc_is_name.nd
  fn_ok Fn sc_is_name l_is_name (t := w_is_name) (fun cdv A outer s H E F hr =>
(xss_one (xs_ret (xe_and (xe_isa (n := "str") kit_str (by rfl) T.b_isinstance (xe_v 0) (by rfl) T.b_str (by decide +kernel)) (xe_and (xe_chain op_le op_le (vr_ii0 fun _ _ _ => .bl _) (vr_ii0 fun _ _ _ => .bl _) xe_int (xe_len (by rfl) T.b_len (xa_cons (xe_v 0) xa_nil)) xe_int) (xe_one (xe_all rfl (by rfl) T.b_all (xa_cons (XR.xe (xr_lcA [("letter", 1)] rfl nd (xi_any (xe_v 0)) (blkOk_by (by kernel_rfl)) (fun _ _ _ _ _ => (xg_name (i := 1) nd rfl (.inl rfl) (by first | exact .inl rfl | exact .inr rfl))) (fun _ _ _ _ _ => xts_nil) (fun _ _ _ _ _ => (xe_cmp (op_inP (hr.far (by decide))) vr_in (xe_v 1) (xe_gS (by rfl) T.c_LETTERS) (by rfl))))) xa_nil)))))))) v_is_name
theorem sc_are_kinds : FnScope ["many", "value", "least", "most", "kind"] ["many", "value", "least", "most"] (defScope s_are_kinds) := ⟨rfl, rfl, rfl, by decide +kernel, rfl, by decide +kernel, by decide +kernel⟩
theorem x_are_kinds (T : Bl P w K mg base) (d_is_within : Fd P w K mg base "is_within" 32 ["value", "low", "high"] p_is_within) {f : Addr} {fd : FuncData} (Fn : Fun K "are_kinds" "are_kinds" s_are_kinds f fd) : FnOk P w K mg base CX0 33 f fd ["many", "value", "least", "most"] (spOf K p_are_kinds) :=
  have nd := sc_are_kinds.nd
  fn_ok Fn sc_are_kinds l_are_kinds (t := w_are_kinds) (fun cdv A outer s H E F hr =>
(xss_cons (xs_if (XW.xt (xw_or (xt_not (xt_val (xe_isa (n := "tuple") kit_tuple (by rfl) T.b_isinstance (xe_v 1) (by rfl) T.b_tuple (by decide +kernel)))) (xw_or1 (xt_not (xt_chain op_le op_le (vr_ii0 fun _ _ _ => .bl _) (vr_ii0 fun _ _ _ => .bl _) (xe_v 2) (xe_len (by rfl) T.b_len (xa_cons (xe_v 1) xa_nil)) (xe_v 3))))))
 (xss_one (xs_ret xe_bl))
 xss_nil)
 (xss_one (xs_ret (xe_all rfl (by rfl) T.b_all (xa_cons (XR.xe (xr_lcA [("kind", 4)] rfl nd (xi_any (xe_v 1)) (blkOk_by (by kernel_rfl)) (fun _ _ _ _ _ => (xg_name (i := 4) nd rfl (.inl rfl) (by first | exact .inl rfl | exact .inr rfl))) (fun _ _ _ _ _ => xts_nil) (fun _ _ _ _ _ => (XR.xe (xr_call m_is_within (d_is_within.ok.mono (by decide)) hr (by rfl) d_is_within.mg d_is_within.kp d_is_within.b (xa_cons (xe_v 4) (xa_cons xe_int (xa_cons (xe_op op_sub (vr_ii0 fun _ _ _ => .int _) (xe_v 0) xe_int) xa_nil)))))))) xa_nil)))))) v_are_kinds
theorem sc_is_constructor : FnScope ["many", "value"] ["many", "value"] (defScope s_is_constructor) := ⟨rfl, rfl, rfl, by decide +kernel, rfl, by decide +kernel, by decide +kernel⟩
theorem x_is_constructor (T : Bl P w K mg base) (d_are_kinds : Fd P w K mg base "are_kinds" 33 ["many", "value", "least", "most"] p_are_kinds) (d_is_name : Fd P w K mg base "is_name" 31 ["value"] p_is_name) {f : Addr} {fd : FuncData} (Fn : Fun K "is_constructor" "is_constructor" s_is_constructor f fd) : FnOk P w K mg base CX0 34 f fd ["many", "value"] (spOf K p_is_constructor) :=
  have nd := sc_is_constructor.nd
  fn_ok Fn sc_is_constructor l_is_constructor (t := w_is_constructor) (fun cdv A outer s H E F hr =>
(xss_cons (xs_if (XW.xt (xw_or (xt_not (xt_val (xe_isa (n := "tuple") kit_tuple (by rfl) T.b_isinstance (xe_v 1) (by rfl) T.b_tuple (by decide +kernel)))) (xw_or (xt_cmp (op_neP (hr.far (by decide))) vr_eq (xe_len (by rfl) T.b_len (xa_cons (xe_v 1) xa_nil)) xe_int (nomark _)) (xw_or1 (xt_not (xt_val (XR.xe (xr_call m_is_name (d_is_name.ok.mono (by decide)) hr (by rfl) d_is_name.mg d_is_name.kp d_is_name.b (xa_cons (xe_ix (xe_v 1) xe_int) xa_nil)))))))))
 (xss_one (xs_ret xe_bl))
 xss_nil)
 (xss_one (xs_retR (xr_call m_are_kinds (d_are_kinds.ok.mono (by decide)) hr (by rfl) d_are_kinds.mg d_are_kinds.kp d_are_kinds.b (xa_cons (xe_v 0) (xa_cons (xe_ix (xe_v 1) xe_int) (xa_cons xe_int (xa_cons (xe_gI (by rfl) T.c_MOST_PARTS) xa_nil))))))))) v_is_constructor
theorem sc_is_kind_row : FnScope ["many", "value", "row"] ["many", "value"] (defScope s_is_kind_row) := ⟨rfl, rfl, rfl, by decide +kernel, rfl, by decide +kernel, by decide +kernel⟩
theorem x_is_kind_row (T : Bl P w K mg base) (d_is_constructor : Fd P w K mg base "is_constructor" 34 ["many", "value"] p_is_constructor) {f : Addr} {fd : FuncData} (Fn : Fun K "is_kind_row" "is_kind_row" s_is_kind_row f fd) : FnOk P w K mg base CX0 35 f fd ["many", "value"] (spOf K p_is_kind_row) :=
  have nd := sc_is_kind_row.nd
  fn_ok Fn sc_is_kind_row l_is_kind_row (t := w_is_kind_row) (fun cdv A outer s H E F hr =>
(xss_cons (xs_if (XW.xt (xw_or (xt_not (xt_val (xe_isa (n := "tuple") kit_tuple (by rfl) T.b_isinstance (xe_v 1) (by rfl) T.b_tuple (by decide +kernel)))) (xw_or (xt_cmp (op_neP (hr.far (by decide))) vr_eq (xe_len (by rfl) T.b_len (xa_cons (xe_v 1) xa_nil)) xe_int (nomark _)) (xw_or1 (xt_not (xt_val (xe_isa (n := "str") kit_str (by rfl) T.b_isinstance (xe_ix (xe_v 1) xe_int) (by rfl) T.b_str (by decide +kernel))))))))
 (xss_one (xs_ret xe_bl))
 xss_nil)
 (xss_cons (xs_if (XW.xt (xw_or (xt_cmp (op_notinP (hr.far (by decide))) vr_in (xe_ix (xe_v 1) xe_int) (xe_tup (xa_cons xe_str (xa_cons xe_str xa_nil))) (by rfl)) (xw_or (xt_not (xt_val (xe_isa (n := "tuple") kit_tuple (by rfl) T.b_isinstance (xe_ix (xe_v 1) xe_int) (by rfl) T.b_tuple (by decide +kernel)))) (xw_or1 (xt_cmp op_gt (vr_ii0 fun _ _ _ => .bl _) (xe_len (by rfl) T.b_len (xa_cons (xe_ix (xe_v 1) xe_int) xa_nil)) (xe_gI (by rfl) T.c_MOST_CONSTRUCTORS) (nomark _))))))
 (xss_one (xs_ret xe_bl))
 xss_nil)
 (xss_one (xs_ret (xe_all rfl (by rfl) T.b_all (xa_cons (XR.xe (xr_lcA [("row", 2)] rfl nd (xi_any (xe_ix (xe_v 1) xe_int)) (blkOk_by (by kernel_rfl)) (fun _ _ _ _ _ => (xg_name (i := 2) nd rfl (.inl rfl) (by first | exact .inl rfl | exact .inr rfl))) (fun _ _ _ _ _ => xts_nil) (fun _ _ _ _ _ => (XR.xe (xr_call m_is_constructor (d_is_constructor.ok.mono (by decide)) hr (by rfl) d_is_constructor.mg d_is_constructor.kp d_is_constructor.b (xa_cons (xe_v 0) (xa_cons (xe_v 2) xa_nil))))))) xa_nil))))))) v_is_kind_row
theorem sc_filled_kinds : FnScope ["signature", "found", "turn", "kind", "row", "name", "parts", "part"] ["signature"] (defScope s_filled_kinds) := ⟨rfl, rfl, rfl, by decide +kernel, rfl, by decide +kernel, by decide +kernel⟩
theorem x_filled_kinds (T : Bl P w K mg base) {f : Addr} {fd : FuncData} (Fn : Fun K "filled_kinds" "filled_kinds" s_filled_kinds f fd) : FnOk P w K mg base CX0 31 f fd ["signature"] (spOf K p_filled_kinds) :=
  have nd := sc_filled_kinds.nd
  fn_ok Fn sc_filled_kinds l_filled_kinds (t := w_filled_kinds) (fun cdv A outer s H E F hr =>
(xss_cons (xs_setO (i := 1) nd rfl (.inr rfl) (xr_lcA [("kind", 3), ("row", 4)] rfl nd (xi_enum (by rfl) T.b_enumerate (xa_cons (xe_v 0) xa_nil)) (blkOk_by (by kernel_rfl)) (fun _ _ _ _ _ => (xg_tup rfl (xgs_cons (xg_name (i := 3) nd rfl (.inl rfl) (by first | exact .inl rfl | exact .inr rfl)) (xgs_cons (xg_name (i := 4) nd rfl (.inl rfl) (by first | exact .inl rfl | exact .inr rfl)) xgs_nil)))) (fun _ _ _ _ _ => (xts_one (xt_cmp (op_eqP (hr.far (by decide))) vr_eq (xe_ix (xe_v 4) xe_int) xe_str (nomark _)))) (fun _ _ _ _ _ => (xe_v 3))))
 (xss_cons (xs_for PassesOwn.never rfl (xi_any (xe_v 0)) (xg_name (i := 2) nd rfl (.inl rfl))
 (xss_kill [2, 3, 4] (xss_one (xs_for PassesOwn.never rfl (xi_enum (by rfl) T.b_enumerate (xa_cons (xe_v 0) xa_nil)) (xg_tup rfl (xgs_cons (xg_name (i := 3) nd rfl (.inl rfl)) (xgs_cons (xg_name (i := 4) nd rfl (.inl rfl)) xgs_nil)))
 (xss_kill [3, 4] (xss_one (xs_if (XW.xt (xw_and (xt_cmp (op_notinP (hr.far (by decide))) vr_in (xe_v 3) (xe_v 1) (by rfl)) (xw_and1 (xt_val (xe_any rfl (by rfl) T.b_any (xa_cons (XR.xe (xr_lcA [("name", 5), ("parts", 6)] rfl nd (xi_any (xe_ix (xe_v 4) xe_int)) (blkOk_by (by kernel_rfl)) (fun _ _ _ _ _ => (xg_tup rfl (xgs_cons (xg_name (i := 5) nd rfl (.inl rfl) (by first | exact .inl rfl | exact .inr rfl)) (xgs_cons (xg_name (i := 6) nd rfl (.inl rfl) (by first | exact .inl rfl | exact .inr rfl)) xgs_nil)))) (fun _ _ _ _ _ => xts_nil) (fun _ _ _ _ _ => (xe_all rfl (by rfl) T.b_all (xa_cons (XR.xe (xr_lcA [("part", 7)] rfl nd (xi_any (xe_v 6)) (blkOk_by (by kernel_rfl)) (fun _ _ _ _ _ => (xg_name (i := 7) nd rfl (.inl rfl) (by first | exact .inl rfl | exact .inr rfl))) (fun _ _ _ _ _ => xts_nil) (fun _ _ _ _ _ => (xe_cmp (op_inP (hr.far (by decide))) vr_in (xe_v 7) (xe_v 1) (by rfl))))) xa_nil))))) xa_nil))))))
 (xss_one (xs_expr (XR.xe (xr_append (xe_v 1) (xa_cons (xe_v 3) xa_nil)))))
 xss_nil)))))))
 (xss_one (xs_retO 1))))) v_filled_kinds
theorem sc_is_signature : FnScope ["value", "names", "row", "name", "parts"] ["value"] (defScope s_is_signature) := ⟨rfl, rfl, rfl, by decide +kernel, rfl, by decide +kernel, by decide +kernel⟩
theorem x_is_signature (T : Bl P w K mg base) (d_filled_kinds : Fd P w K mg base "filled_kinds" 31 ["signature"] p_filled_kinds) (d_is_kind_row : Fd P w K mg base "is_kind_row" 35 ["many", "value"] p_is_kind_row) {f : Addr} {fd : FuncData} (Fn : Fun K "is_signature" "is_signature" s_is_signature f fd) : FnOk P w K mg base CX0 36 f fd ["value"] (spOf K p_is_signature) :=
  have nd := sc_is_signature.nd
  fn_ok Fn sc_is_signature l_is_signature (t := w_is_signature) (fun cdv A outer s H E F hr =>
(xss_cons (xs_if (XW.xt (xw_or (xt_not (xt_val (xe_isa (n := "tuple") kit_tuple (by rfl) T.b_isinstance (xe_v 0) (by rfl) T.b_tuple (by decide +kernel)))) (xw_or1 (xt_not (xt_chain op_le op_le (vr_ii0 fun _ _ _ => .bl _) (vr_ii0 fun _ _ _ => .bl _) xe_int (xe_len (by rfl) T.b_len (xa_cons (xe_v 0) xa_nil)) (xe_gI (by rfl) T.c_MOST_KINDS))))))
 (xss_one (xs_ret xe_bl))
 xss_nil)
 (xss_cons (xs_if (xt_not (xt_val (xe_all rfl (by rfl) T.b_all (xa_cons (XR.xe (xr_lcA [("row", 2)] rfl nd (xi_any (xe_v 0)) (blkOk_by (by kernel_rfl)) (fun _ _ _ _ _ => (xg_name (i := 2) nd rfl (.inl rfl) (by first | exact .inl rfl | exact .inr rfl))) (fun _ _ _ _ _ => xts_nil) (fun _ _ _ _ _ => (XR.xe (xr_call m_is_kind_row (d_is_kind_row.ok.mono (by decide)) hr (by rfl) d_is_kind_row.mg d_is_kind_row.kp d_is_kind_row.b (xa_cons (xe_len (by rfl) T.b_len (xa_cons (xe_v 0) xa_nil)) (xa_cons (xe_v 2) xa_nil))))))) xa_nil))))
 (xss_one (xs_ret xe_bl))
 xss_nil)
 (xss_cons (xs_set (i := 1) nd rfl (.inr rfl) (XR.xe (xr_lc2A [("row", 2), ("name", 3), ("parts", 4)] [3, 4] rfl nd (xi_any (xe_v 0)) (blkOk_by (by kernel_rfl)) (fun _ _ _ _ _ => (xg_name (i := 2) nd rfl (.inl rfl) (by first | exact .inl rfl | exact .inr rfl))) (fun _ _ _ _ _ => xts_nil) (fun _ _ _ _ _ => (xi_any (xe_ix (xe_v 2) xe_int))) (fun _ _ _ _ _ => (xg_tup rfl (xgs_cons (xg_name (i := 3) nd rfl (.inl rfl) (by first | exact .inl rfl | exact .inr rfl)) (xgs_cons (xg_name (i := 4) nd rfl (.inl rfl) (by first | exact .inl rfl | exact .inr rfl)) xgs_nil)))) (fun _ _ _ _ _ => xts_nil) (fun _ _ _ _ _ => (xe_v 3)))))
 (xss_cons (xs_if (xt_val (xe_any rfl (by rfl) T.b_any (xa_cons (XR.xe (xr_lcA [("name", 3)] rfl nd (xi_any (xe_v 1)) (blkOk_by (by kernel_rfl)) (fun _ _ _ _ _ => (xg_name (i := 3) nd rfl (.inl rfl) (by first | exact .inl rfl | exact .inr rfl))) (fun _ _ _ _ _ => xts_nil) (fun _ _ _ _ _ => (xe_cmp op_gt (vr_ii0 fun _ _ _ => .bl _) (XR.xe (xr_count hr.units (xe_v 1) (xa_cons (xe_v 3) xa_nil))) xe_int (nomark _))))) xa_nil)))
 (xss_one (xs_ret xe_bl))
 xss_nil)
 (xss_one (xs_ret (xe_cmp (op_eqP (hr.far (by decide))) vr_eq (xe_len (by rfl) T.b_len (xa_cons (XR.xe (xr_call m_filled_kinds (d_filled_kinds.ok.mono (by decide)) hr (by rfl) d_filled_kinds.mg d_filled_kinds.kp d_filled_kinds.b (xa_cons (xe_v 0) xa_nil))) xa_nil)) (xe_len (by rfl) T.b_len (xa_cons (xe_v 0) xa_nil)) (nomark _))))))))) v_is_signature
theorem sc_check_signature : FnScope ["signature"] ["signature"] (defScope s_check_signature) := ⟨rfl, rfl, rfl, by decide +kernel, rfl, by decide +kernel, by decide +kernel⟩
theorem x_check_signature (T : Bl P w K mg base) (d_is_signature : Fd P w K mg base "is_signature" 36 ["value"] p_is_signature) {f : Addr} {fd : FuncData} (Fn : Fun K "check_signature" "check_signature" s_check_signature f fd) : FnOk P w K mg base CX0 37 f fd ["signature"] (spOf K p_check_signature) :=
  have nd := sc_check_signature.nd
  fn_ok Fn sc_check_signature l_check_signature (t := w_check_signature) (fun cdv A outer s H E F hr =>
(xss_one (xs_if (xt_not (xt_val (XR.xe (xr_call m_is_signature (d_is_signature.ok.mono (by decide)) hr (by rfl) d_is_signature.mg d_is_signature.kp d_is_signature.b (xa_cons (xe_v 0) xa_nil)))))
 (xss_one xs_never)
 xss_nil))) v_check_signature
theorem sc_check_kind : FnScope ["signature", "kind"] ["signature", "kind"] (defScope s_check_kind) := ⟨rfl, rfl, rfl, by decide +kernel, rfl, by decide +kernel, by decide +kernel⟩
theorem x_check_kind (T : Bl P w K mg base) (d_check_signature : Fd P w K mg base "check_signature" 37 ["signature"] p_check_signature) (d_is_within : Fd P w K mg base "is_within" 32 ["value", "low", "high"] p_is_within) {f : Addr} {fd : FuncData} (Fn : Fun K "check_kind" "check_kind" s_check_kind f fd) : FnOk P w K mg base CX0 38 f fd ["signature", "kind"] (spOf K p_check_kind) :=
  have nd := sc_check_kind.nd
  fn_ok Fn sc_check_kind l_check_kind (t := w_check_kind) (fun cdv A outer s H E F hr =>
(xss_cons (xs_expr (XR.xe (xr_call m_check_signature (d_check_signature.ok.mono (by decide)) hr (by rfl) d_check_signature.mg d_check_signature.kp d_check_signature.b (xa_cons (xe_v 0) xa_nil))))
 (xss_one (xs_if (xt_not (xt_val (XR.xe (xr_call m_is_within (d_is_within.ok.mono (by decide)) hr (by rfl) d_is_within.mg d_is_within.kp d_is_within.b (xa_cons (xe_v 1) (xa_cons xe_int (xa_cons (xe_op op_sub (vr_ii0 fun _ _ _ => .int _) (xe_len (by rfl) T.b_len (xa_cons (xe_v 0) xa_nil)) xe_int) xa_nil)))))))
 (xss_one xs_never)
 xss_nil)))) v_check_kind
theorem sc_is_open : FnScope ["signature", "kind"] ["signature", "kind"] (defScope s_is_open) := ⟨rfl, rfl, rfl, by decide +kernel, rfl, by decide +kernel, by decide +kernel⟩
theorem x_is_open (T : Bl P w K mg base) {f : Addr} {fd : FuncData} (Fn : Fun K "is_open" "is_open" s_is_open f fd) : FnOk P w K mg base CX0 31 f fd ["signature", "kind"] (spOf K p_is_open) :=
  have nd := sc_is_open.nd
  fn_ok Fn sc_is_open l_is_open (t := w_is_open) (fun cdv A outer s H E F hr =>
(xss_one (xs_ret (xe_cmp (op_eqP (hr.far (by decide))) vr_eq (xe_ix (xe_ix (xe_v 0) (xe_v 1)) xe_int) xe_str (nomark _))))) v_is_open
theorem sc_constructors_of : FnScope ["signature", "kind"] ["signature", "kind"] (defScope s_constructors_of) := ⟨rfl, rfl, rfl, by decide +kernel, rfl, by decide +kernel, by decide +kernel⟩
theorem x_constructors_of (T : Bl P w K mg base) {f : Addr} {fd : FuncData} (Fn : Fun K "constructors_of" "constructors_of" s_constructors_of f fd) : FnOk P w K mg base CX0 31 f fd ["signature", "kind"] (spOf K p_constructors_of) :=
  have nd := sc_constructors_of.nd
  fn_ok Fn sc_constructors_of l_constructors_of (t := w_constructors_of) (fun cdv A outer s H E F hr =>
(xss_one (xs_ret (xe_ix (xe_ix (xe_v 0) (xe_v 1)) xe_int)))) v_constructors_of
theorem sc_parts_in : FnScope ["signature", "kind", "name", "one", "parts"] ["signature", "kind", "name"] (defScope s_parts_in) := ⟨rfl, rfl, rfl, by decide +kernel, rfl, by decide +kernel, by decide +kernel⟩
theorem x_parts_in (T : Bl P w K mg base) {f : Addr} {fd : FuncData} (Fn : Fun K "parts_in" "parts_in" s_parts_in f fd) : FnOk P w K mg base CX0 31 f fd ["signature", "kind", "name"] (spOf K p_parts_in) :=
  have nd := sc_parts_in.nd
  fn_ok Fn sc_parts_in l_parts_in (t := w_parts_in) (fun cdv A outer s H E F hr =>
(xss_cons (xs_for PassesOwn.never rfl (xi_any (xe_ix (xe_ix (xe_v 0) (xe_v 1)) xe_int)) (xg_tup rfl (xgs_cons (xg_name (i := 3) nd rfl (.inl rfl)) (xgs_cons (xg_name (i := 4) nd rfl (.inl rfl)) xgs_nil)))
 (xss_kill [3, 4] (xss_one (xs_if (xt_cmp (op_eqP (hr.far (by decide))) vr_eq (xe_v 3) (xe_v 2) (nomark _))
 (xss_one (xs_ret (xe_v 4)))
 xss_nil))))
 (xss_one (xs_ret xe_non)))) v_parts_in
theorem sc_kinds_led_to : FnScope ["signature", "kind", "found", "turn", "name", "parts", "part", "other"] ["signature", "kind"] (defScope s_kinds_led_to) := ⟨rfl, rfl, rfl, by decide +kernel, rfl, by decide +kernel, by decide +kernel⟩
theorem x_kinds_led_to (T : Bl P w K mg base) {f : Addr} {fd : FuncData} (Fn : Fun K "kinds_led_to" "kinds_led_to" s_kinds_led_to f fd) : FnOk P w K mg base CX0 31 f fd ["signature", "kind"] (spOf K p_kinds_led_to) :=
  have nd := sc_kinds_led_to.nd
  fn_ok Fn sc_kinds_led_to l_kinds_led_to (t := w_kinds_led_to) (fun cdv A outer s H E F hr =>
(xss_cons (xs_setO (i := 2) nd rfl (.inr rfl) (xr_lc2A [("name", 4), ("parts", 5), ("part", 6)] [6] rfl nd (xi_any (xe_ix (xe_ix (xe_v 0) (xe_v 1)) xe_int)) (blkOk_by (by kernel_rfl)) (fun _ _ _ _ _ => (xg_tup rfl (xgs_cons (xg_name (i := 4) nd rfl (.inl rfl) (by first | exact .inl rfl | exact .inr rfl)) (xgs_cons (xg_name (i := 5) nd rfl (.inl rfl) (by first | exact .inl rfl | exact .inr rfl)) xgs_nil)))) (fun _ _ _ _ _ => xts_nil) (fun _ _ _ _ _ => (xi_any (xe_v 5))) (fun _ _ _ _ _ => (xg_name (i := 6) nd rfl (.inl rfl) (by first | exact .inl rfl | exact .inr rfl))) (fun _ _ _ _ _ => xts_nil) (fun _ _ _ _ _ => (xe_v 6))))
 (xss_cons (xs_for PassesOwn.never rfl (xi_any (xe_v 0)) (xg_name (i := 3) nd rfl (.inl rfl))
 (xss_kill [3] (xss_cons (xs_expr (XR.xe (xr_extend (xe_v 2) (xa_cons (XR.xe (xr_lc3A [("other", 7), ("name", 4), ("parts", 5), ("part", 6)] [4, 5, 6] [6] rfl nd (xi_any (XR.xe (xr_list (by rfl) T.b_list (xa_cons (xe_v 2) xa_nil)))) (blkOk_by (by kernel_rfl)) (fun _ _ _ _ _ => (xg_name (i := 7) nd rfl (.inl rfl) (by first | exact .inl rfl | exact .inr rfl))) (fun _ _ _ _ _ => xts_nil) (fun _ _ _ _ _ => (xi_any (xe_ix (xe_ix (xe_v 0) (xe_v 7)) xe_int))) (fun _ _ _ _ _ => (xg_tup rfl (xgs_cons (xg_name (i := 4) nd rfl (.inl rfl) (by first | exact .inl rfl | exact .inr rfl)) (xgs_cons (xg_name (i := 5) nd rfl (.inl rfl) (by first | exact .inl rfl | exact .inr rfl)) xgs_nil)))) (fun _ _ _ _ _ => xts_nil) (fun _ _ _ _ _ => (xi_any (xe_v 5))) (fun _ _ _ _ _ => (xg_name (i := 6) nd rfl (.inl rfl) (by first | exact .inl rfl | exact .inr rfl))) (fun _ _ _ _ _ => xts_nil) (fun _ _ _ _ _ => (xe_v 6)))) xa_nil))))
 (xss_one (xs_setO (i := 2) nd rfl (.inr rfl) (xr_lcA [("other", 7)] rfl nd (xi_range1 (by rfl) T.b_range (xa_cons (xe_len (by rfl) T.b_len (xa_cons (xe_v 0) xa_nil)) xa_nil)) (blkOk_by (by kernel_rfl)) (fun _ _ _ _ _ => (xg_name (i := 7) nd rfl (.inl rfl) (by first | exact .inl rfl | exact .inr rfl))) (fun _ _ _ _ _ => (xts_one (xt_cmp (op_inP (hr.far (by decide))) vr_in (xe_v 7) (xe_v 2) (by rfl)))) (fun _ _ _ _ _ => (xe_v 7))))))))
 (xss_one (xs_ret (xe_tuple (by rfl) T.b_tuple (xa_cons (xe_v 2) xa_nil))))))) v_kinds_led_to
theorem sc_is_finite_kind : FnScope ["signature", "kind", "other"] ["signature", "kind"] (defScope s_is_finite_kind) := ⟨rfl, rfl, rfl, by decide +kernel, rfl, by decide +kernel, by decide +kernel⟩
theorem x_is_finite_kind (T : Bl P w K mg base) (d_kinds_led_to : Fd P w K mg base "kinds_led_to" 31 ["signature", "kind"] p_kinds_led_to) (d_is_open : Fd P w K mg base "is_open" 31 ["signature", "kind"] p_is_open) {f : Addr} {fd : FuncData} (Fn : Fun K "is_finite_kind" "is_finite_kind" s_is_finite_kind f fd) : FnOk P w K mg base CX0 32 f fd ["signature", "kind"] (spOf K p_is_finite_kind) :=
  have nd := sc_is_finite_kind.nd
  fn_ok Fn sc_is_finite_kind l_is_finite_kind (t := w_is_finite_kind) (fun cdv A outer s H E F hr =>
(xss_cons (xs_for PassesOwn.never rfl (xi_any (XR.xe (xr_call m_kinds_led_to (d_kinds_led_to.ok.mono (by decide)) hr (by rfl) d_kinds_led_to.mg d_kinds_led_to.kp d_kinds_led_to.b (xa_cons (xe_v 0) (xa_cons (xe_v 1) xa_nil))))) (xg_name (i := 2) nd rfl (.inl rfl))
 (xss_kill [2] (xss_one (xs_if (XW.xt (xw_or (xt_val (XR.xe (xr_call m_is_open (d_is_open.ok.mono (by decide)) hr (by rfl) d_is_open.mg d_is_open.kp d_is_open.b (xa_cons (xe_v 0) (xa_cons (xe_v 2) xa_nil))))) (xw_or1 (xt_cmp (op_inP (hr.far (by decide))) vr_in (xe_v 2) (XR.xe (xr_call m_kinds_led_to (d_kinds_led_to.ok.mono (by decide)) hr (by rfl) d_kinds_led_to.mg d_kinds_led_to.kp d_kinds_led_to.b (xa_cons (xe_v 0) (xa_cons (xe_v 2) xa_nil)))) (by rfl)))))
 (xss_one (xs_ret xe_bl))
 xss_nil))))
 (xss_one (xs_ret (xe_not (XR.xe (xr_call m_is_open (d_is_open.ok.mono (by decide)) hr (by rfl) d_is_open.mg d_is_open.kp d_is_open.b (xa_cons (xe_v 0) (xa_cons (xe_v 1) xa_nil))))))))) v_is_finite_kind
theorem sc_is_finite : FnScope ["signature", "kind"] ["signature", "kind"] (defScope s_is_finite) := ⟨rfl, rfl, rfl, by decide +kernel, rfl, by decide +kernel, by decide +kernel⟩
theorem x_is_finite (T : Bl P w K mg base) (d_check_kind : Fd P w K mg base "check_kind" 38 ["signature", "kind"] p_check_kind) (d_is_finite_kind : Fd P w K mg base "is_finite_kind" 32 ["signature", "kind"] p_is_finite_kind) {f : Addr} {fd : FuncData} (Fn : Fun K "is_finite" "is_finite" s_is_finite f fd) : FnOk P w K mg base CX0 39 f fd ["signature", "kind"] (spOf K p_is_finite) :=
  have nd := sc_is_finite.nd
  fn_ok Fn sc_is_finite l_is_finite (t := w_is_finite) (fun cdv A outer s H E F hr =>
(xss_cons (xs_expr (XR.xe (xr_call m_check_kind (d_check_kind.ok.mono (by decide)) hr (by rfl) d_check_kind.mg d_check_kind.kp d_check_kind.b (xa_cons (xe_v 0) (xa_cons (xe_v 1) xa_nil)))))
 (xss_one (xs_retR (xr_call m_is_finite_kind (d_is_finite_kind.ok.mono (by decide)) hr (by rfl) d_is_finite_kind.mg d_is_finite_kind.kp d_is_finite_kind.b (xa_cons (xe_v 0) (xa_cons (xe_v 1) xa_nil))))))) v_is_finite
theorem sc_told_heights : FnScope ["signature", "kind", "heights", "asked", "turn", "other", "below", "name", "parts", "part", "height"] ["signature", "kind"] (defScope s_told_heights) := ⟨rfl, rfl, rfl, by decide +kernel, rfl, by decide +kernel, by decide +kernel⟩
theorem x_told_heights (T : Bl P w K mg base) (d_kinds_led_to : Fd P w K mg base "kinds_led_to" 31 ["signature", "kind"] p_kinds_led_to) (d_constructors_of : Fd P w K mg base "constructors_of" 31 ["signature", "kind"] p_constructors_of) {f : Addr} {fd : FuncData} (Fn : Fun K "told_heights" "told_heights" s_told_heights f fd) : FnOk P w K mg base CX0 32 f fd ["signature", "kind"] (spOf K p_told_heights) :=
  have nd := sc_told_heights.nd
  fn_ok Fn sc_told_heights l_told_heights (t := w_told_heights) (fun cdv A outer s H E F hr =>
(xss_cons (xs_setO (i := 2) nd rfl (.inr rfl) (xr_op op_mulX vr_mul (XR.xe (xr_lst (xa_cons xe_non xa_nil))) (xe_len (by rfl) T.b_len (xa_cons (xe_v 0) xa_nil))))
 (xss_cons (xs_set (i := 3) nd rfl (.inl rfl) (xe_op op_addX vr_add (xe_tup (xa_cons (xe_v 1) xa_nil)) (XR.xe (xr_call m_kinds_led_to (d_kinds_led_to.ok.mono (by decide)) hr (by rfl) d_kinds_led_to.mg d_kinds_led_to.kp d_kinds_led_to.b (xa_cons (xe_v 0) (xa_cons (xe_v 1) xa_nil))))))
 (xss_cons (xs_for PassesOwn.never rfl (xi_range1 (by rfl) T.b_range (xa_cons (xe_gI (by rfl) T.c_MOST_KINDS) xa_nil)) (xg_name (i := 4) nd rfl (.inl rfl))
 (xss_kill [4, 5, 6] (xss_one (xs_for PassesOwn.never rfl (xi_any (xe_v 3)) (xg_name (i := 5) nd rfl (.inl rfl))
 (xss_kill [5, 6] (xss_cons (xs_setLc2A [("name", 7), ("parts", 8), ("part", 9)] [9] (i := 6) rfl nd rfl rfl (sw_true rfl rfl rfl (by decide +kernel)) (xi_any (XR.xe (xr_call m_constructors_of (d_constructors_of.ok.mono (by decide)) hr (by rfl) d_constructors_of.mg d_constructors_of.kp d_constructors_of.b (xa_cons (xe_v 0) (xa_cons (xe_v 5) xa_nil))))) (blkOk_by (by kernel_rfl)) (fun _ _ _ _ _ => (xg_tup rfl (xgs_cons (xg_name (i := 7) nd rfl (.inl rfl) (by first | exact .inl rfl | exact .inr rfl)) (xgs_cons (xg_name (i := 8) nd rfl (.inl rfl) (by first | exact .inl rfl | exact .inr rfl)) xgs_nil)))) (fun _ _ _ _ _ => xts_nil) (fun _ _ _ _ _ => (xi_any (xe_v 8))) (fun _ _ _ _ _ => (xg_name (i := 9) nd rfl (.inl rfl) (by first | exact .inl rfl | exact .inr rfl))) (fun _ _ _ _ _ => xts_nil) (fun _ _ _ _ _ => (xe_ix (xe_v 2) (xe_v 9))))
 (xss_one (xs_if (xt_val (xe_all rfl (by rfl) T.b_all (xa_cons (XR.xe (xr_lcA [("height", 10)] rfl nd (xi_any (xe_v 6)) (blkOk_by (by kernel_rfl)) (fun _ _ _ _ _ => (xg_name (i := 10) nd rfl (.inl rfl) (by first | exact .inl rfl | exact .inr rfl))) (fun _ _ _ _ _ => xts_nil) (fun _ _ _ _ _ => (xe_cmp op_notN vr_notN (xe_v 10) xe_non (nomark _))))) xa_nil)))
 (xss_one (xs_put (xe_op op_addX vr_add xe_int (xe_max1 rfl (by rfl) T.b_max (xa_cons (xe_op op_addX vr_add (XR.xe (xr_lst (xa_cons (xe_neg xe_int) xa_nil))) (xe_v 6)) xa_nil))) (xe_v 2) (xe_v 5)))
 xss_nil))))))))
 (xss_one (xs_ret (xe_tuple (by rfl) T.b_tuple (xa_cons (xe_v 2) xa_nil)))))))) v_told_heights
theorem sc_told_way : FnScope ["signature", "kind", "ways", "turn", "further", "way", "met", "name", "parts", "place", "part"] ["signature", "kind"] (defScope s_told_way) := ⟨rfl, rfl, rfl, by decide +kernel, rfl, by decide +kernel, by decide +kernel⟩
theorem x_told_way (T : Bl P w K mg base) (d_constructors_of : Fd P w K mg base "constructors_of" 31 ["signature", "kind"] p_constructors_of) (d_is_open : Fd P w K mg base "is_open" 31 ["signature", "kind"] p_is_open) {f : Addr} {fd : FuncData} (Fn : Fun K "told_way" "told_way" s_told_way f fd) : FnOk P w K mg base CX0 32 f fd ["signature", "kind"] (spOf K p_told_way) :=
  have nd := sc_told_way.nd
  fn_ok Fn sc_told_way l_told_way (t := w_told_way) (fun cdv A outer s H E F hr =>
(xss_cons (xs_set (i := 2) nd rfl (.inl rfl) (XR.xe (xr_lst (xa_cons (xe_tup (xa_cons (xe_tup xa_nil) (xa_cons (XR.xe (xr_lst (xa_cons (xe_v 1) xa_nil))) xa_nil))) xa_nil))))
 (xss_cons (xs_for PassesOwn.never rfl (xi_range1 (by rfl) T.b_range (xa_cons (xe_op op_addX vr_add (xe_gI (by rfl) T.c_MOST_KINDS) xe_int) xa_nil)) (xg_name (i := 3) nd rfl (.inl rfl))
 (xss_kill [3, 4, 5, 6, 7, 8] (xss_cons (xs_setO (i := 4) nd rfl (.inl rfl) (xr_lst xa_nil))
 (xss_cons (xs_for PassesOwn.never rfl (xi_any (xe_v 2)) (xg_tup rfl (xgs_cons (xg_name (i := 5) nd rfl (.inr rfl)) (xgs_cons (xg_name (i := 6) nd rfl (.inr rfl)) xgs_nil)))
 (xss_kill [5, 6, 7, 8] (xss_cons (xs_if (XW.xt (xw_or (xt_val (XR.xe (xr_call m_is_open (d_is_open.ok.mono (by decide)) hr (by rfl) d_is_open.mg d_is_open.kp d_is_open.b (xa_cons (xe_v 0) (xa_cons (xe_ix (xe_v 6) (xe_neg xe_int)) xa_nil))))) (xw_or1 (xt_cmp (op_inP (hr.far (by decide))) vr_in (xe_ix (xe_v 6) (xe_neg xe_int)) (XR.xe (xr_sl (xe_v 6) xo_none (xo_some (xe_neg xe_int)))) (by rfl)))))
 (xss_one (xs_ret (xe_v 5)))
 xss_nil)
 (xss_one (xs_for PassesOwn.never rfl (xi_any (XR.xe (xr_call m_constructors_of (d_constructors_of.ok.mono (by decide)) hr (by rfl) d_constructors_of.mg d_constructors_of.kp d_constructors_of.b (xa_cons (xe_v 0) (xa_cons (xe_ix (xe_v 6) (xe_neg xe_int)) xa_nil))))) (xg_tup rfl (xgs_cons (xg_name (i := 7) nd rfl (.inr rfl)) (xgs_cons (xg_name (i := 8) nd rfl (.inl rfl)) xgs_nil)))
 (xss_kill [7, 8] (xss_one (xs_expr (XR.xe (xr_extend (xe_v 4) (xa_cons (XR.xe (xr_lcA [("place", 9), ("part", 10)] rfl nd (xi_enum (by rfl) T.b_enumerate (xa_cons (xe_v 8) xa_nil)) (blkOk_by (by kernel_rfl)) (fun _ _ _ _ _ => (xg_tup rfl (xgs_cons (xg_name (i := 9) nd rfl (.inl rfl) (by first | exact .inl rfl | exact .inr rfl)) (xgs_cons (xg_name (i := 10) nd rfl (.inl rfl) (by first | exact .inl rfl | exact .inr rfl)) xgs_nil)))) (fun _ _ _ _ _ => xts_nil) (fun _ _ _ _ _ => (xe_tup (xa_cons (xe_op op_addX vr_add (xe_v 5) (xe_tup (xa_cons (xe_tup (xa_cons (xe_v 7) (xa_cons (xe_v 9) xa_nil))) xa_nil))) (xa_cons (xe_op op_addX vr_add (xe_v 6) (XR.xe (xr_lst (xa_cons (xe_v 10) xa_nil)))) xa_nil)))))) xa_nil)))))))))))
 (xss_one (xs_freeze 4 (xs_set (i := 2) nd rfl (.inl rfl) (xe_v 4))))))))
 (xss_one (xs_ret xe_non))))) v_told_way
theorem sc_are_heights : FnScope ["signature", "kind", "value", "other", "height", "below", "name", "parts", "part"] ["signature", "kind", "value"] (defScope s_are_heights) := ⟨rfl, rfl, rfl, by decide +kernel, rfl, by decide +kernel, by decide +kernel⟩
theorem x_are_heights (T : Bl P w K mg base) (d_is_open : Fd P w K mg base "is_open" 31 ["signature", "kind"] p_is_open) (d_is_within : Fd P w K mg base "is_within" 32 ["value", "low", "high"] p_is_within) (d_constructors_of : Fd P w K mg base "constructors_of" 31 ["signature", "kind"] p_constructors_of) {f : Addr} {fd : FuncData} (Fn : Fun K "are_heights" "are_heights" s_are_heights f fd) : FnOk P w K mg base CX0 33 f fd ["signature", "kind", "value"] (spOf K p_are_heights) :=
  have nd := sc_are_heights.nd
  fn_ok Fn sc_are_heights l_are_heights (t := w_are_heights) (fun cdv A outer s H E F hr =>
(xss_cons (xs_if (XW.xt (xw_or (xt_not (xt_val (xe_isa (n := "tuple") kit_tuple (by rfl) T.b_isinstance (xe_v 2) (by rfl) T.b_tuple (by decide +kernel)))) (xw_or (xt_cmp (op_neP (hr.far (by decide))) vr_eq (xe_len (by rfl) T.b_len (xa_cons (xe_v 2) xa_nil)) (xe_len (by rfl) T.b_len (xa_cons (xe_v 0) xa_nil)) (nomark _)) (xw_or1 (xt_cmp op_isN vr_isN (xe_ix (xe_v 2) (xe_v 1)) xe_non (nomark _))))))
 (xss_one (xs_ret xe_bl))
 xss_nil)
 (xss_cons (xs_if (xt_not (xt_val (xe_all rfl (by rfl) T.b_all (xa_cons (XR.xe (xr_lcA [("height", 4)] rfl nd (xi_any (xe_v 2)) (blkOk_by (by kernel_rfl)) (fun _ _ _ _ _ => (xg_name (i := 4) nd rfl (.inl rfl) (by first | exact .inl rfl | exact .inr rfl))) (fun _ _ _ _ _ => xts_nil) (fun _ _ _ _ _ => (xe_or (xe_cmp op_isN vr_isN (xe_v 4) xe_non (nomark _)) (xe_one (XR.xe (xr_call m_is_within (d_is_within.ok.mono (by decide)) hr (by rfl) d_is_within.mg d_is_within.kp d_is_within.b (xa_cons (xe_v 4) (xa_cons xe_int (xa_cons (xe_op op_sub (vr_ii0 fun _ _ _ => .int _) (xe_gI (by rfl) T.c_MOST_KINDS) xe_int) xa_nil)))))))))) xa_nil))))
 (xss_one (xs_ret xe_bl))
 xss_nil)
 (xss_cons (xs_for PassesOwn.never rfl (xi_enum (by rfl) T.b_enumerate (xa_cons (xe_v 2) xa_nil)) (xg_tup rfl (xgs_cons (xg_name (i := 3) nd rfl (.inl rfl)) (xgs_cons (xg_name (i := 4) nd rfl (.inr rfl)) xgs_nil)))
 (xss_kill [3, 4, 5] (xss_one (xs_if (xt_cmp op_notN vr_notN (xe_v 4) xe_non (nomark _))
 (xss_cons (xs_setLc2A [("name", 6), ("parts", 7), ("part", 8)] [8] (i := 5) rfl nd rfl rfl (sw_true rfl rfl rfl (by decide +kernel)) (xi_any (XR.xe (xr_call m_constructors_of (d_constructors_of.ok.mono (by decide)) hr (by rfl) d_constructors_of.mg d_constructors_of.kp d_constructors_of.b (xa_cons (xe_v 0) (xa_cons (xe_v 3) xa_nil))))) (blkOk_by (by kernel_rfl)) (fun _ _ _ _ _ => (xg_tup rfl (xgs_cons (xg_name (i := 6) nd rfl (.inl rfl) (by first | exact .inl rfl | exact .inr rfl)) (xgs_cons (xg_name (i := 7) nd rfl (.inl rfl) (by first | exact .inl rfl | exact .inr rfl)) xgs_nil)))) (fun _ _ _ _ _ => xts_nil) (fun _ _ _ _ _ => (xi_any (xe_v 7))) (fun _ _ _ _ _ => (xg_name (i := 8) nd rfl (.inl rfl) (by first | exact .inl rfl | exact .inr rfl))) (fun _ _ _ _ _ => xts_nil) (fun _ _ _ _ _ => (xe_ix (xe_v 2) (xe_v 8))))
 (xss_one (xs_if (XW.xt (xw_or (xt_val (XR.xe (xr_call m_is_open (d_is_open.ok.mono (by decide)) hr (by rfl) d_is_open.mg d_is_open.kp d_is_open.b (xa_cons (xe_v 0) (xa_cons (xe_v 3) xa_nil))))) (xw_or1 (xt_not (xt_val (xe_all rfl (by rfl) T.b_all (xa_cons (XR.xe (xr_lcA [("part", 8)] rfl nd (xi_any (xe_v 5)) (blkOk_by (by kernel_rfl)) (fun _ _ _ _ _ => (xg_name (i := 8) nd rfl (.inl rfl) (by first | exact .inl rfl | exact .inr rfl))) (fun _ _ _ _ _ => xts_nil) (fun _ _ _ _ _ => (xe_and (xe_cmp op_notN vr_notN (xe_v 8) xe_non (nomark _)) (xe_one (xe_cmp op_lt (vr_ii0 fun _ _ _ => .bl _) (xe_v 8) (xe_v 4) (nomark _))))))) xa_nil)))))))
 (xss_one (xs_ret xe_bl))
 xss_nil)))
 xss_nil))))
 (xss_one (xs_ret xe_bl)))))) v_are_heights
theorem sc_is_way : FnScope ["signature", "kind", "value", "met", "step", "parts"] ["signature", "kind", "value"] (defScope s_is_way) := ⟨rfl, rfl, rfl, by decide +kernel, rfl, by decide +kernel, by decide +kernel⟩
theorem x_is_way (T : Bl P w K mg base) (d_parts_in : Fd P w K mg base "parts_in" 31 ["signature", "kind", "name"] p_parts_in) (d_is_open : Fd P w K mg base "is_open" 31 ["signature", "kind"] p_is_open) (d_is_within : Fd P w K mg base "is_within" 32 ["value", "low", "high"] p_is_within) {f : Addr} {fd : FuncData} (Fn : Fun K "is_way" "is_way" s_is_way f fd) : FnOk P w K mg base CX0 33 f fd ["signature", "kind", "value"] (spOf K p_is_way) :=
  have nd := sc_is_way.nd
  fn_ok Fn sc_is_way l_is_way (t := w_is_way) (fun cdv A outer s H E F hr =>
(xss_cons (xs_if (XW.xt (xw_or (xt_not (xt_val (xe_isa (n := "tuple") kit_tuple (by rfl) T.b_isinstance (xe_v 2) (by rfl) T.b_tuple (by decide +kernel)))) (xw_or1 (xt_cmp op_gt (vr_ii0 fun _ _ _ => .bl _) (xe_len (by rfl) T.b_len (xa_cons (xe_v 2) xa_nil)) (xe_gI (by rfl) T.c_MOST_KINDS) (nomark _)))))
 (xss_one (xs_ret xe_bl))
 xss_nil)
 (xss_cons (xs_setO (i := 3) nd rfl (.inl rfl) (xr_lst (xa_cons (xe_v 1) xa_nil)))
 (xss_cons (xs_for PassesOwn.never rfl (xi_any (xe_v 2)) (xg_name (i := 4) nd rfl (.inl rfl))
 (xss_kill [4, 5] (xss_cons (xs_if (XW.xt (xw_or (xt_not (xt_val (xe_isa (n := "tuple") kit_tuple (by rfl) T.b_isinstance (xe_v 4) (by rfl) T.b_tuple (by decide +kernel)))) (xw_or (xt_cmp (op_neP (hr.far (by decide))) vr_eq (xe_len (by rfl) T.b_len (xa_cons (xe_v 4) xa_nil)) xe_int (nomark _)) (xw_or1 (xt_not (xt_val (xe_isa (n := "str") kit_str (by rfl) T.b_isinstance (xe_ix (xe_v 4) xe_int) (by rfl) T.b_str (by decide +kernel))))))))
 (xss_one (xs_ret xe_bl))
 xss_nil)
 (xss_cons (xs_set (i := 5) nd rfl (.inl rfl) (XR.xe (xr_call m_parts_in (d_parts_in.ok.mono (by decide)) hr (by rfl) d_parts_in.mg d_parts_in.kp d_parts_in.b (xa_cons (xe_v 0) (xa_cons (xe_ix (xe_v 3) (xe_neg xe_int)) (xa_cons (xe_ix (xe_v 4) xe_int) xa_nil))))))
 (xss_cons (xs_if (XW.xt (xw_or (xt_cmp op_isN vr_isN (xe_v 5) xe_non (nomark _)) (xw_or1 (xt_not (xt_val (XR.xe (xr_call m_is_within (d_is_within.ok.mono (by decide)) hr (by rfl) d_is_within.mg d_is_within.kp d_is_within.b (xa_cons (xe_ix (xe_v 4) xe_int) (xa_cons xe_int (xa_cons (xe_op op_sub (vr_ii0 fun _ _ _ => .int _) (xe_len (by rfl) T.b_len (xa_cons (xe_v 5) xa_nil)) xe_int) xa_nil))))))))))
 (xss_one (xs_ret xe_bl))
 xss_nil)
 (xss_one (xs_expr (XR.xe (xr_append (xe_v 3) (xa_cons (xe_ix (xe_v 5) (xe_ix (xe_v 4) xe_int)) xa_nil))))))))))
 (xss_one (xs_ret (xe_or (XR.xe (xr_call m_is_open (d_is_open.ok.mono (by decide)) hr (by rfl) d_is_open.mg d_is_open.kp d_is_open.b (xa_cons (xe_v 0) (xa_cons (xe_ix (xe_v 3) (xe_neg xe_int)) xa_nil)))) (xe_one (xe_cmp (op_inP (hr.far (by decide))) vr_in (xe_ix (xe_v 3) (xe_neg xe_int)) (XR.xe (xr_sl (xe_v 3) xo_none (xo_some (xe_neg xe_int)))) (by rfl)))))))))) v_is_way
theorem sc_finite_evidence : FnScope ["signature", "kind"] ["signature", "kind"] (defScope s_finite_evidence) := ⟨rfl, rfl, rfl, by decide +kernel, rfl, by decide +kernel, by decide +kernel⟩
theorem x_finite_evidence (T : Bl P w K mg base) (d_check_kind : Fd P w K mg base "check_kind" 38 ["signature", "kind"] p_check_kind) (d_is_finite_kind : Fd P w K mg base "is_finite_kind" 32 ["signature", "kind"] p_is_finite_kind) (d_told_way : Fd P w K mg base "told_way" 32 ["signature", "kind"] p_told_way) (d_told_heights : Fd P w K mg base "told_heights" 32 ["signature", "kind"] p_told_heights) {f : Addr} {fd : FuncData} (Fn : Fun K "finite_evidence" "finite_evidence" s_finite_evidence f fd) : FnOk P w K mg base CX0 39 f fd ["signature", "kind"] (spOf K p_finite_evidence) :=
  have nd := sc_finite_evidence.nd
  fn_ok Fn sc_finite_evidence l_finite_evidence (t := w_finite_evidence) (fun cdv A outer s H E F hr =>
(xss_cons (xs_expr (XR.xe (xr_call m_check_kind (d_check_kind.ok.mono (by decide)) hr (by rfl) d_check_kind.mg d_check_kind.kp d_check_kind.b (xa_cons (xe_v 0) (xa_cons (xe_v 1) xa_nil)))))
 (xss_cons (xs_if (xt_val (XR.xe (xr_call m_is_finite_kind (d_is_finite_kind.ok.mono (by decide)) hr (by rfl) d_is_finite_kind.mg d_is_finite_kind.kp d_is_finite_kind.b (xa_cons (xe_v 0) (xa_cons (xe_v 1) xa_nil)))))
 (xss_one (xs_ret (xe_tup (xa_cons xe_str (xa_cons (XR.xe (xr_call m_told_heights (d_told_heights.ok.mono (by decide)) hr (by rfl) d_told_heights.mg d_told_heights.kp d_told_heights.b (xa_cons (xe_v 0) (xa_cons (xe_v 1) xa_nil)))) xa_nil)))))
 xss_nil)
 (xss_one (xs_ret (xe_tup (xa_cons xe_str (xa_cons (XR.xe (xr_call m_told_way (d_told_way.ok.mono (by decide)) hr (by rfl) d_told_way.mg d_told_way.kp d_told_way.b (xa_cons (xe_v 0) (xa_cons (xe_v 1) xa_nil)))) xa_nil)))))))) v_finite_evidence
theorem sc_is_finite_evidence : FnScope ["signature", "kind", "value"] ["signature", "kind", "value"] (defScope s_is_finite_evidence) := ⟨rfl, rfl, rfl, by decide +kernel, rfl, by decide +kernel, by decide +kernel⟩
theorem x_is_finite_evidence (T : Bl P w K mg base) (d_check_kind : Fd P w K mg base "check_kind" 38 ["signature", "kind"] p_check_kind) (d_are_heights : Fd P w K mg base "are_heights" 33 ["signature", "kind", "value"] p_are_heights) (d_is_way : Fd P w K mg base "is_way" 33 ["signature", "kind", "value"] p_is_way) {f : Addr} {fd : FuncData} (Fn : Fun K "is_finite_evidence" "is_finite_evidence" s_is_finite_evidence f fd) : FnOk P w K mg base CX0 39 f fd ["signature", "kind", "value"] (spOf K p_is_finite_evidence) :=
  have nd := sc_is_finite_evidence.nd
  fn_ok Fn sc_is_finite_evidence l_is_finite_evidence (t := w_is_finite_evidence) (fun cdv A outer s H E F hr =>
(xss_cons (xs_expr (XR.xe (xr_call m_check_kind (d_check_kind.ok.mono (by decide)) hr (by rfl) d_check_kind.mg d_check_kind.kp d_check_kind.b (xa_cons (xe_v 0) (xa_cons (xe_v 1) xa_nil)))))
 (xss_cons (xs_if (XW.xt (xw_or (xt_not (xt_val (xe_isa (n := "tuple") kit_tuple (by rfl) T.b_isinstance (xe_v 2) (by rfl) T.b_tuple (by decide +kernel)))) (xw_or (xt_cmp (op_neP (hr.far (by decide))) vr_eq (xe_len (by rfl) T.b_len (xa_cons (xe_v 2) xa_nil)) xe_int (nomark _)) (xw_or1 (xt_not (xt_val (xe_isa (n := "str") kit_str (by rfl) T.b_isinstance (xe_ix (xe_v 2) xe_int) (by rfl) T.b_str (by decide +kernel))))))))
 (xss_one (xs_ret xe_bl))
 xss_nil)
 (xss_cons (xs_if (xt_cmp (op_eqP (hr.far (by decide))) vr_eq (xe_ix (xe_v 2) xe_int) xe_str (nomark _))
 (xss_one (xs_retR (xr_call m_are_heights (d_are_heights.ok.mono (by decide)) hr (by rfl) d_are_heights.mg d_are_heights.kp d_are_heights.b (xa_cons (xe_v 0) (xa_cons (xe_v 1) (xa_cons (xe_ix (xe_v 2) xe_int) xa_nil))))))
 xss_nil)
 (xss_one (xs_ret (xe_and (xe_cmp (op_eqP (hr.far (by decide))) vr_eq (xe_ix (xe_v 2) xe_int) xe_str (nomark _)) (xe_one (XR.xe (xr_call m_is_way (d_is_way.ok.mono (by decide)) hr (by rfl) d_is_way.mg d_is_way.kp d_is_way.b (xa_cons (xe_v 0) (xa_cons (xe_v 1) (xa_cons (xe_ix (xe_v 2) xe_int) xa_nil))))))))))))) v_is_finite_evidence
theorem sc_law_stream : FnScope ["script"] ["script"] (defScope s_law_stream) := ⟨rfl, rfl, rfl, by decide +kernel, rfl, by decide +kernel, by decide +kernel⟩
theorem x_law_stream (T : Bl P w K mg base) {f : Addr} {fd : FuncData} (Fn : Fun K "_law_stream" "_law_stream" s_law_stream f fd) : FnOk P w K mg base CX0 31 f fd ["script"] (spOf K p_law_stream) :=
  have nd := sc_law_stream.nd
  fn_ok Fn sc_law_stream l_law_stream (t := w_law_stream) (fun cdv A outer s H E F hr =>
(xss_one (xs_retR (xr_lst (xa_cons (XR.xe (xr_list (by rfl) T.b_list (xa_cons (xe_v 0) xa_nil))) (xa_cons xe_int (xa_cons xe_int xa_nil))))))) v_law_stream
theorem sc_law_next : FnScope ["stream", "many", "k", "cell", "digit"] ["stream", "many"] (defScope s_law_next) := ⟨rfl, rfl, rfl, by decide +kernel, rfl, by decide +kernel, by decide +kernel⟩
theorem x_law_next (T : Bl P w K mg base) {f : Addr} {fd : FuncData} (Fn : Fun K "_law_next" "_law_next" s_law_next f fd) : FnOk P w K mg base CX0 31 f fd ["stream", "many"] (spOf K p_law_next) :=
  have nd := sc_law_next.nd
  fn_ok Fn sc_law_next l_law_next (t := w_law_next) (fun cdv A outer s H E F hr =>
(xss_cons (xs_if (xt_cmp (op_eqP (hr.far (by decide))) vr_eq (xe_ix (xe_v 0) xe_int) xe_int (nomark _))
 (xss_cons (xs_set (i := 2) nd rfl (.inl rfl) (xe_ix (xe_v 0) xe_int))
 (xss_cons (xs_set (i := 3) nd rfl (.inl rfl) (xe_op op_addX vr_add xe_int (xe_v 2)))
 (xss_cons (xs_if (xt_cmp op_lt (vr_ii0 fun _ _ _ => .bl _) (xe_v 2) (xe_len (by rfl) T.b_len (xa_cons (xe_ix (xe_v 0) xe_int) xa_nil)) (nomark _))
 (xss_one (xs_set (i := 3) nd rfl (.inl rfl) (xe_abs (by rfl) T.b_abs (xa_cons (xe_ix (xe_ix (xe_v 0) xe_int) (xe_v 2)) xa_nil))))
 xss_nil)
 (xss_cons (xs_if (xt_cmp op_lt (vr_ii0 fun _ _ _ => .bl _) (xe_v 3) (xe_op op_pow (vr_ii fun _ _ _ => .int _) xe_int xe_int) (nomark _))
 (xss_cons (xs_set (i := 3) nd rfl (.inl rfl) (xe_op op_mod (vr_ii fun _ _ _ => .int _) (xe_intc (by rfl) T.b_int (xa_cons (xe_op op_addX vr_add (xe_op op_addX vr_add (xe_op op_mulX vr_mul (xe_v 3) xe_int) (xe_op op_mulX vr_mul (xe_v 2) xe_int)) xe_int) xa_nil)) xe_int))
 (xss_one (xs_set (i := 3) nd rfl (.inl rfl) (xe_op op_addX vr_add (xe_op op_mulX vr_mul (xe_op op_mod (vr_ii fun _ _ _ => .int _) (xe_intc (by rfl) T.b_int (xa_cons (xe_op op_addX vr_add (xe_op op_mulX vr_mul (xe_v 3) xe_int) xe_int) xa_nil)) xe_int) xe_int) (xe_v 3)))))
 xss_nil)
 (xss_cons (xs_put (xe_v 3) (xe_v 0) xe_int)
 (xss_one (xs_put (xe_op op_addX vr_add (xe_v 2) xe_int) (xe_v 0) xe_int)))))))
 xss_nil)
 (xss_cons (xs_set (i := 4) nd rfl (.inl rfl) (xe_op op_mod (vr_ii fun _ _ _ => .int _) (xe_intc (by rfl) T.b_int (xa_cons (xe_ix (xe_v 0) xe_int) xa_nil)) (xe_v 1)))
 (xss_cons (xs_put (xe_op op_fdivW (vr_ii fun _ _ _ => .int _) (xe_ix (xe_v 0) xe_int) (xe_v 1)) (xe_v 0) xe_int)
 (xss_one (xs_ret (xe_v 4))))))) v_law_next
theorem sc_law_pick : FnScope ["stream", "rows"] ["stream", "rows"] (defScope s_law_pick) := ⟨rfl, rfl, rfl, by decide +kernel, rfl, by decide +kernel, by decide +kernel⟩
theorem x_law_pick (T : Bl P w K mg base) (d_law_next : Fd P w K mg base "_law_next" 31 ["stream", "many"] p_law_next) {f : Addr} {fd : FuncData} (Fn : Fun K "_law_pick" "_law_pick" s_law_pick f fd) : FnOk P w K mg base CX0 32 f fd ["stream", "rows"] (spOf K p_law_pick) :=
  have nd := sc_law_pick.nd
  fn_ok Fn sc_law_pick l_law_pick (t := w_law_pick) (fun cdv A outer s H E F hr =>
(xss_one (xs_ret (xe_ix (xe_v 1) (XR.xe (xr_call m_law_next (d_law_next.ok.mono (by decide)) hr (by rfl) d_law_next.mg d_law_next.kp d_law_next.b (xa_cons (xe_v 0) (xa_cons (xe_len (by rfl) T.b_len (xa_cons (xe_v 1) xa_nil)) xa_nil)))))))) v_law_pick
theorem sc_law_order : FnScope ["stream", "many", "found", "k", "at"] ["stream", "many"] (defScope s_law_order) := ⟨rfl, rfl, rfl, by decide +kernel, rfl, by decide +kernel, by decide +kernel⟩
theorem x_law_order (T : Bl P w K mg base) (d_law_next : Fd P w K mg base "_law_next" 31 ["stream", "many"] p_law_next) {f : Addr} {fd : FuncData} (Fn : Fun K "_law_order" "_law_order" s_law_order f fd) : FnOk P w K mg base CX0 32 f fd ["stream", "many"] (spOf K p_law_order) :=
  have nd := sc_law_order.nd
  fn_ok Fn sc_law_order l_law_order (t := w_law_order) (fun cdv A outer s H E F hr =>
(xss_cons (xs_set (i := 2) nd rfl (.inl rfl) (XR.xe (xr_lst xa_nil)))
 (xss_cons (xs_for PassesOwn.never rfl (xi_range1 (by rfl) T.b_range (xa_cons (xe_v 1) xa_nil)) (xg_name (i := 3) nd rfl (.inl rfl))
 (xss_kill [3, 4] (xss_cons (xs_set (i := 4) nd rfl (.inl rfl) (XR.xe (xr_call m_law_next (d_law_next.ok.mono (by decide)) hr (by rfl) d_law_next.mg d_law_next.kp d_law_next.b (xa_cons (xe_v 0) (xa_cons (xe_op op_addX vr_add (xe_v 3) xe_int) xa_nil)))))
 (xss_one (xs_set (i := 2) nd rfl (.inl rfl) (xe_op op_addX vr_add (xe_op op_addX vr_add (XR.xe (xr_sl (xe_v 2) xo_none (xo_some (xe_v 4)))) (XR.xe (xr_lst (xa_cons (xe_v 3) xa_nil)))) (XR.xe (xr_sl (xe_v 2) (xo_some (xe_v 4)) xo_none))))))))
 (xss_one (xs_ret (xe_v 2)))))) v_law_order
theorem sc_law_is_integer : FnScope ["actual"] ["actual"] (defScope s_law_is_integer) := ⟨rfl, rfl, rfl, by decide +kernel, rfl, by decide +kernel, by decide +kernel⟩
theorem x_law_is_integer (T : Bl P w K mg base) {f : Addr} {fd : FuncData} (Fn : Fun K "_law_is_integer" "_law_is_integer" s_law_is_integer f fd) : FnOk P w K mg base CX0 31 f fd ["actual"] (spOf K p_law_is_integer) :=
  have nd := sc_law_is_integer.nd
  fn_ok Fn sc_law_is_integer l_law_is_integer (t := w_law_is_integer) (fun cdv A outer s H E F hr =>
(xss_one (xs_ret (xe_and (xe_isa (n := "int") kit_int (by rfl) T.b_isinstance (xe_v 0) (by rfl) T.b_int (by decide +kernel)) (xe_one (xe_not (xe_isa (n := "bool") kit_bool (by rfl) T.b_isinstance (xe_v 0) (by rfl) T.b_bool (by decide +kernel)))))))) v_law_is_integer
theorem sc_law_same : FnScope ["actual", "due", "left", "turn", "one", "other", "at"] ["actual", "due"] (defScope s_law_same) := ⟨rfl, rfl, rfl, by decide +kernel, rfl, by decide +kernel, by decide +kernel⟩
theorem x_law_same (T : Bl P w K mg base) (d_law_is_integer : Fd P w K mg base "_law_is_integer" 31 ["actual"] p_law_is_integer) {f : Addr} {fd : FuncData} (Fn : Fun K "_law_same" "_law_same" s_law_same f fd) : FnOk P w K mg base CX0 32 f fd ["actual", "due"] (spOf K p_law_same) :=
  have nd := sc_law_same.nd
  fn_ok Fn sc_law_same l_law_same (t := w_law_same) (fun cdv A outer s H E F hr =>
(xss_cons (xs_setO (i := 2) nd rfl (.inl rfl) (xr_lst (xa_cons (xe_tup (xa_cons (xe_v 0) (xa_cons (xe_v 1) xa_nil))) xa_nil)))
 (xss_cons (xs_for PassesOwn.never rfl (xi_range1 (by rfl) T.b_range (xa_cons (xe_op op_pow (vr_ii fun _ _ _ => .int _) xe_int xe_int) xa_nil)) (xg_name (i := 3) nd rfl (.inl rfl))
 (xss_kill [3, 4, 5] (xss_cons (xs_if (xt_cmp (op_eqP (hr.far (by decide))) vr_eq (xe_len (by rfl) T.b_len (xa_cons (xe_v 2) xa_nil)) xe_int (nomark _))
 (xss_one (xs_ret xe_bl))
 xss_nil)
 (xss_cons (xs_asg (XR.xe (xr_pop (xe_v 2))) (xg_tup rfl (xgs_cons (xg_name (i := 4) nd rfl (.inr rfl)) (xgs_cons (xg_name (i := 5) nd rfl (.inr rfl)) xgs_nil))))
 (xss_one (xs_if (XW.xt (xw_or (xt_val (xe_isa (n := "tuple") kit_tuple (by rfl) T.b_isinstance (xe_v 5) (by rfl) T.b_tuple (by decide +kernel))) (xw_or1 (xt_val (xe_isa (n := "list") kit_list (by rfl) T.b_isinstance (xe_v 5) (by rfl) T.b_list (by decide +kernel))))))
 (xss_cons (xs_if (XW.xt (xw_or (xt_cmp (op_neP (hr.far (by decide))) vr_eq (xe_isa (n := "tuple") kit_tuple (by rfl) T.b_isinstance (xe_v 5) (by rfl) T.b_tuple (by decide +kernel)) (xe_isa (n := "tuple") kit_tuple (by rfl) T.b_isinstance (xe_v 4) (by rfl) T.b_tuple (by decide +kernel)) (nomark _)) (xw_or1 (xt_cmp (op_neP (hr.far (by decide))) vr_eq (xe_isa (n := "list") kit_list (by rfl) T.b_isinstance (xe_v 5) (by rfl) T.b_list (by decide +kernel)) (xe_isa (n := "list") kit_list (by rfl) T.b_isinstance (xe_v 4) (by rfl) T.b_list (by decide +kernel)) (nomark _)))))
 (xss_one (xs_ret xe_bl))
 xss_nil)
 (xss_cons (xs_if (xt_cmp (op_neP (hr.far (by decide))) vr_eq (xe_len (by rfl) T.b_len (xa_cons (xe_v 4) xa_nil)) (xe_len (by rfl) T.b_len (xa_cons (xe_v 5) xa_nil)) (nomark _))
 (xss_one (xs_ret xe_bl))
 xss_nil)
 (xss_one (xs_expr (XR.xe (xr_extend (xe_v 2) (xa_cons (XR.xe (xr_lcA [("at", 6)] rfl nd (xi_range1 (by rfl) T.b_range (xa_cons (xe_len (by rfl) T.b_len (xa_cons (xe_v 5) xa_nil)) xa_nil)) (blkOk_by (by kernel_rfl)) (fun _ _ _ _ _ => (xg_name (i := 6) nd rfl (.inl rfl) (by first | exact .inl rfl | exact .inr rfl))) (fun _ _ _ _ _ => xts_nil) (fun _ _ _ _ _ => (xe_tup (xa_cons (xe_ix (xe_v 4) (xe_v 6)) (xa_cons (xe_ix (xe_v 5) (xe_v 6)) xa_nil)))))) xa_nil)))))))
 (xss_one (xs_if (xt_val (xe_isa (n := "bool") kit_bool (by rfl) T.b_isinstance (xe_v 5) (by rfl) T.b_bool (by decide +kernel)))
 (xss_one (xs_if (XW.xt (xw_or (xt_not (xt_val (xe_isa (n := "bool") kit_bool (by rfl) T.b_isinstance (xe_v 4) (by rfl) T.b_bool (by decide +kernel)))) (xw_or1 (xt_cmp (op_neP (hr.far (by decide))) vr_eq (xe_v 4) (xe_v 5) (nomark _)))))
 (xss_one (xs_ret xe_bl))
 xss_nil))
 (xss_one (xs_if (xt_val (xe_isa (n := "int") kit_int (by rfl) T.b_isinstance (xe_v 5) (by rfl) T.b_int (by decide +kernel)))
 (xss_one (xs_if (XW.xt (xw_or (xt_not (xt_val (XR.xe (xr_call m_law_is_integer (d_law_is_integer.ok.mono (by decide)) hr (by rfl) d_law_is_integer.mg d_law_is_integer.kp d_law_is_integer.b (xa_cons (xe_v 4) xa_nil))))) (xw_or1 (xt_cmp (op_neP (hr.far (by decide))) vr_eq (xe_v 4) (xe_v 5) (nomark _)))))
 (xss_one (xs_ret xe_bl))
 xss_nil))
 (xss_one (xs_if (xt_val (xe_isa (n := "str") kit_str (by rfl) T.b_isinstance (xe_v 5) (by rfl) T.b_str (by decide +kernel)))
 (xss_one (xs_if (XW.xt (xw_or (xt_not (xt_val (xe_isa (n := "str") kit_str (by rfl) T.b_isinstance (xe_v 4) (by rfl) T.b_str (by decide +kernel)))) (xw_or1 (xt_cmp (op_neP (hr.far (by decide))) vr_eq (xe_v 4) (xe_v 5) (nomark _)))))
 (xss_one (xs_ret xe_bl))
 xss_nil))
 (xss_one (xs_if (xt_cmp op_notN vr_notN (xe_v 4) xe_non (nomark _))
 (xss_one (xs_ret xe_bl))
 xss_nil))))))))))))))
 (xss_one (xs_ret xe_bl))))) v_law_same
theorem sc_law_word : FnScope ["stream", "least", "most", "letters", "word", "at"] ["stream", "least", "most"] (defScope s_law_word) := ⟨rfl, rfl, rfl, by decide +kernel, rfl, by decide +kernel, by decide +kernel⟩
theorem x_law_word (T : Bl P w K mg base) (d_law_next : Fd P w K mg base "_law_next" 31 ["stream", "many"] p_law_next) {f : Addr} {fd : FuncData} (Fn : Fun K "_law_word" "_law_word" s_law_word f fd) : FnOk P w K mg base CX0 32 f fd ["stream", "least", "most"] (spOf K p_law_word) :=
  have nd := sc_law_word.nd
  fn_ok Fn sc_law_word l_law_word (t := w_law_word) (fun cdv A outer s H E F hr =>
(xss_cons (xs_set (i := 3) nd rfl (.inl rfl) xe_str)
 (xss_cons (xs_set (i := 4) nd rfl (.inl rfl) xe_str)
 (xss_cons (xs_for PassesOwn.never rfl (xi_range1 (by rfl) T.b_range (xa_cons (xe_op op_addX vr_add (xe_v 1) (XR.xe (xr_call m_law_next (d_law_next.ok.mono (by decide)) hr (by rfl) d_law_next.mg d_law_next.kp d_law_next.b (xa_cons (xe_v 0) (xa_cons (xe_op op_addX vr_add (xe_op op_sub (vr_ii0 fun _ _ _ => .int _) (xe_v 2) (xe_v 1)) xe_int) xa_nil))))) xa_nil)) (xg_name (i := 5) nd rfl (.inl rfl))
 (xss_kill [5] (xss_one (xs_set (i := 4) nd rfl (.inl rfl) (xe_op op_addX vr_add (xe_v 4) (xe_ix (xe_v 3) (XR.xe (xr_call m_law_next (d_law_next.ok.mono (by decide)) hr (by rfl) d_law_next.mg d_law_next.kp d_law_next.b (xa_cons (xe_v 0) (xa_cons xe_int xa_nil))))))))))
 (xss_one (xs_ret (xe_v 4))))))) v_law_word
theorem sc_law_names : FnScope ["stream", "many", "least", "letters", "base", "at", "turn", "found", "k", "word", "options", "letter", "option"] ["stream", "many", "least"] (defScope s_law_names) := ⟨rfl, rfl, rfl, by decide +kernel, rfl, by decide +kernel, by decide +kernel⟩
theorem x_law_names (T : Bl P w K mg base) (d_law_next : Fd P w K mg base "_law_next" 31 ["stream", "many"] p_law_next) (d_law_word : Fd P w K mg base "_law_word" 32 ["stream", "least", "most"] p_law_word) {f : Addr} {fd : FuncData} (Fn : Fun K "_law_names" "_law_names" s_law_names f fd) : FnOk P w K mg base CX0 33 f fd ["stream", "many", "least"] (spOf K p_law_names) :=
  have nd := sc_law_names.nd
  fn_ok Fn sc_law_names l_law_names (t := w_law_names) (fun cdv A outer s H E F hr =>
(xss_cons (xs_set (i := 3) nd rfl (.inr rfl) xe_str)
 (xss_cons (xs_if (xt_cmp (op_eqP (hr.far (by decide))) vr_eq (XR.xe (xr_call m_law_next (d_law_next.ok.mono (by decide)) hr (by rfl) d_law_next.mg d_law_next.kp d_law_next.b (xa_cons (xe_v 0) (xa_cons xe_int xa_nil)))) xe_int (nomark _))
 (xss_cons (xs_set (i := 4) nd rfl (.inr rfl) (XR.xe (xr_call m_law_word (d_law_word.ok.mono (by decide)) hr (by rfl) d_law_word.mg d_law_word.kp d_law_word.b (xa_cons (xe_v 0) (xa_cons (xe_v 2) (xa_cons xe_int xa_nil))))))
 (xss_cons (xs_set (i := 5) nd rfl (.inr rfl) (XR.xe (xr_call m_law_next (d_law_next.ok.mono (by decide)) hr (by rfl) d_law_next.mg d_law_next.kp d_law_next.b (xa_cons (xe_v 0) (xa_cons (xe_len (by rfl) T.b_len (xa_cons (xe_v 4) xa_nil)) xa_nil)))))
 (xss_cons (xs_set (i := 6) nd rfl (.inr rfl) (XR.xe (xr_call m_law_next (d_law_next.ok.mono (by decide)) hr (by rfl) d_law_next.mg d_law_next.kp d_law_next.b (xa_cons (xe_v 0) (xa_cons xe_int xa_nil)))))
 (xss_one (xs_retR (xr_lcA [("k", 8)] rfl nd (xi_range1 (by rfl) T.b_range (xa_cons (xe_v 1) xa_nil)) (blkOk_by (by kernel_rfl)) (fun _ _ _ _ _ => (xg_name (i := 8) nd rfl (.inl rfl) (by first | exact .inl rfl | exact .inr rfl))) (fun _ _ _ _ _ => xts_nil) (fun _ _ _ _ _ => (xe_op op_addX vr_add (xe_op op_addX vr_add (XR.xe (xr_sl (xe_v 4) xo_none (xo_some (xe_v 5)))) (xe_ix (xe_v 3) (xe_op op_mod (vr_ii fun _ _ _ => .int _) (xe_intc (by rfl) T.b_int (xa_cons (xe_op op_addX vr_add (xe_v 6) (xe_v 8)) xa_nil)) xe_int))) (XR.xe (xr_sl (xe_v 4) (xo_some (xe_op op_addX vr_add (xe_v 5) xe_int)) xo_none))))))))))
 xss_nil)
 (xss_cons (xs_setO (i := 7) nd rfl (.inr rfl) (xr_lst xa_nil))
 (xss_cons (xs_for PassesOwn.never rfl (xi_range1 (by rfl) T.b_range (xa_cons (xe_v 1) xa_nil)) (xg_name (i := 8) nd rfl (.inl rfl))
 (xss_kill [8, 9, 10] (xss_cons (xs_set (i := 9) nd rfl (.inr rfl) (XR.xe (xr_call m_law_word (d_law_word.ok.mono (by decide)) hr (by rfl) d_law_word.mg d_law_word.kp d_law_word.b (xa_cons (xe_v 0) (xa_cons (xe_v 2) (xa_cons xe_int xa_nil))))))
 (xss_cons (xs_set (i := 10) nd rfl (.inl rfl) (xe_op op_addX vr_add (XR.xe (xr_lst (xa_cons (xe_v 9) xa_nil))) (XR.xe (xr_lcA [("letter", 11)] rfl nd (xi_any (xe_v 3)) (blkOk_by (by kernel_rfl)) (fun _ _ _ _ _ => (xg_name (i := 11) nd rfl (.inl rfl) (by first | exact .inl rfl | exact .inr rfl))) (fun _ _ _ _ _ => xts_nil) (fun _ _ _ _ _ => (xe_op op_addX vr_add (XR.xe (xr_sl (xe_v 9) xo_none (xo_some (xe_neg xe_int)))) (xe_v 11)))))))
 (xss_one (xs_expr (XR.xe (xr_append (xe_v 7) (xa_cons (xe_ix (XR.xe (xr_lcA [("option", 12)] rfl nd (xi_any (xe_v 10)) (blkOk_by (by kernel_rfl)) (fun _ _ _ _ _ => (xg_name (i := 12) nd rfl (.inl rfl) (by first | exact .inl rfl | exact .inr rfl))) (fun _ _ _ _ _ => (xts_one (xt_cmp (op_notinP (hr.far (by decide))) vr_in (xe_v 12) (xe_v 7) (by rfl)))) (fun _ _ _ _ _ => (xe_v 12)))) xe_int) xa_nil)))))))))
 (xss_one (xs_retO 7))))))) v_law_names
theorem sc_law_any_signature : FnScope ["stream", "many", "opens", "counts", "names", "good", "found", "at", "kind", "ground", "rows", "place", "menu", "parts", "turn"] ["stream"] (defScope s_law_any_signature) := ⟨rfl, rfl, rfl, by decide +kernel, rfl, by decide +kernel, by decide +kernel⟩
theorem x_law_any_signature (T : Bl P w K mg base) (d_law_names : Fd P w K mg base "_law_names" 33 ["stream", "many", "least"] p_law_names) (d_law_order : Fd P w K mg base "_law_order" 32 ["stream", "many"] p_law_order) (d_law_next : Fd P w K mg base "_law_next" 31 ["stream", "many"] p_law_next) (d_law_pick : Fd P w K mg base "_law_pick" 32 ["stream", "rows"] p_law_pick) {f : Addr} {fd : FuncData} (Fn : Fun K "_law_any_signature" "_law_any_signature" s_law_any_signature f fd) : FnOk P w K mg base CX0 34 f fd ["stream"] (spOf K p_law_any_signature) :=
  have nd := sc_law_any_signature.nd
  fn_ok Fn sc_law_any_signature l_law_any_signature (t := w_law_any_signature) (fun cdv A outer s H E F hr =>
(xss_cons (xs_set (i := 1) nd rfl (.inl rfl) (xe_op op_addX vr_add xe_int (XR.xe (xr_call m_law_next (d_law_next.ok.mono (by decide)) hr (by rfl) d_law_next.mg d_law_next.kp d_law_next.b (xa_cons (xe_v 0) (xa_cons xe_int xa_nil))))))
 (xss_cons (xs_set (i := 2) nd rfl (.inr rfl) (XR.xe (xr_lcA [("kind", 8)] rfl nd (xi_range1 (by rfl) T.b_range (xa_cons (xe_v 1) xa_nil)) (blkOk_by (by kernel_rfl)) (fun _ _ _ _ _ => (xg_name (i := 8) nd rfl (.inl rfl) (by first | exact .inl rfl | exact .inr rfl))) (fun _ _ _ _ _ => xts_nil) (fun _ _ _ _ _ => (xe_cmp (op_eqP (hr.far (by decide))) vr_eq (XR.xe (xr_call m_law_next (d_law_next.ok.mono (by decide)) hr (by rfl) d_law_next.mg d_law_next.kp d_law_next.b (xa_cons (xe_v 0) (xa_cons xe_int xa_nil)))) xe_int (nomark _))))))
 (xss_cons (xs_setLcA [("kind", 8)] (i := 3) rfl nd rfl rfl (sw_true rfl rfl rfl (by decide +kernel)) (xi_range1 (by rfl) T.b_range (xa_cons (xe_v 1) xa_nil)) (blkOk_by (by kernel_rfl)) (fun _ _ _ _ _ => (xg_name (i := 8) nd rfl (.inl rfl) (by first | exact .inl rfl | exact .inr rfl))) (fun _ _ _ _ _ => xts_nil) (fun _ _ _ _ _ => (xe_if (xt_val (xe_ix (xe_v 2) (xe_v 8))) (XR.xe (xr_call m_law_next (d_law_next.ok.mono (by decide)) hr (by rfl) d_law_next.mg d_law_next.kp d_law_next.b (xa_cons (xe_v 0) (xa_cons xe_int xa_nil)))) (xe_op op_addX vr_add xe_int (XR.xe (xr_call m_law_next (d_law_next.ok.mono (by decide)) hr (by rfl) d_law_next.mg d_law_next.kp d_law_next.b (xa_cons (xe_v 0) (xa_cons xe_int xa_nil))))))))
 (xss_cons (xs_set (i := 4) nd rfl (.inl rfl) (XR.xe (xr_call m_law_names (d_law_names.ok.mono (by decide)) hr (by rfl) d_law_names.mg d_law_names.kp d_law_names.b (xa_cons (xe_v 0) (xa_cons (xe_sum rfl (by rfl) T.b_sum (xa_cons (xe_v 3) xa_nil)) (xa_cons xe_int xa_nil))))))
 (xss_cons (xs_setLcO [("kind", 8)] (i := 5) rfl nd rfl rfl (sw_true rfl rfl rfl (by decide +kernel)) (xi_range1 (by rfl) T.b_range (xa_cons (xe_v 1) xa_nil)) (blkOk_by (by kernel_rfl)) (fun _ _ _ _ _ => (xg_name (i := 8) nd rfl (.inl rfl) (by first | exact .inl rfl | exact .inr rfl))) (fun _ _ _ _ _ => (xts_one (xt_val (xe_ix (xe_v 2) (xe_v 8))))) (fun _ _ _ _ _ => (xe_v 8)))
 (xss_cons (xs_setO (i := 6) nd rfl (.inl rfl) (xr_op op_mulX vr_mul (XR.xe (xr_lst (xa_cons xe_non xa_nil))) (xe_v 1)))
 (xss_cons (xs_set (i := 7) nd rfl (.inl rfl) xe_int)
 (xss_cons (xs_for PassesOwn.never rfl (xi_any (XR.xe (xr_call m_law_order (d_law_order.ok.mono (by decide)) hr (by rfl) d_law_order.mg d_law_order.kp d_law_order.b (xa_cons (xe_v 0) (xa_cons (xe_v 1) xa_nil))))) (xg_name (i := 8) nd rfl (.inl rfl))
 (xss_kill [8, 9, 10, 11, 12, 13, 14] (xss_cons (xs_set (i := 9) nd rfl (.inl rfl) (XR.xe (xr_call m_law_next (d_law_next.ok.mono (by decide)) hr (by rfl) d_law_next.mg d_law_next.kp d_law_next.b (xa_cons (xe_v 0) (xa_cons (xe_max2 rfl (by rfl) T.b_max (xa_cons xe_int (xa_cons (xe_ix (xe_v 3) (xe_v 8)) xa_nil))) xa_nil)))))
 (xss_cons (xs_setO (i := 10) nd rfl (.inl rfl) (xr_lst xa_nil))
 (xss_cons (xs_for PassesOwn.never rfl (xi_range1 (by rfl) T.b_range (xa_cons (xe_ix (xe_v 3) (xe_v 8)) xa_nil)) (xg_name (i := 11) nd rfl (.inl rfl))
 (xss_kill [11, 12, 13, 14] (xss_cons (xs_set (i := 12) nd rfl (.inl rfl) (XR.xe (xr_listrg rfl (by rfl) T.b_list (by rfl) T.b_range (xe_v 1))))
 (xss_cons (xs_if (XW.xt (xw_and (xt_not (xt_val (xe_ix (xe_v 2) (xe_v 8)))) (xw_and1 (xt_cmp (op_eqP (hr.far (by decide))) vr_eq (xe_v 11) (xe_v 9) (nomark _)))))
 (xss_one (xs_set (i := 12) nd rfl (.inl rfl) (XR.xe (xr_list (by rfl) T.b_list (xa_cons (xe_v 5) xa_nil)))))
 xss_nil)
 (xss_cons (xs_set (i := 13) nd rfl (.inl rfl) (xe_tup xa_nil))
 (xss_cons (xs_for PassesOwn.never rfl (xi_range1 (by rfl) T.b_range (xa_cons (XR.xe (xr_call m_law_next (d_law_next.ok.mono (by decide)) hr (by rfl) d_law_next.mg d_law_next.kp d_law_next.b (xa_cons (xe_v 0) (xa_cons xe_int xa_nil)))) xa_nil)) (xg_name (i := 14) nd rfl (.inl rfl))
 (xss_kill [14] (xss_one (xs_if (xt_cmp (op_neP (hr.far (by decide))) vr_eq (xe_v 12) (XR.xe (xr_lst xa_nil)) (nomark _))
 (xss_one (xs_set (i := 13) nd rfl (.inl rfl) (xe_op op_addX vr_add (xe_v 13) (xe_tup (xa_cons (XR.xe (xr_call m_law_pick (d_law_pick.ok.mono (by decide)) hr (by rfl) d_law_pick.mg d_law_pick.kp d_law_pick.b (xa_cons (xe_v 0) (xa_cons (xe_v 12) xa_nil)))) xa_nil)))))
 xss_nil))))
 (xss_one (xs_expr (XR.xe (xr_append (xe_v 10) (xa_cons (xe_tup (xa_cons (xe_ix (xe_v 4) (xe_op op_addX vr_add (xe_v 7) (xe_v 11))) (xa_cons (xe_v 13) xa_nil))) xa_nil)))))))))))
 (xss_cons (xs_set (i := 7) nd rfl (.inl rfl) (xe_op op_addX vr_add (xe_v 7) (xe_ix (xe_v 3) (xe_v 8))))
 (xss_cons (xs_put (xe_tup (xa_cons (xe_if (xt_val (xe_ix (xe_v 2) (xe_v 8))) xe_str xe_str) (xa_cons (xe_tuple (by rfl) T.b_tuple (xa_cons (xe_v 10) xa_nil)) xa_nil))) (xe_v 6) (xe_v 8))
 (xss_one (xs_if (xt_not (xt_val (xe_ix (xe_v 2) (xe_v 8))))
 (xss_one (xs_expr (XR.xe (xr_append (xe_v 5) (xa_cons (xe_v 8) xa_nil)))))
 xss_nil)))))))))
 (xss_one (xs_ret (xe_tuple (by rfl) T.b_tuple (xa_cons (xe_v 6) xa_nil))))))))))))) v_law_any_signature
theorem sc_law_rich_signature : FnScope ["stream", "step", "flag", "other", "names", "flags", "steps", "types", "found"] ["stream"] (defScope s_law_rich_signature) := ⟨rfl, rfl, rfl, by decide +kernel, rfl, by decide +kernel, by decide +kernel⟩
theorem x_law_rich_signature (T : Bl P w K mg base) (d_law_order : Fd P w K mg base "_law_order" 32 ["stream", "many"] p_law_order) (d_law_names : Fd P w K mg base "_law_names" 33 ["stream", "many", "least"] p_law_names) (d_law_next : Fd P w K mg base "_law_next" 31 ["stream", "many"] p_law_next) (d_law_pick : Fd P w K mg base "_law_pick" 32 ["stream", "rows"] p_law_pick) {f : Addr} {fd : FuncData} (Fn : Fun K "_law_rich_signature" "_law_rich_signature" s_law_rich_signature f fd) : FnOk P w K mg base CX0 34 f fd ["stream"] (spOf K p_law_rich_signature) :=
  have nd := sc_law_rich_signature.nd
  fn_ok Fn sc_law_rich_signature l_law_rich_signature (t := w_law_rich_signature) (fun cdv A outer s H E F hr =>
(xss_cons (xs_asg (XR.xe (xr_call m_law_order (d_law_order.ok.mono (by decide)) hr (by rfl) d_law_order.mg d_law_order.kp d_law_order.b (xa_cons (xe_v 0) (xa_cons xe_int xa_nil)))) (xg_tup rfl (xgs_cons (xg_name (i := 1) nd rfl (.inl rfl)) (xgs_cons (xg_name (i := 2) nd rfl (.inl rfl)) (xgs_cons (xg_name (i := 3) nd rfl (.inl rfl)) xgs_nil)))))
 (xss_cons (xs_set (i := 4) nd rfl (.inl rfl) (XR.xe (xr_call m_law_names (d_law_names.ok.mono (by decide)) hr (by rfl) d_law_names.mg d_law_names.kp d_law_names.b (xa_cons (xe_v 0) (xa_cons xe_int (xa_cons xe_int xa_nil))))))
 (xss_cons (xs_set (i := 5) nd rfl (.inl rfl) (XR.xe (xr_sl (XR.xe (xr_lst (xa_cons (xe_tup (xa_cons (xe_ix (xe_v 4) xe_int) (xa_cons (xe_tup xa_nil) xa_nil))) (xa_cons (xe_tup (xa_cons (xe_ix (xe_v 4) xe_int) (xa_cons (xe_tup xa_nil) xa_nil))) (xa_cons (xe_tup (xa_cons (xe_ix (xe_v 4) xe_int) (xa_cons (xe_tup xa_nil) xa_nil))) (xa_cons (xe_tup (xa_cons (xe_ix (xe_v 4) xe_int) (xa_cons (xe_tup xa_nil) xa_nil))) xa_nil)))))) xo_none (xo_some (xe_op op_addX vr_add xe_int (XR.xe (xr_call m_law_next (d_law_next.ok.mono (by decide)) hr (by rfl) d_law_next.mg d_law_next.kp d_law_next.b (xa_cons (xe_v 0) (xa_cons xe_int xa_nil)))))))))
 (xss_cons (xs_setO (i := 6) nd rfl (.inl rfl) (xr_lst (xa_cons (xe_tup (xa_cons (xe_ix (xe_v 4) xe_int) (xa_cons (xe_tup xa_nil) xa_nil))) (xa_cons (xe_tup (xa_cons (xe_ix (xe_v 4) xe_int) (xa_cons (xe_tup (xa_cons (xe_v 1) xa_nil)) xa_nil))) xa_nil))))
 (xss_cons (xs_if (xt_cmp (op_eqP (hr.far (by decide))) vr_eq (XR.xe (xr_call m_law_next (d_law_next.ok.mono (by decide)) hr (by rfl) d_law_next.mg d_law_next.kp d_law_next.b (xa_cons (xe_v 0) (xa_cons xe_int xa_nil)))) xe_int (nomark _))
 (xss_one (xs_expr (XR.xe (xr_append (xe_v 6) (xa_cons (xe_tup (xa_cons (xe_ix (xe_v 4) xe_int) (xa_cons (XR.xe (xr_call m_law_pick (d_law_pick.ok.mono (by decide)) hr (by rfl) d_law_pick.mg d_law_pick.kp d_law_pick.b (xa_cons (xe_v 0) (xa_cons (XR.xe (xr_lst (xa_cons (xe_tup (xa_cons (xe_v 1) (xa_cons (xe_v 1) xa_nil))) (xa_cons (xe_tup (xa_cons (xe_v 2) xa_nil)) (xa_cons (xe_tup (xa_cons (xe_v 3) xa_nil)) (xa_cons (xe_tup (xa_cons (xe_v 2) (xa_cons (xe_v 1) xa_nil))) xa_nil)))))) xa_nil)))) xa_nil))) xa_nil)))))
 xss_nil)
 (xss_cons (xs_setO (i := 7) nd rfl (.inl rfl) (xr_lst (xa_cons (xe_tup (xa_cons (xe_ix (xe_v 4) xe_int) (xa_cons (xe_tup xa_nil) xa_nil))) (xa_cons (xe_tup (xa_cons (xe_ix (xe_v 4) xe_int) (xa_cons (xe_tup (xa_cons (xe_v 3) xa_nil)) xa_nil))) (xa_cons (xe_tup (xa_cons (xe_ix (xe_v 4) xe_int) (xa_cons (XR.xe (xr_call m_law_pick (d_law_pick.ok.mono (by decide)) hr (by rfl) d_law_pick.mg d_law_pick.kp d_law_pick.b (xa_cons (xe_v 0) (xa_cons (XR.xe (xr_lst (xa_cons (xe_tup (xa_cons (xe_v 3) (xa_cons (xe_v 3) xa_nil))) (xa_cons (xe_tup (xa_cons (xe_v 2) (xa_cons (xe_v 3) xa_nil))) xa_nil)))) xa_nil)))) xa_nil))) xa_nil)))))
 (xss_cons (xs_expr (XR.xe (xr_append (xe_v 7) (xa_cons (xe_tup (xa_cons (xe_ix (xe_v 4) xe_int) (xa_cons (XR.xe (xr_call m_law_pick (d_law_pick.ok.mono (by decide)) hr (by rfl) d_law_pick.mg d_law_pick.kp d_law_pick.b (xa_cons (xe_v 0) (xa_cons (XR.xe (xr_lst (xa_cons (xe_tup (xa_cons (xe_v 1) xa_nil)) (xa_cons (xe_tup (xa_cons (xe_v 2) xa_nil)) (xa_cons (xe_tup (xa_cons (xe_v 1) (xa_cons (xe_v 3) xa_nil))) (xa_cons (xe_tup (xa_cons (xe_v 2) (xa_cons (xe_v 2) xa_nil))) xa_nil)))))) xa_nil)))) xa_nil))) xa_nil))))
 (xss_cons (xs_setO (i := 8) nd rfl (.inl rfl) (xr_lst (xa_cons xe_non (xa_cons xe_non (xa_cons xe_non xa_nil)))))
 (xss_cons (xs_put (xe_tup (xa_cons xe_str (xa_cons (xe_tuple (by rfl) T.b_tuple (xa_cons (xe_v 6) xa_nil)) xa_nil))) (xe_v 8) (xe_v 1))
 (xss_cons (xs_put (xe_tup (xa_cons xe_str (xa_cons (xe_tuple (by rfl) T.b_tuple (xa_cons (xe_v 5) xa_nil)) xa_nil))) (xe_v 8) (xe_v 2))
 (xss_cons (xs_put (xe_tup (xa_cons xe_str (xa_cons (xe_tuple (by rfl) T.b_tuple (xa_cons (XR.xe (xr_sl (xe_v 7) xo_none (xo_some (xe_op op_addX vr_add xe_int (XR.xe (xr_call m_law_next (d_law_next.ok.mono (by decide)) hr (by rfl) d_law_next.mg d_law_next.kp d_law_next.b (xa_cons (xe_v 0) (xa_cons xe_int xa_nil)))))))) xa_nil)) xa_nil))) (xe_v 8) (xe_v 3))
 (xss_one (xs_ret (xe_tuple (by rfl) T.b_tuple (xa_cons (xe_v 8) xa_nil)))))))))))))))) v_law_rich_signature
theorem sc_law_signature : FnScope ["stream"] ["stream"] (defScope s_law_signature) := ⟨rfl, rfl, rfl, by decide +kernel, rfl, by decide +kernel, by decide +kernel⟩
theorem x_law_signature (T : Bl P w K mg base) (d_law_any_signature : Fd P w K mg base "_law_any_signature" 34 ["stream"] p_law_any_signature) (d_law_rich_signature : Fd P w K mg base "_law_rich_signature" 34 ["stream"] p_law_rich_signature) (d_law_next : Fd P w K mg base "_law_next" 31 ["stream", "many"] p_law_next) {f : Addr} {fd : FuncData} (Fn : Fun K "_law_signature" "_law_signature" s_law_signature f fd) : FnOk P w K mg base CX0 35 f fd ["stream"] (spOf K p_law_signature) :=
  have nd := sc_law_signature.nd
  fn_ok Fn sc_law_signature l_law_signature (t := w_law_signature) (fun cdv A outer s H E F hr =>
(xss_one (xs_retV (xv_if (xt_cmp (op_eqP (hr.far (by decide))) vr_eq (XR.xe (xr_call m_law_next (d_law_next.ok.mono (by decide)) hr (by rfl) d_law_next.mg d_law_next.kp d_law_next.b (xa_cons (xe_v 0) (xa_cons xe_int xa_nil)))) xe_int (nomark _)) (xv_R (xr_call m_law_any_signature (d_law_any_signature.ok.mono (by decide)) hr (by rfl) d_law_any_signature.mg d_law_any_signature.kp d_law_any_signature.b (xa_cons (xe_v 0) xa_nil))) (xv_R (xr_call m_law_rich_signature (d_law_rich_signature.ok.mono (by decide)) hr (by rfl) d_law_rich_signature.mg d_law_rich_signature.kp d_law_rich_signature.b (xa_cons (xe_v 0) xa_nil))))))) v_law_signature
theorem sc_law_all_tuples : FnScope ["lists", "cap", "found", "rows", "further", "one", "item"] ["lists", "cap"] (defScope s_law_all_tuples) := ⟨rfl, rfl, rfl, by decide +kernel, rfl, by decide +kernel, by decide +kernel⟩
theorem x_law_all_tuples (T : Bl P w K mg base) {f : Addr} {fd : FuncData} (Fn : Fun K "_law_all_tuples" "_law_all_tuples" s_law_all_tuples f fd) : FnOk P w K mg base CX0 31 f fd ["lists", "cap"] (spOf K p_law_all_tuples) :=
  have nd := sc_law_all_tuples.nd
  fn_ok Fn sc_law_all_tuples l_law_all_tuples (t := w_law_all_tuples) (fun cdv A outer s H E F hr =>
(xss_cons (xs_set (i := 2) nd rfl (.inl rfl) (XR.xe (xr_lst (xa_cons (xe_tup xa_nil) xa_nil))))
 (xss_cons (xs_for PassesOwn.never rfl (xi_any (xe_v 0)) (xg_name (i := 3) nd rfl (.inl rfl))
 (xss_kill [3, 4, 5] (xss_cons (xs_setO (i := 4) nd rfl (.inl rfl) (xr_lst xa_nil))
 (xss_cons (xs_for PassesOwn.never rfl (xi_any (xe_v 2)) (xg_name (i := 5) nd rfl (.inr rfl))
 (xss_kill [5] (xss_one (xs_expr (XR.xe (xr_extend (xe_v 4) (xa_cons (XR.xe (xr_lcA [("item", 6)] rfl nd (xi_any (xe_v 3)) (blkOk_by (by kernel_rfl)) (fun _ _ _ _ _ => (xg_name (i := 6) nd rfl (.inl rfl) (by first | exact .inl rfl | exact .inr rfl))) (fun _ _ _ _ _ => xts_nil) (fun _ _ _ _ _ => (xe_op op_addX vr_add (xe_v 5) (xe_tup (xa_cons (xe_v 6) xa_nil)))))) xa_nil)))))))
 (xss_one (xs_set (i := 2) nd rfl (.inl rfl) (XR.xe (xr_sl (xe_v 4) xo_none (xo_some (xe_v 1))))))))))
 (xss_one (xs_ret (xe_v 2)))))) v_law_all_tuples
theorem sc_law_leads : FnScope ["signature", "kind", "found", "turn", "other", "name", "parts", "part"] ["signature", "kind"] (defScope s_law_leads) := ⟨rfl, rfl, rfl, by decide +kernel, rfl, by decide +kernel, by decide +kernel⟩
theorem x_law_leads (T : Bl P w K mg base) {f : Addr} {fd : FuncData} (Fn : Fun K "_law_leads" "_law_leads" s_law_leads f fd) : FnOk P w K mg base CX0 31 f fd ["signature", "kind"] (spOf K p_law_leads) :=
  have nd := sc_law_leads.nd
  fn_ok Fn sc_law_leads l_law_leads (t := w_law_leads) (fun cdv A outer s H E F hr =>
(xss_cons (xs_set (i := 2) nd rfl (.inr rfl) (XR.xe (xr_lst xa_nil)))
 (xss_cons (xs_for PassesOwn.never rfl (xi_range1 (by rfl) T.b_range (xa_cons xe_int xa_nil)) (xg_name (i := 3) nd rfl (.inl rfl))
 (xss_kill [3, 4, 5, 6] (xss_one (xs_for PassesOwn.never rfl (xi_any (xe_op op_addX vr_add (XR.xe (xr_lst (xa_cons (xe_v 1) xa_nil))) (xe_v 2))) (xg_name (i := 4) nd rfl (.inl rfl))
 (xss_kill [4, 5, 6] (xss_one (xs_for PassesOwn.never rfl (xi_any (xe_ix (xe_ix (xe_v 0) (xe_v 4)) xe_int)) (xg_tup rfl (xgs_cons (xg_name (i := 5) nd rfl (.inl rfl)) (xgs_cons (xg_name (i := 6) nd rfl (.inl rfl)) xgs_nil)))
 (xss_kill [5, 6] (xss_one (xs_set (i := 2) nd rfl (.inr rfl) (xe_op op_addX vr_add (xe_v 2) (XR.xe (xr_lcA [("part", 7)] rfl nd (xi_any (xe_v 6)) (blkOk_by (by kernel_rfl)) (fun _ _ _ _ _ => (xg_name (i := 7) nd rfl (.inl rfl) (by first | exact .inl rfl | exact .inr rfl))) (fun _ _ _ _ _ => (xts_one (xt_cmp (op_notinP (hr.far (by decide))) vr_in (xe_v 7) (xe_v 2) (by rfl)))) (fun _ _ _ _ _ => (xe_v 7)))))))))))))))
 (xss_one (xs_ret (xe_v 2)))))) v_law_leads
theorem sc_law_is_endless : FnScope ["signature", "kind", "below", "other"] ["signature", "kind"] (defScope s_law_is_endless) := ⟨rfl, rfl, rfl, by decide +kernel, rfl, by decide +kernel, by decide +kernel⟩
theorem x_law_is_endless (T : Bl P w K mg base) (d_law_leads : Fd P w K mg base "_law_leads" 31 ["signature", "kind"] p_law_leads) {f : Addr} {fd : FuncData} (Fn : Fun K "_law_is_endless" "_law_is_endless" s_law_is_endless f fd) : FnOk P w K mg base CX0 32 f fd ["signature", "kind"] (spOf K p_law_is_endless) :=
  have nd := sc_law_is_endless.nd
  fn_ok Fn sc_law_is_endless l_law_is_endless (t := w_law_is_endless) (fun cdv A outer s H E F hr =>
(xss_cons (xs_set (i := 2) nd rfl (.inl rfl) (XR.xe (xr_call m_law_leads (d_law_leads.ok.mono (by decide)) hr (by rfl) d_law_leads.mg d_law_leads.kp d_law_leads.b (xa_cons (xe_v 0) (xa_cons (xe_v 1) xa_nil)))))
 (xss_one (xs_ret (xe_any rfl (by rfl) T.b_any (xa_cons (XR.xe (xr_lcA [("other", 3)] rfl nd (xi_any (xe_op op_addX vr_add (XR.xe (xr_lst (xa_cons (xe_v 1) xa_nil))) (xe_v 2))) (blkOk_by (by kernel_rfl)) (fun _ _ _ _ _ => (xg_name (i := 3) nd rfl (.inl rfl) (by first | exact .inl rfl | exact .inr rfl))) (fun _ _ _ _ _ => xts_nil) (fun _ _ _ _ _ => (xe_or (xe_cmp (op_eqP (hr.far (by decide))) vr_eq (xe_ix (xe_ix (xe_v 0) (xe_v 3)) xe_int) xe_str (nomark _)) (xe_one (xe_cmp (op_inP (hr.far (by decide))) vr_in (xe_v 3) (XR.xe (xr_call m_law_leads (d_law_leads.ok.mono (by decide)) hr (by rfl) d_law_leads.mg d_law_leads.kp d_law_leads.b (xa_cons (xe_v 0) (xa_cons (xe_v 3) xa_nil)))) (by rfl))))))) xa_nil)))))) v_law_is_endless
theorem sc_law_told_heights : FnScope ["signature", "kind", "below", "heights", "turn", "other", "name", "parts", "part"] ["signature", "kind"] (defScope s_law_told_heights) := ⟨rfl, rfl, rfl, by decide +kernel, rfl, by decide +kernel, by decide +kernel⟩
theorem x_law_told_heights (T : Bl P w K mg base) (d_law_leads : Fd P w K mg base "_law_leads" 31 ["signature", "kind"] p_law_leads) {f : Addr} {fd : FuncData} (Fn : Fun K "_law_told_heights" "_law_told_heights" s_law_told_heights f fd) : FnOk P w K mg base CX0 32 f fd ["signature", "kind"] (spOf K p_law_told_heights) :=
  have nd := sc_law_told_heights.nd
  fn_ok Fn sc_law_told_heights l_law_told_heights (t := w_law_told_heights) (fun cdv A outer s H E F hr =>
(xss_cons (xs_set (i := 2) nd rfl (.inr rfl) (xe_op op_addX vr_add (XR.xe (xr_lst (xa_cons (xe_v 1) xa_nil))) (XR.xe (xr_call m_law_leads (d_law_leads.ok.mono (by decide)) hr (by rfl) d_law_leads.mg d_law_leads.kp d_law_leads.b (xa_cons (xe_v 0) (xa_cons (xe_v 1) xa_nil))))))
 (xss_cons (xs_setO (i := 3) nd rfl (.inr rfl) (xr_lcA [("other", 5)] rfl nd (xi_range1 (by rfl) T.b_range (xa_cons (xe_len (by rfl) T.b_len (xa_cons (xe_v 0) xa_nil)) xa_nil)) (blkOk_by (by kernel_rfl)) (fun _ _ _ _ _ => (xg_name (i := 5) nd rfl (.inl rfl) (by first | exact .inl rfl | exact .inr rfl))) (fun _ _ _ _ _ => xts_nil) (fun _ _ _ _ _ => (xe_if (xt_cmp (op_inP (hr.far (by decide))) vr_in (xe_v 5) (xe_v 2) (by rfl)) xe_int xe_non))))
 (xss_cons (xs_for PassesOwn.never rfl (xi_range1 (by rfl) T.b_range (xa_cons xe_int xa_nil)) (xg_name (i := 4) nd rfl (.inl rfl))
 (xss_kill [4, 5, 6, 7] (xss_one (xs_for PassesOwn.never rfl (xi_any (xe_v 2)) (xg_name (i := 5) nd rfl (.inl rfl))
 (xss_kill [5, 6, 7] (xss_one (xs_for PassesOwn.never rfl (xi_any (xe_ix (xe_ix (xe_v 0) (xe_v 5)) xe_int)) (xg_tup rfl (xgs_cons (xg_name (i := 6) nd rfl (.inl rfl)) (xgs_cons (xg_name (i := 7) nd rfl (.inl rfl)) xgs_nil)))
 (xss_kill [6, 7] (xss_one (xs_put (xe_max1 rfl (by rfl) T.b_max (xa_cons (xe_op op_addX vr_add (XR.xe (xr_lst (xa_cons (xe_ix (xe_v 3) (xe_v 5)) xa_nil))) (XR.xe (xr_lcA [("part", 8)] rfl nd (xi_any (xe_v 7)) (blkOk_by (by kernel_rfl)) (fun _ _ _ _ _ => (xg_name (i := 8) nd rfl (.inl rfl) (by first | exact .inl rfl | exact .inr rfl))) (fun _ _ _ _ _ => xts_nil) (fun _ _ _ _ _ => (xe_op op_addX vr_add (xe_ix (xe_v 3) (xe_v 8)) xe_int))))) xa_nil)) (xe_v 3) (xe_v 5)))))))))))
 (xss_one (xs_ret (xe_tup (xa_cons xe_str (xa_cons (xe_tuple (by rfl) T.b_tuple (xa_cons (xe_v 3) xa_nil)) xa_nil))))))))) v_law_told_heights
theorem sc_law_come_to : FnScope ["signature", "kind", "way", "found", "step", "rows", "row"] ["signature", "kind", "way"] (defScope s_law_come_to) := ⟨rfl, rfl, rfl, by decide +kernel, rfl, by decide +kernel, by decide +kernel⟩
theorem x_law_come_to (T : Bl P w K mg base) (d_law_is_integer : Fd P w K mg base "_law_is_integer" 31 ["actual"] p_law_is_integer) {f : Addr} {fd : FuncData} (Fn : Fun K "_law_come_to" "_law_come_to" s_law_come_to f fd) : FnOk P w K mg base CX0 32 f fd ["signature", "kind", "way"] (spOf K p_law_come_to) :=
  have nd := sc_law_come_to.nd
  fn_ok Fn sc_law_come_to l_law_come_to (t := w_law_come_to) (fun cdv A outer s H E F hr =>
(xss_cons (xs_setO (i := 3) nd rfl (.inl rfl) (xr_lst (xa_cons (xe_v 1) xa_nil)))
 (xss_cons (xs_for PassesOwn.never rfl (xi_any (xe_v 2)) (xg_name (i := 4) nd rfl (.inr rfl))
 (xss_kill [4, 5] (xss_cons (xs_if (XW.xt (xw_or (xt_not (xt_val (xe_isa (n := "tuple") kit_tuple (by rfl) T.b_isinstance (xe_v 4) (by rfl) T.b_tuple (by decide +kernel)))) (xw_or (xt_cmp (op_neP (hr.far (by decide))) vr_eq (xe_len (by rfl) T.b_len (xa_cons (xe_v 4) xa_nil)) xe_int (nomark _)) (xw_or (xt_not (xt_val (xe_isa (n := "str") kit_str (by rfl) T.b_isinstance (xe_ix (xe_v 4) xe_int) (by rfl) T.b_str (by decide +kernel)))) (xw_or1 (xt_not (xt_val (XR.xe (xr_call m_law_is_integer (d_law_is_integer.ok.mono (by decide)) hr (by rfl) d_law_is_integer.mg d_law_is_integer.kp d_law_is_integer.b (xa_cons (xe_ix (xe_v 4) xe_int) xa_nil))))))))))
 (xss_one (xs_ret xe_non))
 xss_nil)
 (xss_cons (xs_setLcA [("row", 6)] (i := 5) rfl nd rfl rfl (sw_true rfl rfl rfl (by decide +kernel)) (xi_any (xe_ix (xe_ix (xe_v 0) (xe_ix (xe_v 3) (xe_neg xe_int))) xe_int)) (blkOk_by (by kernel_rfl)) (fun _ _ _ _ _ => (xg_name (i := 6) nd rfl (.inl rfl) (by first | exact .inl rfl | exact .inr rfl))) (fun _ _ _ _ _ => (xts_one (xt_cmp (op_eqP (hr.far (by decide))) vr_eq (xe_ix (xe_v 6) xe_int) (xe_ix (xe_v 4) xe_int) (nomark _)))) (fun _ _ _ _ _ => (xe_v 6)))
 (xss_cons (xs_if (XW.xt (xw_or (xt_cmp (op_eqP (hr.far (by decide))) vr_eq (xe_v 5) (XR.xe (xr_lst xa_nil)) (nomark _)) (xw_or1 (xt_not (xt_chain op_le op_lt (vr_ii0 fun _ _ _ => .bl _) (vr_ii0 fun _ _ _ => .bl _) xe_int (xe_ix (xe_v 4) xe_int) (xe_len (by rfl) T.b_len (xa_cons (xe_ix (xe_ix (xe_v 5) xe_int) xe_int) xa_nil)))))))
 (xss_one (xs_ret xe_non))
 xss_nil)
 (xss_one (xs_expr (XR.xe (xr_append (xe_v 3) (xa_cons (xe_ix (xe_ix (xe_ix (xe_v 5) xe_int) xe_int) (xe_ix (xe_v 4) xe_int)) xa_nil))))))))))
 (xss_one (xs_retO 3))))) v_law_come_to
theorem sc_law_further : FnScope ["signature", "kind", "ways", "found", "way", "last", "name", "parts", "place"] ["signature", "kind", "ways"] (defScope s_law_further) := ⟨rfl, rfl, rfl, by decide +kernel, rfl, by decide +kernel, by decide +kernel⟩
theorem x_law_further (T : Bl P w K mg base) (d_law_come_to : Fd P w K mg base "_law_come_to" 32 ["signature", "kind", "way"] p_law_come_to) {f : Addr} {fd : FuncData} (Fn : Fun K "_law_further" "_law_further" s_law_further f fd) : FnOk P w K mg base CX0 33 f fd ["signature", "kind", "ways"] (spOf K p_law_further) :=
  have nd := sc_law_further.nd
  fn_ok Fn sc_law_further l_law_further (t := w_law_further) (fun cdv A outer s H E F hr =>
(xss_cons (xs_setO (i := 3) nd rfl (.inl rfl) (xr_lst xa_nil))
 (xss_cons (xs_for PassesOwn.never rfl (xi_any (xe_v 2)) (xg_name (i := 4) nd rfl (.inr rfl))
 (xss_kill [4, 5, 6, 7] (xss_cons (xs_set (i := 5) nd rfl (.inl rfl) (xe_ix (XR.xe (xr_call m_law_come_to (d_law_come_to.ok.mono (by decide)) hr (by rfl) d_law_come_to.mg d_law_come_to.kp d_law_come_to.b (xa_cons (xe_v 0) (xa_cons (xe_v 1) (xa_cons (xe_v 4) xa_nil))))) (xe_neg xe_int)))
 (xss_one (xs_for PassesOwn.never rfl (xi_any (xe_ix (xe_ix (xe_v 0) (xe_v 5)) xe_int)) (xg_tup rfl (xgs_cons (xg_name (i := 6) nd rfl (.inr rfl)) (xgs_cons (xg_name (i := 7) nd rfl (.inl rfl)) xgs_nil)))
 (xss_kill [6, 7] (xss_one (xs_expr (XR.xe (xr_extend (xe_v 3) (xa_cons (XR.xe (xr_lcA [("place", 8)] rfl nd (xi_range1 (by rfl) T.b_range (xa_cons (xe_len (by rfl) T.b_len (xa_cons (xe_v 7) xa_nil)) xa_nil)) (blkOk_by (by kernel_rfl)) (fun _ _ _ _ _ => (xg_name (i := 8) nd rfl (.inl rfl) (by first | exact .inl rfl | exact .inr rfl))) (fun _ _ _ _ _ => xts_nil) (fun _ _ _ _ _ => (xe_op op_addX vr_add (xe_v 4) (xe_tup (xa_cons (xe_tup (xa_cons (xe_v 6) (xa_cons (xe_v 8) xa_nil))) xa_nil)))))) xa_nil)))))))))))
 (xss_one (xs_retO 3))))) v_law_further
theorem sc_law_is_way : FnScope ["signature", "kind", "way", "kinds"] ["signature", "kind", "way"] (defScope s_law_is_way) := ⟨rfl, rfl, rfl, by decide +kernel, rfl, by decide +kernel, by decide +kernel⟩
theorem x_law_is_way (T : Bl P w K mg base) (d_law_come_to : Fd P w K mg base "_law_come_to" 32 ["signature", "kind", "way"] p_law_come_to) {f : Addr} {fd : FuncData} (Fn : Fun K "_law_is_way" "_law_is_way" s_law_is_way f fd) : FnOk P w K mg base CX0 33 f fd ["signature", "kind", "way"] (spOf K p_law_is_way) :=
  have nd := sc_law_is_way.nd
  fn_ok Fn sc_law_is_way l_law_is_way (t := w_law_is_way) (fun cdv A outer s H E F hr =>
(xss_cons (xs_if (XW.xt (xw_or (xt_not (xt_val (xe_isa (n := "tuple") kit_tuple (by rfl) T.b_isinstance (xe_v 2) (by rfl) T.b_tuple (by decide +kernel)))) (xw_or1 (xt_cmp op_gt (vr_ii0 fun _ _ _ => .bl _) (xe_len (by rfl) T.b_len (xa_cons (xe_v 2) xa_nil)) xe_int (nomark _)))))
 (xss_one (xs_ret xe_bl))
 xss_nil)
 (xss_cons (xs_set (i := 3) nd rfl (.inl rfl) (XR.xe (xr_call m_law_come_to (d_law_come_to.ok.mono (by decide)) hr (by rfl) d_law_come_to.mg d_law_come_to.kp d_law_come_to.b (xa_cons (xe_v 0) (xa_cons (xe_v 1) (xa_cons (xe_v 2) xa_nil))))))
 (xss_one (xs_ret (xe_and (xe_cmp op_notN vr_notN (xe_v 3) xe_non (nomark _)) (xe_one (xe_or (xe_cmp (op_eqP (hr.far (by decide))) vr_eq (xe_ix (xe_ix (xe_v 0) (xe_ix (xe_v 3) (xe_neg xe_int))) xe_int) xe_str (nomark _)) (xe_one (xe_cmp (op_inP (hr.far (by decide))) vr_in (xe_ix (xe_v 3) (xe_neg xe_int)) (XR.xe (xr_sl (xe_v 3) xo_none (xo_some (xe_neg xe_int)))) (by rfl))))))))))) v_law_is_way
theorem sc_law_told_way : FnScope ["signature", "kind", "ways", "turn", "some", "way"] ["signature", "kind"] (defScope s_law_told_way) := ⟨rfl, rfl, rfl, by decide +kernel, rfl, by decide +kernel, by decide +kernel⟩
theorem x_law_told_way (T : Bl P w K mg base) (d_law_further : Fd P w K mg base "_law_further" 33 ["signature", "kind", "ways"] p_law_further) (d_law_is_way : Fd P w K mg base "_law_is_way" 33 ["signature", "kind", "way"] p_law_is_way) {f : Addr} {fd : FuncData} (Fn : Fun K "_law_told_way" "_law_told_way" s_law_told_way f fd) : FnOk P w K mg base CX0 34 f fd ["signature", "kind"] (spOf K p_law_told_way) :=
  have nd := sc_law_told_way.nd
  fn_ok Fn sc_law_told_way l_law_told_way (t := w_law_told_way) (fun cdv A outer s H E F hr =>
(xss_cons (xs_set (i := 2) nd rfl (.inl rfl) (XR.xe (xr_lst (xa_cons (xe_tup xa_nil) xa_nil))))
 (xss_cons (xs_for PassesOwn.never rfl (xi_range1 (by rfl) T.b_range (xa_cons xe_int xa_nil)) (xg_name (i := 3) nd rfl (.inl rfl))
 (xss_kill [3, 4] (xss_cons (xs_setLcA [("way", 5)] (i := 4) rfl nd rfl rfl (sw_true rfl rfl rfl (by decide +kernel)) (xi_any (xe_v 2)) (blkOk_by (by kernel_rfl)) (fun _ _ _ _ _ => (xg_name (i := 5) nd rfl (.inl rfl) (by first | exact .inl rfl | exact .inr rfl))) (fun _ _ _ _ _ => (xts_one (xt_val (XR.xe (xr_call m_law_is_way (d_law_is_way.ok.mono (by decide)) hr (by rfl) d_law_is_way.mg d_law_is_way.kp d_law_is_way.b (xa_cons (xe_v 0) (xa_cons (xe_v 1) (xa_cons (xe_v 5) xa_nil)))))))) (fun _ _ _ _ _ => (xe_v 5)))
 (xss_cons (xs_if (xt_cmp (op_neP (hr.far (by decide))) vr_eq (xe_v 4) (XR.xe (xr_lst xa_nil)) (nomark _))
 (xss_one (xs_ret (xe_tup (xa_cons xe_str (xa_cons (xe_ix (xe_v 4) xe_int) xa_nil)))))
 xss_nil)
 (xss_one (xs_set (i := 2) nd rfl (.inl rfl) (XR.xe (xr_call m_law_further (d_law_further.ok.mono (by decide)) hr (by rfl) d_law_further.mg d_law_further.kp d_law_further.b (xa_cons (xe_v 0) (xa_cons (xe_v 1) (xa_cons (xe_v 2) xa_nil)))))))))))
 (xss_one (xs_ret xe_non))))) v_law_told_way
theorem sc_law_are_heights : FnScope ["signature", "kind", "heights", "height", "other", "parts", "name", "row", "part"] ["signature", "kind", "heights"] (defScope s_law_are_heights) := ⟨rfl, rfl, rfl, by decide +kernel, rfl, by decide +kernel, by decide +kernel⟩
theorem x_law_are_heights (T : Bl P w K mg base) (d_law_is_integer : Fd P w K mg base "_law_is_integer" 31 ["actual"] p_law_is_integer) {f : Addr} {fd : FuncData} (Fn : Fun K "_law_are_heights" "_law_are_heights" s_law_are_heights f fd) : FnOk P w K mg base CX0 32 f fd ["signature", "kind", "heights"] (spOf K p_law_are_heights) :=
  have nd := sc_law_are_heights.nd
  fn_ok Fn sc_law_are_heights l_law_are_heights (t := w_law_are_heights) (fun cdv A outer s H E F hr =>
(xss_cons (xs_if (XW.xt (xw_or (xt_not (xt_val (xe_isa (n := "tuple") kit_tuple (by rfl) T.b_isinstance (xe_v 2) (by rfl) T.b_tuple (by decide +kernel)))) (xw_or1 (xt_cmp (op_neP (hr.far (by decide))) vr_eq (xe_len (by rfl) T.b_len (xa_cons (xe_v 2) xa_nil)) (xe_len (by rfl) T.b_len (xa_cons (xe_v 0) xa_nil)) (nomark _)))))
 (xss_one (xs_ret xe_bl))
 xss_nil)
 (xss_cons (xs_for PassesOwn.never rfl (xi_any (xe_v 2)) (xg_name (i := 3) nd rfl (.inl rfl))
 (xss_kill [3] (xss_one (xs_if (XW.xt (xw_and (xt_cmp op_notN vr_notN (xe_v 3) xe_non (nomark _)) (xw_and1 (XW.xt (xw_or (xt_not (xt_val (XR.xe (xr_call m_law_is_integer (d_law_is_integer.ok.mono (by decide)) hr (by rfl) d_law_is_integer.mg d_law_is_integer.kp d_law_is_integer.b (xa_cons (xe_v 3) xa_nil))))) (xw_or1 (xt_not (xt_chain op_le op_le (vr_ii0 fun _ _ _ => .bl _) (vr_ii0 fun _ _ _ => .bl _) xe_int (xe_v 3) xe_int))))))))
 (xss_one (xs_ret xe_bl))
 xss_nil))))
 (xss_cons (xs_for PassesOwn.never rfl (xi_range1 (by rfl) T.b_range (xa_cons (xe_len (by rfl) T.b_len (xa_cons (xe_v 0) xa_nil)) xa_nil)) (xg_name (i := 4) nd rfl (.inr rfl))
 (xss_kill [4, 5, 6, 7] (xss_one (xs_if (xt_cmp op_notN vr_notN (xe_ix (xe_v 2) (xe_v 4)) xe_non (nomark _))
 (xss_cons (xs_setO (i := 5) nd rfl (.inl rfl) (xr_lst xa_nil))
 (xss_cons (xs_for PassesOwn.never rfl (xi_any (xe_ix (xe_ix (xe_v 0) (xe_v 4)) xe_int)) (xg_tup rfl (xgs_cons (xg_name (i := 6) nd rfl (.inl rfl)) (xgs_cons (xg_name (i := 7) nd rfl (.inl rfl)) xgs_nil)))
 (xss_kill [6, 7] (xss_one (xs_expr (XR.xe (xr_extend (xe_v 5) (xa_cons (XR.xe (xr_list (by rfl) T.b_list (xa_cons (xe_v 7) xa_nil))) xa_nil)))))))
 (xss_cons (xs_freeze 5 (xs_if (XW.xt (xw_or (xt_cmp (op_eqP (hr.far (by decide))) vr_eq (xe_ix (xe_ix (xe_v 0) (xe_v 4)) xe_int) xe_str (nomark _)) (xw_or1 (xt_val (xe_any rfl (by rfl) T.b_any (xa_cons (XR.xe (xr_lcA [("part", 8)] rfl nd (xi_any (xe_v 5)) (blkOk_by (by kernel_rfl)) (fun _ _ _ _ _ => (xg_name (i := 8) nd rfl (.inl rfl) (by first | exact .inl rfl | exact .inr rfl))) (fun _ _ _ _ _ => xts_nil) (fun _ _ _ _ _ => (xe_cmp op_isN vr_isN (xe_ix (xe_v 2) (xe_v 8)) xe_non (nomark _))))) xa_nil))))))
 (xss_one (xs_ret xe_bl))
 xss_nil))
 (xss_one (xs_if (xt_val (xe_any rfl (by rfl) T.b_any (xa_cons (XR.xe (xr_lcA [("part", 8)] rfl nd (xi_any (xe_v 5)) (blkOk_by (by kernel_rfl)) (fun _ _ _ _ _ => (xg_name (i := 8) nd rfl (.inl rfl) (by first | exact .inl rfl | exact .inr rfl))) (fun _ _ _ _ _ => xts_nil) (fun _ _ _ _ _ => (xe_cmp op_ge (vr_ii0 fun _ _ _ => .bl _) (xe_ix (xe_v 2) (xe_v 8)) (xe_ix (xe_v 2) (xe_v 4)) (nomark _))))) xa_nil)))
 (xss_one (xs_ret xe_bl))
 xss_nil)))))
 xss_nil))))
 (xss_one (xs_ret (xe_cmp op_notN vr_notN (xe_ix (xe_v 2) (xe_v 1)) xe_non (nomark _)))))))) v_law_are_heights
theorem sc_law_spoilt_way : FnScope ["stream", "signature", "way", "names", "how", "rows", "step", "options", "row"] ["stream", "signature", "way"] (defScope s_law_spoilt_way) := ⟨rfl, rfl, rfl, by decide +kernel, rfl, by decide +kernel, by decide +kernel⟩
theorem x_law_spoilt_way (T : Bl P w K mg base) (d_law_pick : Fd P w K mg base "_law_pick" 32 ["stream", "rows"] p_law_pick) (d_law_next : Fd P w K mg base "_law_next" 31 ["stream", "many"] p_law_next) {f : Addr} {fd : FuncData} (Fn : Fun K "_law_spoilt_way" "_law_spoilt_way" s_law_spoilt_way f fd) : FnOk P w K mg base CX0 33 f fd ["stream", "signature", "way"] (spOf K p_law_spoilt_way) :=
  have nd := sc_law_spoilt_way.nd
  fn_ok Fn sc_law_spoilt_way l_law_spoilt_way (t := w_law_spoilt_way) (fun cdv A outer s H E F hr =>
(xss_cons (xs_setO (i := 3) nd rfl (.inl rfl) (xr_lst (xa_cons xe_str xa_nil)))
 (xss_cons (xs_for PassesOwn.never rfl (xi_any (xe_v 1)) (xg_tup rfl (xgs_cons (xg_name (i := 4) nd rfl (.inl rfl)) (xgs_cons (xg_name (i := 5) nd rfl (.inl rfl)) xgs_nil)))
 (xss_kill [4, 5] (xss_one (xs_expr (XR.xe (xr_extend (xe_v 3) (xa_cons (XR.xe (xr_lcA [("row", 8)] rfl nd (xi_any (xe_v 5)) (blkOk_by (by kernel_rfl)) (fun _ _ _ _ _ => (xg_name (i := 8) nd rfl (.inl rfl) (by first | exact .inl rfl | exact .inr rfl))) (fun _ _ _ _ _ => xts_nil) (fun _ _ _ _ _ => (xe_ix (xe_v 8) xe_int)))) xa_nil)))))))
 (xss_cons (xs_freeze 3 (xs_set (i := 6) nd rfl (.inl rfl) (xe_tup (xa_cons (XR.xe (xr_call m_law_pick (d_law_pick.ok.mono (by decide)) hr (by rfl) d_law_pick.mg d_law_pick.kp d_law_pick.b (xa_cons (xe_v 0) (xa_cons (xe_v 3) xa_nil)))) (xa_cons (xe_op op_sub (vr_ii0 fun _ _ _ => .int _) (XR.xe (xr_call m_law_next (d_law_next.ok.mono (by decide)) hr (by rfl) d_law_next.mg d_law_next.kp d_law_next.b (xa_cons (xe_v 0) (xa_cons xe_int xa_nil)))) xe_int) xa_nil)))))
 (xss_cons (xs_set (i := 7) nd rfl (.inl rfl) (XR.xe (xr_lst (xa_cons (xe_op op_addX vr_add (xe_v 2) (xe_tup (xa_cons (xe_v 6) xa_nil))) (xa_cons (xe_op op_addX vr_add (XR.xe (xr_sl (xe_v 2) xo_none (xo_some (xe_neg xe_int)))) (xe_tup (xa_cons (xe_v 6) xa_nil))) (xa_cons (xe_op op_addX vr_add (xe_tup (xa_cons (xe_v 6) xa_nil)) (XR.xe (xr_sl (xe_v 2) (xo_some xe_int) xo_none))) (xa_cons (xe_op op_addX vr_add (xe_v 2) (xe_tup (xa_cons (xe_tup (xa_cons (xe_ix (xe_v 6) xe_int) (xa_cons xe_bl xa_nil))) xa_nil))) (xa_cons (xe_op op_addX vr_add (xe_v 2) (xe_v 2)) (xa_cons (XR.xe (xr_list (by rfl) T.b_list (xa_cons (xe_v 2) xa_nil))) (xa_cons (XR.xe (xr_sl (xe_v 2) (xo_some xe_int) xo_none)) xa_nil))))))))))
 (xss_cons (xs_set (i := 7) nd rfl (.inl rfl) (xe_op op_addX vr_add (xe_v 7) (XR.xe (xr_lst (xa_cons (xe_op op_addX vr_add (xe_v 2) (xe_tup (xa_cons (xe_ix (xe_v 6) xe_int) xa_nil))) (xa_cons (xe_op op_addX vr_add (xe_v 2) (xe_tup (xa_cons (XR.xe (xr_list (by rfl) T.b_list (xa_cons (xe_v 6) xa_nil))) xa_nil))) (xa_cons (xe_op op_addX vr_add (xe_v 2) (xe_tup (xa_cons (xe_op op_addX vr_add (xe_v 6) (xe_tup (xa_cons xe_int xa_nil))) xa_nil))) (xa_cons (xe_op op_addX vr_add (xe_v 2) (xe_tup (xa_cons (xe_tup (xa_cons (xe_ix (xe_v 6) xe_int) (xa_cons xe_non xa_nil))) xa_nil))) (xa_cons xe_non (xa_cons xe_int (xa_cons (xe_v 6) xa_nil)))))))))))
 (xss_one (xs_retR (xr_call m_law_pick (d_law_pick.ok.mono (by decide)) hr (by rfl) d_law_pick.mg d_law_pick.kp d_law_pick.b (xa_cons (xe_v 0) (xa_cons (xe_v 7) xa_nil))))))))))) v_law_spoilt_way
theorem sc_law_asked : FnScope ["stream", "signature", "kind", "endless", "due", "heights", "ways", "turn", "way", "value", "wrong", "other"] ["stream", "signature", "kind"] (defScope s_law_asked) := ⟨rfl, rfl, rfl, by decide +kernel, rfl, by decide +kernel, by decide +kernel⟩
theorem x_law_asked (T : Bl P w K mg base) (d_law_is_endless : Fd P w K mg base "_law_is_endless" 32 ["signature", "kind"] p_law_is_endless) (d_law_all_tuples : Fd P w K mg base "_law_all_tuples" 31 ["lists", "cap"] p_law_all_tuples) (d_law_same : Fd P w K mg base "_law_same" 32 ["actual", "due"] p_law_same) (d_law_told_way : Fd P w K mg base "_law_told_way" 34 ["signature", "kind"] p_law_told_way) (d_law_told_heights : Fd P w K mg base "_law_told_heights" 32 ["signature", "kind"] p_law_told_heights) (d_is_finite : Fd P w K mg base "is_finite" 39 ["signature", "kind"] p_is_finite) (d_finite_evidence : Fd P w K mg base "finite_evidence" 39 ["signature", "kind"] p_finite_evidence) (d_law_further : Fd P w K mg base "_law_further" 33 ["signature", "kind", "ways"] p_law_further) (d_is_finite_evidence : Fd P w K mg base "is_finite_evidence" 39 ["signature", "kind", "value"] p_is_finite_evidence) (d_law_are_heights : Fd P w K mg base "_law_are_heights" 32 ["signature", "kind", "heights"] p_law_are_heights) (d_law_spoilt_way : Fd P w K mg base "_law_spoilt_way" 33 ["stream", "signature", "way"] p_law_spoilt_way) (d_law_pick : Fd P w K mg base "_law_pick" 32 ["stream", "rows"] p_law_pick) (d_law_is_way : Fd P w K mg base "_law_is_way" 33 ["signature", "kind", "way"] p_law_is_way) {f : Addr} {fd : FuncData} (Fn : Fun K "_law_asked" "_law_asked" s_law_asked f fd) : FnOk P w K mg base CX0 40 f fd ["stream", "signature", "kind"] (spOf K p_law_asked) :=
  have nd := sc_law_asked.nd
  fn_ok Fn sc_law_asked l_law_asked (t := w_law_asked) (fun cdv A outer s H E F hr =>
(xss_cons (xs_set (i := 3) nd rfl (.inl rfl) (XR.xe (xr_call m_law_is_endless (d_law_is_endless.ok.mono (by decide)) hr (by rfl) d_law_is_endless.mg d_law_is_endless.kp d_law_is_endless.b (xa_cons (xe_v 1) (xa_cons (xe_v 2) xa_nil)))))
 (xss_cons (xs_if (xt_not (xt_val (XR.xe (xr_call m_law_same (d_law_same.ok.mono (by decide)) hr (by rfl) d_law_same.mg d_law_same.kp d_law_same.b (xa_cons (XR.xe (xr_call m_is_finite (d_is_finite.ok.mono (by decide)) hr (by rfl) d_is_finite.mg d_is_finite.kp d_is_finite.b (xa_cons (xe_v 1) (xa_cons (xe_v 2) xa_nil)))) (xa_cons (xe_not (xe_v 3)) xa_nil))))))
 (xss_one (xs_ret xe_bl))
 xss_nil)
 (xss_cons (xs_set (i := 4) nd rfl (.inl rfl) (xe_if (xt_val (xe_v 3)) (XR.xe (xr_call m_law_told_way (d_law_told_way.ok.mono (by decide)) hr (by rfl) d_law_told_way.mg d_law_told_way.kp d_law_told_way.b (xa_cons (xe_v 1) (xa_cons (xe_v 2) xa_nil)))) (XR.xe (xr_call m_law_told_heights (d_law_told_heights.ok.mono (by decide)) hr (by rfl) d_law_told_heights.mg d_law_told_heights.kp d_law_told_heights.b (xa_cons (xe_v 1) (xa_cons (xe_v 2) xa_nil))))))
 (xss_cons (xs_if (xt_not (xt_val (XR.xe (xr_call m_law_same (d_law_same.ok.mono (by decide)) hr (by rfl) d_law_same.mg d_law_same.kp d_law_same.b (xa_cons (XR.xe (xr_call m_finite_evidence (d_finite_evidence.ok.mono (by decide)) hr (by rfl) d_finite_evidence.mg d_finite_evidence.kp d_finite_evidence.b (xa_cons (xe_v 1) (xa_cons (xe_v 2) xa_nil)))) (xa_cons (xe_v 4) xa_nil))))))
 (xss_one (xs_ret xe_bl))
 xss_nil)
 (xss_cons (xs_for PassesOwn.never rfl (xi_any (XR.xe (xr_call m_law_all_tuples (d_law_all_tuples.ok.mono (by decide)) hr (by rfl) d_law_all_tuples.mg d_law_all_tuples.kp d_law_all_tuples.b (xa_cons (XR.xe (xr_lcA [("other", 11)] rfl nd (xi_any (xe_v 1)) (blkOk_by (by kernel_rfl)) (fun _ _ _ _ _ => (xg_name (i := 11) nd rfl (.inl rfl) (by first | exact .inl rfl | exact .inr rfl))) (fun _ _ _ _ _ => xts_nil) (fun _ _ _ _ _ => (XR.xe (xr_lst (xa_cons xe_non (xa_cons xe_int (xa_cons xe_int (xa_cons xe_int xa_nil))))))))) (xa_cons xe_int xa_nil))))) (xg_name (i := 5) nd rfl (.inl rfl))
 (xss_kill [5] (xss_one (xs_if (xt_not (xt_val (XR.xe (xr_call m_law_same (d_law_same.ok.mono (by decide)) hr (by rfl) d_law_same.mg d_law_same.kp d_law_same.b (xa_cons (XR.xe (xr_call m_is_finite_evidence (d_is_finite_evidence.ok.mono (by decide)) hr (by rfl) d_is_finite_evidence.mg d_is_finite_evidence.kp d_is_finite_evidence.b (xa_cons (xe_v 1) (xa_cons (xe_v 2) (xa_cons (xe_tup (xa_cons xe_str (xa_cons (xe_v 5) xa_nil))) xa_nil))))) (xa_cons (XR.xe (xr_call m_law_are_heights (d_law_are_heights.ok.mono (by decide)) hr (by rfl) d_law_are_heights.mg d_law_are_heights.kp d_law_are_heights.b (xa_cons (xe_v 1) (xa_cons (xe_v 2) (xa_cons (xe_v 5) xa_nil))))) xa_nil))))))
 (xss_one (xs_ret xe_bl))
 xss_nil))))
 (xss_cons (xs_for PassesOwn.never rfl (xi_any (xe_tup (xa_cons xe_non (xa_cons (xe_tup xa_nil) (xa_cons (xe_tup (xa_cons xe_int (xa_cons xe_int (xa_cons xe_int (xa_cons xe_int xa_nil))))) (xa_cons (XR.xe (xr_sl (XR.xe (xr_lst (xa_cons xe_int (xa_cons xe_int (xa_cons xe_int xa_nil))))) xo_none (xo_some (xe_len (by rfl) T.b_len (xa_cons (xe_v 1) xa_nil))))) (xa_cons (XR.xe (xr_sl (xe_tup (xa_cons xe_int (xa_cons xe_int (xa_cons xe_int xa_nil)))) (xo_some (xe_neg (xe_len (by rfl) T.b_len (xa_cons (xe_v 1) xa_nil)))) xo_none)) (xa_cons (xe_op op_mulT vr_mulT (xe_tup (xa_cons xe_bl xa_nil)) (xe_len (by rfl) T.b_len (xa_cons (xe_v 1) xa_nil))) xa_nil)))))))) (xg_name (i := 5) nd rfl (.inl rfl))
 (xss_kill [5] (xss_one (xs_if (xt_not (xt_val (XR.xe (xr_call m_law_same (d_law_same.ok.mono (by decide)) hr (by rfl) d_law_same.mg d_law_same.kp d_law_same.b (xa_cons (XR.xe (xr_call m_is_finite_evidence (d_is_finite_evidence.ok.mono (by decide)) hr (by rfl) d_is_finite_evidence.mg d_is_finite_evidence.kp d_is_finite_evidence.b (xa_cons (xe_v 1) (xa_cons (xe_v 2) (xa_cons (xe_tup (xa_cons xe_str (xa_cons (xe_v 5) xa_nil))) xa_nil))))) (xa_cons (XR.xe (xr_call m_law_are_heights (d_law_are_heights.ok.mono (by decide)) hr (by rfl) d_law_are_heights.mg d_law_are_heights.kp d_law_are_heights.b (xa_cons (xe_v 1) (xa_cons (xe_v 2) (xa_cons (xe_v 5) xa_nil))))) xa_nil))))))
 (xss_one (xs_ret xe_bl))
 xss_nil))))
 (xss_cons (xs_set (i := 6) nd rfl (.inr rfl) (XR.xe (xr_lst (xa_cons (xe_tup xa_nil) xa_nil))))
 (xss_cons (xs_for PassesOwn.never rfl (xi_range1 (by rfl) T.b_range (xa_cons xe_int xa_nil)) (xg_name (i := 7) nd rfl (.inl rfl))
 (xss_kill [7, 8, 9] (xss_cons (xs_for PassesOwn.never rfl (xi_any (xe_if (xt_cmp (op_neP (hr.far (by decide))) vr_eq (xe_v 6) (XR.xe (xr_lst xa_nil)) (nomark _)) (xe_op op_addX vr_add (XR.xe (xr_lcA [("other", 11)] rfl nd (xi_range1 (by rfl) T.b_range (xa_cons xe_int xa_nil)) (blkOk_by (by kernel_rfl)) (fun _ _ _ _ _ => (xg_name (i := 11) nd rfl (.inl rfl) (by first | exact .inl rfl | exact .inr rfl))) (fun _ _ _ _ _ => xts_nil) (fun _ _ _ _ _ => (XR.xe (xr_call m_law_pick (d_law_pick.ok.mono (by decide)) hr (by rfl) d_law_pick.mg d_law_pick.kp d_law_pick.b (xa_cons (xe_v 0) (xa_cons (xe_v 6) xa_nil))))))) (XR.xe (xr_sl (xe_v 6) xo_none (xo_some xe_int)))) (XR.xe (xr_lst xa_nil)))) (xg_name (i := 8) nd rfl (.inl rfl))
 (xss_kill [8, 9] (xss_one (xs_for PassesOwn.never rfl (xi_any (xe_tup (xa_cons (xe_v 8) (xa_cons (XR.xe (xr_call m_law_spoilt_way (d_law_spoilt_way.ok.mono (by decide)) hr (by rfl) d_law_spoilt_way.mg d_law_spoilt_way.kp d_law_spoilt_way.b (xa_cons (xe_v 0) (xa_cons (xe_v 1) (xa_cons (xe_v 8) xa_nil))))) xa_nil)))) (xg_name (i := 9) nd rfl (.inl rfl))
 (xss_kill [9] (xss_one (xs_if (xt_not (xt_val (XR.xe (xr_call m_law_same (d_law_same.ok.mono (by decide)) hr (by rfl) d_law_same.mg d_law_same.kp d_law_same.b (xa_cons (XR.xe (xr_call m_is_finite_evidence (d_is_finite_evidence.ok.mono (by decide)) hr (by rfl) d_is_finite_evidence.mg d_is_finite_evidence.kp d_is_finite_evidence.b (xa_cons (xe_v 1) (xa_cons (xe_v 2) (xa_cons (xe_tup (xa_cons xe_str (xa_cons (xe_v 9) xa_nil))) xa_nil))))) (xa_cons (XR.xe (xr_call m_law_is_way (d_law_is_way.ok.mono (by decide)) hr (by rfl) d_law_is_way.mg d_law_is_way.kp d_law_is_way.b (xa_cons (xe_v 1) (xa_cons (xe_v 2) (xa_cons (xe_v 9) xa_nil))))) xa_nil))))))
 (xss_one (xs_ret xe_bl))
 xss_nil)))))))
 (xss_one (xs_if (xt_cmp op_lt (vr_ii0 fun _ _ _ => .bl _) (xe_v 7) xe_int (nomark _))
 (xss_one (xs_set (i := 6) nd rfl (.inr rfl) (XR.xe (xr_call m_law_further (d_law_further.ok.mono (by decide)) hr (by rfl) d_law_further.mg d_law_further.kp d_law_further.b (xa_cons (xe_v 1) (xa_cons (xe_v 2) (xa_cons (xe_v 6) xa_nil)))))))
 xss_nil)))))
 (xss_cons (xs_set (i := 10) nd rfl (.inl rfl) (XR.xe (xr_lst (xa_cons (xe_op op_addX vr_add (xe_v 4) (xe_tup (xa_cons (xe_ix (xe_v 4) xe_int) xa_nil))) (xa_cons (XR.xe (xr_list (by rfl) T.b_list (xa_cons (xe_v 4) xa_nil))) (xa_cons (xe_tup (xa_cons (xe_ix (xe_v 4) xe_int) xa_nil)) (xa_cons (xe_tup (xa_cons (xe_ix (xe_v 4) xe_int) (xa_cons (xe_ix (xe_v 4) xe_int) xa_nil))) (xa_cons (xe_tup (xa_cons xe_str (xa_cons (xe_ix (xe_v 4) xe_int) xa_nil))) (xa_cons (xe_tup (xa_cons xe_non (xa_cons (xe_ix (xe_v 4) xe_int) xa_nil))) (xa_cons xe_non (xa_cons xe_str (xa_cons (xe_ix (xe_v 4) xe_int) xa_nil))))))))))))
 (xss_one (xs_ret (xe_all rfl (by rfl) T.b_all (xa_cons (XR.xe (xr_lcA [("value", 9)] rfl nd (xi_any (xe_v 10)) (blkOk_by (by kernel_rfl)) (fun _ _ _ _ _ => (xg_name (i := 9) nd rfl (.inl rfl) (by first | exact .inl rfl | exact .inr rfl))) (fun _ _ _ _ _ => xts_nil) (fun _ _ _ _ _ => (xe_cmp op_isBl vr_isB (XR.xe (xr_call m_is_finite_evidence (d_is_finite_evidence.ok.mono (by decide)) hr (by rfl) d_is_finite_evidence.mg d_is_finite_evidence.kp d_is_finite_evidence.b (xa_cons (xe_v 1) (xa_cons (xe_v 2) (xa_cons (xe_v 9) xa_nil))))) xe_bl (nomark _))))) xa_nil)))))))))))))) v_law_asked
theorem sc_law : FnScope ["script", "stream", "turn", "signature", "top", "middle", "low", "names", "rows", "ring", "loop", "shapes", "shape", "kind"] ["script"] (defScope s_law) := ⟨rfl, rfl, rfl, by decide +kernel, rfl, by decide +kernel, by decide +kernel⟩
theorem x_law (T : Bl P w K mg base) (d_law_stream : Fd P w K mg base "_law_stream" 31 ["script"] p_law_stream) (d_law_order : Fd P w K mg base "_law_order" 32 ["stream", "many"] p_law_order) (d_law_names : Fd P w K mg base "_law_names" 33 ["stream", "many", "least"] p_law_names) (d_law_signature : Fd P w K mg base "_law_signature" 35 ["stream"] p_law_signature) (d_law_asked : Fd P w K mg base "_law_asked" 40 ["stream", "signature", "kind"] p_law_asked) {f : Addr} {fd : FuncData} (Fn : Fun K "law" "law" s_law f fd) : FnOk P w K mg base CX0 41 f fd ["script"] (spOf K p_law) :=
  have nd := sc_law.nd
  fn_ok Fn sc_law l_law (t := w_law) (fun cdv A outer s H E F hr =>
(xss_cons (xs_setO (i := 1) nd rfl (.inr rfl) (xr_call m_law_stream (d_law_stream.ok.mono (by decide)) hr (by rfl) d_law_stream.mg d_law_stream.kp d_law_stream.b (xa_cons (xe_v 0) xa_nil)))
 (xss_cons (xs_for PassesOwn.never rfl (xi_range1 (by rfl) T.b_range (xa_cons xe_int xa_nil)) (xg_name (i := 2) nd rfl (.inl rfl))
 (xss_kill [2, 3] (xss_cons (xs_set (i := 3) nd rfl (.inr rfl) (XR.xe (xr_call m_law_signature (d_law_signature.ok.mono (by decide)) hr (by rfl) d_law_signature.mg d_law_signature.kp d_law_signature.b (xa_cons (xe_v 1) xa_nil))))
 (xss_one (xs_if (xt_not (xt_val (xe_all rfl (by rfl) T.b_all (xa_cons (XR.xe (xr_lcA [("kind", 13)] rfl nd (xi_range1 (by rfl) T.b_range (xa_cons (xe_len (by rfl) T.b_len (xa_cons (xe_v 3) xa_nil)) xa_nil)) (blkOk_by (by kernel_rfl)) (fun _ _ _ _ _ => (xg_name (i := 13) nd rfl (.inl rfl) (by first | exact .inl rfl | exact .inr rfl))) (fun _ _ _ _ _ => xts_nil) (fun _ _ _ _ _ => (XR.xe (xr_call m_law_asked (d_law_asked.ok.mono (by decide)) hr (by rfl) d_law_asked.mg d_law_asked.kp d_law_asked.b (xa_cons (xe_v 1) (xa_cons (xe_v 3) (xa_cons (xe_v 13) xa_nil)))))))) xa_nil))))
 (xss_one (xs_ret xe_bl))
 xss_nil)))))
 (xss_cons (xs_asg (XR.xe (xr_call m_law_order (d_law_order.ok.mono (by decide)) hr (by rfl) d_law_order.mg d_law_order.kp d_law_order.b (xa_cons (xe_v 1) (xa_cons xe_int xa_nil)))) (xg_tup rfl (xgs_cons (xg_name (i := 4) nd rfl (.inl rfl)) (xgs_cons (xg_name (i := 5) nd rfl (.inl rfl)) (xgs_cons (xg_name (i := 6) nd rfl (.inl rfl)) xgs_nil)))))
 (xss_cons (xs_set (i := 7) nd rfl (.inl rfl) (XR.xe (xr_call m_law_names (d_law_names.ok.mono (by decide)) hr (by rfl) d_law_names.mg d_law_names.kp d_law_names.b (xa_cons (xe_v 1) (xa_cons xe_int (xa_cons xe_int xa_nil))))))
 (xss_cons (xs_setO (i := 8) nd rfl (.inl rfl) (xr_lst (xa_cons xe_non (xa_cons xe_non (xa_cons xe_non xa_nil)))))
 (xss_cons (xs_put (xe_tup (xa_cons xe_str (xa_cons (xe_tup (xa_cons (xe_tup (xa_cons (xe_ix (xe_v 7) xe_int) (xa_cons (xe_tup (xa_cons (xe_v 6) xa_nil)) xa_nil))) (xa_cons (xe_tup (xa_cons (xe_ix (xe_v 7) xe_int) (xa_cons (xe_tup (xa_cons (xe_v 5) (xa_cons (xe_v 6) xa_nil))) xa_nil))) xa_nil))) xa_nil))) (xe_v 8) (xe_v 4))
 (xss_cons (xs_put (xe_tup (xa_cons xe_str (xa_cons (xe_tup (xa_cons (xe_tup (xa_cons (xe_ix (xe_v 7) xe_int) (xa_cons (xe_tup xa_nil) xa_nil))) (xa_cons (xe_tup (xa_cons (xe_ix (xe_v 7) xe_int) (xa_cons (xe_tup (xa_cons (xe_v 6) (xa_cons (xe_v 6) xa_nil))) xa_nil))) xa_nil))) xa_nil))) (xe_v 8) (xe_v 5))
 (xss_cons (xs_put (xe_tup (xa_cons xe_str (xa_cons (xe_tup (xa_cons (xe_tup (xa_cons (xe_ix (xe_v 7) xe_int) (xa_cons (xe_tup xa_nil) xa_nil))) xa_nil)) xa_nil))) (xe_v 8) (xe_v 6))
 (xss_cons (xs_setO (i := 9) nd rfl (.inl rfl) (xr_list (by rfl) T.b_list (xa_cons (xe_v 8) xa_nil)))
 (xss_cons (xs_put (xe_tup (xa_cons xe_str (xa_cons (xe_tup (xa_cons (xe_tup (xa_cons (xe_ix (xe_v 7) xe_int) (xa_cons (xe_tup xa_nil) xa_nil))) (xa_cons (xe_tup (xa_cons (xe_ix (xe_v 7) xe_int) (xa_cons (xe_tup (xa_cons (xe_v 4) xa_nil)) xa_nil))) xa_nil))) xa_nil))) (xe_v 9) (xe_v 6))
 (xss_cons (xs_setO (i := 10) nd rfl (.inl rfl) (xr_list (by rfl) T.b_list (xa_cons (xe_v 8) xa_nil)))
 (xss_cons (xs_put (xe_tup (xa_cons xe_str (xa_cons (xe_tup (xa_cons (xe_tup (xa_cons (xe_ix (xe_v 7) xe_int) (xa_cons (xe_tup xa_nil) xa_nil))) (xa_cons (xe_tup (xa_cons (xe_ix (xe_v 7) xe_int) (xa_cons (xe_tup (xa_cons (xe_v 6) xa_nil)) xa_nil))) xa_nil))) xa_nil))) (xe_v 10) (xe_v 6))
 (xss_cons (xs_set (i := 11) nd rfl (.inl rfl) (XR.xe (xr_lst (xa_cons (xe_tuple (by rfl) T.b_tuple (xa_cons (xe_v 8) xa_nil)) (xa_cons (xe_tuple (by rfl) T.b_tuple (xa_cons (xe_v 9) xa_nil)) (xa_cons (xe_tuple (by rfl) T.b_tuple (xa_cons (xe_v 10) xa_nil)) xa_nil))))))
 (xss_one (xs_ret (xe_all rfl (by rfl) T.b_all (xa_cons (XR.xe (xr_lcA [("shape", 12)] rfl nd (xi_any (xe_v 11)) (blkOk_by (by kernel_rfl)) (fun _ _ _ _ _ => (xg_name (i := 12) nd rfl (.inr rfl) (by first | exact .inl rfl | exact .inr rfl))) (fun _ _ _ _ _ => xts_nil) (fun _ _ _ _ _ => (xe_all rfl (by rfl) T.b_all (xa_cons (XR.xe (xr_lcA [("kind", 13)] rfl nd (xi_range1 (by rfl) T.b_range (xa_cons xe_int xa_nil)) (blkOk_by (by kernel_rfl)) (fun _ _ _ _ _ => (xg_name (i := 13) nd rfl (.inl rfl) (by first | exact .inl rfl | exact .inr rfl))) (fun _ _ _ _ _ => xts_nil) (fun _ _ _ _ _ => (XR.xe (xr_call m_law_asked (d_law_asked.ok.mono (by decide)) hr (by rfl) d_law_asked.mg d_law_asked.kp d_law_asked.b (xa_cons (xe_v 1) (xa_cons (xe_v 12) (xa_cons (xe_v 13) xa_nil)))))))) xa_nil))))) xa_nil)))))))))))))))))) v_law
end
theorem all_mk {l : PySem.W.OpenLaw} {w : World} {K : PySem.W.Frag} {h : Heap} {mg : Str → Option Value} {fa : Addr} (X : K.In h) (G : h.Ns mainGlobals mg) (hfa : mg "law" = some (.ref fa))
    {f0 : Addr} {od0 an0 : Option Addr} {sl0 : Array (Option Value)} {oc0 kV0 dc0 pm0 cd0 ct0 : Value} (a0 : PySem.W.nsIn K mainGlobals "is_whole" = some (some (.ref f0))) (l0 : K.lookup f0 = some ⟨oc0, od0, .func (PySem.W.fnOf "is_whole" "is_whole" (defArgs s_is_whole) (defBody s_is_whole) (defScope s_is_whole) .none kV0 dc0 pm0 an0 cd0 ct0), sl0⟩) (c0 : PySem.W.codeIn K cd0 "is_whole" = true) (k0 : PySem.W.keepIn K (.ref f0) = true)
    {f1 : Addr} {od1 an1 : Option Addr} {sl1 : Array (Option Value)} {oc1 kV1 dc1 pm1 cd1 ct1 : Value} (a1 : PySem.W.nsIn K mainGlobals "is_within" = some (some (.ref f1))) (l1 : K.lookup f1 = some ⟨oc1, od1, .func (PySem.W.fnOf "is_within" "is_within" (defArgs s_is_within) (defBody s_is_within) (defScope s_is_within) .none kV1 dc1 pm1 an1 cd1 ct1), sl1⟩) (c1 : PySem.W.codeIn K cd1 "is_within" = true) (k1 : PySem.W.keepIn K (.ref f1) = true)
    {f2 : Addr} {od2 an2 : Option Addr} {sl2 : Array (Option Value)} {oc2 kV2 dc2 pm2 cd2 ct2 : Value} (a2 : PySem.W.nsIn K mainGlobals "is_name" = some (some (.ref f2))) (l2 : K.lookup f2 = some ⟨oc2, od2, .func (PySem.W.fnOf "is_name" "is_name" (defArgs s_is_name) (defBody s_is_name) (defScope s_is_name) .none kV2 dc2 pm2 an2 cd2 ct2), sl2⟩) (c2 : PySem.W.codeIn K cd2 "is_name" = true) (k2 : PySem.W.keepIn K (.ref f2) = true)
    {f3 : Addr} {od3 an3 : Option Addr} {sl3 : Array (Option Value)} {oc3 kV3 dc3 pm3 cd3 ct3 : Value} (a3 : PySem.W.nsIn K mainGlobals "are_kinds" = some (some (.ref f3))) (l3 : K.lookup f3 = some ⟨oc3, od3, .func (PySem.W.fnOf "are_kinds" "are_kinds" (defArgs s_are_kinds) (defBody s_are_kinds) (defScope s_are_kinds) .none kV3 dc3 pm3 an3 cd3 ct3), sl3⟩) (c3 : PySem.W.codeIn K cd3 "are_kinds" = true) (k3 : PySem.W.keepIn K (.ref f3) = true)
    {f4 : Addr} {od4 an4 : Option Addr} {sl4 : Array (Option Value)} {oc4 kV4 dc4 pm4 cd4 ct4 : Value} (a4 : PySem.W.nsIn K mainGlobals "is_constructor" = some (some (.ref f4))) (l4 : K.lookup f4 = some ⟨oc4, od4, .func (PySem.W.fnOf "is_constructor" "is_constructor" (defArgs s_is_constructor) (defBody s_is_constructor) (defScope s_is_constructor) .none kV4 dc4 pm4 an4 cd4 ct4), sl4⟩) (c4 : PySem.W.codeIn K cd4 "is_constructor" = true) (k4 : PySem.W.keepIn K (.ref f4) = true)
    {f5 : Addr} {od5 an5 : Option Addr} {sl5 : Array (Option Value)} {oc5 kV5 dc5 pm5 cd5 ct5 : Value} (a5 : PySem.W.nsIn K mainGlobals "is_kind_row" = some (some (.ref f5))) (l5 : K.lookup f5 = some ⟨oc5, od5, .func (PySem.W.fnOf "is_kind_row" "is_kind_row" (defArgs s_is_kind_row) (defBody s_is_kind_row) (defScope s_is_kind_row) .none kV5 dc5 pm5 an5 cd5 ct5), sl5⟩) (c5 : PySem.W.codeIn K cd5 "is_kind_row" = true) (k5 : PySem.W.keepIn K (.ref f5) = true)
    {f6 : Addr} {od6 an6 : Option Addr} {sl6 : Array (Option Value)} {oc6 kV6 dc6 pm6 cd6 ct6 : Value} (a6 : PySem.W.nsIn K mainGlobals "filled_kinds" = some (some (.ref f6))) (l6 : K.lookup f6 = some ⟨oc6, od6, .func (PySem.W.fnOf "filled_kinds" "filled_kinds" (defArgs s_filled_kinds) (defBody s_filled_kinds) (defScope s_filled_kinds) .none kV6 dc6 pm6 an6 cd6 ct6), sl6⟩) (c6 : PySem.W.codeIn K cd6 "filled_kinds" = true) (k6 : PySem.W.keepIn K (.ref f6) = true)
    {f7 : Addr} {od7 an7 : Option Addr} {sl7 : Array (Option Value)} {oc7 kV7 dc7 pm7 cd7 ct7 : Value} (a7 : PySem.W.nsIn K mainGlobals "is_signature" = some (some (.ref f7))) (l7 : K.lookup f7 = some ⟨oc7, od7, .func (PySem.W.fnOf "is_signature" "is_signature" (defArgs s_is_signature) (defBody s_is_signature) (defScope s_is_signature) .none kV7 dc7 pm7 an7 cd7 ct7), sl7⟩) (c7 : PySem.W.codeIn K cd7 "is_signature" = true) (k7 : PySem.W.keepIn K (.ref f7) = true)
    {f8 : Addr} {od8 an8 : Option Addr} {sl8 : Array (Option Value)} {oc8 kV8 dc8 pm8 cd8 ct8 : Value} (a8 : PySem.W.nsIn K mainGlobals "check_signature" = some (some (.ref f8))) (l8 : K.lookup f8 = some ⟨oc8, od8, .func (PySem.W.fnOf "check_signature" "check_signature" (defArgs s_check_signature) (defBody s_check_signature) (defScope s_check_signature) .none kV8 dc8 pm8 an8 cd8 ct8), sl8⟩) (c8 : PySem.W.codeIn K cd8 "check_signature" = true) (k8 : PySem.W.keepIn K (.ref f8) = true)
    {f9 : Addr} {od9 an9 : Option Addr} {sl9 : Array (Option Value)} {oc9 kV9 dc9 pm9 cd9 ct9 : Value} (a9 : PySem.W.nsIn K mainGlobals "check_kind" = some (some (.ref f9))) (l9 : K.lookup f9 = some ⟨oc9, od9, .func (PySem.W.fnOf "check_kind" "check_kind" (defArgs s_check_kind) (defBody s_check_kind) (defScope s_check_kind) .none kV9 dc9 pm9 an9 cd9 ct9), sl9⟩) (c9 : PySem.W.codeIn K cd9 "check_kind" = true) (k9 : PySem.W.keepIn K (.ref f9) = true)
    {f10 : Addr} {od10 an10 : Option Addr} {sl10 : Array (Option Value)} {oc10 kV10 dc10 pm10 cd10 ct10 : Value} (a10 : PySem.W.nsIn K mainGlobals "is_open" = some (some (.ref f10))) (l10 : K.lookup f10 = some ⟨oc10, od10, .func (PySem.W.fnOf "is_open" "is_open" (defArgs s_is_open) (defBody s_is_open) (defScope s_is_open) .none kV10 dc10 pm10 an10 cd10 ct10), sl10⟩) (c10 : PySem.W.codeIn K cd10 "is_open" = true) (k10 : PySem.W.keepIn K (.ref f10) = true)
    {f11 : Addr} {od11 an11 : Option Addr} {sl11 : Array (Option Value)} {oc11 kV11 dc11 pm11 cd11 ct11 : Value} (a11 : PySem.W.nsIn K mainGlobals "constructors_of" = some (some (.ref f11))) (l11 : K.lookup f11 = some ⟨oc11, od11, .func (PySem.W.fnOf "constructors_of" "constructors_of" (defArgs s_constructors_of) (defBody s_constructors_of) (defScope s_constructors_of) .none kV11 dc11 pm11 an11 cd11 ct11), sl11⟩) (c11 : PySem.W.codeIn K cd11 "constructors_of" = true) (k11 : PySem.W.keepIn K (.ref f11) = true)
    {f12 : Addr} {od12 an12 : Option Addr} {sl12 : Array (Option Value)} {oc12 kV12 dc12 pm12 cd12 ct12 : Value} (a12 : PySem.W.nsIn K mainGlobals "parts_in" = some (some (.ref f12))) (l12 : K.lookup f12 = some ⟨oc12, od12, .func (PySem.W.fnOf "parts_in" "parts_in" (defArgs s_parts_in) (defBody s_parts_in) (defScope s_parts_in) .none kV12 dc12 pm12 an12 cd12 ct12), sl12⟩) (c12 : PySem.W.codeIn K cd12 "parts_in" = true) (k12 : PySem.W.keepIn K (.ref f12) = true)
    {f13 : Addr} {od13 an13 : Option Addr} {sl13 : Array (Option Value)} {oc13 kV13 dc13 pm13 cd13 ct13 : Value} (a13 : PySem.W.nsIn K mainGlobals "kinds_led_to" = some (some (.ref f13))) (l13 : K.lookup f13 = some ⟨oc13, od13, .func (PySem.W.fnOf "kinds_led_to" "kinds_led_to" (defArgs s_kinds_led_to) (defBody s_kinds_led_to) (defScope s_kinds_led_to) .none kV13 dc13 pm13 an13 cd13 ct13), sl13⟩) (c13 : PySem.W.codeIn K cd13 "kinds_led_to" = true) (k13 : PySem.W.keepIn K (.ref f13) = true)
    {f14 : Addr} {od14 an14 : Option Addr} {sl14 : Array (Option Value)} {oc14 kV14 dc14 pm14 cd14 ct14 : Value} (a14 : PySem.W.nsIn K mainGlobals "is_finite_kind" = some (some (.ref f14))) (l14 : K.lookup f14 = some ⟨oc14, od14, .func (PySem.W.fnOf "is_finite_kind" "is_finite_kind" (defArgs s_is_finite_kind) (defBody s_is_finite_kind) (defScope s_is_finite_kind) .none kV14 dc14 pm14 an14 cd14 ct14), sl14⟩) (c14 : PySem.W.codeIn K cd14 "is_finite_kind" = true) (k14 : PySem.W.keepIn K (.ref f14) = true)
    {f15 : Addr} {od15 an15 : Option Addr} {sl15 : Array (Option Value)} {oc15 kV15 dc15 pm15 cd15 ct15 : Value} (a15 : PySem.W.nsIn K mainGlobals "is_finite" = some (some (.ref f15))) (l15 : K.lookup f15 = some ⟨oc15, od15, .func (PySem.W.fnOf "is_finite" "is_finite" (defArgs s_is_finite) (defBody s_is_finite) (defScope s_is_finite) .none kV15 dc15 pm15 an15 cd15 ct15), sl15⟩) (c15 : PySem.W.codeIn K cd15 "is_finite" = true) (k15 : PySem.W.keepIn K (.ref f15) = true)
    {f16 : Addr} {od16 an16 : Option Addr} {sl16 : Array (Option Value)} {oc16 kV16 dc16 pm16 cd16 ct16 : Value} (a16 : PySem.W.nsIn K mainGlobals "told_heights" = some (some (.ref f16))) (l16 : K.lookup f16 = some ⟨oc16, od16, .func (PySem.W.fnOf "told_heights" "told_heights" (defArgs s_told_heights) (defBody s_told_heights) (defScope s_told_heights) .none kV16 dc16 pm16 an16 cd16 ct16), sl16⟩) (c16 : PySem.W.codeIn K cd16 "told_heights" = true) (k16 : PySem.W.keepIn K (.ref f16) = true)
    {f17 : Addr} {od17 an17 : Option Addr} {sl17 : Array (Option Value)} {oc17 kV17 dc17 pm17 cd17 ct17 : Value} (a17 : PySem.W.nsIn K mainGlobals "told_way" = some (some (.ref f17))) (l17 : K.lookup f17 = some ⟨oc17, od17, .func (PySem.W.fnOf "told_way" "told_way" (defArgs s_told_way) (defBody s_told_way) (defScope s_told_way) .none kV17 dc17 pm17 an17 cd17 ct17), sl17⟩) (c17 : PySem.W.codeIn K cd17 "told_way" = true) (k17 : PySem.W.keepIn K (.ref f17) = true)
    {f18 : Addr} {od18 an18 : Option Addr} {sl18 : Array (Option Value)} {oc18 kV18 dc18 pm18 cd18 ct18 : Value} (a18 : PySem.W.nsIn K mainGlobals "are_heights" = some (some (.ref f18))) (l18 : K.lookup f18 = some ⟨oc18, od18, .func (PySem.W.fnOf "are_heights" "are_heights" (defArgs s_are_heights) (defBody s_are_heights) (defScope s_are_heights) .none kV18 dc18 pm18 an18 cd18 ct18), sl18⟩) (c18 : PySem.W.codeIn K cd18 "are_heights" = true) (k18 : PySem.W.keepIn K (.ref f18) = true)
    {f19 : Addr} {od19 an19 : Option Addr} {sl19 : Array (Option Value)} {oc19 kV19 dc19 pm19 cd19 ct19 : Value} (a19 : PySem.W.nsIn K mainGlobals "is_way" = some (some (.ref f19))) (l19 : K.lookup f19 = some ⟨oc19, od19, .func (PySem.W.fnOf "is_way" "is_way" (defArgs s_is_way) (defBody s_is_way) (defScope s_is_way) .none kV19 dc19 pm19 an19 cd19 ct19), sl19⟩) (c19 : PySem.W.codeIn K cd19 "is_way" = true) (k19 : PySem.W.keepIn K (.ref f19) = true)
    {f20 : Addr} {od20 an20 : Option Addr} {sl20 : Array (Option Value)} {oc20 kV20 dc20 pm20 cd20 ct20 : Value} (a20 : PySem.W.nsIn K mainGlobals "finite_evidence" = some (some (.ref f20))) (l20 : K.lookup f20 = some ⟨oc20, od20, .func (PySem.W.fnOf "finite_evidence" "finite_evidence" (defArgs s_finite_evidence) (defBody s_finite_evidence) (defScope s_finite_evidence) .none kV20 dc20 pm20 an20 cd20 ct20), sl20⟩) (c20 : PySem.W.codeIn K cd20 "finite_evidence" = true) (k20 : PySem.W.keepIn K (.ref f20) = true)
    {f21 : Addr} {od21 an21 : Option Addr} {sl21 : Array (Option Value)} {oc21 kV21 dc21 pm21 cd21 ct21 : Value} (a21 : PySem.W.nsIn K mainGlobals "is_finite_evidence" = some (some (.ref f21))) (l21 : K.lookup f21 = some ⟨oc21, od21, .func (PySem.W.fnOf "is_finite_evidence" "is_finite_evidence" (defArgs s_is_finite_evidence) (defBody s_is_finite_evidence) (defScope s_is_finite_evidence) .none kV21 dc21 pm21 an21 cd21 ct21), sl21⟩) (c21 : PySem.W.codeIn K cd21 "is_finite_evidence" = true) (k21 : PySem.W.keepIn K (.ref f21) = true)
    {f22 : Addr} {od22 an22 : Option Addr} {sl22 : Array (Option Value)} {oc22 kV22 dc22 pm22 cd22 ct22 : Value} (a22 : PySem.W.nsIn K mainGlobals "_law_stream" = some (some (.ref f22))) (l22 : K.lookup f22 = some ⟨oc22, od22, .func (PySem.W.fnOf "_law_stream" "_law_stream" (defArgs s_law_stream) (defBody s_law_stream) (defScope s_law_stream) .none kV22 dc22 pm22 an22 cd22 ct22), sl22⟩) (c22 : PySem.W.codeIn K cd22 "_law_stream" = true) (k22 : PySem.W.keepIn K (.ref f22) = true)
    {f23 : Addr} {od23 an23 : Option Addr} {sl23 : Array (Option Value)} {oc23 kV23 dc23 pm23 cd23 ct23 : Value} (a23 : PySem.W.nsIn K mainGlobals "_law_next" = some (some (.ref f23))) (l23 : K.lookup f23 = some ⟨oc23, od23, .func (PySem.W.fnOf "_law_next" "_law_next" (defArgs s_law_next) (defBody s_law_next) (defScope s_law_next) .none kV23 dc23 pm23 an23 cd23 ct23), sl23⟩) (c23 : PySem.W.codeIn K cd23 "_law_next" = true) (k23 : PySem.W.keepIn K (.ref f23) = true)
    {f24 : Addr} {od24 an24 : Option Addr} {sl24 : Array (Option Value)} {oc24 kV24 dc24 pm24 cd24 ct24 : Value} (a24 : PySem.W.nsIn K mainGlobals "_law_pick" = some (some (.ref f24))) (l24 : K.lookup f24 = some ⟨oc24, od24, .func (PySem.W.fnOf "_law_pick" "_law_pick" (defArgs s_law_pick) (defBody s_law_pick) (defScope s_law_pick) .none kV24 dc24 pm24 an24 cd24 ct24), sl24⟩) (c24 : PySem.W.codeIn K cd24 "_law_pick" = true) (k24 : PySem.W.keepIn K (.ref f24) = true)
    {f25 : Addr} {od25 an25 : Option Addr} {sl25 : Array (Option Value)} {oc25 kV25 dc25 pm25 cd25 ct25 : Value} (a25 : PySem.W.nsIn K mainGlobals "_law_order" = some (some (.ref f25))) (l25 : K.lookup f25 = some ⟨oc25, od25, .func (PySem.W.fnOf "_law_order" "_law_order" (defArgs s_law_order) (defBody s_law_order) (defScope s_law_order) .none kV25 dc25 pm25 an25 cd25 ct25), sl25⟩) (c25 : PySem.W.codeIn K cd25 "_law_order" = true) (k25 : PySem.W.keepIn K (.ref f25) = true)
    {f26 : Addr} {od26 an26 : Option Addr} {sl26 : Array (Option Value)} {oc26 kV26 dc26 pm26 cd26 ct26 : Value} (a26 : PySem.W.nsIn K mainGlobals "_law_is_integer" = some (some (.ref f26))) (l26 : K.lookup f26 = some ⟨oc26, od26, .func (PySem.W.fnOf "_law_is_integer" "_law_is_integer" (defArgs s_law_is_integer) (defBody s_law_is_integer) (defScope s_law_is_integer) .none kV26 dc26 pm26 an26 cd26 ct26), sl26⟩) (c26 : PySem.W.codeIn K cd26 "_law_is_integer" = true) (k26 : PySem.W.keepIn K (.ref f26) = true)
    {f27 : Addr} {od27 an27 : Option Addr} {sl27 : Array (Option Value)} {oc27 kV27 dc27 pm27 cd27 ct27 : Value} (a27 : PySem.W.nsIn K mainGlobals "_law_same" = some (some (.ref f27))) (l27 : K.lookup f27 = some ⟨oc27, od27, .func (PySem.W.fnOf "_law_same" "_law_same" (defArgs s_law_same) (defBody s_law_same) (defScope s_law_same) .none kV27 dc27 pm27 an27 cd27 ct27), sl27⟩) (c27 : PySem.W.codeIn K cd27 "_law_same" = true) (k27 : PySem.W.keepIn K (.ref f27) = true)
    {f28 : Addr} {od28 an28 : Option Addr} {sl28 : Array (Option Value)} {oc28 kV28 dc28 pm28 cd28 ct28 : Value} (a28 : PySem.W.nsIn K mainGlobals "_law_word" = some (some (.ref f28))) (l28 : K.lookup f28 = some ⟨oc28, od28, .func (PySem.W.fnOf "_law_word" "_law_word" (defArgs s_law_word) (defBody s_law_word) (defScope s_law_word) .none kV28 dc28 pm28 an28 cd28 ct28), sl28⟩) (c28 : PySem.W.codeIn K cd28 "_law_word" = true) (k28 : PySem.W.keepIn K (.ref f28) = true)
    {f29 : Addr} {od29 an29 : Option Addr} {sl29 : Array (Option Value)} {oc29 kV29 dc29 pm29 cd29 ct29 : Value} (a29 : PySem.W.nsIn K mainGlobals "_law_names" = some (some (.ref f29))) (l29 : K.lookup f29 = some ⟨oc29, od29, .func (PySem.W.fnOf "_law_names" "_law_names" (defArgs s_law_names) (defBody s_law_names) (defScope s_law_names) .none kV29 dc29 pm29 an29 cd29 ct29), sl29⟩) (c29 : PySem.W.codeIn K cd29 "_law_names" = true) (k29 : PySem.W.keepIn K (.ref f29) = true)
    {f30 : Addr} {od30 an30 : Option Addr} {sl30 : Array (Option Value)} {oc30 kV30 dc30 pm30 cd30 ct30 : Value} (a30 : PySem.W.nsIn K mainGlobals "_law_any_signature" = some (some (.ref f30))) (l30 : K.lookup f30 = some ⟨oc30, od30, .func (PySem.W.fnOf "_law_any_signature" "_law_any_signature" (defArgs s_law_any_signature) (defBody s_law_any_signature) (defScope s_law_any_signature) .none kV30 dc30 pm30 an30 cd30 ct30), sl30⟩) (c30 : PySem.W.codeIn K cd30 "_law_any_signature" = true) (k30 : PySem.W.keepIn K (.ref f30) = true)
    {f31 : Addr} {od31 an31 : Option Addr} {sl31 : Array (Option Value)} {oc31 kV31 dc31 pm31 cd31 ct31 : Value} (a31 : PySem.W.nsIn K mainGlobals "_law_rich_signature" = some (some (.ref f31))) (l31 : K.lookup f31 = some ⟨oc31, od31, .func (PySem.W.fnOf "_law_rich_signature" "_law_rich_signature" (defArgs s_law_rich_signature) (defBody s_law_rich_signature) (defScope s_law_rich_signature) .none kV31 dc31 pm31 an31 cd31 ct31), sl31⟩) (c31 : PySem.W.codeIn K cd31 "_law_rich_signature" = true) (k31 : PySem.W.keepIn K (.ref f31) = true)
    {f32 : Addr} {od32 an32 : Option Addr} {sl32 : Array (Option Value)} {oc32 kV32 dc32 pm32 cd32 ct32 : Value} (a32 : PySem.W.nsIn K mainGlobals "_law_signature" = some (some (.ref f32))) (l32 : K.lookup f32 = some ⟨oc32, od32, .func (PySem.W.fnOf "_law_signature" "_law_signature" (defArgs s_law_signature) (defBody s_law_signature) (defScope s_law_signature) .none kV32 dc32 pm32 an32 cd32 ct32), sl32⟩) (c32 : PySem.W.codeIn K cd32 "_law_signature" = true) (k32 : PySem.W.keepIn K (.ref f32) = true)
    {f33 : Addr} {od33 an33 : Option Addr} {sl33 : Array (Option Value)} {oc33 kV33 dc33 pm33 cd33 ct33 : Value} (a33 : PySem.W.nsIn K mainGlobals "_law_all_tuples" = some (some (.ref f33))) (l33 : K.lookup f33 = some ⟨oc33, od33, .func (PySem.W.fnOf "_law_all_tuples" "_law_all_tuples" (defArgs s_law_all_tuples) (defBody s_law_all_tuples) (defScope s_law_all_tuples) .none kV33 dc33 pm33 an33 cd33 ct33), sl33⟩) (c33 : PySem.W.codeIn K cd33 "_law_all_tuples" = true) (k33 : PySem.W.keepIn K (.ref f33) = true)
    {f34 : Addr} {od34 an34 : Option Addr} {sl34 : Array (Option Value)} {oc34 kV34 dc34 pm34 cd34 ct34 : Value} (a34 : PySem.W.nsIn K mainGlobals "_law_leads" = some (some (.ref f34))) (l34 : K.lookup f34 = some ⟨oc34, od34, .func (PySem.W.fnOf "_law_leads" "_law_leads" (defArgs s_law_leads) (defBody s_law_leads) (defScope s_law_leads) .none kV34 dc34 pm34 an34 cd34 ct34), sl34⟩) (c34 : PySem.W.codeIn K cd34 "_law_leads" = true) (k34 : PySem.W.keepIn K (.ref f34) = true)
    {f35 : Addr} {od35 an35 : Option Addr} {sl35 : Array (Option Value)} {oc35 kV35 dc35 pm35 cd35 ct35 : Value} (a35 : PySem.W.nsIn K mainGlobals "_law_is_endless" = some (some (.ref f35))) (l35 : K.lookup f35 = some ⟨oc35, od35, .func (PySem.W.fnOf "_law_is_endless" "_law_is_endless" (defArgs s_law_is_endless) (defBody s_law_is_endless) (defScope s_law_is_endless) .none kV35 dc35 pm35 an35 cd35 ct35), sl35⟩) (c35 : PySem.W.codeIn K cd35 "_law_is_endless" = true) (k35 : PySem.W.keepIn K (.ref f35) = true)
    {f36 : Addr} {od36 an36 : Option Addr} {sl36 : Array (Option Value)} {oc36 kV36 dc36 pm36 cd36 ct36 : Value} (a36 : PySem.W.nsIn K mainGlobals "_law_told_heights" = some (some (.ref f36))) (l36 : K.lookup f36 = some ⟨oc36, od36, .func (PySem.W.fnOf "_law_told_heights" "_law_told_heights" (defArgs s_law_told_heights) (defBody s_law_told_heights) (defScope s_law_told_heights) .none kV36 dc36 pm36 an36 cd36 ct36), sl36⟩) (c36 : PySem.W.codeIn K cd36 "_law_told_heights" = true) (k36 : PySem.W.keepIn K (.ref f36) = true)
    {f37 : Addr} {od37 an37 : Option Addr} {sl37 : Array (Option Value)} {oc37 kV37 dc37 pm37 cd37 ct37 : Value} (a37 : PySem.W.nsIn K mainGlobals "_law_come_to" = some (some (.ref f37))) (l37 : K.lookup f37 = some ⟨oc37, od37, .func (PySem.W.fnOf "_law_come_to" "_law_come_to" (defArgs s_law_come_to) (defBody s_law_come_to) (defScope s_law_come_to) .none kV37 dc37 pm37 an37 cd37 ct37), sl37⟩) (c37 : PySem.W.codeIn K cd37 "_law_come_to" = true) (k37 : PySem.W.keepIn K (.ref f37) = true)
    {f38 : Addr} {od38 an38 : Option Addr} {sl38 : Array (Option Value)} {oc38 kV38 dc38 pm38 cd38 ct38 : Value} (a38 : PySem.W.nsIn K mainGlobals "_law_further" = some (some (.ref f38))) (l38 : K.lookup f38 = some ⟨oc38, od38, .func (PySem.W.fnOf "_law_further" "_law_further" (defArgs s_law_further) (defBody s_law_further) (defScope s_law_further) .none kV38 dc38 pm38 an38 cd38 ct38), sl38⟩) (c38 : PySem.W.codeIn K cd38 "_law_further" = true) (k38 : PySem.W.keepIn K (.ref f38) = true)
    {f39 : Addr} {od39 an39 : Option Addr} {sl39 : Array (Option Value)} {oc39 kV39 dc39 pm39 cd39 ct39 : Value} (a39 : PySem.W.nsIn K mainGlobals "_law_is_way" = some (some (.ref f39))) (l39 : K.lookup f39 = some ⟨oc39, od39, .func (PySem.W.fnOf "_law_is_way" "_law_is_way" (defArgs s_law_is_way) (defBody s_law_is_way) (defScope s_law_is_way) .none kV39 dc39 pm39 an39 cd39 ct39), sl39⟩) (c39 : PySem.W.codeIn K cd39 "_law_is_way" = true) (k39 : PySem.W.keepIn K (.ref f39) = true)
    {f40 : Addr} {od40 an40 : Option Addr} {sl40 : Array (Option Value)} {oc40 kV40 dc40 pm40 cd40 ct40 : Value} (a40 : PySem.W.nsIn K mainGlobals "_law_told_way" = some (some (.ref f40))) (l40 : K.lookup f40 = some ⟨oc40, od40, .func (PySem.W.fnOf "_law_told_way" "_law_told_way" (defArgs s_law_told_way) (defBody s_law_told_way) (defScope s_law_told_way) .none kV40 dc40 pm40 an40 cd40 ct40), sl40⟩) (c40 : PySem.W.codeIn K cd40 "_law_told_way" = true) (k40 : PySem.W.keepIn K (.ref f40) = true)
    {f41 : Addr} {od41 an41 : Option Addr} {sl41 : Array (Option Value)} {oc41 kV41 dc41 pm41 cd41 ct41 : Value} (a41 : PySem.W.nsIn K mainGlobals "_law_are_heights" = some (some (.ref f41))) (l41 : K.lookup f41 = some ⟨oc41, od41, .func (PySem.W.fnOf "_law_are_heights" "_law_are_heights" (defArgs s_law_are_heights) (defBody s_law_are_heights) (defScope s_law_are_heights) .none kV41 dc41 pm41 an41 cd41 ct41), sl41⟩) (c41 : PySem.W.codeIn K cd41 "_law_are_heights" = true) (k41 : PySem.W.keepIn K (.ref f41) = true)
    {f42 : Addr} {od42 an42 : Option Addr} {sl42 : Array (Option Value)} {oc42 kV42 dc42 pm42 cd42 ct42 : Value} (a42 : PySem.W.nsIn K mainGlobals "_law_spoilt_way" = some (some (.ref f42))) (l42 : K.lookup f42 = some ⟨oc42, od42, .func (PySem.W.fnOf "_law_spoilt_way" "_law_spoilt_way" (defArgs s_law_spoilt_way) (defBody s_law_spoilt_way) (defScope s_law_spoilt_way) .none kV42 dc42 pm42 an42 cd42 ct42), sl42⟩) (c42 : PySem.W.codeIn K cd42 "_law_spoilt_way" = true) (k42 : PySem.W.keepIn K (.ref f42) = true)
    {f43 : Addr} {od43 an43 : Option Addr} {sl43 : Array (Option Value)} {oc43 kV43 dc43 pm43 cd43 ct43 : Value} (a43 : PySem.W.nsIn K mainGlobals "_law_asked" = some (some (.ref f43))) (l43 : K.lookup f43 = some ⟨oc43, od43, .func (PySem.W.fnOf "_law_asked" "_law_asked" (defArgs s_law_asked) (defBody s_law_asked) (defScope s_law_asked) .none kV43 dc43 pm43 an43 cd43 ct43), sl43⟩) (c43 : PySem.W.codeIn K cd43 "_law_asked" = true) (k43 : PySem.W.keepIn K (.ref f43) = true)
    {f44 : Addr} {od44 an44 : Option Addr} {sl44 : Array (Option Value)} {oc44 kV44 dc44 pm44 cd44 ct44 : Value} (a44 : PySem.W.nsIn K mainGlobals "law" = some (some (.ref f44))) (l44 : K.lookup f44 = some ⟨oc44, od44, .func (PySem.W.fnOf "law" "law" (defArgs s_law) (defBody s_law) (defScope s_law) .none kV44 dc44 pm44 an44 cd44 ct44), sl44⟩) (c44 : PySem.W.codeIn K cd44 "law" = true) (k44 : PySem.W.keepIn K (.ref f44) = true)
    (z_abs : PySem.W.nsIn K mainGlobals "abs" = some none)
    (z_all : PySem.W.nsIn K mainGlobals "all" = some none)
    (z_any : PySem.W.nsIn K mainGlobals "any" = some none)
    (z_bool : PySem.W.nsIn K mainGlobals "bool" = some none)
    (z_enumerate : PySem.W.nsIn K mainGlobals "enumerate" = some none)
    (z_int : PySem.W.nsIn K mainGlobals "int" = some none)
    (z_isinstance : PySem.W.nsIn K mainGlobals "isinstance" = some none)
    (z_len : PySem.W.nsIn K mainGlobals "len" = some none)
    (z_list : PySem.W.nsIn K mainGlobals "list" = some none)
    (z_max : PySem.W.nsIn K mainGlobals "max" = some none)
    (z_range : PySem.W.nsIn K mainGlobals "range" = some none)
    (z_str : PySem.W.nsIn K mainGlobals "str" = some none)
    (z_sum : PySem.W.nsIn K mainGlobals "sum" = some none)
    (z_tuple : PySem.W.nsIn K mainGlobals "tuple" = some none)
    {t_MOST_KINDS : Tok} (y_MOST_KINDS : PySem.W.nsIn K mainGlobals "MOST_KINDS" = some (some (.int 3 t_MOST_KINDS)))
    {t_MOST_CONSTRUCTORS : Tok} (y_MOST_CONSTRUCTORS : PySem.W.nsIn K mainGlobals "MOST_CONSTRUCTORS" = some (some (.int 4 t_MOST_CONSTRUCTORS)))
    {t_MOST_PARTS : Tok} (y_MOST_PARTS : PySem.W.nsIn K mainGlobals "MOST_PARTS" = some (some (.int 2 t_MOST_PARTS)))
    {t_LETTERS : Tok} (y_LETTERS : PySem.W.nsIn K mainGlobals "LETTERS" = some (some (.str "abcdefghijklmnopqrstuvwxyz" t_LETTERS)))
    : ∃ fd : FuncData, (∀ (s : Shared) (v : Value), BindsTo s fd ⟨[v], []⟩ [("script", v)]) ∧ ∀ base : Heap, K.In base → base.Ns mainGlobals mg → FnOk l.prog w K mg base CX0 41 fa fd ["script"] (spOf K pLaw) := by
  have e := hfa.symm.trans (PySem.W.mg_of X G a44)
  cases e
  have F0 := fun_mk (st := s_is_whole) l0 c0 k0
  have F1 := fun_mk (st := s_is_within) l1 c1 k1
  have F2 := fun_mk (st := s_is_name) l2 c2 k2
  have F3 := fun_mk (st := s_are_kinds) l3 c3 k3
  have F4 := fun_mk (st := s_is_constructor) l4 c4 k4
  have F5 := fun_mk (st := s_is_kind_row) l5 c5 k5
  have F6 := fun_mk (st := s_filled_kinds) l6 c6 k6
  have F7 := fun_mk (st := s_is_signature) l7 c7 k7
  have F8 := fun_mk (st := s_check_signature) l8 c8 k8
  have F9 := fun_mk (st := s_check_kind) l9 c9 k9
  have F10 := fun_mk (st := s_is_open) l10 c10 k10
  have F11 := fun_mk (st := s_constructors_of) l11 c11 k11
  have F12 := fun_mk (st := s_parts_in) l12 c12 k12
  have F13 := fun_mk (st := s_kinds_led_to) l13 c13 k13
  have F14 := fun_mk (st := s_is_finite_kind) l14 c14 k14
  have F15 := fun_mk (st := s_is_finite) l15 c15 k15
  have F16 := fun_mk (st := s_told_heights) l16 c16 k16
  have F17 := fun_mk (st := s_told_way) l17 c17 k17
  have F18 := fun_mk (st := s_are_heights) l18 c18 k18
  have F19 := fun_mk (st := s_is_way) l19 c19 k19
  have F20 := fun_mk (st := s_finite_evidence) l20 c20 k20
  have F21 := fun_mk (st := s_is_finite_evidence) l21 c21 k21
  have F22 := fun_mk (st := s_law_stream) l22 c22 k22
  have F23 := fun_mk (st := s_law_next) l23 c23 k23
  have F24 := fun_mk (st := s_law_pick) l24 c24 k24
  have F25 := fun_mk (st := s_law_order) l25 c25 k25
  have F26 := fun_mk (st := s_law_is_integer) l26 c26 k26
  have F27 := fun_mk (st := s_law_same) l27 c27 k27
  have F28 := fun_mk (st := s_law_word) l28 c28 k28
  have F29 := fun_mk (st := s_law_names) l29 c29 k29
  have F30 := fun_mk (st := s_law_any_signature) l30 c30 k30
  have F31 := fun_mk (st := s_law_rich_signature) l31 c31 k31
  have F32 := fun_mk (st := s_law_signature) l32 c32 k32
  have F33 := fun_mk (st := s_law_all_tuples) l33 c33 k33
  have F34 := fun_mk (st := s_law_leads) l34 c34 k34
  have F35 := fun_mk (st := s_law_is_endless) l35 c35 k35
  have F36 := fun_mk (st := s_law_told_heights) l36 c36 k36
  have F37 := fun_mk (st := s_law_come_to) l37 c37 k37
  have F38 := fun_mk (st := s_law_further) l38 c38 k38
  have F39 := fun_mk (st := s_law_is_way) l39 c39 k39
  have F40 := fun_mk (st := s_law_told_way) l40 c40 k40
  have F41 := fun_mk (st := s_law_are_heights) l41 c41 k41
  have F42 := fun_mk (st := s_law_spoilt_way) l42 c42 k42
  have F43 := fun_mk (st := s_law_asked) l43 c43 k43
  have F44 := fun_mk (st := s_law) l44 c44 k44
  refine ⟨PySem.W.fnOf "law" "law" (defArgs s_law) (defBody s_law) (defScope s_law) .none kV44 dc44 pm44 an44 cd44 ct44, fun s v => .of_eq rfl, fun base _ _ => ?_⟩
  have T : Bl l.prog w K mg base := ⟨PySem.W.mg_none_of X G z_abs, PySem.W.mg_none_of X G z_all, PySem.W.mg_none_of X G z_any, PySem.W.mg_none_of X G z_bool, PySem.W.mg_none_of X G z_enumerate, PySem.W.mg_none_of X G z_int, PySem.W.mg_none_of X G z_isinstance, PySem.W.mg_none_of X G z_len, PySem.W.mg_none_of X G z_list, PySem.W.mg_none_of X G z_max, PySem.W.mg_none_of X G z_range, PySem.W.mg_none_of X G z_str, PySem.W.mg_none_of X G z_sum, PySem.W.mg_none_of X G z_tuple, ⟨_, PySem.W.mg_of X G y_MOST_KINDS⟩, ⟨_, PySem.W.mg_of X G y_MOST_CONSTRUCTORS⟩, ⟨_, PySem.W.mg_of X G y_MOST_PARTS⟩, ⟨_, PySem.W.mg_of X G y_LETTERS⟩⟩
  let d_is_whole : Fd l.prog w K mg base "is_whole" 31 ["value", "low"] p_is_whole := ⟨f0, _, x_is_whole T F0, PySem.W.mg_of X G a0, k0, F0.binds (ps := ["value", "low"]) fun _ _ _ _ _ _ us hl => match us, hl with | [_, _], _ => rfl⟩
  let d_is_within : Fd l.prog w K mg base "is_within" 32 ["value", "low", "high"] p_is_within := ⟨f1, _, x_is_within T d_is_whole F1, PySem.W.mg_of X G a1, k1, F1.binds (ps := ["value", "low", "high"]) fun _ _ _ _ _ _ us hl => match us, hl with | [_, _, _], _ => rfl⟩
  let d_is_name : Fd l.prog w K mg base "is_name" 31 ["value"] p_is_name := ⟨f2, _, x_is_name T F2, PySem.W.mg_of X G a2, k2, F2.binds (ps := ["value"]) fun _ _ _ _ _ _ us hl => match us, hl with | [_], _ => rfl⟩
  let d_are_kinds : Fd l.prog w K mg base "are_kinds" 33 ["many", "value", "least", "most"] p_are_kinds := ⟨f3, _, x_are_kinds T d_is_within F3, PySem.W.mg_of X G a3, k3, F3.binds (ps := ["many", "value", "least", "most"]) fun _ _ _ _ _ _ us hl => match us, hl with | [_, _, _, _], _ => rfl⟩
  let d_is_constructor : Fd l.prog w K mg base "is_constructor" 34 ["many", "value"] p_is_constructor := ⟨f4, _, x_is_constructor T d_are_kinds d_is_name F4, PySem.W.mg_of X G a4, k4, F4.binds (ps := ["many", "value"]) fun _ _ _ _ _ _ us hl => match us, hl with | [_, _], _ => rfl⟩
  let d_is_kind_row : Fd l.prog w K mg base "is_kind_row" 35 ["many", "value"] p_is_kind_row := ⟨f5, _, x_is_kind_row T d_is_constructor F5, PySem.W.mg_of X G a5, k5, F5.binds (ps := ["many", "value"]) fun _ _ _ _ _ _ us hl => match us, hl with | [_, _], _ => rfl⟩
  let d_filled_kinds : Fd l.prog w K mg base "filled_kinds" 31 ["signature"] p_filled_kinds := ⟨f6, _, x_filled_kinds T F6, PySem.W.mg_of X G a6, k6, F6.binds (ps := ["signature"]) fun _ _ _ _ _ _ us hl => match us, hl with | [_], _ => rfl⟩
  let d_is_signature : Fd l.prog w K mg base "is_signature" 36 ["value"] p_is_signature := ⟨f7, _, x_is_signature T d_filled_kinds d_is_kind_row F7, PySem.W.mg_of X G a7, k7, F7.binds (ps := ["value"]) fun _ _ _ _ _ _ us hl => match us, hl with | [_], _ => rfl⟩
  let d_check_signature : Fd l.prog w K mg base "check_signature" 37 ["signature"] p_check_signature := ⟨f8, _, x_check_signature T d_is_signature F8, PySem.W.mg_of X G a8, k8, F8.binds (ps := ["signature"]) fun _ _ _ _ _ _ us hl => match us, hl with | [_], _ => rfl⟩
  let d_check_kind : Fd l.prog w K mg base "check_kind" 38 ["signature", "kind"] p_check_kind := ⟨f9, _, x_check_kind T d_check_signature d_is_within F9, PySem.W.mg_of X G a9, k9, F9.binds (ps := ["signature", "kind"]) fun _ _ _ _ _ _ us hl => match us, hl with | [_, _], _ => rfl⟩
  let d_is_open : Fd l.prog w K mg base "is_open" 31 ["signature", "kind"] p_is_open := ⟨f10, _, x_is_open T F10, PySem.W.mg_of X G a10, k10, F10.binds (ps := ["signature", "kind"]) fun _ _ _ _ _ _ us hl => match us, hl with | [_, _], _ => rfl⟩
  let d_constructors_of : Fd l.prog w K mg base "constructors_of" 31 ["signature", "kind"] p_constructors_of := ⟨f11, _, x_constructors_of T F11, PySem.W.mg_of X G a11, k11, F11.binds (ps := ["signature", "kind"]) fun _ _ _ _ _ _ us hl => match us, hl with | [_, _], _ => rfl⟩
  let d_parts_in : Fd l.prog w K mg base "parts_in" 31 ["signature", "kind", "name"] p_parts_in := ⟨f12, _, x_parts_in T F12, PySem.W.mg_of X G a12, k12, F12.binds (ps := ["signature", "kind", "name"]) fun _ _ _ _ _ _ us hl => match us, hl with | [_, _, _], _ => rfl⟩
  let d_kinds_led_to : Fd l.prog w K mg base "kinds_led_to" 31 ["signature", "kind"] p_kinds_led_to := ⟨f13, _, x_kinds_led_to T F13, PySem.W.mg_of X G a13, k13, F13.binds (ps := ["signature", "kind"]) fun _ _ _ _ _ _ us hl => match us, hl with | [_, _], _ => rfl⟩
  let d_is_finite_kind : Fd l.prog w K mg base "is_finite_kind" 32 ["signature", "kind"] p_is_finite_kind := ⟨f14, _, x_is_finite_kind T d_kinds_led_to d_is_open F14, PySem.W.mg_of X G a14, k14, F14.binds (ps := ["signature", "kind"]) fun _ _ _ _ _ _ us hl => match us, hl with | [_, _], _ => rfl⟩
  let d_is_finite : Fd l.prog w K mg base "is_finite" 39 ["signature", "kind"] p_is_finite := ⟨f15, _, x_is_finite T d_check_kind d_is_finite_kind F15, PySem.W.mg_of X G a15, k15, F15.binds (ps := ["signature", "kind"]) fun _ _ _ _ _ _ us hl => match us, hl with | [_, _], _ => rfl⟩
  let d_told_heights : Fd l.prog w K mg base "told_heights" 32 ["signature", "kind"] p_told_heights := ⟨f16, _, x_told_heights T d_kinds_led_to d_constructors_of F16, PySem.W.mg_of X G a16, k16, F16.binds (ps := ["signature", "kind"]) fun _ _ _ _ _ _ us hl => match us, hl with | [_, _], _ => rfl⟩
  let d_told_way : Fd l.prog w K mg base "told_way" 32 ["signature", "kind"] p_told_way := ⟨f17, _, x_told_way T d_constructors_of d_is_open F17, PySem.W.mg_of X G a17, k17, F17.binds (ps := ["signature", "kind"]) fun _ _ _ _ _ _ us hl => match us, hl with | [_, _], _ => rfl⟩
  let d_are_heights : Fd l.prog w K mg base "are_heights" 33 ["signature", "kind", "value"] p_are_heights := ⟨f18, _, x_are_heights T d_is_open d_is_within d_constructors_of F18, PySem.W.mg_of X G a18, k18, F18.binds (ps := ["signature", "kind", "value"]) fun _ _ _ _ _ _ us hl => match us, hl with | [_, _, _], _ => rfl⟩
  let d_is_way : Fd l.prog w K mg base "is_way" 33 ["signature", "kind", "value"] p_is_way := ⟨f19, _, x_is_way T d_parts_in d_is_open d_is_within F19, PySem.W.mg_of X G a19, k19, F19.binds (ps := ["signature", "kind", "value"]) fun _ _ _ _ _ _ us hl => match us, hl with | [_, _, _], _ => rfl⟩
  let d_finite_evidence : Fd l.prog w K mg base "finite_evidence" 39 ["signature", "kind"] p_finite_evidence := ⟨f20, _, x_finite_evidence T d_check_kind d_is_finite_kind d_told_way d_told_heights F20, PySem.W.mg_of X G a20, k20, F20.binds (ps := ["signature", "kind"]) fun _ _ _ _ _ _ us hl => match us, hl with | [_, _], _ => rfl⟩
  let d_is_finite_evidence : Fd l.prog w K mg base "is_finite_evidence" 39 ["signature", "kind", "value"] p_is_finite_evidence := ⟨f21, _, x_is_finite_evidence T d_check_kind d_are_heights d_is_way F21, PySem.W.mg_of X G a21, k21, F21.binds (ps := ["signature", "kind", "value"]) fun _ _ _ _ _ _ us hl => match us, hl with | [_, _, _], _ => rfl⟩
  let d_law_stream : Fd l.prog w K mg base "_law_stream" 31 ["script"] p_law_stream := ⟨f22, _, x_law_stream T F22, PySem.W.mg_of X G a22, k22, F22.binds (ps := ["script"]) fun _ _ _ _ _ _ us hl => match us, hl with | [_], _ => rfl⟩
  let d_law_next : Fd l.prog w K mg base "_law_next" 31 ["stream", "many"] p_law_next := ⟨f23, _, x_law_next T F23, PySem.W.mg_of X G a23, k23, F23.binds (ps := ["stream", "many"]) fun _ _ _ _ _ _ us hl => match us, hl with | [_, _], _ => rfl⟩
  let d_law_pick : Fd l.prog w K mg base "_law_pick" 32 ["stream", "rows"] p_law_pick := ⟨f24, _, x_law_pick T d_law_next F24, PySem.W.mg_of X G a24, k24, F24.binds (ps := ["stream", "rows"]) fun _ _ _ _ _ _ us hl => match us, hl with | [_, _], _ => rfl⟩
  let d_law_order : Fd l.prog w K mg base "_law_order" 32 ["stream", "many"] p_law_order := ⟨f25, _, x_law_order T d_law_next F25, PySem.W.mg_of X G a25, k25, F25.binds (ps := ["stream", "many"]) fun _ _ _ _ _ _ us hl => match us, hl with | [_, _], _ => rfl⟩
  let d_law_is_integer : Fd l.prog w K mg base "_law_is_integer" 31 ["actual"] p_law_is_integer := ⟨f26, _, x_law_is_integer T F26, PySem.W.mg_of X G a26, k26, F26.binds (ps := ["actual"]) fun _ _ _ _ _ _ us hl => match us, hl with | [_], _ => rfl⟩
  let d_law_same : Fd l.prog w K mg base "_law_same" 32 ["actual", "due"] p_law_same := ⟨f27, _, x_law_same T d_law_is_integer F27, PySem.W.mg_of X G a27, k27, F27.binds (ps := ["actual", "due"]) fun _ _ _ _ _ _ us hl => match us, hl with | [_, _], _ => rfl⟩
  let d_law_word : Fd l.prog w K mg base "_law_word" 32 ["stream", "least", "most"] p_law_word := ⟨f28, _, x_law_word T d_law_next F28, PySem.W.mg_of X G a28, k28, F28.binds (ps := ["stream", "least", "most"]) fun _ _ _ _ _ _ us hl => match us, hl with | [_, _, _], _ => rfl⟩
  let d_law_names : Fd l.prog w K mg base "_law_names" 33 ["stream", "many", "least"] p_law_names := ⟨f29, _, x_law_names T d_law_next d_law_word F29, PySem.W.mg_of X G a29, k29, F29.binds (ps := ["stream", "many", "least"]) fun _ _ _ _ _ _ us hl => match us, hl with | [_, _, _], _ => rfl⟩
  let d_law_any_signature : Fd l.prog w K mg base "_law_any_signature" 34 ["stream"] p_law_any_signature := ⟨f30, _, x_law_any_signature T d_law_names d_law_order d_law_next d_law_pick F30, PySem.W.mg_of X G a30, k30, F30.binds (ps := ["stream"]) fun _ _ _ _ _ _ us hl => match us, hl with | [_], _ => rfl⟩
  let d_law_rich_signature : Fd l.prog w K mg base "_law_rich_signature" 34 ["stream"] p_law_rich_signature := ⟨f31, _, x_law_rich_signature T d_law_order d_law_names d_law_next d_law_pick F31, PySem.W.mg_of X G a31, k31, F31.binds (ps := ["stream"]) fun _ _ _ _ _ _ us hl => match us, hl with | [_], _ => rfl⟩
  let d_law_signature : Fd l.prog w K mg base "_law_signature" 35 ["stream"] p_law_signature := ⟨f32, _, x_law_signature T d_law_any_signature d_law_rich_signature d_law_next F32, PySem.W.mg_of X G a32, k32, F32.binds (ps := ["stream"]) fun _ _ _ _ _ _ us hl => match us, hl with | [_], _ => rfl⟩
  let d_law_all_tuples : Fd l.prog w K mg base "_law_all_tuples" 31 ["lists", "cap"] p_law_all_tuples := ⟨f33, _, x_law_all_tuples T F33, PySem.W.mg_of X G a33, k33, F33.binds (ps := ["lists", "cap"]) fun _ _ _ _ _ _ us hl => match us, hl with | [_, _], _ => rfl⟩
  let d_law_leads : Fd l.prog w K mg base "_law_leads" 31 ["signature", "kind"] p_law_leads := ⟨f34, _, x_law_leads T F34, PySem.W.mg_of X G a34, k34, F34.binds (ps := ["signature", "kind"]) fun _ _ _ _ _ _ us hl => match us, hl with | [_, _], _ => rfl⟩
  let d_law_is_endless : Fd l.prog w K mg base "_law_is_endless" 32 ["signature", "kind"] p_law_is_endless := ⟨f35, _, x_law_is_endless T d_law_leads F35, PySem.W.mg_of X G a35, k35, F35.binds (ps := ["signature", "kind"]) fun _ _ _ _ _ _ us hl => match us, hl with | [_, _], _ => rfl⟩
  let d_law_told_heights : Fd l.prog w K mg base "_law_told_heights" 32 ["signature", "kind"] p_law_told_heights := ⟨f36, _, x_law_told_heights T d_law_leads F36, PySem.W.mg_of X G a36, k36, F36.binds (ps := ["signature", "kind"]) fun _ _ _ _ _ _ us hl => match us, hl with | [_, _], _ => rfl⟩
  let d_law_come_to : Fd l.prog w K mg base "_law_come_to" 32 ["signature", "kind", "way"] p_law_come_to := ⟨f37, _, x_law_come_to T d_law_is_integer F37, PySem.W.mg_of X G a37, k37, F37.binds (ps := ["signature", "kind", "way"]) fun _ _ _ _ _ _ us hl => match us, hl with | [_, _, _], _ => rfl⟩
  let d_law_further : Fd l.prog w K mg base "_law_further" 33 ["signature", "kind", "ways"] p_law_further := ⟨f38, _, x_law_further T d_law_come_to F38, PySem.W.mg_of X G a38, k38, F38.binds (ps := ["signature", "kind", "ways"]) fun _ _ _ _ _ _ us hl => match us, hl with | [_, _, _], _ => rfl⟩
  let d_law_is_way : Fd l.prog w K mg base "_law_is_way" 33 ["signature", "kind", "way"] p_law_is_way := ⟨f39, _, x_law_is_way T d_law_come_to F39, PySem.W.mg_of X G a39, k39, F39.binds (ps := ["signature", "kind", "way"]) fun _ _ _ _ _ _ us hl => match us, hl with | [_, _, _], _ => rfl⟩
  let d_law_told_way : Fd l.prog w K mg base "_law_told_way" 34 ["signature", "kind"] p_law_told_way := ⟨f40, _, x_law_told_way T d_law_further d_law_is_way F40, PySem.W.mg_of X G a40, k40, F40.binds (ps := ["signature", "kind"]) fun _ _ _ _ _ _ us hl => match us, hl with | [_, _], _ => rfl⟩
  let d_law_are_heights : Fd l.prog w K mg base "_law_are_heights" 32 ["signature", "kind", "heights"] p_law_are_heights := ⟨f41, _, x_law_are_heights T d_law_is_integer F41, PySem.W.mg_of X G a41, k41, F41.binds (ps := ["signature", "kind", "heights"]) fun _ _ _ _ _ _ us hl => match us, hl with | [_, _, _], _ => rfl⟩
  let d_law_spoilt_way : Fd l.prog w K mg base "_law_spoilt_way" 33 ["stream", "signature", "way"] p_law_spoilt_way := ⟨f42, _, x_law_spoilt_way T d_law_pick d_law_next F42, PySem.W.mg_of X G a42, k42, F42.binds (ps := ["stream", "signature", "way"]) fun _ _ _ _ _ _ us hl => match us, hl with | [_, _, _], _ => rfl⟩
  let d_law_asked : Fd l.prog w K mg base "_law_asked" 40 ["stream", "signature", "kind"] p_law_asked := ⟨f43, _, x_law_asked T d_law_is_endless d_law_all_tuples d_law_same d_law_told_way d_law_told_heights d_is_finite d_finite_evidence d_law_further d_is_finite_evidence d_law_are_heights d_law_spoilt_way d_law_pick d_law_is_way F43, PySem.W.mg_of X G a43, k43, F43.binds (ps := ["stream", "signature", "kind"]) fun _ _ _ _ _ _ us hl => match us, hl with | [_, _, _], _ => rfl⟩
  exact x_law T d_law_stream d_law_order d_law_names d_law_signature d_law_asked F44
end K03
open PySem PySem.W PyProof.Rows
set_option maxRecDepth 100000 in
set_option maxHeartbeats 0 in
theorem PySem.Challenge.cw_closestfit_k03_whole_finite_kinds_holds : PySem.Challenge.rw_closestfit_k03_whole_finite_kinds.Holds := by
  w_on; o_law; k_head; (case hw => w_witness2)
  k_fill
  refine L2.walk_ofK (l := PySem.Challenge.rw_closestfit_k03_whole_finite_kinds) (n := 63) (k := 41) (x := "script") (CX := L2.CX0) (sp := fun K => L3.spOf K L3.pLaw) rfl (by decide) rfl ⟨rfl, by decide, by decide⟩ (fun w h Y => PySem.W.kIn_of Y) ?F (fun _ _ a ns hl _ hS => L3.pLaw_end hl hS) (fun _ _ _ _ h => h)
  case F =>
    intro w mg fa h KX G hmg
    refine' K03.all_mk KX G hmg ?a0 ?l0 ?c0 ?k0 ?a1 ?l1 ?c1 ?k1 ?a2 ?l2 ?c2 ?k2 ?a3 ?l3 ?c3 ?k3 ?a4 ?l4 ?c4 ?k4 ?a5 ?l5 ?c5 ?k5 ?a6 ?l6 ?c6 ?k6 ?a7 ?l7 ?c7 ?k7 ?a8 ?l8 ?c8 ?k8 ?a9 ?l9 ?c9 ?k9 ?a10 ?l10 ?c10 ?k10 ?a11 ?l11 ?c11 ?k11 ?a12 ?l12 ?c12 ?k12 ?a13 ?l13 ?c13 ?k13 ?a14 ?l14 ?c14 ?k14 ?a15 ?l15 ?c15 ?k15 ?a16 ?l16 ?c16 ?k16 ?a17 ?l17 ?c17 ?k17 ?a18 ?l18 ?c18 ?k18 ?a19 ?l19 ?c19 ?k19 ?a20 ?l20 ?c20 ?k20 ?a21 ?l21 ?c21 ?k21 ?a22 ?l22 ?c22 ?k22 ?a23 ?l23 ?c23 ?k23 ?a24 ?l24 ?c24 ?k24 ?a25 ?l25 ?c25 ?k25 ?a26 ?l26 ?c26 ?k26 ?a27 ?l27 ?c27 ?k27 ?a28 ?l28 ?c28 ?k28 ?a29 ?l29 ?c29 ?k29 ?a30 ?l30 ?c30 ?k30 ?a31 ?l31 ?c31 ?k31 ?a32 ?l32 ?c32 ?k32 ?a33 ?l33 ?c33 ?k33 ?a34 ?l34 ?c34 ?k34 ?a35 ?l35 ?c35 ?k35 ?a36 ?l36 ?c36 ?k36 ?a37 ?l37 ?c37 ?k37 ?a38 ?l38 ?c38 ?k38 ?a39 ?l39 ?c39 ?k39 ?a40 ?l40 ?c40 ?k40 ?a41 ?l41 ?c41 ?k41 ?a42 ?l42 ?c42 ?k42 ?a43 ?l43 ?c43 ?k43 ?a44 ?l44 ?c44 ?k44 ?z_abs ?z_all ?z_any ?z_bool ?z_enumerate ?z_int ?z_isinstance ?z_len ?z_list ?z_max ?z_range ?z_str ?z_sum ?z_tuple ?y_MOST_KINDS ?y_MOST_CONSTRUCTORS ?y_MOST_PARTS ?y_LETTERS
    (case a0 => k_is); (case l0 => k_is); (case c0 => k_is); (case k0 => k_is); (case a1 => k_is); (case l1 => k_is); (case c1 => k_is); (case k1 => k_is); (case a2 => k_is); (case l2 => k_is); (case c2 => k_is); (case k2 => k_is); (case a3 => k_is); (case l3 => k_is); (case c3 => k_is); (case k3 => k_is); (case a4 => k_is); (case l4 => k_is); (case c4 => k_is); (case k4 => k_is); (case a5 => k_is); (case l5 => k_is); (case c5 => k_is); (case k5 => k_is); (case a6 => k_is); (case l6 => k_is); (case c6 => k_is); (case k6 => k_is); (case a7 => k_is); (case l7 => k_is); (case c7 => k_is); (case k7 => k_is); (case a8 => k_is); (case l8 => k_is); (case c8 => k_is); (case k8 => k_is); (case a9 => k_is); (case l9 => k_is); (case c9 => k_is); (case k9 => k_is); (case a10 => k_is); (case l10 => k_is); (case c10 => k_is); (case k10 => k_is); (case a11 => k_is); (case l11 => k_is); (case c11 => k_is); (case k11 => k_is); (case a12 => k_is); (case l12 => k_is); (case c12 => k_is); (case k12 => k_is); (case a13 => k_is); (case l13 => k_is); (case c13 => k_is); (case k13 => k_is); (case a14 => k_is); (case l14 => k_is); (case c14 => k_is); (case k14 => k_is); (case a15 => k_is); (case l15 => k_is); (case c15 => k_is); (case k15 => k_is); (case a16 => k_is); (case l16 => k_is); (case c16 => k_is); (case k16 => k_is); (case a17 => k_is); (case l17 => k_is); (case c17 => k_is); (case k17 => k_is); (case a18 => k_is); (case l18 => k_is); (case c18 => k_is); (case k18 => k_is); (case a19 => k_is); (case l19 => k_is); (case c19 => k_is); (case k19 => k_is); (case a20 => k_is); (case l20 => k_is); (case c20 => k_is); (case k20 => k_is); (case a21 => k_is); (case l21 => k_is); (case c21 => k_is); (case k21 => k_is); (case a22 => k_is); (case l22 => k_is); (case c22 => k_is); (case k22 => k_is); (case a23 => k_is); (case l23 => k_is); (case c23 => k_is); (case k23 => k_is); (case a24 => k_is); (case l24 => k_is); (case c24 => k_is); (case k24 => k_is); (case a25 => k_is); (case l25 => k_is); (case c25 => k_is); (case k25 => k_is); (case a26 => k_is); (case l26 => k_is); (case c26 => k_is); (case k26 => k_is); (case a27 => k_is); (case l27 => k_is); (case c27 => k_is); (case k27 => k_is); (case a28 => k_is); (case l28 => k_is); (case c28 => k_is); (case k28 => k_is); (case a29 => k_is); (case l29 => k_is); (case c29 => k_is); (case k29 => k_is); (case a30 => k_is); (case l30 => k_is); (case c30 => k_is); (case k30 => k_is); (case a31 => k_is); (case l31 => k_is); (case c31 => k_is); (case k31 => k_is); (case a32 => k_is); (case l32 => k_is); (case c32 => k_is); (case k32 => k_is); (case a33 => k_is); (case l33 => k_is); (case c33 => k_is); (case k33 => k_is); (case a34 => k_is); (case l34 => k_is); (case c34 => k_is); (case k34 => k_is); (case a35 => k_is); (case l35 => k_is); (case c35 => k_is); (case k35 => k_is); (case a36 => k_is); (case l36 => k_is); (case c36 => k_is); (case k36 => k_is); (case a37 => k_is); (case l37 => k_is); (case c37 => k_is); (case k37 => k_is); (case a38 => k_is); (case l38 => k_is); (case c38 => k_is); (case k38 => k_is); (case a39 => k_is); (case l39 => k_is); (case c39 => k_is); (case k39 => k_is); (case a40 => k_is); (case l40 => k_is); (case c40 => k_is); (case k40 => k_is); (case a41 => k_is); (case l41 => k_is); (case c41 => k_is); (case k41 => k_is); (case a42 => k_is); (case l42 => k_is); (case c42 => k_is); (case k42 => k_is); (case a43 => k_is); (case l43 => k_is); (case c43 => k_is); (case k43 => k_is); (case a44 => k_is); (case l44 => k_is); (case c44 => k_is); (case k44 => k_is); (case z_abs => k_is); (case z_all => k_is); (case z_any => k_is); (case z_bool => k_is); (case z_enumerate => k_is); (case z_int => k_is); (case z_isinstance => k_is); (case z_len => k_is); (case z_list => k_is); (case z_max => k_is); (case z_range => k_is); (case z_str => k_is); (case z_sum => k_is); (case z_tuple => k_is); (case y_MOST_KINDS => k_is); (case y_MOST_CONSTRUCTORS => k_is); (case y_MOST_PARTS => k_is); (case y_LETTERS => k_is)

