import PyProof.Rows.All
import HandS.ForMost
import HandS.IsInst
import HandS.Walk
import HandS.TupAny
import HandS.TupMul
import HandS.Conv
import HandS.Style
import HandS.Flow
import HandS.TryOnly
import KE.DataFind
import KE.DataEq
import KE.DataIsa
import KE.GoesMore
import KE.GoesEnum
import HandS.Zip
import PySem.Challenge.RW_closestfit_k01_whole_signatures
set_option Elab.async false
set_option linter.all false
set_option maxRecDepth 100000
set_option maxHeartbeats 4000000
/-! My own layer over the hand layer: the heap taken out. Values are data (PyData); a slot holds a datum or a list that the def owns; every construct is a predicate transformer over such slots. -/
namespace L3
open PySem PySem.Spec PyProof.Rows L2

abbrev D := PyData
abbrev St := L2.St

/-! ### data on the part of the heap that never changes -/
mutual
inductive Rp (K : PySem.W.Frag) (I : Hp) : V → PyData → Prop
  | non : Rp K I .non .none
  | bl (b : Bool) : Rp K I (.bl b) (.bool b)
  | int (i : Int) : Rp K I (.int i) (.int i)
  | str (x : Str) : Rp K I (.str x) (.str x)
  | lst {a : Addr} {xs : List V} {ds : List PyData} : I a = some (.lst xs) → RpA K I xs ds → Rp K I (.ref a) (.list ds)
  | tup {a : Addr} {xs : List V} {ds : List PyData} : SqT K I a xs → RpA K I xs ds → Rp K I (.ref a) (.tuple ds)
  | dct {a : Addr} : I a = some (.dK []) → Rp K I (.ref a) (.dict [])
  | scr {a : Addr} {xs : List V} {ds : List PyData} : SqL K I a xs → RpA K I xs ds → Rp K I (.ref a) (.dict [(.none, .list ds)])
inductive RpA (K : PySem.W.Frag) (I : Hp) : List V → List PyData → Prop
  | nil : RpA K I [] []
  | cons {v : V} {vs : List V} {d : PyData} {ds : List PyData} : Rp K I v d → RpA K I vs ds → RpA K I (v :: vs) (d :: ds)
end
theorem same_tup {K : PySem.W.Frag} {H H' : Hp} {a : Addr} {xs : List V} (e : Same H H') (h : SqT K H a xs) : SqT K H' a xs := by
  rcases h with (h | ⟨o, h⟩) | h
  · exact .inl (.inl (e _ _ h))
  · exact .inl (.inr ⟨o, e _ _ h⟩)
  · exact .inr h
section
variable {K : PySem.W.Frag} {I I' : Hp}
mutual
theorem Rp.mono (s : Same I I') : ∀ {v : V} {d : PyData}, Rp K I v d → Rp K I' v d
  | _, _, .non => .non
  | _, _, .bl b => .bl b
  | _, _, .int i => .int i
  | _, _, .str x => .str x
  | _, _, .lst e r => .lst (s _ _ e) (RpA.mono s r)
  | _, _, .tup e r => .tup (same_tup s e) (RpA.mono s r)
  | _, _, .dct e => .dct (s _ _ e)
  | _, _, .scr e r => .scr (s.seq e) (RpA.mono s r)
theorem RpA.mono (s : Same I I') : ∀ {vs : List V} {ds : List PyData}, RpA K I vs ds → RpA K I' vs ds
  | _, _, .nil => .nil
  | _, _, .cons h t => .cons (Rp.mono s h) (RpA.mono s t)
end
theorem RpA.length : ∀ {vs : List V} {ds : List PyData}, RpA K I vs ds → vs.length = ds.length
  | _, _, .nil => rfl
  | _, _, .cons _ t => by simp [RpA.length t]
theorem RpA.append : ∀ {vs ws : List V} {ds es : List PyData}, RpA K I vs ds → RpA K I ws es → RpA K I (vs ++ ws) (ds ++ es)
  | _, _, _, _, .nil, h => h
  | _, _, _, _, .cons r t, h => .cons r (RpA.append t h)
theorem RpA.get : ∀ {vs : List V} {ds : List PyData} {i : Nat} {d : PyData}, RpA K I vs ds → ds[i]? = some d → ∃ v, vs[i]? = some v ∧ Rp K I v d
  | _, _, _, _, .nil, e => by simp at e
  | _, _, 0, _, .cons r _, e => by simp at e; subst e; exact ⟨_, rfl, r⟩
  | _, _, i + 1, _, .cons _ t, e => by
    obtain ⟨v, h1, h2⟩ := RpA.get (i := i) t (by simpa using e)
    exact ⟨v, by simpa using h1, h2⟩
theorem RpA.get' : ∀ {vs : List V} {ds : List PyData} {i : Nat} {v : V}, RpA K I vs ds → vs[i]? = some v → ∃ d, ds[i]? = some d ∧ Rp K I v d
  | _, _, _, _, .nil, e => by simp at e
  | _, _, 0, _, .cons r _, e => by simp at e; subst e; exact ⟨_, rfl, r⟩
  | _, _, i + 1, _, .cons _ t, e => by
    obtain ⟨v, h1, h2⟩ := RpA.get' (i := i) t (by simpa using e)
    exact ⟨v, by simpa using h1, h2⟩
theorem RpA.drop : ∀ {vs : List V} {ds : List PyData} (n : Nat), RpA K I vs ds → RpA K I (vs.drop n) (ds.drop n)
  | _, _, 0, r => r
  | _, _, _ + 1, .nil => .nil
  | _, _, n + 1, .cons _ t => RpA.drop n t
theorem RpA.take : ∀ {vs : List V} {ds : List PyData} (n : Nat), RpA K I vs ds → RpA K I (vs.take n) (ds.take n)
  | _, _, 0, _ => .nil
  | _, _, _ + 1, .nil => .nil
  | _, _, n + 1, .cons r t => .cons r (RpA.take n t)
theorem RpA.set : ∀ {vs : List V} {ds : List PyData} {v : V} {d : PyData} (i : Nat), Rp K I v d → RpA K I vs ds → RpA K I (vs.set i v) (ds.set i d)
  | _, _, _, _, _, _, .nil => .nil
  | _, _, _, _, 0, q, .cons _ t => .cons q t
  | _, _, _, _, i + 1, q, .cons r t => .cons r (RpA.set i q t)
theorem RpA.dropLast : ∀ {vs : List V} {ds : List PyData}, RpA K I vs ds → RpA K I vs.dropLast ds.dropLast := fun {vs ds} h => by
  rw [List.dropLast_eq_take, List.dropLast_eq_take, h.length]
  exact h.take _
theorem RpA.eraseIdx : ∀ {vs : List V} {ds : List PyData} (i : Nat), RpA K I vs ds → RpA K I (vs.eraseIdx i) (ds.eraseIdx i)
  | _, _, _, .nil => .nil
  | _, _, 0, .cons _ t => t
  | _, _, i + 1, .cons r t => .cons r (RpA.eraseIdx i t)
theorem RpA.rep {vs : List V} {ds : List PyData} (h : RpA K I vs ds) : ∀ k : Nat, RpA K I (List.replicate k vs).flatten (List.replicate k ds).flatten
  | 0 => .nil
  | k + 1 => by
    rw [List.replicate_succ, List.replicate_succ, List.flatten_cons, List.flatten_cons]
    exact h.append (RpA.rep h k)
theorem RpA.ints : ∀ {ns : List Int} {vs : List V}, RpA K I vs (ns.map PyData.int) → vs = ns.map V.int
  | [], _, h => by cases h; rfl
  | n :: ns, _, h => by
    cases h with
    | cons r t => cases r; rw [RpA.ints t]; rfl
theorem RpA.bls : ∀ {ns : List Bool} {vs : List V}, RpA K I vs (ns.map PyData.bool) → vs = ns.map V.bl
  | [], _, h => by cases h; rfl
  | n :: ns, _, h => by
    cases h with
    | cons r t => cases r; rw [RpA.bls t]; rfl
theorem rpA_ints : ∀ (ns : List Int), RpA K I (ns.map V.int) (ns.map PyData.int)
  | [] => .nil
  | n :: ns => .cons (.int n) (rpA_ints ns)
end

/-! ### reading a datum in the model's words -/
section
variable {X : Cx} {pins : List (Addr × Obj)} {σ : St} {H : Hp} {s : Shared}
mutual
theorem Rp.reads (I : Inv X pins σ H s) : ∀ {v : V} {d : PyData} (u : Value), Rp X.K H v d → d.plain = true → RelV v u → ∃ as, Reads s.heap u d as
  | _, _, _, .non, _, r => by cases r; exact ⟨_, Reads.none⟩
  | _, _, _, .bl b, _, r => by cases r; exact ⟨_, Reads.bool b⟩
  | _, _, _, .int i, _, r => by obtain ⟨t, rfl⟩ := r; exact ⟨_, Reads.int i t⟩
  | _, _, _, .str x, _, r => by obtain ⟨t, rfl⟩ := r; exact ⟨_, Reads.str x t⟩
  | _, _, _, .lst e ra, pl, r => by
    cases r
    obtain ⟨its, rv, ⟨o, n, ho, hc, _, hd⟩, _⟩ := I.list (SqL.of e)
    obtain ⟨as, hr⟩ := RpA.reads I its ra (by simpa [PyData.plain] using pl) rv
    exact ⟨_, Reads.list ho hc hd hr⟩
  | _, _, _, .tup e ra, pl, r => by
    cases r
    obtain ⟨its, rv, ⟨o, ho, hc, n, hd⟩, _⟩ := I.tuple e
    obtain ⟨as, hr⟩ := RpA.reads I its ra (by simpa [PyData.plain] using pl) rv
    exact ⟨_, Reads.tuple ho hc hd hr⟩
  | _, _, _, .dct e, pl, _ => by simp [PyData.plain] at pl
  | _, _, _, .scr e ra, pl, _ => by simp [PyData.plain] at pl
theorem RpA.reads (I : Inv X pins σ H s) : ∀ {vs : List V} {ds : List PyData} (us : List Value), RpA X.K H vs ds → PyData.plainAll ds = true → Vals vs us → ∃ as, ReadsAll s.heap us ds as
  | _, _, _, .nil, _, r => by cases r; exact ⟨_, ReadsAll.nil⟩
  | _, _, _, .cons h t, pl, r => by
    simp only [PyData.plainAll, Bool.and_eq_true] at pl
    cases r with
    | cons r1 r2 =>
      obtain ⟨as, q1⟩ := Rp.reads I _ h pl.1 r1
      obtain ⟨bs, q2⟩ := RpA.reads I _ t pl.2 r2
      exact ⟨_, ReadsAll.cons q1 q2⟩
end
end

/-! ### slots -/
/-- a slot holds a datum, or a list of its own (some k: the k-th list that the caller handed in) -/
inductive S where
  | val (d : D)
  | own (b : Option Nat) (l : List D)
abbrev SS := List (Option S)
/-- an expression's value: a datum, or the own list of a slot -/
inductive EV where
  | d (x : D)
  | o (i : Nat)
/-- what a def hands back: a datum, or a new list that nobody else has -/
inductive RV where
  | d (x : D)
  | n (l : List D)
@[reducible] def RV.toD : RV → D
  | .d x => x
  | .n l => .list l
structure Fx where
  I0 : Hp
  H0 : Hp
  W : List Addr
def Tag (F : Fx) (b : Option Nat) (a : Addr) : Prop := match b with
  | some k => F.W[k]? = some a
  | none => F.H0 a = none
def IsOwn (z : SS) (σ : St) (a : Addr) : Prop := ∃ (i : Nat) (b : Option Nat) (l : List D), z[i]? = some (some (S.own b l)) ∧ σ[i]? = some (some (.ref a))
structure Ok (K : PySem.W.Frag) (F : Fx) (z : SS) (σ : St) (I H : Hp) : Prop where
  len : z.length = σ.length
  val : ∀ (i : Nat) (d : D), z[i]? = some (some (.val d)) → ∃ v, σ[i]? = some (some v) ∧ Rp K I v d
  own : ∀ (i : Nat) (b : Option Nat) (l : List D), z[i]? = some (some (.own b l)) → ∃ (a : Addr) (vs : List V), σ[i]? = some (some (.ref a)) ∧ H a = some (.lst vs) ∧ I a = none ∧ RpA K I vs l ∧ Tag F b a
  dis : ∀ (i j : Nat) (b b' : Option Nat) (l l' : List D) (a : Addr), z[i]? = some (some (.own b l)) → z[j]? = some (some (.own b' l')) → σ[i]? = some (some (.ref a)) → σ[j]? = some (some (.ref a)) → i = j
  sub : Same I H
  base : Same F.I0 I
  new : ∀ a o, I a = some o → F.I0 a = some o ∨ F.H0 a = none
  keep : ∀ a o, F.H0 a = some o → a ∉ F.W → H a = some o
  wf : ∀ a ∈ F.W, I a = none ∧ F.H0 a ≠ none ∧ ∃ vs, H a = some (.lst vs)
structure Step (z : SS) (σ : St) (I H : Hp) (z' : SS) (I' H' : Hp) : Prop where
  imm : Same I I'
  new : ∀ a o, I' a = some o → I a = some o ∨ H a = none ∨ IsOwn z σ a
  keep : ∀ a o, H a = some o → ¬ IsOwn z σ a → H' a = some o
  osub : ∀ (i : Nat) (b : Option Nat) (l : List D), z'[i]? = some (some (.own b l)) → ∃ l' : List D, z[i]? = some (some (.own b l'))
  there : ∀ a, H' a = none → H a = none
section
variable {K : PySem.W.Frag} {F : Fx} {z z' z1 : SS} {σ : St} {I I' I1 H H' H1 : Hp}
theorem Step.refl : Step z σ I H z I H := ⟨fun _ _ h => h, fun _ _ h => .inl h, fun _ _ h _ => h, fun _ _ l h => ⟨l, h⟩, fun _ h => h⟩
theorem Step.own (s : Step z σ I H z' I' H') {a : Addr} (h : IsOwn z' σ a) : IsOwn z σ a := by
  obtain ⟨i, b, l, e1, e2⟩ := h
  obtain ⟨l', e⟩ := s.osub i b l e1
  exact ⟨i, b, l', e, e2⟩
theorem Step.trans (s : Step z σ I H z1 I1 H1) (t : Step z1 σ I1 H1 z' I' H') : Step z σ I H z' I' H' where
  imm := s.imm.trans t.imm
  new := fun a o h => by
    rcases t.new a o h with h | h | h
    · exact s.new a o h
    · by_cases ho : IsOwn z σ a
      · exact .inr (.inr ho)
      · refine .inr (.inl ?_)
        cases q : H a with
        | none => rfl
        | some u => rw [s.keep a u q ho] at h; cases h
    · exact .inr (.inr (s.own h))
  keep := fun a o h hn => t.keep a o (s.keep a o h hn) fun q => hn (s.own q)
  osub := fun i b l h => by
    obtain ⟨l1, h1⟩ := t.osub i b l h
    exact s.osub i b l1 h1
  there := fun a h => s.there a (t.there a h)
theorem Ok.h0 (ok : Ok K F z σ I H) {p : Addr} (hp : H p = none) : F.H0 p = none ∧ p ∉ F.W := by
  have hw : p ∉ F.W := fun hw => by
    obtain ⟨_, _, vs, e⟩ := ok.wf p hw
    rw [hp] at e; cases e
  refine ⟨?_, hw⟩
  cases q : F.H0 p with
  | none => rfl
  | some o => rw [ok.keep p o q hw] at hp; cases hp
theorem Ok.i0 (ok : Ok K F z σ I H) {p : Addr} (hp : H p = none) : I p = none := by
  cases q : I p with
  | none => rfl
  | some o => rw [ok.sub p o q] at hp; cases hp
theorem Ok.nown (ok : Ok K F z σ I H) {p : Addr} (hp : H p = none) : ¬ IsOwn z σ p := fun ⟨i, b, l, e1, e2⟩ => by
  obtain ⟨a, vs, f1, f2, _⟩ := ok.own i b l e1
  rw [e2] at f1; cases f1
  rw [hp] at f2; cases f2
theorem same_upd {H : Hp} {p : Addr} {o : HO} (h : H p = none) : Same H (upd H p o) := fun b x e => by
  rw [upd_ne (ne_of_none e h)]
  exact e
/-- a new thing that never changes -/
theorem Ok.alloc (ok : Ok K F z σ I H) {p : Addr} (o : HO) (hp : H p = none) : Ok K F z σ (upd I p o) (upd H p o) ∧ Step z σ I H z (upd I p o) (upd H p o) := by
  have ip := ok.i0 hp
  have si := same_upd (o := o) ip
  have sh := same_upd (o := o) hp
  refine ⟨⟨ok.len, fun i d h => ?_, fun i b l h => ?_, ok.dis, fun a u h => ?_, ok.base.trans si, fun a u h => ?_, fun a u h hw => sh _ _ (ok.keep a u h hw), fun a hw => ?_⟩, si, fun a u h => ?_, fun a u h _ => sh _ _ h, fun _ _ l h => ⟨l, h⟩, fun a h => sh.free h⟩
  · obtain ⟨v, e, r⟩ := ok.val i d h
    exact ⟨v, e, r.mono si⟩
  · obtain ⟨a, vs, e1, e2, e3, r, t⟩ := ok.own i b l h
    exact ⟨a, vs, e1, sh _ _ e2, by rw [upd_ne (ne_of_none e2 hp)]; exact e3, r.mono si, t⟩
  · by_cases e : a = p
    · subst e; rw [upd_same] at h ⊢; exact h
    · rw [upd_ne e] at h ⊢; exact ok.sub a u h
  · by_cases e : a = p
    · subst e; exact .inr (ok.h0 hp).1
    · rw [upd_ne e] at h; exact ok.new a u h
  · obtain ⟨e1, e0, vs, e2⟩ := ok.wf a hw
    exact ⟨by rw [upd_ne (ne_of_none e2 hp)]; exact e1, e0, vs, sh _ _ e2⟩
  · by_cases e : a = p
    · subst e; exact .inr (.inl hp)
    · rw [upd_ne e] at h; exact .inl h
/-- a new list, not yet anyone's -/
theorem Ok.fresh (ok : Ok K F z σ I H) {p : Addr} (o : HO) (hp : H p = none) : Ok K F z σ I (upd H p o) ∧ Step z σ I H z I (upd H p o) := by
  have sh := same_upd (o := o) hp
  refine ⟨⟨ok.len, ok.val, fun i b l h => ?_, ok.dis, ok.sub.trans sh, ok.base, ok.new, fun a u h hw => sh _ _ (ok.keep a u h hw), fun a hw => ?_⟩, fun _ _ h => h, fun a u h => .inl h, fun a u h _ => sh _ _ h, fun _ _ l h => ⟨l, h⟩, fun a h => sh.free h⟩
  · obtain ⟨a, vs, e1, e2, e3, r, t⟩ := ok.own i b l h
    exact ⟨a, vs, e1, sh _ _ e2, e3, r, t⟩
  · obtain ⟨e1, e0, vs, e2⟩ := ok.wf a hw
    exact ⟨e1, e0, vs, sh _ _ e2⟩
/-- a list that nobody has becomes a datum -/
theorem Ok.freezeAt (ok : Ok K F z σ I H) {p : Addr} {vs : List V} (hp : H p = some (.lst vs)) (ip : I p = none) (h0 : F.H0 p = none) (hn : ¬ IsOwn z σ p) : Ok K F z σ (upd I p (.lst vs)) H := by
  have si := same_upd (o := HO.lst vs) ip
  refine ⟨ok.len, fun i d h => ?_, fun i b l h => ?_, ok.dis, fun a u h => ?_, ok.base.trans si, fun a u h => ?_, ok.keep, fun a hw => ?_⟩
  · obtain ⟨v, e, r⟩ := ok.val i d h
    exact ⟨v, e, r.mono si⟩
  · obtain ⟨a, ws, e1, e2, e3, r, t⟩ := ok.own i b l h
    have ne : a ≠ p := fun e => hn ⟨i, b, l, h, by rw [e1, e]⟩
    exact ⟨a, ws, e1, e2, by rw [upd_ne ne]; exact e3, r.mono si, t⟩
  · by_cases e : a = p
    · subst e; rw [upd_same] at h; rw [hp]; exact h
    · rw [upd_ne e] at h; exact ok.sub a u h
  · by_cases e : a = p
    · subst e; exact .inr h0
    · rw [upd_ne e] at h; exact ok.new a u h
  · obtain ⟨e1, e0, ws, e2⟩ := ok.wf a hw
    have ne : a ≠ p := fun e => e0 (by rw [e]; exact h0)
    exact ⟨by rw [upd_ne ne]; exact e1, e0, ws, e2⟩
end
end L3
namespace L3
open PySem PySem.Spec PyProof.Rows L2

/-! ### judgements -/
def EvOk (K : PySem.W.Frag) (I : Hp) (σ : St) (e : EV) (v : V) : Prop := match e with
  | .d x => Rp K I v x
  | .o i => σ[i]? = some (some v)
theorem EvOk.mono {K : PySem.W.Frag} {I I' : Hp} {σ : St} {e : EV} {v : V} (s : Same I I') (h : EvOk K I σ e v) : EvOk K I' σ e v := by
  cases e with
  | d x => exact Rp.mono s h
  | o i => exact h
abbrev WE := SS → (EV → SS → Prop) → Prop
abbrev WA := SS → (List EV → SS → Prop) → Prop
abbrev WT := SS → (Bool → SS → Prop) → Prop
def Post (K : PySem.W.Frag) (F : Fx) (z : SS) (σ : St) (I H : Hp) (Q : VK) : EV → SS → Prop := fun e z' => ∀ v I' H', Ok K F z' σ I' H' → Step z σ I H z' I' H' → EvOk K I' σ e v → Q v H'
def PostA (K : PySem.W.Frag) (F : Fx) (z : SS) (σ : St) (I H : Hp) (Q : List V → Hp → Prop) : List EV → SS → Prop := fun es z' => ∀ vs I' H', Ok K F z' σ I' H' → Step z σ I H z' I' H' → Paired (EvOk K I' σ) es vs → Q vs H'
def PostT (K : PySem.W.Frag) (F : Fx) (z : SS) (σ : St) (I H : Hp) (Q : Bool → Hp → Prop) : Bool → SS → Prop := fun b z' => ∀ I' H', Ok K F z' σ I' H' → Step z σ I H z' I' H' → Q b H'
def liftE (K : PySem.W.Frag) (F : Fx) (t : WE) : TE := fun σ H Q => ∃ z I, Ok K F z σ I H ∧ t z (Post K F z σ I H Q)
def liftA (K : PySem.W.Frag) (F : Fx) (t : WA) : TA := fun σ H Q => ∃ z I, Ok K F z σ I H ∧ t z (PostA K F z σ I H Q)
def liftT (K : PySem.W.Frag) (F : Fx) (t : WT) : TT := fun σ H Q => ∃ z I, Ok K F z σ I H ∧ t z (PostT K F z σ I H Q)
def Mono {α : Type} (t : SS → (α → SS → Prop) → Prop) : Prop := ∀ z R R', (∀ e z', R e z' → R' e z') → t z R → t z R'
structure XE (X : Cx) (F : Fx) (e : Expr) (t : WE) : Prop where
  mono : Mono t
  run : PE X e (liftE X.K F t)
structure XA (X : Cx) (F : Fx) (es : List Expr) (t : WA) : Prop where
  mono : Mono t
  run : PA X es (liftA X.K F t)
structure XT (X : Cx) (F : Fx) (e : Expr) (t : WT) : Prop where
  mono : Mono t
  run : PT X e (liftT X.K F t)
structure XW (X : Cx) (F : Fx) (e : Expr) (t : WT) : Prop where
  mono : Mono t
  run : PW X e (liftT X.K F t)
theorem pe_imp {X : Cx} {e : Expr} {t t' : TE} (h : PE X e t) (i : ∀ σ H Q, t' σ H Q → t σ H Q) : PE X e t' := ⟨fun pins s σ H Q I q => h.run pins s σ H Q I (i σ H Q q)⟩
theorem pa_imp {X : Cx} {e : List Expr} {t t' : TA} (h : PA X e t) (i : ∀ σ H Q, t' σ H Q → t σ H Q) : PA X e t' := ⟨fun pos pins s σ H Q I q => h.run pos pins s σ H Q I (i σ H Q q)⟩
theorem pt_imp {X : Cx} {e : Expr} {t t' : TT} (h : PT X e t) (i : ∀ σ H Q, t' σ H Q → t σ H Q) : PT X e t' := ⟨fun pins s σ H Q I q => h.run pins s σ H Q I (i σ H Q q)⟩
theorem pw_imp {X : Cx} {e : Expr} {t t' : TT} (h : PW X e t) (i : ∀ σ H Q, t' σ H Q → t σ H Q) : PW X e t' := ⟨fun wh pins s σ H Q I q => h.run wh pins s σ H Q I (i σ H Q q)⟩
theorem Post.step {K : PySem.W.Frag} {F : Fx} {z z1 : SS} {σ : St} {I I1 H H1 : Hp} {Q : VK} {e : EV} {z' : SS} (s : Step z σ I H z1 I1 H1) (h : Post K F z σ I H Q e z') : Post K F z1 σ I1 H1 Q e z' := fun v I' H' ok st ev => h v I' H' ok (s.trans st) ev
theorem PostA.step {K : PySem.W.Frag} {F : Fx} {z z1 : SS} {σ : St} {I I1 H H1 : Hp} {Q : List V → Hp → Prop} {e : List EV} {z' : SS} (s : Step z σ I H z1 I1 H1) (h : PostA K F z σ I H Q e z') : PostA K F z1 σ I1 H1 Q e z' := fun v I' H' ok st ev => h v I' H' ok (s.trans st) ev
theorem PostT.step {K : PySem.W.Frag} {F : Fx} {z z1 : SS} {σ : St} {I I1 H H1 : Hp} {Q : Bool → Hp → Prop} {e : Bool} {z' : SS} (s : Step z σ I H z1 I1 H1) (h : PostT K F z σ I H Q e z') : PostT K F z1 σ I1 H1 Q e z' := fun I' H' ok st => h I' H' ok (s.trans st)
section
variable {X : Cx} {F : Fx} {z : SS} {σ : St} {I H : Hp} {e : Expr}
/-- use an expression's rule in the middle -/
theorem XE.at {t : WE} (h : XE X F e t) {R : EV → SS → Prop} {Q : VK} (ok : Ok X.K F z σ I H) (w : t z R) (k : ∀ ev z' v I' H', R ev z' → Ok X.K F z' σ I' H' → Step z σ I H z' I' H' → EvOk X.K I' σ ev v → Q v H') : liftE X.K F t σ H Q :=
  ⟨z, I, ok, h.mono _ _ _ (fun ev z' r v I' H' o s e => k ev z' v I' H' r o s e) w⟩
theorem XA.at {es : List Expr} {t : WA} (h : XA X F es t) {R : List EV → SS → Prop} {Q : List V → Hp → Prop} (ok : Ok X.K F z σ I H) (w : t z R) (k : ∀ ev z' v I' H', R ev z' → Ok X.K F z' σ I' H' → Step z σ I H z' I' H' → Paired (EvOk X.K I' σ) ev v → Q v H') : liftA X.K F t σ H Q :=
  ⟨z, I, ok, h.mono _ _ _ (fun ev z' r v I' H' o s e => k ev z' v I' H' r o s e) w⟩
theorem XT.at {t : WT} (h : XT X F e t) {R : Bool → SS → Prop} {Q : Bool → Hp → Prop} (ok : Ok X.K F z σ I H) (w : t z R) (k : ∀ b z' I' H', R b z' → Ok X.K F z' σ I' H' → Step z σ I H z' I' H' → Q b H') : liftT X.K F t σ H Q :=
  ⟨z, I, ok, h.mono _ _ _ (fun b z' r I' H' o s => k b z' I' H' r o s) w⟩
theorem XW.at {t : WT} (h : XW X F e t) {R : Bool → SS → Prop} {Q : Bool → Hp → Prop} (ok : Ok X.K F z σ I H) (w : t z R) (k : ∀ b z' I' H', R b z' → Ok X.K F z' σ I' H' → Step z σ I H z' I' H' → Q b H') : liftT X.K F t σ H Q :=
  ⟨z, I, ok, h.mono _ _ _ (fun b z' r I' H' o s => k b z' I' H' r o s) w⟩
end

/-! ### what an expression's value reads as -/
def lstOf (z : SS) : EV → Option (List D)
  | .d (.list l) => some l
  | .d _ => none
  | .o i => match z[i]? with
    | some (some (.own _ l)) => some l
    | _ => none
def evD (z : SS) : EV → Option D
  | .d x => some x
  | .o i => match z[i]? with
    | some (some (.own _ l)) => some (.list l)
    | _ => none
/-- a list's or tuple's items -/
def seqOf (z : SS) (e : EV) : Option (List D) := match evD z e with
  | some (.list l) => some l
  | some (.tuple l) => some l
  | _ => none
section
variable {K : PySem.W.Frag} {F : Fx} {z : SS} {σ : St} {I H : Hp}
theorem Ok.ev (ok : Ok K F z σ I H) {e : EV} {v : V} {x : D} (h : EvOk K I σ e v) (hx : evD z e = some x) : Rp K H v x := by
  cases e with
  | d y => cases hx; exact Rp.mono ok.sub h
  | o i =>
    unfold evD at hx
    simp only at hx
    split at hx
    · rename_i b l e1
      cases hx
      obtain ⟨a, vs, e2, e3, e4, r, t⟩ := ok.own i b l e1
      rw [show σ[i]? = some (some v) from h] at e2
      cases e2
      exact .lst e3 (r.mono ok.sub)
    · cases hx
theorem Ok.lst (ok : Ok K F z σ I H) {e : EV} {v : V} {l : List D} (h : EvOk K I σ e v) (hx : lstOf z e = some l) : ∃ a vs, v = .ref a ∧ H a = some (.lst vs) ∧ RpA K I vs l := by
  cases e with
  | d y =>
    cases y <;> simp [lstOf] at hx
    subst hx
    cases h with
    | lst e r => exact ⟨_, _, rfl, ok.sub _ _ e, r⟩
  | o i =>
    unfold lstOf at hx
    simp only at hx
    split at hx
    · rename_i b l e1
      cases hx
      obtain ⟨a, vs, e2, e3, e4, r, t⟩ := ok.own i b _ e1
      rw [show σ[i]? = some (some v) from h] at e2
      cases e2
      exact ⟨_, _, rfl, e3, r⟩
    · cases hx
theorem Ok.seq (ok : Ok K F z σ I H) {e : EV} {v : V} {l : List D} (h : EvOk K I σ e v) (hx : seqOf z e = some l) : ∃ a vs, v = .ref a ∧ (SqL K H a vs ∨ SqT K H a vs) ∧ RpA K I vs l := by
  cases e with
  | d y =>
    cases y <;> simp [seqOf, evD] at hx
    · subst hx
      cases h with
      | lst e r => exact ⟨_, _, rfl, .inl (SqL.of (ok.sub _ _ e)), r⟩
    · subst hx
      cases h with
      | tup e r => exact ⟨_, _, rfl, .inr (same_tup ok.sub e), r⟩
  | o i =>
    have hx' : lstOf z (.o i) = some l := by
      unfold seqOf evD at hx
      unfold lstOf
      simp only at hx ⊢
      split at hx
      · rename_i h2
        split at h2
        · cases h2; cases hx; rfl
        · cases h2
      · rename_i h2
        split at h2
        · cases h2
        · cases h2
      · cases hx
    obtain ⟨a, vs, e1, e2, r⟩ := ok.lst h hx'
    exact ⟨a, vs, e1, .inl (SqL.of e2), r⟩
end

/-! ### names, constants -/
def wVar (i : Nat) : WE := fun z R => match z[i]? with
  | some (some (.val d)) => R (.d d) z
  | some (some (.own _ _)) => R (.o i) z
  | _ => False
def wC (d : D) : WE := fun z R => R (.d d) z
section
variable {X : Cx} {F : Fx} {pos : Pos}
theorem xe_v (i : Nat) {x : Str} (hN : X.N[i]? = some x := by rfl) (hv : Vis X.env.scope x := by first | exact Or.inl rfl | exact Or.inr (Or.inl rfl) | exact Or.inr (Or.inr rfl)) (hd : (x == ("__debug__" : Str)) = false := by decide)
    (hcd : (x == ("__classdict__" : Str)) = false := by decide) : XE X F (.Name x pos) (wVar i) where
  mono := fun z R R' h w => by
    unfold wVar at w ⊢
    split at w
    · exact h _ _ w
    · exact h _ _ w
    · exact w
  run := pe_imp (pv i hN hv hd hcd) fun σ H Q ⟨z, I, ok, w⟩ => by
    unfold wVar at w
    split at w
    · rename_i d e
      obtain ⟨v, e2, r⟩ := ok.val i d e
      exact ⟨v, e2, w v I H ok .refl r⟩
    · rename_i b l e
      obtain ⟨a, vs, e2, _⟩ := ok.own i b l e
      exact ⟨.ref a, e2, w _ I H ok .refl e2⟩
    · exact w.elim
theorem xe_c {e : Expr} {v : V} {d : D} (h : PE X e (tC v)) (r : ∀ I, Rp X.K I v d) : XE X F e (wC d) where
  mono := fun z R R' h w => h _ _ w
  run := pe_imp h fun σ H Q ⟨z, I, ok, w⟩ => w v I H ok .refl (r I)
theorem xe_int {i : Int} {j} : XE X F (.Constant (.int i) j pos) (wC (.int i)) := xe_c pe_int fun _ => .int i
theorem xe_bl {b : Bool} {j} : XE X F (.Constant (.bool b) j pos) (wC (.bool b)) := xe_c pe_bl fun _ => .bl b
theorem xe_non {j} : XE X F (.Constant .none j pos) (wC .none) := xe_c pe_non fun _ => .non
theorem xe_str {x : Str} {j} : XE X F (.Constant (.str x) j pos) (wC (.str x)) := xe_c pe_str fun _ => .str x
/-- a module's constant -/
theorem xe_glob {x : Str} {v : V} {u : Value} {d : D} (hg : Gl X x) (hm : X.mg x = some u) (r : RelV v u) (q : ∀ I, Rp X.K I v d) (hd : (x == ("__debug__" : Str)) = false := by decide) : XE X F (.Name x pos) (wC d) := xe_c (pe_glob hg hm r hd) q
end

/-! ### operations by values -/
abbrev F2 := SS → EV → EV → (RV → Prop) → Prop
def PostD (K : PySem.W.Frag) (F : Fx) (z : SS) (σ : St) (I H : Hp) (Q : VK) : D → Prop := fun d => ∀ v I' H', Ok K F z σ I' H' → Step z σ I H z I' H' → Rp K I' v d → Q v H'
/-- a new list at a, not yet anyone's, as seen from H -/
structure New (K : PySem.W.Frag) (F : Fx) (z : SS) (σ : St) (I H H' : Hp) (a : Addr) (l : List D) : Prop where
  was : H a = none
  at_ : ∃ vs, H' a = some (.lst vs) ∧ RpA K I vs l
  imm : I a = none
  h0 : F.H0 a = none
  nown : ¬ IsOwn z σ a
def PostR (K : PySem.W.Frag) (F : Fx) (z : SS) (σ : St) (I H : Hp) (Q : VK) : RV → Prop
  | .d d => PostD K F z σ I H Q d
  | .n l => ∀ a I' H', Ok K F z σ I' H' → Step z σ I H z I' H' → New K F z σ I' H H' a l → Q (.ref a) H'
theorem New.frz {K : PySem.W.Frag} {F : Fx} {z0 z : SS} {σ : St} {I0 I H H' : Hp} {a : Addr} {l : List D} (n : New K F z σ I H H' a l) (ok : Ok K F z σ I H') (st : Step z0 σ I0 H z I H') :
    ∃ I', Ok K F z σ I' H' ∧ Step z0 σ I0 H z I' H' ∧ Rp K I' (.ref a) (.list l) := by
  obtain ⟨vs, e, r⟩ := n.at_
  have si := same_upd (o := HO.lst vs) n.imm
  refine ⟨upd I a (.lst vs), ok.freezeAt e n.imm n.h0 n.nown, ⟨st.imm.trans si, fun b o h => ?_, st.keep, st.osub, st.there⟩, .lst upd_same (r.mono si)⟩
  by_cases eb : b = a
  · subst eb; exact .inr (.inl n.was)
  · rw [upd_ne eb] at h; exact st.new b o h
structure VR2 (X : Cx) (F : Fx) (r : R2) (f : F2) : Prop where
  mono : ∀ z x y k k', (∀ d, k d → k' d) → f z x y k → f z x y k'
  run : ∀ {σ : St} {z : SS} {I H : Hp} {x y : EV} {vx vy : V} {Q : VK}, Ok X.K F z σ I H → EvOk X.K I σ x vx → EvOk X.K I σ y vy → f z x y (PostR X.K F z σ I H Q) → r vx vy H Q
/-- expressions that may make a new list of nobody's -/
abbrev WR := SS → (RV → SS → Prop) → Prop
def PostX (K : PySem.W.Frag) (F : Fx) (z : SS) (σ : St) (I H : Hp) (Q : VK) : RV → SS → Prop
  | .d d, z' => ∀ v I' H', Ok K F z' σ I' H' → Step z σ I H z' I' H' → Rp K I' v d → Q v H'
  | .n l, z' => ∀ a I' H', Ok K F z' σ I' H' → Step z σ I H z' I' H' → New K F z' σ I' H H' a l → Q (.ref a) H'
def liftR (K : PySem.W.Frag) (F : Fx) (t : WR) : TE := fun σ H Q => ∃ z I, Ok K F z σ I H ∧ t z (PostX K F z σ I H Q)
structure XR (X : Cx) (F : Fx) (e : Expr) (t : WR) : Prop where
  mono : Mono t
  run : PE X e (liftR X.K F t)
def wFrz (t : WR) : WE := fun z R => t z fun r z' => R (.d r.toD) z'
theorem PostX.frz {K : PySem.W.Frag} {F : Fx} {z z' : SS} {σ : St} {I H : Hp} {Q : VK} {r : RV} (q : Post K F z σ I H Q (.d r.toD) z') : PostX K F z σ I H Q r z' := by
  cases r with
  | d x => exact fun v I' H' o s r => q v I' H' o s r
  | n l =>
    intro a I' H' o s n
    have ⟨I2, o2, s2, r2⟩ := n.frz o s
    exact q _ I2 H' o2 s2 r2
theorem XR.xe {X : Cx} {F : Fx} {e : Expr} {t : WR} (h : XR X F e t) : XE X F e (wFrz t) where
  mono := fun z R R' k w => h.mono _ _ _ (fun r z' q => k _ _ q) w
  run := pe_imp h.run fun σ H Q ⟨z, I, ok, w⟩ => ⟨z, I, ok, h.mono _ _ _ (fun r z' q => PostX.frz q) w⟩
theorem New.back {K : PySem.W.Frag} {F : Fx} {z0 z1 z : SS} {σ : St} {I0 I1 I H0 H1 H' : Hp} {a : Addr} {l : List D} (n : New K F z σ I H1 H' a l) (s : Step z0 σ I0 H0 z1 I1 H1) : New K F z σ I H0 H' a l := ⟨s.there a n.was, n.at_, n.imm, n.h0, n.nown⟩
theorem PostR.of {K : PySem.W.Frag} {F : Fx} {z z1 : SS} {σ : St} {I I1 H H1 : Hp} {Q : VK} (s : Step z σ I H z1 I1 H1) {r : RV} (k : PostX K F z σ I H Q r z1) : PostR K F z1 σ I1 H1 Q r := by
  cases r with
  | d x => exact fun v I' H' o t r => k v I' H' o (s.trans t) r
  | n l => exact fun a I' H' o t n => k a I' H' o (s.trans t) (n.back s)
def wBinR (f : F2) (ta tb : WE) : WR := fun z R => ta z fun x z1 => tb z1 fun y z2 => f z2 x y fun d => R d z2
def wBin (f : F2) (ta tb : WE) : WE := fun z R => ta z fun x z1 => tb z1 fun y z2 => f z2 x y fun d => R (.d d.toD) z2
section
variable {X : Cx} {F : Fx} {pos : Pos} {a b : Expr} {ta tb : WE}
theorem wBinR_mono {f : F2} {r : R2} (hf : VR2 X F r f) (ha : Mono ta) (hb : Mono tb) : Mono (wBinR f ta tb) := fun z R R' h w =>
  ha _ _ _ (fun x z1 w => hb _ _ _ (fun y z2 w => hf.mono _ _ _ _ _ (fun d q => h _ _ q) w) w) w
theorem wBin_mono {f : F2} {r : R2} (hf : VR2 X F r f) (ha : Mono ta) (hb : Mono tb) : Mono (wBin f ta tb) := fun z R R' h w =>
  ha _ _ _ (fun x z1 w => hb _ _ _ (fun y z2 w => hf.mono _ _ _ _ _ (fun d q => h _ _ q) w) w) w
theorem bin_runR {f : F2} {r : R2} (hf : VR2 X F r f) (ha : XE X F a ta) (hb : XE X F b tb) : ∀ σ H Q, liftR X.K F (wBinR f ta tb) σ H Q → tOp r (liftE X.K F ta) (liftE X.K F tb) σ H Q := fun σ H Q ⟨z, I, ok, w⟩ =>
  ha.at ok w fun x z1 v1 I1 H1 w ok1 s1 e1 => hb.at ok1 w fun y z2 v2 I2 H2 w ok2 s2 e2 =>
    hf.run ok2 (e1.mono s2.imm) e2 (hf.mono _ _ _ _ _ (fun d q => PostR.of (s1.trans s2) q) w)
theorem xr_op {op : Operator} {f : F2} {r : R2} (ho : OpR X (binaryOp op) r) (hf : VR2 X F r f) (ha : XE X F a ta) (hb : XE X F b tb) : XR X F (.BinOp a op b pos) (wBinR f ta tb) :=
  ⟨wBinR_mono hf ha.mono hb.mono, pe_imp (pe_op ho ha.run hb.run) (bin_runR hf ha hb)⟩
theorem xe_op {op : Operator} {f : F2} {r : R2} (ho : OpR X (binaryOp op) r) (hf : VR2 X F r f) (ha : XE X F a ta) (hb : XE X F b tb) : XE X F (.BinOp a op b pos) (wBin f ta tb) := (xr_op ho hf ha hb).xe
theorem xr_cmp {op : CmpOp} {f : F2} {r : R2} (ho : OpR X (compareOp op) r) (hf : VR2 X F r f) (ha : XE X F a ta) (hb : XE X F b tb) (hm : behindInMarks op b = false) : XR X F (.Compare a [op] [b] pos) (wBinR f ta tb) :=
  ⟨wBinR_mono hf ha.mono hb.mono, pe_imp (pe_cmpR ho ha.run hb.run hm) (bin_runR hf ha hb)⟩
theorem xe_cmp {op : CmpOp} {f : F2} {r : R2} (ho : OpR X (compareOp op) r) (hf : VR2 X F r f) (ha : XE X F a ta) (hb : XE X F b tb) (hm : behindInMarks op b = false) : XE X F (.Compare a [op] [b] pos) (wBin f ta tb) := (xr_cmp ho hf ha hb hm).xe
def wTest (t : WE) : WT := fun z R => t z fun x z1 => ∃ c, x = .d (.bool c) ∧ R c z1
theorem wTest_mono {t : WE} (h : Mono t) : Mono (wTest t) := fun z R R' k w => h _ _ _ (fun x z1 ⟨c, e, q⟩ => ⟨c, e, k _ _ q⟩) w
theorem xt_cmp {op : CmpOp} {f : F2} {r : R2} (ho : OpR X (compareOp op) r) (hf : VR2 X F r f) (ha : XE X F a ta) (hb : XE X F b tb) (hm : behindInMarks op b = false) : XT X F (.Compare a [op] [b] pos) (wTest (wBin f ta tb)) :=
  ⟨wTest_mono (wBin_mono hf ha.mono hb.mono), pt_imp (pt_cmpR ho ha.run hb.run hm) fun σ H Q ⟨z, I, ok, w⟩ => by
    refine bin_runR hf ha hb σ H _ ⟨z, I, ok, wBin_mono hf ha.mono hb.mono _ _ _ (fun x z1 q => q) w |> fun w => wBinR_mono (X := X) (F := F) hf ha.mono hb.mono _ (fun rv z1 => ∃ c, EV.d rv.toD = .d (.bool c) ∧ PostT X.K F z σ I H Q c z1) _ (fun rv z1 q => ?_) w⟩
    obtain ⟨c, e, q⟩ := q
    cases rv with
    | d x =>
      have e' : x = .bool c := by injection e
      subst e'
      intro v I' H' o s r
      cases r
      exact ⟨c, rfl, q I' H' o s⟩
    | n l =>
      have e' : PyData.list l = .bool c := by injection e
      cases e'⟩
/-- an expression that gives True or False, as a test -/
theorem xt_val {t : WE} (h : XE X F a t) (he : ∀ whole, isTrue a X.env whole = (do let v ← whole; standAt a.pos; holding [v] (truthy v)) := by intro _; rfl) : XT X F a (wTest t) :=
  ⟨wTest_mono h.mono, pt_imp (pt_val h.run he) fun σ H Q ⟨z, I, ok, w⟩ => h.at ok w fun x z1 v I' H' ⟨c, e, q⟩ o s ev => by
    subst e
    cases ev
    exact ⟨c, rfl, q I' H' o s⟩⟩
/-! ### and, or, not, if -/
def wAnd (t u : WT) : WT := fun z R => t z fun c z1 => if c = true then u z1 R else R false z1
def wOr (t u : WT) : WT := fun z R => t z fun c z1 => if c = true then R true z1 else u z1 R
def wNot (t : WT) : WT := fun z R => t z fun c z1 => R (!c) z1
theorem wAnd_mono {t u : WT} (h : Mono t) (g : Mono u) : Mono (wAnd t u) := fun z R R' k w => h _ _ _ (fun c z1 q => by
  cases c with
  | true => exact g _ _ _ k q
  | false => exact k _ _ q) w
theorem wOr_mono {t u : WT} (h : Mono t) (g : Mono u) : Mono (wOr t u) := fun z R R' k w => h _ _ _ (fun c z1 q => by
  cases c with
  | true => exact k _ _ q
  | false => exact g _ _ _ k q) w
theorem XW.xt {e : Expr} {t : WT} (h : XW X F e t) : XT X F e t := ⟨h.mono, h.run.pt⟩
variable {t u : WT} {rest : List Expr}
theorem xw_and1 (h : XT X F a t) : XW X F (.BoolOp .And [a] pos) t := ⟨h.mono, pw_imp (pw_and1 h.run) fun _ _ _ q => q⟩
theorem xw_or1 (h : XT X F a t) : XW X F (.BoolOp .Or [a] pos) t := ⟨h.mono, pw_imp (pw_or1 h.run) fun _ _ _ q => q⟩
theorem xw_and (ha : XT X F a t) (hb : XW X F (.BoolOp .And (b :: rest) pos) u) : XW X F (.BoolOp .And (a :: b :: rest) pos) (wAnd t u) :=
  ⟨wAnd_mono ha.mono hb.mono, pw_imp (pw_and ha.run hb.run) fun σ H Q ⟨z, I, ok, w⟩ => ha.at ok w fun c z1 I1 H1 q o s => by
    cases c with
    | true => exact hb.at o q fun c2 z2 I2 H2 q2 o2 s2 => q2 I2 H2 o2 (s.trans s2)
    | false => exact q I1 H1 o s⟩
theorem xw_or (ha : XT X F a t) (hb : XW X F (.BoolOp .Or (b :: rest) pos) u) : XW X F (.BoolOp .Or (a :: b :: rest) pos) (wOr t u) :=
  ⟨wOr_mono ha.mono hb.mono, pw_imp (pw_or ha.run hb.run) fun σ H Q ⟨z, I, ok, w⟩ => ha.at ok w fun c z1 I1 H1 q o s => by
    cases c with
    | true => exact q I1 H1 o s
    | false => exact hb.at o q fun c2 z2 I2 H2 q2 o2 s2 => q2 I2 H2 o2 (s.trans s2)⟩
theorem xt_not (h : XT X F a t) : XT X F (.UnaryOp .Not a pos) (wNot t) :=
  ⟨fun z R R' k w => h.mono _ _ _ (fun c z1 q => k _ _ q) w, pt_imp (pt_not h.run) fun σ H Q ⟨z, I, ok, w⟩ => h.at ok w fun c z1 I1 H1 q o s => q I1 H1 o s⟩
/-- and, or, not as values -/
def wAndV (t u : WE) : WE := fun z R => t z fun x z1 => ∃ c, x = .d (.bool c) ∧ if c = true then u z1 R else R (.d (.bool false)) z1
def wOrV (t u : WE) : WE := fun z R => t z fun x z1 => ∃ c, x = .d (.bool c) ∧ if c = true then R (.d (.bool true)) z1 else u z1 R
def wNotV (t : WE) : WE := fun z R => t z fun x z1 => ∃ c, x = .d (.bool c) ∧ R (.d (.bool (!c))) z1
theorem xe_one {op} (h : XE X F a ta) : XE X F (.BoolOp op [a] pos) ta := ⟨h.mono, pe_imp (pe_one h.run) fun _ _ _ q => q⟩
theorem xe_and (ha : XE X F a ta) (hb : XE X F (.BoolOp .And (b :: rest) pos) tb) : XE X F (.BoolOp .And (a :: b :: rest) pos) (wAndV ta tb) :=
  ⟨fun z R R' k w => ha.mono _ _ _ (fun x z1 ⟨c, e, q⟩ => ⟨c, e, by
    cases c with
    | true => exact hb.mono _ _ _ k q
    | false => exact k _ _ q⟩) w, pe_imp (pe_and ha.run hb.run) fun σ H Q ⟨z, I, ok, w⟩ => ha.at ok w fun x z1 v I1 H1 ⟨c, e, q⟩ o s ev => by
    subst e
    cases ev
    refine ⟨c, rfl, ?_⟩
    cases c with
    | true => exact hb.at o q fun x2 z2 v2 I2 H2 q2 o2 s2 e2 => q2 v2 I2 H2 o2 (s.trans s2) e2
    | false => exact q _ I1 H1 o s (.bl false)⟩
theorem xe_or (ha : XE X F a ta) (hb : XE X F (.BoolOp .Or (b :: rest) pos) tb) : XE X F (.BoolOp .Or (a :: b :: rest) pos) (wOrV ta tb) :=
  ⟨fun z R R' k w => ha.mono _ _ _ (fun x z1 ⟨c, e, q⟩ => ⟨c, e, by
    cases c with
    | true => exact k _ _ q
    | false => exact hb.mono _ _ _ k q⟩) w, pe_imp (pe_or ha.run hb.run) fun σ H Q ⟨z, I, ok, w⟩ => ha.at ok w fun x z1 v I1 H1 ⟨c, e, q⟩ o s ev => by
    subst e
    cases ev
    refine ⟨c, rfl, ?_⟩
    cases c with
    | true => exact q _ I1 H1 o s (.bl true)
    | false => exact hb.at o q fun x2 z2 v2 I2 H2 q2 o2 s2 e2 => q2 v2 I2 H2 o2 (s.trans s2) e2⟩
theorem xe_not (ha : XE X F a ta) : XE X F (.UnaryOp .Not a pos) (wNotV ta) :=
  ⟨fun z R R' k w => ha.mono _ _ _ (fun x z1 ⟨c, e, q⟩ => ⟨c, e, k _ _ q⟩) w, pe_imp (pe_not ha.run) fun σ H Q ⟨z, I, ok, w⟩ => ha.at ok w fun x z1 v I1 H1 ⟨c, e, q⟩ o s ev => by
    subst e
    cases ev
    exact ⟨c, rfl, q _ I1 H1 o s (.bl _)⟩⟩
def wIf (t : WT) (ta tb : WE) : WE := fun z R => t z fun c z1 => if c = true then ta z1 R else tb z1 R
theorem xe_if {c : Expr} (hc : XT X F c t) (ha : XE X F a ta) (hb : XE X F b tb) : XE X F (.IfExp c a b pos) (wIf t ta tb) :=
  ⟨fun z R R' k w => hc.mono _ _ _ (fun c z1 q => by
    cases c with
    | true => exact ha.mono _ _ _ k q
    | false => exact hb.mono _ _ _ k q) w, pe_imp (pe_ifExp hc.run ha.run hb.run) fun σ H Q ⟨z, I, ok, w⟩ => hc.at ok w fun c z1 I1 H1 q o s => by
    cases c with
    | true => exact ha.at o q fun x2 z2 v2 I2 H2 q2 o2 s2 e2 => q2 v2 I2 H2 o2 (s.trans s2) e2
    | false => exact hb.at o q fun x2 z2 v2 I2 H2 q2 o2 s2 e2 => q2 v2 I2 H2 o2 (s.trans s2) e2⟩
/-- a chain of two comparisons -/
def wChain (f g : F2) (ta tb tc : WE) : WE := fun z R => ta z fun x z1 => tb z1 fun y z2 => f z2 x y fun d => ∃ c, d = .d (.bool c) ∧
  if c = true then tc z2 fun w z3 => g z3 y w fun d => R (.d d.toD) z3 else R (.d (.bool false)) z2
end

/-! ### argument lists, displays -/
def wNil : WA := fun z R => R [] z
def wCons (t : WE) (u : WA) : WA := fun z R => t z fun x z1 => u z1 fun xs z2 => R (x :: xs) z2
theorem paired_mono {α β : Type} {A B : α → β → Prop} (h : ∀ a b, A a b → B a b) : ∀ {xs : List α} {ys : List β}, Paired A xs ys → Paired B xs ys
  | _, _, .nil => .nil
  | _, _, .cons r t => .cons (h _ _ r) (paired_mono h t)
section
variable {X : Cx} {F : Fx} {pos : Pos} {e : Expr} {es : List Expr} {t : WE} {u : WA}
theorem xa_nil : XA X F [] wNil := ⟨fun z R R' k w => k _ _ w, pa_imp pa_nil fun σ H Q ⟨z, I, ok, w⟩ => w [] I H ok .refl .nil⟩
theorem xa_cons (ha : XE X F e t) (hr : XA X F es u) (hs : starEach (e :: es) X.env = (false, eval e X.env) :: starEach es X.env := by rfl) : XA X F (e :: es) (wCons t u) :=
  ⟨fun z R R' k w => ha.mono _ _ _ (fun x z1 q => hr.mono _ _ _ (fun xs z2 q => k _ _ q) q) w, pa_imp (pa_cons ha.run hr.run hs) fun σ H Q ⟨z, I, ok, w⟩ =>
    ha.at ok w fun x z1 v I1 H1 q o s ev => hr.at o q fun xs z2 vs I2 H2 q o2 s2 evs => q (v :: vs) I2 H2 o2 (s.trans s2) (.cons (ev.mono s2.imm) evs)⟩
/-- all are data -/
def allD : List EV → Option (List D)
  | [] => some []
  | .d x :: r => (allD r).map (x :: ·)
  | .o _ :: _ => none
theorem allD_ok {K : PySem.W.Frag} {I : Hp} {σ : St} : ∀ {es : List EV} {vs : List V} {ds : List D}, Paired (EvOk K I σ) es vs → allD es = some ds → RpA K I vs ds
  | _, _, _, .nil, h => by cases h; exact .nil
  | _, _, _, .cons (a := .d x) r t, h => by
    unfold allD at h
    obtain ⟨ds, e, rfl⟩ := Option.map_eq_some_iff.mp h
    exact .cons r (allD_ok t e)
  | _, _, _, .cons (a := .o i) r t, h => by cases h
def wTup (u : WA) : WE := fun z R => u z fun es z1 => ∃ ds, allD es = some ds ∧ ds.length ≤ sizeLine ∧ R (.d (.tuple ds)) z1
theorem xe_tup {x1} (h : XA X F es u) : XE X F (.Tuple es x1 pos) (wTup u) :=
  ⟨fun z R R' k w => h.mono _ _ _ (fun es z1 ⟨ds, e, l, q⟩ => ⟨ds, e, l, k _ _ q⟩) w, pe_imp (pe_tup h.run) fun σ H Q ⟨z, I, ok, w⟩ => h.at ok w fun es z1 vs I1 H1 ⟨ds, e, l, q⟩ o s ev => by
    have r := allD_ok ev e
    refine ⟨by rw [r.length]; exact l, fun p hp => ?_⟩
    obtain ⟨o2, s2⟩ := o.alloc (.tup vs) hp
    exact q _ _ _ o2 (s.trans s2) (.tup (SqT.of upd_same) (r.mono s2.imm))⟩
end
end L3
namespace L3
open PySem PySem.Spec PyProof.Rows L2 PySem.SeqAt

/-! ### operators -/
section
variable {X : Cx} {F : Fx} {σ : St} {z : SS} {I H : Hp} {Q : VK}
/-- a scalar answer -/
theorem PostR.scal {d : D} {v : V} (k : PostR X.K F z σ I H Q (.d d)) (ok : Ok X.K F z σ I H) (r : Rp X.K I v d) : Q v H := k v I H ok .refl r
/-- a new tuple, a new list -/
theorem PostR.tup {ds : List D} {vs : List V} {p : Addr} (k : PostR X.K F z σ I H Q (.d (.tuple ds))) (ok : Ok X.K F z σ I H) (r : RpA X.K I vs ds) (hp : H p = none) : Q (.ref p) (upd H p (.tup vs)) := by
  obtain ⟨o2, s2⟩ := ok.alloc (.tup vs) hp
  exact k _ _ _ o2 s2 (.tup (SqT.of upd_same) (r.mono s2.imm))
theorem Ok.newL (ok : Ok X.K F z σ I H) {ds : List D} {vs : List V} {p : Addr} (r : RpA X.K I vs ds) (hp : H p = none) : Ok X.K F z σ I (upd H p (.lst vs)) ∧ Step z σ I H z I (upd H p (.lst vs)) ∧ New X.K F z σ I H (upd H p (.lst vs)) p ds := by
  obtain ⟨o2, s2⟩ := ok.fresh (.lst vs) hp
  exact ⟨o2, s2, hp, ⟨vs, upd_same, r⟩, ok.i0 hp, (ok.h0 hp).1, ok.nown hp⟩
theorem PostR.lst {ds : List D} {vs : List V} {p : Addr} (k : PostR X.K F z σ I H Q (.n ds)) (ok : Ok X.K F z σ I H) (r : RpA X.K I vs ds) (hp : H p = none) : Q (.ref p) (upd H p (.lst vs)) := by
  obtain ⟨o2, s2, n⟩ := ok.newL r hp
  exact k _ _ _ o2 s2 n
end
/-- the lists that stand as data or as own lists -/
def catL (z : SS) (x y : EV) (k : RV → Prop) : Prop := ∃ l m, lstOf z x = some l ∧ lstOf z y = some m ∧ l.length + m.length ≤ sizeLine ∧ k (.n (l ++ m))
def sAdd : F2 := fun z x y k => match x, y with
  | .d (.int i), .d (.int j) => k (.d (.int (i + j)))
  | .d (.str a), .d (.str b) => a.length + b.length ≤ sizeLine ∧ k (.d (.str (a ++ b)))
  | .d (.tuple a), .d (.tuple b) => a.length + b.length ≤ sizeLine ∧ k (.d (.tuple (a ++ b)))
  | x, y => catL z x y k
abbrev rAddX (K : PySem.W.Frag) : R2 := fun x y H Q => ((rI0 fun i j => .int (i + j)) x y H Q ∨ (∃ i j, x = .str i ∧ y = .str j ∧ i.length + j.length ≤ sizeLine ∧ Q (.str (i ++ j)) H)) ∨ (rCat x y H Q ∨ rCatA K x y H Q)
section
variable {X : Cx} {F : Fx}
theorem op_addX : OpR X (binaryOp .Add) (rAddX X.K) := OpR.or (OpR.or op_add op_add_str) (OpR.or op_cat op_catA)
theorem catL_run {σ : St} {z : SS} {I H : Hp} {x y : EV} {vx vy : V} {Q : VK} (ok : Ok X.K F z σ I H) (ex : EvOk X.K I σ x vx) (ey : EvOk X.K I σ y vy) (h : catL z x y (PostR X.K F z σ I H Q)) : rCat vx vy H Q := by
  obtain ⟨l, m, e1, e2, hz, k⟩ := h
  obtain ⟨a, vs, rfl, h1, r1⟩ := ok.lst ex e1
  obtain ⟨b, ws, rfl, h2, r2⟩ := ok.lst ey e2
  exact ⟨a, b, vs, ws, rfl, rfl, h1, h2, by rw [r1.length, r2.length]; exact hz, fun p hp => k.lst ok (r1.append r2) hp⟩
theorem vr_add : VR2 X F (rAddX X.K) sAdd where
  mono := fun z x y k k' h w => by
    unfold sAdd at w ⊢
    split at w
    · exact h _ w
    · exact ⟨w.1, h _ w.2⟩
    · exact ⟨w.1, h _ w.2⟩
    · obtain ⟨l, m, e1, e2, hz, q⟩ := w
      exact ⟨l, m, e1, e2, hz, h _ q⟩
  run := fun {σ z I H x y vx vy Q} ok ex ey w => by
    unfold sAdd at w
    split at w
    · cases ex; cases ey
      exact .inl (.inl ⟨_, _, rfl, rfl, w.scal ok (.int _)⟩)
    · cases ex; cases ey
      exact .inl (.inr ⟨_, _, rfl, rfl, w.1, w.2.scal ok (.str _)⟩)
    · rename_i a b
      cases ex with
      | tup h1 r1 =>
      cases ey with
      | tup h2 r2 =>
      refine .inr (.inr ⟨_, _, _, _, rfl, rfl, same_tup ok.sub h1, same_tup ok.sub h2, by rw [r1.length, r2.length]; exact w.1, fun e => ?_, fun e1 e => ?_, fun e1 e2 p hp => w.2.tup ok (r1.append r2) hp⟩)
      · subst e
        cases r1
        exact w.2.scal ok (.tup h2 r2)
      · subst e
        cases r2
        have := w.2
        rw [List.append_nil] at this
        exact this.scal ok (.tup h1 r1)
    · exact .inr (.inl (catL_run ok ex ey w))
end
/-- two ints, with a condition -/
def sII (C : Int → Int → Prop) (g : Int → Int → D) : F2 := fun _ x y k => ∃ i j, x = .d (.int i) ∧ y = .d (.int j) ∧ C i j ∧ k (.d (g i j))
def sII0 (g : Int → Int → D) : F2 := fun _ x y k => ∃ i j, x = .d (.int i) ∧ y = .d (.int j) ∧ k (.d (g i j))
section
variable {X : Cx} {F : Fx}
theorem vr_ii {C : Int → Int → Prop} {g : Int → Int → V} {g' : Int → Int → D} (hg : ∀ I i j, Rp X.K I (g i j) (g' i j)) : VR2 X F (rI C g) (sII C g') where
  mono := fun z x y k k' h ⟨i, j, e1, e2, c, q⟩ => ⟨i, j, e1, e2, c, h _ q⟩
  run := fun {σ z I H x y vx vy Q} ok ex ey ⟨i, j, e1, e2, c, w⟩ => by
    subst e1 e2
    cases ex; cases ey
    exact ⟨i, j, rfl, rfl, c, w.scal ok (hg _ _ _)⟩
theorem vr_ii0 {g : Int → Int → V} {g' : Int → Int → D} (hg : ∀ I i j, Rp X.K I (g i j) (g' i j)) : VR2 X F (rI0 g) (sII0 g') where
  mono := fun z x y k k' h ⟨i, j, e1, e2, q⟩ => ⟨i, j, e1, e2, h _ q⟩
  run := fun {σ z I H x y vx vy Q} ok ex ey ⟨i, j, e1, e2, w⟩ => by
    subst e1 e2
    cases ex; cases ey
    exact ⟨i, j, rfl, rfl, w.scal ok (hg _ _ _)⟩
end
abbrev sSub : F2 := sII0 fun i j => .int (i - j)
abbrev sFDiv : F2 := sII CDiv fun i j => .int (i / j)
abbrev sMod : F2 := sII (fun _ j => 0 < j) fun i j => .int (i % j)
abbrev sPow : F2 := sII CPow fun i j => .int (i ^ j.toNat)
abbrev sLt : F2 := sII0 fun i j => .bool (decide (i < j))
abbrev sLe : F2 := sII0 fun i j => .bool (decide (i ≤ j))
abbrev sGt : F2 := sII0 fun i j => .bool (decide (j < i))
abbrev sGe : F2 := sII0 fun i j => .bool (decide (j ≤ i))
/-- *: ints, a list or a tuple times an int -/
def sMul : F2 := fun z x y k => match x, y with
  | .d (.int i), .d (.int j) => CMul i j ∧ k (.d (.int (i * j)))
  | x, .d (.int j) => ∃ l, lstOf z x = some l ∧ -(2 ^ 63) ≤ j ∧ j < 2 ^ 63 ∧ l.length * j.toNat ≤ sizeLine ∧ k (.n (List.replicate j.toNat l).flatten)
  | _, _ => False
section
variable {X : Cx} {F : Fx}
theorem op_mulX : OpR X (binaryOp .Mult) (fun x y H Q => rI CMul (fun i j => .int (i * j)) x y H Q ∨ rRep x y H Q) := OpR.or op_mul op_rep
theorem vr_mul : VR2 X F (fun x y H Q => rI CMul (fun i j => .int (i * j)) x y H Q ∨ rRep x y H Q) sMul where
  mono := fun z x y k k' h w => by
    unfold sMul at w ⊢
    split at w
    · exact ⟨w.1, h _ w.2⟩
    · obtain ⟨l, e, a, b, c, q⟩ := w
      exact ⟨l, e, a, b, c, h _ q⟩
    · exact w
  run := fun {σ z I H x y vx vy Q} ok ex ey w => by
    unfold sMul at w
    split at w
    · cases ex; cases ey
      exact .inl ⟨_, _, rfl, rfl, w.1, w.2.scal ok (.int _)⟩
    · obtain ⟨l, e, a, b, c, q⟩ := w
      obtain ⟨p, vs, rfl, h1, r1⟩ := ok.lst ex e
      cases ey
      exact .inr ⟨p, _, vs, rfl, rfl, h1, a, b, by rw [r1.length]; exact c, fun p hp => q.lst ok (r1.rep _) hp⟩
    · exact w.elim
end
/-! ### ==, !=, in, not in -/
def sEqG (f : Bool → Bool) : F2 := fun z x y k => ∃ a b, evD z x = some a ∧ evD z y = some b ∧ a.plain = true ∧ b.plain = true ∧ min a.depth b.depth ≤ 60 ∧ k (.d (.bool (f (PyData.eqv a b))))
abbrev sEq : F2 := sEqG id
abbrev sNe : F2 := sEqG not
def rEqP (K : PySem.W.Frag) (f : Bool → Bool) : R2 := fun x y H Q => ∃ a b, Rp K H x a ∧ Rp K H y b ∧ a.plain = true ∧ b.plain = true ∧ min a.depth b.depth ≤ 60 ∧ Q (.bl (f (PyData.eqv a b))) H
/-- a text's signs in another; an item in a list or a tuple -/
def inD (x y : D) (f : Bool → Bool) (k : Bool → Prop) : Prop := match y with
  | .str t => ∃ u, x = .str u ∧ k (f (!(Builtin.Str.occurrences t u 0 t.length 1).isEmpty))
  | .list l => PyData.plainAll l = true ∧ x.plain = true ∧ min (PyData.depthAll l) x.depth ≤ 60 ∧ k (f (l.any fun y => PyData.eqv y x))
  | .tuple l => PyData.plainAll l = true ∧ x.plain = true ∧ min (PyData.depthAll l) x.depth ≤ 60 ∧ k (f (l.any fun y => PyData.eqv y x))
  | _ => False
def sInG (f : Bool → Bool) : F2 := fun z x y k => ∃ a b, evD z x = some a ∧ evD z y = some b ∧ inD a b f fun c => k (.d (.bool c))
abbrev sIn : F2 := sInG id
abbrev sNotIn : F2 := sInG not
def rInP (K : PySem.W.Frag) (f : Bool → Bool) : R2 := fun x y H Q => ∃ a b, Rp K H x a ∧ Rp K H y b ∧ inD a b f fun c => Q (.bl c) H
section
variable {X : Cx} {F : Fx} {A : Around}
theorem op_eqP (hu : X.A.units + 64 < cLine) : OpR X (compareOp .Eq) (rEqP X.K id) := by
  intro pins s σ H x y v u Q I rx ry h
  obtain ⟨d, e, hd, he, pd, pe, m, q⟩ := h
  obtain ⟨as, r1⟩ := hd.reads I v pd rx
  obtain ⟨bs, r2⟩ := he.reads I u pe ry
  exact eq_plain r1 r2 pd pe (by omega) ⟨.bl _, H, I, rfl, q⟩
theorem op_neP (hu : X.A.units + 64 < cLine) : OpR X (compareOp .NotEq) (rEqP X.K not) := by
  intro pins s σ H x y v u Q I rx ry h
  obtain ⟨d, e, hd, he, pd, pe, m, q⟩ := h
  obtain ⟨as, r1⟩ := hd.reads I v pd rx
  obtain ⟨bs, r2⟩ := he.reads I u pe ry
  exact ne_plain r1 r2 pd pe (by omega) ⟨.bl _, H, I, rfl, q⟩
theorem vr_eq {f : Bool → Bool} : VR2 X F (rEqP X.K f) (sEqG f) where
  mono := fun z x y k k' h ⟨a, b, e1, e2, p1, p2, m, q⟩ => ⟨a, b, e1, e2, p1, p2, m, h _ q⟩
  run := fun {σ z I H x y vx vy Q} ok ex ey ⟨a, b, e1, e2, p1, p2, m, w⟩ => ⟨a, b, ok.ev ex e1, ok.ev ey e2, p1, p2, m, w.scal ok (.bl _)⟩
theorem op_inP (hu : X.A.units + 64 < cLine) : OpR X (compareOp .In) (rInP X.K id) := by
  intro pins s σ H x y v u Q I rx ry h
  obtain ⟨d, e, hd, he, q⟩ := h
  unfold inD at q
  split at q
  · obtain ⟨w, rfl, q⟩ := q
    cases hd; cases he
    obtain ⟨t, rfl⟩ := rx
    obtain ⟨t', rfl⟩ := ry
    exact in_str (fin_bl I q rfl)
  · obtain ⟨pl, pd, m, q⟩ := q
    obtain ⟨as, r1⟩ := hd.reads I v pd rx
    obtain ⟨bs, r2⟩ := he.reads I u (by simpa [PyData.plain] using pl) ry
    exact in_list_data r2 r1 pl pd (by omega) ⟨.bl _, H, I, rfl, q⟩
  · obtain ⟨pl, pd, m, q⟩ := q
    obtain ⟨as, r1⟩ := hd.reads I v pd rx
    obtain ⟨bs, r2⟩ := he.reads I u (by simpa [PyData.plain] using pl) ry
    exact in_tuple_data r2 r1 pl pd (by omega) ⟨.bl _, H, I, rfl, q⟩
  · exact q.elim
theorem op_notinP (hu : X.A.units + 64 < cLine) : OpR X (compareOp .NotIn) (rInP X.K not) := by
  intro pins s σ H x y v u Q I rx ry h
  obtain ⟨d, e, hd, he, q⟩ := h
  unfold inD at q
  split at q
  · obtain ⟨w, rfl, q⟩ := q
    cases hd; cases he
    exact op_notin_str pins s σ H _ _ v u Q I rx ry ⟨_, _, rfl, rfl, q⟩
  · obtain ⟨pl, pd, m, q⟩ := q
    obtain ⟨as, r1⟩ := hd.reads I v pd rx
    obtain ⟨bs, r2⟩ := he.reads I u (by simpa [PyData.plain] using pl) ry
    exact notIn_list_data r2 r1 pl pd (by omega) ⟨.bl _, H, I, rfl, q⟩
  · obtain ⟨pl, pd, m, q⟩ := q
    obtain ⟨as, r1⟩ := hd.reads I v pd rx
    obtain ⟨bs, r2⟩ := he.reads I u (by simpa [PyData.plain] using pl) ry
    exact notIn_tuple_data r2 r1 pl pd (by omega) ⟨.bl _, H, I, rfl, q⟩
  · exact q.elim
theorem inD_mono {x y : D} {f : Bool → Bool} {k k' : Bool → Prop} (h : ∀ c, k c → k' c) (w : inD x y f k) : inD x y f k' := by
  unfold inD at w ⊢
  split at w
  · exact ⟨_, w.choose_spec.1, h _ w.choose_spec.2⟩
  · exact ⟨w.1, w.2.1, w.2.2.1, h _ w.2.2.2⟩
  · exact ⟨w.1, w.2.1, w.2.2.1, h _ w.2.2.2⟩
  · exact w
theorem vr_in {f : Bool → Bool} : VR2 X F (rInP X.K f) (sInG f) where
  mono := fun z x y k k' h ⟨a, b, e1, e2, q⟩ => ⟨a, b, e1, e2, inD_mono (fun c => h _) q⟩
  run := fun {σ z I H x y vx vy Q} ok ex ey ⟨a, b, e1, e2, w⟩ => ⟨a, b, ok.ev ex e1, ok.ev ey e2, inD_mono (fun c q => PostR.scal q ok (.bl _)) w⟩
/-- is None, is not None -/
def isNone : D → Bool
  | .none => true
  | _ => false
def sIsN (f : Bool → Bool) : F2 := fun z x y k => y = .d .none ∧ ∃ a, evD z x = some a ∧ k (.d (.bool (f (isNone a))))
theorem rp_non {K : PySem.W.Frag} {H : Hp} {v : V} {a : D} (r : Rp K H v a) : decide (v = .non) = isNone a := by
  cases r <;> rfl
theorem vr_isN : VR2 X F (fun x y H Q => y = .non ∧ Q (.bl (decide (x = .non))) H) (sIsN id) where
  mono := fun z x y k k' h ⟨e, a, e1, q⟩ => ⟨e, a, e1, h _ q⟩
  run := fun {σ z I H x y vx vy Q} ok ex ey ⟨e, a, e1, w⟩ => by
    subst e
    cases ey
    exact ⟨rfl, by rw [rp_non (ok.ev ex e1)]; exact w.scal ok (.bl _)⟩
theorem vr_notN : VR2 X F (fun x y H Q => y = .non ∧ Q (.bl (!decide (x = .non))) H) (sIsN not) where
  mono := fun z x y k k' h ⟨e, a, e1, q⟩ => ⟨e, a, e1, h _ q⟩
  run := fun {σ z I H x y vx vy Q} ok ex ey ⟨e, a, e1, w⟩ => by
    subst e
    cases ey
    exact ⟨rfl, by rw [rp_non (ok.ev ex e1)]; exact w.scal ok (.bl _)⟩
/-- is True, is False -/
def sIsB (f : Bool → Bool) : F2 := fun z x y k => ∃ a b, x = .d (.bool a) ∧ y = .d (.bool b) ∧ k (.d (.bool (f (decide (a = b)))))
theorem vr_isB : VR2 X F rIsB (sIsB id) where
  mono := fun z x y k k' h ⟨a, b, e1, e2, q⟩ => ⟨a, b, e1, e2, h _ q⟩
  run := fun {σ z I H x y vx vy Q} ok ex ey ⟨a, b, e1, e2, w⟩ => by
    subst e1 e2
    cases ex; cases ey
    exact ⟨a, b, rfl, rfl, w.scal ok (.bl _)⟩
end
/-! ### subscripts -/
def sIx : F2 := fun z x y k => ∃ i, y = .d (.int i) ∧ ((∃ l d, seqOf z x = some l ∧ atI l i = some d ∧ k (.d d)) ∨ (∃ t c, x = .d (.str t) ∧ t.length ≤ sizeLine ∧ atI t.cps.toList i = some c ∧ k (.d (.str ⟨#[c]⟩))))
theorem atI_rp {K : PySem.W.Frag} {I : Hp} {vs : List V} {l : List D} {i : Int} {d : D} (r : RpA K I vs l) (h : atI l i = some d) : ∃ v, atI vs i = some v ∧ Rp K I v d := by
  unfold atI at h ⊢
  rw [r.length]
  obtain ⟨j, e1, e2⟩ := Option.bind_eq_some_iff.mp h
  obtain ⟨v, e3, q⟩ := r.get e2
  exact ⟨v, by rw [e1]; exact e3, q⟩
section
variable {X : Cx} {F : Fx}
theorem vr_ix : VR2 X F (rIx X.K) sIx where
  mono := fun z x y k k' h ⟨i, e, q⟩ => ⟨i, e, by
    rcases q with ⟨l, d, e1, e2, q⟩ | ⟨t, c, e1, e2, e3, q⟩
    · exact .inl ⟨l, d, e1, e2, h _ q⟩
    · exact .inr ⟨t, c, e1, e2, e3, h _ q⟩⟩
  run := fun {σ z I H x y vx vy Q} ok ex ey ⟨i, e, w⟩ => by
    subst e
    cases ey
    rcases w with ⟨l, d, e1, e2, q⟩ | ⟨t, c, e1, e2, e3, q⟩
    · obtain ⟨a, vs, rfl, hq, r⟩ := ok.seq ex e1
      obtain ⟨v, e3, rv⟩ := atI_rp r e2
      rcases hq with hq | hq
      · exact .inl ⟨a, vs, i, v, rfl, rfl, hq, e3, q.scal ok rv⟩
      · exact .inr (.inl ⟨a, vs, i, v, rfl, rfl, hq, e3, q.scal ok rv⟩)
    · subst e1
      cases ex
      exact .inr (.inr ⟨t, i, c, rfl, rfl, e2, e3, q.scal ok (.str _)⟩)
theorem xe_ix {a b : Expr} {ta tb : WE} {pos : Pos} (ha : XE X F a ta) (hb : XE X F b tb) (hs : PlainIx b := by intro _ _; rfl) : XE X F (.Subscript a b pos) (wBin sIx ta tb) :=
  XR.xe ⟨wBinR_mono (X := X) (F := F) vr_ix ha.mono hb.mono, pe_imp (pe_ix ix_seq ha.run hb.run hs) (bin_runR vr_ix ha hb)⟩
end
/-- a slice's bounds on a list -/
def cutD {α : Type} (xs : List α) (lo hi : Option Int) : List α := (xs.drop (HT.sIx xs.length 0 lo)).take (HT.sIx xs.length xs.length hi - HT.sIx xs.length 0 lo)
def cutT (t : Str) (lo hi : Option Int) : Str := cutS t lo hi
/-- a slice's part -/
abbrev WO := SS → (Option Int → SS → Prop) → Prop
def liftO (K : PySem.W.Frag) (F : Fx) (t : WO) : TO := fun σ H Q => ∃ z I, Ok K F z σ I H ∧ t z fun o z' => ∀ I' H', Ok K F z' σ I' H' → Step z σ I H z' I' H' → Q o H'
structure XO (X : Cx) (F : Fx) (e : Option Expr) (t : WO) : Prop where
  mono : Mono t
  run : PO X e (liftO X.K F t)
def wNoPart : WO := fun z R => R none z
def wPart (t : WE) : WO := fun z R => t z fun x z1 => ∃ i, x = .d (.int i) ∧ R (some i) z1
theorem po_imp {X : Cx} {e : Option Expr} {t t' : TO} (h : PO X e t) (i : ∀ σ H Q, t' σ H Q → t σ H Q) : PO X e t' := ⟨fun pins s σ H Q I q => h.run pins s σ H Q I (i σ H Q q)⟩
section
variable {X : Cx} {F : Fx} {e : Expr} {t : WE}
theorem xo_none : XO X F none wNoPart := ⟨fun z R R' k w => k _ _ w, po_imp po_none fun σ H Q ⟨z, I, ok, w⟩ => w I H ok .refl⟩
theorem xo_some (h : XE X F e t) : XO X F (some e) (wPart t) := ⟨fun z R R' k w => h.mono _ _ _ (fun x z1 ⟨i, e, q⟩ => ⟨i, e, k _ _ q⟩) w, po_imp (po_some h.run) fun σ H Q ⟨z, I, ok, w⟩ => h.at ok w fun x z1 v I1 H1 ⟨i, e, q⟩ o s ev => by
  subst e
  cases ev
  exact ⟨i, rfl, q I1 H1 o s⟩⟩
theorem RpA.cut {K : PySem.W.Frag} {I : Hp} {vs : List V} {ds : List D} (r : RpA K I vs ds) (lo hi : Option Int) : RpA K I (cutV vs lo hi) (cutD ds lo hi) := by
  unfold cutV cutD
  rw [r.length]
  exact (r.drop _).take _
def sSl : SS → EV → Option Int → Option Int → (RV → Prop) → Prop := fun z x lo hi k => match evD z x with
  | some (.str t) => t.length ≤ sizeLine ∧ k (.d (.str (cutT t lo hi)))
  | some (.tuple l) => k (.d (.tuple (cutD l lo hi)))
  | some (.list l) => k (.n (cutD l lo hi))
  | _ => False
def wSl (te : WE) (tl th : WO) : WR := fun z R => te z fun x z1 => tl z1 fun lo z2 => th z2 fun hi z3 => sSl z3 x lo hi fun d => R d z3
theorem sSl_mono {z : SS} {x : EV} {lo hi : Option Int} {k k' : RV → Prop} (h : ∀ d, k d → k' d) (w : sSl z x lo hi k) : sSl z x lo hi k' := by
  unfold sSl at w ⊢
  split at w
  · exact ⟨w.1, h _ w.2⟩
  · exact h _ w
  · exact h _ w
  · exact w
theorem cutD_all {α : Type} {xs : List α} {lo hi : Option Int} (h : HT.sIx xs.length 0 lo = 0 ∧ HT.sIx xs.length xs.length hi = xs.length) : cutD xs lo hi = xs := by
  unfold cutD
  rw [h.1, h.2, List.drop_zero, Nat.sub_zero, List.take_length]
theorem xr_sl {lo hi : Option Expr} {tl th : WO} {p2 pos : Pos} (he : XE X F e t) (hl : XO X F lo tl) (hu : XO X F hi th) : XR X F (.Subscript e (.Slice lo hi none p2) pos) (wSl t tl th) where
  mono := fun z R R' k w => he.mono _ _ _ (fun x z1 w => hl.mono _ _ _ (fun lo z2 w => hu.mono _ _ _ (fun hi z3 w => sSl_mono (fun d q => k _ _ q) w) w) w) w
  run := pe_imp (pe_slice (SlR.or sl_str (SlR.or sl_tupA sl_list)) he.run hl.run hu.run) fun σ H Q ⟨z, I, ok, w⟩ => he.at ok w fun x z1 v I1 H1 wa o1 s1 ev =>
    ⟨z1, I1, o1, hl.mono _ _ _ (fun lo z2 wb I2 H2 o2 s2 => ⟨z2, I2, o2, hu.mono _ _ _ (fun hi z3 w I3 H3 o3 s3 => by
      have ev3 := (ev.mono s2.imm).mono s3.imm
      have s13 := s1.trans (s2.trans s3)
      unfold sSl at w
      split at w
      · rename_i t e
        have r := o3.ev ev3 e
        cases r
        exact .inl ⟨t, rfl, w.1, w.2 _ _ _ o3 s13 (.str _)⟩
      · rename_i l e
        have hx : x = .d (.tuple l) := by
          cases x with
          | d y => exact congrArg EV.d (Option.some.inj e)
          | o i => unfold evD at e; simp only at e; split at e <;> cases e
        subst hx
        cases ev3 with
        | tup hq r =>
        refine .inr (.inl ⟨_, _, rfl, same_tup o3.sub hq, fun hw => ?_, fun _ p hp => ?_⟩)
        · have e2 : cutD l lo hi = l := cutD_all (by rw [← r.length]; exact hw)
          rw [e2] at w
          exact w _ _ _ o3 s13 (.tup hq r)
        · obtain ⟨o4, s4⟩ := o3.alloc (.tup (cutV _ lo hi)) hp
          exact w _ _ _ o4 (s13.trans s4) (.tup (SqT.of upd_same) ((r.cut lo hi).mono s4.imm))
      · rename_i l e
        have hx : lstOf z3 x = some l := by
          cases x with
          | d y =>
            have : y = .list l := Option.some.inj e
            subst this; rfl
          | o i =>
            unfold evD at e; unfold lstOf
            simp only at e ⊢
            split at e <;> cases e
            rfl
        obtain ⟨a, vs, rfl, hq, r⟩ := o3.lst ev3 hx
        refine .inr (.inr ⟨a, vs, rfl, SqL.of hq, fun p hp => ?_⟩)
        obtain ⟨o4, s4, n⟩ := o3.newL (r.cut lo hi) hp
        exact w _ _ _ o4 (s13.trans s4) (n.back s13)
      · exact w.elim) wb⟩) wa⟩
end
end L3
namespace L3
open PySem PySem.Spec PyProof.Rows L2 PySem.SeqAt

/-! ### displays -/
section
variable {X : Cx} {F : Fx} {pos : Pos} {es : List Expr} {u : WA}
def wLst (u : WA) : WR := fun z R => u z fun es z1 => ∃ ds, allD es = some ds ∧ ds.length ≤ sizeLine ∧ R (.n ds) z1
theorem xr_lst (h : XA X F es u) : XR X F (.List es pos) (wLst u) :=
  ⟨fun z R R' k w => h.mono _ _ _ (fun es z1 ⟨ds, e, l, q⟩ => ⟨ds, e, l, k _ _ q⟩) w, pe_imp (pe_lst h.run) fun σ H Q ⟨z, I, ok, w⟩ => h.at ok w fun es z1 vs I1 H1 ⟨ds, e, l, q⟩ o s ev => by
    have r := allD_ok ev e
    refine ⟨by rw [r.length]; exact l, fun p hp => ?_⟩
    obtain ⟨o2, s2, n⟩ := o.newL r hp
    exact q _ _ _ o2 (s.trans s2) (n.back s)⟩
theorem xr_of {e : Expr} {t : WE} (h : XE X F e t) : XR X F e (fun z R => t z fun ev z1 => ∃ d, ev = .d d ∧ R (.d d) z1) :=
  ⟨fun z R R' k w => h.mono _ _ _ (fun ev z1 ⟨d, e, q⟩ => ⟨d, e, k _ _ q⟩) w, pe_imp h.run fun σ H Q ⟨z, I, ok, w⟩ => ⟨z, I, ok, h.mono _ _ _ (fun ev z1 ⟨d, e, q⟩ => by subst e; exact q) w⟩⟩
theorem xe_dct : PE X (.Dict [] [] pos) (fun σ H Q => ∀ p, H p = none → Q (.ref p) (upd H p (.dK []))) → XE X F (.Dict [] [] pos) (fun z R => R (.d (.dict [])) z) := fun h =>
  ⟨fun z R R' k w => k _ _ w, pe_imp h fun σ H Q ⟨z, I, ok, w⟩ p hp => by
    obtain ⟨o2, s2⟩ := ok.alloc (.dK []) hp
    exact w _ _ _ o2 s2 (.dct upd_same)⟩
end
/-! ### built-in functions -/
abbrev FC := SS → List EV → (RV → Prop) → Prop
structure VC (X : Cx) (F : Fx) (r : List V → Hp → VK → Prop) (f : FC) : Prop where
  mono : ∀ z xs k k', (∀ d, k d → k' d) → f z xs k → f z xs k'
  run : ∀ {σ : St} {z : SS} {I H : Hp} {xs : List EV} {vs : List V} {Q : VK}, Ok X.K F z σ I H → Paired (EvOk X.K I σ) xs vs → f z xs (PostR X.K F z σ I H Q) → r vs H Q
def wCB (f : FC) (u : WA) : WR := fun z R => u z fun es z1 => f z1 es fun r => R r z1
section
variable {X : Cx} {F : Fx} {pos p : Pos} {e : Expr} {es : List Expr} {u : WA} {f : FC} {r : List V → Hp → VK → Prop} {bid T : String} {x : Str}
theorem wCB_mono (hf : VC X F r f) (hu : Mono u) : Mono (wCB f u) := fun z R R' k w => hu _ _ _ (fun es z1 q => hf.mono _ _ _ _ (fun d q => k _ _ q) q) w
theorem cb_run (hf : VC X F r f) (ha : XA X F es u) : ∀ σ H Q, liftR X.K F (wCB f u) σ H Q → tCB r (liftA X.K F u) σ H Q := fun σ H Q ⟨z, I, ok, w⟩ =>
  ha.at ok w fun es z1 vs I1 H1 q o s ev => hf.run o ev (hf.mono _ _ _ _ (fun d q => PostR.of s q) q)
theorem xr_callB (hc : CallR X (.builtin bid) r) (hf : VC X F r f) (hg : Gl X x) (hm : X.mg x = none) (hv : bootBuiltins x = some (.builtin bid)) (ha : XA X F (e :: es) u) (hn : x ≠ "__name__" := by decide) (hdb : (x == ("__debug__" : Str)) = false := by decide)
    (he : starEach (e :: es) X.env = (false, eval e X.env) :: starEach es X.env := by rfl) (hpl : (backTo pos (starEach es X.env)).any (·.1) = false := by rfl) : XR X F (.Call (.Name x p) (e :: es) [] pos) (wCB f u) :=
  ⟨wCB_mono hf ha.mono, pe_imp (pe_callB hc hg hm hv ha.run hn hdb he hpl) (cb_run hf ha)⟩
theorem xr_callT (hc : CallR X (.type T) r) (hf : VC X F r f) (hg : Gl X x) (hm : X.mg x = none) (hv : bootBuiltins x = some (.type T)) (ha : XA X F (e :: es) u) (hn : x ≠ "__name__" := by decide) (hdb : (x == ("__debug__" : Str)) = false := by decide)
    (he : starEach (e :: es) X.env = (false, eval e X.env) :: starEach es X.env := by rfl) (hpl : (backTo pos (starEach es X.env)).any (·.1) = false := by rfl) : XR X F (.Call (.Name x p) (e :: es) [] pos) (wCB f u) :=
  ⟨wCB_mono hf ha.mono, pe_imp (pe_callTy hc hg hm hv ha.run hn hdb he hpl) (cb_run hf ha)⟩
/-- one argument -/
def f1 (g : SS → EV → (RV → Prop) → Prop) : FC := fun z xs k => ∃ x, xs = [x] ∧ g z x k
def f2 (g : SS → EV → EV → (RV → Prop) → Prop) : FC := fun z xs k => ∃ x y, xs = [x, y] ∧ g z x y k
theorem vc_1 {g : SS → EV → (RV → Prop) → Prop} (hm : ∀ z x k k', (∀ d, k d → k' d) → g z x k → g z x k')
    (h : ∀ {σ : St} {z : SS} {I H : Hp} {x : EV} {v : V} {Q : VK}, Ok X.K F z σ I H → EvOk X.K I σ x v → g z x (PostR X.K F z σ I H Q) → r [v] H Q) : VC X F r (f1 g) where
  mono := fun z xs k k' i ⟨x, e, q⟩ => ⟨x, e, hm _ _ _ _ i q⟩
  run := fun {σ z I H xs vs Q} ok ev ⟨x, e, q⟩ => by
    subst e
    cases ev with
    | cons e1 t =>
      cases t
      exact h ok e1 q
theorem vc_2 {g : SS → EV → EV → (RV → Prop) → Prop} (hm : ∀ z x y k k', (∀ d, k d → k' d) → g z x y k → g z x y k')
    (h : ∀ {σ : St} {z : SS} {I H : Hp} {x y : EV} {v w : V} {Q : VK}, Ok X.K F z σ I H → EvOk X.K I σ x v → EvOk X.K I σ y w → g z x y (PostR X.K F z σ I H Q) → r [v, w] H Q) : VC X F r (f2 g) where
  mono := fun z xs k k' i ⟨x, y, e, q⟩ => ⟨x, y, e, hm _ _ _ _ _ i q⟩
  run := fun {σ z I H xs vs Q} ok ev ⟨x, y, e, q⟩ => by
    subst e
    cases ev with
    | cons e1 t =>
      cases t with
      | cons e2 t =>
        cases t
        exact h ok e1 e2 q
/-- len -/
def sLen : SS → EV → (RV → Prop) → Prop := fun z x k => (∃ l, seqOf z x = some l ∧ k (.d (.int l.length))) ∨ (∃ t : Str, x = .d (.str t) ∧ t.length ≤ sizeLine ∧ k (.d (.int t.length))) ∨ (∃ l, x = .d (.dict [(.none, .list l)]) ∧ k (.d (.int l.length)))
theorem vc_len : VC X F (fun xs H Q => (∃ p ys, xs = [.ref p] ∧ (SqL X.K H p ys ∨ SqT X.K H p ys) ∧ Q (.int ys.length) H) ∨ (∃ z, xs = [.str z] ∧ z.length ≤ sizeLine ∧ Q (.int z.length) H)) (f1 sLen) :=
  vc_1 (fun z x k k' h w => by
    rcases w with ⟨l, e, q⟩ | ⟨t, e, l, q⟩ | ⟨l, e, q⟩
    · exact .inl ⟨l, e, h _ q⟩
    · exact .inr (.inl ⟨t, e, l, h _ q⟩)
    · exact .inr (.inr ⟨l, e, h _ q⟩)) fun {σ z I H x v Q} ok ev w => by
    rcases w with ⟨l, e, q⟩ | ⟨t, e, l, q⟩ | ⟨l, e, q⟩
    · obtain ⟨a, vs, rfl, hq, r⟩ := ok.seq ev e
      exact .inl ⟨a, vs, rfl, hq, by rw [r.length]; exact q.scal ok (.int _)⟩
    · subst e
      cases ev
      exact .inr ⟨t, rfl, l, q.scal ok (.int _)⟩
    · subst e
      cases ev with
      | scr hq r => exact .inl ⟨_, _, rfl, .inl (ok.sub.seq hq), by rw [r.length]; exact q.scal ok (.int _)⟩
theorem xe_len (hg : Gl X "len") (hm : X.mg "len" = none) (ha : XA X F [e] u) (he : starEach [e] X.env = (false, eval e X.env) :: starEach [] X.env := by rfl) : XE X F (.Call (.Name "len" p) [e] [] pos) (wFrz (wCB (f1 sLen) u)) :=
  (xr_callB (CallR.or call_len_seq call_len_str) vc_len hg hm PySem.boot_len ha (he := he)).xe
/-- abs, int, max, min of two ints -/
def sAbs : SS → EV → (RV → Prop) → Prop := fun z x k => ∃ i, x = .d (.int i) ∧ k (.d (.int (if i < 0 then -i else i)))
theorem vc_abs : VC X F (fun xs H Q => ∃ i, xs = [.int i] ∧ Q (.int (if i < 0 then -i else i)) H) (f1 sAbs) :=
  vc_1 (fun z x k k' h ⟨i, e, q⟩ => ⟨i, e, h _ q⟩) fun {σ z I H x v Q} ok ev ⟨i, e, q⟩ => by
    subst e
    cases ev
    exact ⟨i, rfl, q.scal ok (.int _)⟩
theorem xe_abs (hg : Gl X "abs") (hm : X.mg "abs" = none) (ha : XA X F [e] u) (he : starEach [e] X.env = (false, eval e X.env) :: starEach [] X.env := by rfl) : XE X F (.Call (.Name "abs" p) [e] [] pos) (wFrz (wCB (f1 sAbs) u)) :=
  (xr_callB call_abs vc_abs hg hm (by decide +kernel) ha (he := he)).xe
def sInt : SS → EV → (RV → Prop) → Prop := fun z x k => (∃ i, x = .d (.int i) ∧ k (.d (.int i))) ∨ ∃ b : Bool, x = .d (.bool b) ∧ k (.d (.int (if b then 1 else 0)))
theorem vc_int : VC X F (fun xs H Q => (∃ i, xs = [.int i] ∧ Q (.int i) H) ∨ ∃ k, xs = [.bl k] ∧ Q (.int (if k then 1 else 0)) H) (f1 sInt) :=
  vc_1 (fun z x k k' h w => w.elim (fun ⟨i, e, q⟩ => .inl ⟨i, e, h _ q⟩) fun ⟨b, e, q⟩ => .inr ⟨b, e, h _ q⟩) fun {σ z I H x v Q} ok ev w => by
    rcases w with ⟨i, e, q⟩ | ⟨b, e, q⟩
    · subst e
      cases ev
      exact .inl ⟨i, rfl, q.scal ok (.int _)⟩
    · subst e
      cases ev
      exact .inr ⟨b, rfl, q.scal ok (.int _)⟩
theorem xe_intc (hg : Gl X "int") (hm : X.mg "int" = none) (ha : XA X F [e] u) (he : starEach [e] X.env = (false, eval e X.env) :: starEach [] X.env := by rfl) : XE X F (.Call (.Name "int" p) [e] [] pos) (wFrz (wCB (f1 sInt) u)) :=
  (xr_callT call_int1 vc_int hg hm (by decide +kernel) ha (he := he)).xe
def sMax : SS → EV → EV → (RV → Prop) → Prop := fun z x y k => ∃ i j, x = .d (.int i) ∧ y = .d (.int j) ∧ k (.d (.int (if j > i then j else i)))
def sMin : SS → EV → EV → (RV → Prop) → Prop := fun z x y k => ∃ i j, x = .d (.int i) ∧ y = .d (.int j) ∧ k (.d (.int (if j < i then j else i)))
theorem vc_max : VC X F (fun xs H Q => ∃ i j, xs = [.int i, .int j] ∧ Q (.int (if j > i then j else i)) H) (f2 sMax) :=
  vc_2 (fun z x y k k' h ⟨i, j, e1, e2, q⟩ => ⟨i, j, e1, e2, h _ q⟩) fun {σ z I H x y v w Q} ok ev ew ⟨i, j, e1, e2, q⟩ => by
    subst e1 e2
    cases ev; cases ew
    exact ⟨i, j, rfl, q.scal ok (.int _)⟩
theorem vc_min : VC X F (fun xs H Q => ∃ i j, xs = [.int i, .int j] ∧ Q (.int (if j < i then j else i)) H) (f2 sMin) :=
  vc_2 (fun z x y k k' h ⟨i, j, e1, e2, q⟩ => ⟨i, j, e1, e2, h _ q⟩) fun {σ z I H x y v w Q} ok ev ew ⟨i, j, e1, e2, q⟩ => by
    subst e1 e2
    cases ev; cases ew
    exact ⟨i, j, rfl, q.scal ok (.int _)⟩
theorem xe_max2 {e' : Expr} (hc : X.calm = true) (hg : Gl X "max") (hm : X.mg "max" = none) (ha : XA X F [e, e'] u) (he : starEach [e, e'] X.env = (false, eval e X.env) :: starEach [e'] X.env := by rfl) (hpl : (backTo pos (starEach [e'] X.env)).any (·.1) = false := by rfl) :
    XE X F (.Call (.Name "max" p) [e, e'] [] pos) (wFrz (wCB (f2 sMax) u)) := (xr_callB (call_max2 hc) vc_max hg hm (by decide +kernel) ha (he := he) (hpl := hpl)).xe
theorem xe_min2 {e' : Expr} (hc : X.calm = true) (hg : Gl X "min") (hm : X.mg "min" = none) (ha : XA X F [e, e'] u) (he : starEach [e, e'] X.env = (false, eval e X.env) :: starEach [e'] X.env := by rfl) (hpl : (backTo pos (starEach [e'] X.env)).any (·.1) = false := by rfl) :
    XE X F (.Call (.Name "min" p) [e, e'] [] pos) (wFrz (wCB (f2 sMin) u)) := (xr_callB (call_min2 hc) vc_min hg hm (by decide +kernel) ha (he := he) (hpl := hpl)).xe
/-- sum of a list of ints; all, any of a list of bools -/
def sSum : SS → EV → (RV → Prop) → Prop := fun z x k => ∃ ns : List Int, lstOf z x = some (ns.map PyData.int) ∧ k (.d (.int ns.sum))
def sAll : SS → EV → (RV → Prop) → Prop := fun z x k => ∃ bs : List Bool, lstOf z x = some (bs.map PyData.bool) ∧ k (.d (.bool (bs.all id)))
def sAny : SS → EV → (RV → Prop) → Prop := fun z x k => ∃ bs : List Bool, lstOf z x = some (bs.map PyData.bool) ∧ k (.d (.bool (bs.any id)))
theorem vc_sum : VC X F (rSum X.K) (f1 sSum) :=
  vc_1 (fun z x k k' h ⟨ns, e, q⟩ => ⟨ns, e, h _ q⟩) fun {σ z I H x v Q} ok ev ⟨ns, e, q⟩ => by
    obtain ⟨a, vs, rfl, hq, r⟩ := ok.lst ev e
    rw [r.ints] at hq
    exact ⟨a, ns, rfl, SqL.of hq, q.scal ok (.int _)⟩
theorem vc_all : VC X F (rAll X.K) (f1 sAll) :=
  vc_1 (fun z x k k' h ⟨ns, e, q⟩ => ⟨ns, e, h _ q⟩) fun {σ z I H x v Q} ok ev ⟨ns, e, q⟩ => by
    obtain ⟨a, vs, rfl, hq, r⟩ := ok.lst ev e
    rw [r.bls] at hq
    exact ⟨a, ns, rfl, SqL.of hq, q.scal ok (.bl _)⟩
theorem vc_any : VC X F (rAny X.K) (f1 sAny) :=
  vc_1 (fun z x k k' h ⟨ns, e, q⟩ => ⟨ns, e, h _ q⟩) fun {σ z I H x v Q} ok ev ⟨ns, e, q⟩ => by
    obtain ⟨a, vs, rfl, hq, r⟩ := ok.lst ev e
    rw [r.bls] at hq
    exact ⟨a, ns, rfl, SqL.of hq, q.scal ok (.bl _)⟩
theorem xe_sum (hc : X.calm = true) (hg : Gl X "sum") (hm : X.mg "sum" = none) (ha : XA X F [e] u) (he : starEach [e] X.env = (false, eval e X.env) :: starEach [] X.env := by rfl) : XE X F (.Call (.Name "sum" p) [e] [] pos) (wFrz (wCB (f1 sSum) u)) := (xr_callB (cr_sum hc) vc_sum hg hm (by decide +kernel) ha (he := he)).xe
theorem xe_all (hc : X.calm = true) (hg : Gl X "all") (hm : X.mg "all" = none) (ha : XA X F [e] u) (he : starEach [e] X.env = (false, eval e X.env) :: starEach [] X.env := by rfl) : XE X F (.Call (.Name "all" p) [e] [] pos) (wFrz (wCB (f1 sAll) u)) := (xr_callB (cr_all hc) vc_all hg hm (by decide +kernel) ha (he := he)).xe
theorem xe_any (hc : X.calm = true) (hg : Gl X "any") (hm : X.mg "any" = none) (ha : XA X F [e] u) (he : starEach [e] X.env = (false, eval e X.env) :: starEach [] X.env := by rfl) : XE X F (.Call (.Name "any" p) [e] [] pos) (wFrz (wCB (f1 sAny) u)) := (xr_callB (cr_any hc) vc_any hg hm (by decide +kernel) ha (he := he)).xe
/-- list(xs), tuple(xs) of a list or a tuple (or of the script) -/
def sListOf : SS → EV → (RV → Prop) → Prop := fun z x k => (∃ l, seqOf z x = some l ∧ k (.n l)) ∨ (∃ l, x = .d (.dict [(.none, .list l)]) ∧ k (.n l))
theorem vc_list : VC X F (fun xs H Q => ∃ p ys, xs = [.ref p] ∧ (SqL X.K H p ys ∨ SqT X.K H p ys) ∧ ∀ l, H l = none → Q (.ref l) (upd H l (.lst ys))) (f1 sListOf) :=
  vc_1 (fun z x k k' h w => by
    rcases w with ⟨l, e, q⟩ | ⟨l, e, q⟩
    · exact .inl ⟨l, e, h _ q⟩
    · exact .inr ⟨l, e, h _ q⟩) fun {σ z I H x v Q} ok ev w => by
    rcases w with ⟨l, e, q⟩ | ⟨l, e, q⟩
    · obtain ⟨a, vs, rfl, hq, r⟩ := ok.seq ev e
      exact ⟨a, vs, rfl, hq, fun p hp => q.lst ok r hp⟩
    · subst e
      cases ev with
      | scr hq r => exact ⟨_, _, rfl, .inl (ok.sub.seq hq), fun p hp => q.lst ok r hp⟩
theorem xr_list (hg : Gl X "list") (hm : X.mg "list" = none) (ha : XA X F [e] u) (he : starEach [e] X.env = (false, eval e X.env) :: starEach [] X.env := by rfl) : XR X F (.Call (.Name "list" p) [e] [] pos) (wCB (f1 sListOf) u) := xr_callT call_list_of vc_list hg hm (by decide +kernel) ha (he := he)
def sTupOf : SS → EV → (RV → Prop) → Prop := fun z x k => ∃ l, seqOf z x = some l ∧ k (.d (.tuple l))
theorem vc_tup : VC X F (fun xs H Q => ∃ p ys, xs = [.ref p] ∧ ((SqL X.K H p ys ∧ ∀ l, H l = none → Q (.ref l) (upd H l (.tup ys))) ∨ (SqT X.K H p ys ∧ Q (.ref p) H))) (f1 sTupOf) :=
  vc_1 (fun z x k k' h ⟨l, e, q⟩ => ⟨l, e, h _ q⟩) fun {σ z I H x v Q} ok ev ⟨l, e, q⟩ => by
    cases hl : lstOf z x with
    | some m =>
      have em : m = l := by
        cases x with
        | d y => cases y <;> simp [lstOf, seqOf, evD] at hl e <;> exact hl.symm.trans e
        | o i =>
          unfold lstOf at hl; unfold seqOf evD at e
          simp only at hl e
          split at hl
          · rename_i h1; rw [h1] at e; simp at e hl; exact hl.symm.trans e
          · cases hl
      subst em
      obtain ⟨a, vs, rfl, hq, r⟩ := ok.lst ev hl
      exact ⟨a, vs, rfl, .inl ⟨SqL.of hq, fun p hp => q.tup ok r hp⟩⟩
    | none =>
      cases x with
      | d y =>
        cases y <;> simp [lstOf, seqOf, evD] at hl e
        subst e
        cases ev with
        | tup hq r => exact ⟨_, _, rfl, .inr ⟨same_tup ok.sub hq, q.scal ok (.tup hq r)⟩⟩
      | o i =>
        unfold lstOf at hl; unfold seqOf evD at e
        simp only at hl e
        split at hl
        · cases hl
        · rename_i h1
          split at e
          · rename_i h2; split at h2
            · rename_i h3; exact absurd h3 (h1 _ _)
            · cases h2
          · rename_i h2; split at h2
            · cases h2
            · cases h2
          · cases e
theorem xe_tuple (hg : Gl X "tuple") (hm : X.mg "tuple" = none) (ha : XA X F [e] u) (he : starEach [e] X.env = (false, eval e X.env) :: starEach [] X.env := by rfl) : XE X F (.Call (.Name "tuple" p) [e] [] pos) (wFrz (wCB (f1 sTupOf) u)) := (xr_callT call_tuple_of vc_tup hg hm (by decide +kernel) ha (he := he)).xe
/-- str of an int -/
def sStr : SS → EV → (RV → Prop) → Prop := fun z x k => ∃ i : Int, x = .d (.int i) ∧ i.natAbs.log2 < 1920 ∧ k (.d (.str (toString i)))
theorem vc_str : VC X F (fun xs H Q => ∃ i : Int, xs = [.int i] ∧ i.natAbs.log2 < 1920 ∧ Q (.str (toString i)) H) (f1 sStr) :=
  vc_1 (fun z x k k' h ⟨i, e, c, q⟩ => ⟨i, e, c, h _ q⟩) fun {σ z I H x v Q} ok ev ⟨i, e, c, q⟩ => by
    subst e
    cases ev
    exact ⟨i, rfl, c, q.scal ok (.str _)⟩
theorem xe_strc (hg : Gl X "str") (hm : X.mg "str" = none) (ha : XA X F [e] u) (he : starEach [e] X.env = (false, eval e X.env) :: starEach [] X.env := by rfl) : XE X F (.Call (.Name "str" p) [e] [] pos) (wFrz (wCB (f1 sStr) u)) := (xr_callT call_str_int vc_str hg hm (by decide +kernel) ha (he := he)).xe
end
/-! ### isinstance -/
def tyName : D → String
  | .none => "NoneType"
  | .bool _ => "bool"
  | .int _ => "int"
  | .str _ => "str"
  | .list _ => "list"
  | .tuple _ => "tuple"
  | .dict _ => "dict"
def isA (T : String) (d : D) : Bool := match d with
  | .none => false
  | .bool _ => T == "bool" || T == "int"
  | .int _ => T == "int"
  | .str _ => T == "str"
  | .list _ => T == "list"
  | .tuple _ => T == "tuple"
  | .dict _ => T == "dict"
def KitOk (T : String) : Prop := ∀ n ∈ ["NoneType", "bool", "int", "str", "list", "tuple", "dict"], kitB n T = some (match n with
  | "NoneType" => false | "bool" => T == "bool" || T == "int" | n => T == n)
instance : Decidable (KitOk T) := by unfold KitOk; infer_instance
theorem kit_d {T : String} (h : KitOk T) (d : D) : kitB (tyName d) T = some (isA T d) := by
  cases d <;> exact h _ (by simp [tyName])
theorem kit_int : KitOk "int" := by decide +kernel
theorem kit_bool : KitOk "bool" := by decide +kernel
theorem kit_str : KitOk "str" := by decide +kernel
theorem kit_list : KitOk "list" := by decide +kernel
theorem kit_tuple : KitOk "tuple" := by decide +kernel
theorem kit_dict : KitOk "dict" := by decide +kernel
theorem rp_ty {K : PySem.W.Frag} {H : Hp} {v : V} {d : D} (r : Rp K H v d) (hn : ∀ l, d ≠ .dict [(.none, .list l)]) : TyX K H v (.type (tyName d)) := by
  cases r with
  | non => exact .base .non
  | bl b => exact .base (.bl b)
  | int i => exact .base (.int i)
  | str x => exact .base (.str x)
  | lst e _ => exact .base (.lst e)
  | tup e _ =>
    rcases e with (e | ⟨o, e⟩) | ⟨o, its, n, e, c, _⟩
    · exact .base (.tup e)
    · exact .fTuple e
    · exact .kTuple e c
  | dct e => exact .base (.dK e)
  | scr e r => exact absurd rfl (hn _)
def wIsa (T : String) (t : WE) : WE := fun z R => t z fun x z1 => ∃ d, evD z1 x = some d ∧ (∀ l, d ≠ .dict [(.none, .list l)]) ∧ R (.d (.bool (isA T d))) z1
theorem xe_isa {X : Cx} {F : Fx} {pos p p2 : Pos} {e : Expr} {t : WE} {T : Str} {n : String} (hk : KitOk n) (hg : Gl X "isinstance") (hm : X.mg "isinstance" = none) (he : XE X F e t) (hT : Gl X T) (hTm : X.mg T = none) (hTv : bootBuiltins T = some (.type n))
    (h1 : starEach [e, .Name T p2] X.env = (false, eval e X.env) :: starEach [.Name T p2] X.env := by rfl) (hpl : (backTo pos (starEach [.Name T p2] X.env)).any (·.1) = false := by rfl) (hn : T ≠ "__name__" := by decide) (hd : (T == ("__debug__" : Str)) = false := by decide) :
    XE X F (.Call (.Name "isinstance" p) [e, .Name T p2] [] pos) (wIsa n t) where
  mono := fun z R R' k w => he.mono _ _ _ (fun x z1 ⟨d, e, n, q⟩ => ⟨d, e, n, k _ _ q⟩) w
  run := pe_imp (pe_callB call_isi hg hm (by decide +kernel) (pa_cons he.run (pa_cons (pe_bltn hT hTm hTv (show RelV (.ty n) (.type n) from rfl) hn hd) pa_nil) h1) (he := h1) (hpl := hpl)) fun σ H Q ⟨z, I, ok, w⟩ =>
    he.at ok w fun x z1 v I1 H1 ⟨d, e, hn, q⟩ o s ev => ⟨v, .ty n, .type (tyName d), .type n, isA n d, rfl, .ty n, rp_ty (o.ev ev e) hn, kit_ty (kit_d hk d), q _ I1 H1 o s (.bl _)⟩

/-! ### methods of built-in types -/
def tyE (T : String) (z : SS) (x : EV) : Prop := (T = "list" ∧ ∃ l, lstOf z x = some l) ∨ (T = "str" ∧ ∃ t, x = .d (.str t))
abbrev FM := SS → EV → List EV → (RV → SS → Prop) → Prop
structure VM (X : Cx) (F : Fx) (r : V → List V → Hp → VK → Prop) (f : FM) : Prop where
  mono : ∀ z x xs k k', (∀ d z', k d z' → k' d z') → f z x xs k → f z x xs k'
  run : ∀ {σ : St} {z : SS} {I H : Hp} {x : EV} {v : V} {xs : List EV} {vs : List V} {Q : VK}, Ok X.K F z σ I H → EvOk X.K I σ x v → Paired (EvOk X.K I σ) xs vs → f z x xs (PostX X.K F z σ I H Q) → r v vs H Q
def wBM (T : String) (f : FM) (t : WE) (u : WA) : WR := fun z R => t z fun x z1 => tyE T z1 x ∧ u z1 fun xs z2 => f z2 x xs R
def wBM0 (T : String) (f : FM) (t : WE) : WR := fun z R => t z fun x z1 => tyE T z1 x ∧ f z1 x [] R
theorem PostX.step {K : PySem.W.Frag} {F : Fx} {z z1 z' : SS} {σ : St} {I I1 H H1 : Hp} {Q : VK} {r : RV} (s : Step z σ I H z1 I1 H1) (k : PostX K F z σ I H Q r z') : PostX K F z1 σ I1 H1 Q r z' := by
  cases r with
  | d x => exact fun v I' H' o t r => k v I' H' o (s.trans t) r
  | n l => exact fun a I' H' o t n => k a I' H' o (s.trans t) (n.back s)
section
variable {X : Cx} {F : Fx} {pos apos : Pos} {o e : Expr} {es : List Expr} {t : WE} {u : WA} {f : FM} {r : V → List V → Hp → VK → Prop} {id T : String} {name : Str}
theorem tyE_ok {z : SS} {σ : St} {I H : Hp} {x : EV} {v : V} (ok : Ok X.K F z σ I H) (ev : EvOk X.K I σ x v) (h : tyE T z x) : tyV X.K T v H := by
  rcases h with ⟨rfl, l, e⟩ | ⟨rfl, s, e⟩
  · obtain ⟨a, vs, rfl, hq, _⟩ := ok.lst ev e
    exact .inl ⟨rfl, vs, SqL.of hq⟩
  · subst e
    cases ev
    exact rfl
theorem xr_bm0 (pa : PlainAttrs T) (slot : Slot T name id) (hty : typeOf (.builtin id) = pure (.type "method_descriptor")) (hm : MtR X id r) (hf : VM X F r f) (ho : XE X F o t)
    (hbase : attributeBase o name X.env (eval o X.env) = eval o X.env := by rfl) (hline : (apos.endLine == pos.line) = true := by rfl) : XR X F (.Call (.Attribute o name apos) [] [] pos) (wBM0 T f t) :=
  ⟨fun z R R' k w => ho.mono _ _ _ (fun x z1 ⟨ty, q⟩ => ⟨ty, hf.mono _ _ _ _ _ k q⟩) w, pe_imp (pe_bm0 pa slot hty hm ho.run hbase hline) fun σ H Q ⟨z, I, ok, w⟩ =>
    ho.at ok w fun x z1 v I1 H1 ⟨ty, q⟩ o s ev => ⟨tyE_ok o ev ty, hf.run o ev .nil (hf.mono _ _ _ _ _ (fun d z' q => PostX.step s q) q)⟩⟩
theorem xr_bm (pa : PlainAttrs T) (slot : Slot T name id) (hty : typeOf (.builtin id) = pure (.type "method_descriptor")) (hm : MtR X id r) (hf : VM X F r f) (ho : XE X F o t) (ha : XA X F (e :: es) u)
    (hbase : attributeBase o name X.env (eval o X.env) = eval o X.env := by rfl) (hfew : ((backTo pos (starEach (e :: es) X.env)).all (fun x => !x.1) && (backToKw pos (keywordEach [] X.env)).all (fun x => x.1.isSome) && decide ((e :: es).length + ([] : List Keyword).length + (if ([] : List Keyword).isEmpty then 0 else 1) < 30)) = true := by rfl)
    (hline : (apos.endLine == pos.line) = true := by rfl) (hs : starEach (e :: es) X.env = (false, eval e X.env) :: starEach es X.env := by rfl) (hplain : (backTo pos (starEach es X.env)).any (·.1) = false := by rfl) :
    XR X F (.Call (.Attribute o name apos) (e :: es) [] pos) (wBM T f t u) :=
  ⟨fun z R R' k w => ho.mono _ _ _ (fun x z1 ⟨ty, q⟩ => ⟨ty, ha.mono _ _ _ (fun xs z2 q => hf.mono _ _ _ _ _ k q) q⟩) w, pe_imp (pe_bm pa slot hty hm ho.run ha.run hbase hfew hline hs hplain) fun σ H Q ⟨z, I, ok, w⟩ =>
    ho.at ok w fun x z1 v I1 H1 ⟨ty, q⟩ o s ev => ⟨tyE_ok o ev ty, ha.at o q fun xs z2 vs I2 H2 q o2 s2 evs => hf.run o2 (ev.mono s2.imm) evs (hf.mono _ _ _ _ _ (fun d z' q => PostX.step (s.trans s2) q) q)⟩⟩
end
/-- the own list of a slot is changed -/
theorem Ok.mutate {K : PySem.W.Frag} {F : Fx} {z : SS} {σ : St} {I H : Hp} {i : Nat} {b : Option Nat} {l l' : List D} {a : Addr} {vs : List V} (ok : Ok K F z σ I H) (h : z[i]? = some (some (.own b l))) (ha : σ[i]? = some (some (.ref a))) (r : RpA K I vs l') :
    Ok K F (z.set i (some (.own b l'))) σ I (upd H a (.lst vs)) ∧ Step z σ I H (z.set i (some (.own b l'))) I (upd H a (.lst vs)) := by
  obtain ⟨a', ws, e1, e2, e3, r0, tg⟩ := ok.own i b l h
  rw [ha] at e1; cases e1
  have hlt : i < z.length := (List.getElem?_eq_some_iff.mp h).1
  have gs : ∀ (j : Nat) (x : Option S), (z.set i (some (.own b l')))[j]? = some x → (j = i ∧ x = some (.own b l')) ∨ (j ≠ i ∧ z[j]? = some x) := fun j x e => by
    by_cases hj : j = i
    · subst hj; rw [List.getElem?_set_self hlt] at e; exact .inl ⟨rfl, (Option.some.inj e).symm⟩
    · rw [List.getElem?_set_ne (Ne.symm hj)] at e; exact .inr ⟨hj, e⟩
  refine ⟨⟨by rw [List.length_set]; exact ok.len, fun j d e => ?_, fun j b' m e => ?_, fun j k b1 b2 m1 m2 c e f g1 g2 => ?_, fun c o e => ?_, ok.base, ok.new, fun c o e hw => ?_, fun c hw => ?_⟩, fun _ _ e => e, fun _ _ e => .inl e, fun c o e hn => ?_, fun j b' m e => ?_, fun c e => ?_⟩
  · rcases gs j _ e with ⟨_, q⟩ | ⟨_, q⟩
    · cases q
    · exact ok.val j d q
  · rcases gs j _ e with ⟨rfl, q⟩ | ⟨hj, q⟩
    · cases q
      exact ⟨a, vs, ha, upd_same, e3, r, tg⟩
    · obtain ⟨c, us, f1, f2, f3, f4, f5⟩ := ok.own j b' m q
      refine ⟨c, us, f1, ?_, f3, f4, f5⟩
      rw [upd_ne]; exact f2
      rintro rfl
      exact hj (ok.dis _ _ _ _ _ _ _ q h f1 ha)
  · have back : ∀ (j : Nat) (b' : Option Nat) (m : List D), (z.set i (some (.own b l')))[j]? = some (some (.own b' m)) → ∃ b2 m2, z[j]? = some (some (.own b2 m2)) := fun j b' m e => by
      rcases gs j _ e with ⟨rfl, q⟩ | ⟨_, q⟩
      · exact ⟨b, l, h⟩
      · exact ⟨b', m, q⟩
    obtain ⟨_, _, q1⟩ := back j _ _ e
    obtain ⟨_, _, q2⟩ := back k _ _ f
    exact ok.dis j k _ _ _ _ c q1 q2 g1 g2
  · have ne : c ≠ a := fun q => by subst q; rw [e3] at e; cases e
    rw [upd_ne ne]; exact ok.sub c o e
  · have ne : c ≠ a := fun q => by
      subst q
      unfold Tag at tg
      cases b with
      | some k => exact hw (List.mem_of_getElem? tg)
      | none => simp only at tg; rw [tg] at e; cases e
    rw [upd_ne ne]; exact ok.keep c o e hw
  · obtain ⟨f1, f2, us, f3⟩ := ok.wf c hw
    refine ⟨f1, f2, ?_⟩
    by_cases q : c = a
    · subst q; exact ⟨vs, upd_same⟩
    · exact ⟨us, by rw [upd_ne q]; exact f3⟩
  · have ne : c ≠ a := fun q => hn ⟨i, b, l, h, by rw [ha, q]⟩
    rw [upd_ne ne]; exact e
  · rcases gs j _ e with ⟨rfl, q⟩ | ⟨_, q⟩
    · cases q; exact ⟨l, h⟩
    · exact ⟨m, q⟩
  · by_cases q : c = a
    · subst q; rw [upd_same] at e; cases e
    · rw [upd_ne q] at e; exact e
def mAppend : FM := fun z x xs k => ∃ i b l d, x = .o i ∧ xs = [.d d] ∧ z[i]? = some (some (.own b l)) ∧ l.length < sizeLine ∧ k (.d .none) (z.set i (some (.own b (l ++ [d]))))
def mExtend : FM := fun z x xs k => ∃ i b l y m, x = .o i ∧ xs = [y] ∧ z[i]? = some (some (.own b l)) ∧ lstOf z y = some m ∧ l.length + m.length ≤ sizeLine ∧ k (.d .none) (z.set i (some (.own b (l ++ m))))
def mPop : FM := fun z x xs k => ∃ i b l d, x = .o i ∧ xs = [] ∧ z[i]? = some (some (.own b l)) ∧ l[l.length - 1]? = some d ∧ k (.d d) (z.set i (some (.own b l.dropLast)))
section
variable {X : Cx} {F : Fx}
theorem vm_append : VM X F rAppend mAppend where
  mono := fun z x xs k k' h ⟨i, b, l, d, e1, e2, e3, e4, q⟩ => ⟨i, b, l, d, e1, e2, e3, e4, h _ _ q⟩
  run := fun {σ z I H x v xs vs Q} ok ev evs ⟨i, b, l, d, e1, e2, e3, e4, q⟩ => by
    subst e1 e2
    cases evs with
    | cons e5 t =>
      cases t
      obtain ⟨a, ws, f1, f2, f3, r, tg⟩ := ok.own i b l e3
      rw [show σ[i]? = some (some v) from ev] at f1; cases f1
      obtain ⟨o2, s2⟩ := ok.mutate e3 ev (r.append (.cons (show Rp X.K I _ d from e5) .nil))
      exact ⟨a, ws, _, rfl, rfl, f2, by rw [r.length]; exact e4, q _ _ _ o2 s2 .non⟩
theorem vm_extend : VM X F rExtend mExtend where
  mono := fun z x xs k k' h ⟨i, b, l, y, m, e1, e2, e3, e4, e5, q⟩ => ⟨i, b, l, y, m, e1, e2, e3, e4, e5, h _ _ q⟩
  run := fun {σ z I H x v xs vs Q} ok ev evs ⟨i, b, l, y, m, e1, e2, e3, e4, e5, q⟩ => by
    subst e1 e2
    cases evs with
    | cons e6 t =>
      cases t
      obtain ⟨a, ws, f1, f2, f3, r, tg⟩ := ok.own i b l e3
      rw [show σ[i]? = some (some v) from ev] at f1; cases f1
      obtain ⟨c, us, rfl, g2, r2⟩ := ok.lst e6 e4
      obtain ⟨o2, s2⟩ := ok.mutate e3 ev (r.append r2)
      exact ⟨a, c, ws, us, rfl, rfl, f2, g2, by rw [r.length, r2.length]; exact e5, q _ _ _ o2 s2 .non⟩
theorem vm_pop : VM X F rPop mPop where
  mono := fun z x xs k k' h ⟨i, b, l, d, e1, e2, e3, e4, q⟩ => ⟨i, b, l, d, e1, e2, e3, e4, h _ _ q⟩
  run := fun {σ z I H x v xs vs Q} ok ev evs ⟨i, b, l, d, e1, e2, e3, e4, q⟩ => by
    subst e1 e2
    cases evs
    obtain ⟨a, ws, f1, f2, f3, r, tg⟩ := ok.own i b l e3
    rw [show σ[i]? = some (some v) from ev] at f1; cases f1
    obtain ⟨o2, s2⟩ := ok.mutate e3 ev r.dropLast
    obtain ⟨y, g1, g2⟩ := r.get e4
    exact ⟨a, ws, y, rfl, rfl, f2, by rw [r.length]; exact g1, q _ _ _ o2 s2 g2⟩
variable {pos apos : Pos} {o e : Expr} {t : WE} {u : WA}
theorem xr_append (ho : XE X F o t) (ha : XA X F [e] u) (hbase : attributeBase o "append" X.env (eval o X.env) = eval o X.env := by rfl) (hfew : ((backTo pos (starEach [e] X.env)).all (fun x => !x.1) && (backToKw pos (keywordEach [] X.env)).all (fun x => x.1.isSome)
      && decide ([e].length + ([] : List Keyword).length + (if ([] : List Keyword).isEmpty then 0 else 1) < 30)) = true := by rfl) (hline : (apos.endLine == pos.line) = true := by rfl) (hs : starEach [e] X.env = (false, eval e X.env) :: starEach [] X.env := by rfl) : XR X F (.Call (.Attribute o "append" apos) [e] [] pos) (wBM "list" mAppend t u) :=
  xr_bm PySem.F.plainAttrs_list PySem.F.slot_list_append PySem.F.type_list_append mt_append vm_append ho ha (hbase := hbase) (hfew := hfew) (hline := hline) (hs := hs)
theorem xr_extend (ho : XE X F o t) (ha : XA X F [e] u) (hbase : attributeBase o "extend" X.env (eval o X.env) = eval o X.env := by rfl) (hfew : ((backTo pos (starEach [e] X.env)).all (fun x => !x.1) && (backToKw pos (keywordEach [] X.env)).all (fun x => x.1.isSome)
      && decide ([e].length + ([] : List Keyword).length + (if ([] : List Keyword).isEmpty then 0 else 1) < 30)) = true := by rfl) (hline : (apos.endLine == pos.line) = true := by rfl) (hs : starEach [e] X.env = (false, eval e X.env) :: starEach [] X.env := by rfl) : XR X F (.Call (.Attribute o "extend" apos) [e] [] pos) (wBM "list" mExtend t u) :=
  xr_bm PySem.F.plainAttrs_list PySem.F.slot_list_extend PySem.F.type_list_extend mt_extend vm_extend ho ha (hbase := hbase) (hfew := hfew) (hline := hline) (hs := hs)
theorem xr_pop (ho : XE X F o t) (hbase : attributeBase o "pop" X.env (eval o X.env) = eval o X.env := by rfl) (hline : (apos.endLine == pos.line) = true := by rfl) : XR X F (.Call (.Attribute o "pop" apos) [] [] pos) (wBM0 "list" mPop t) :=
  xr_bm0 PySem.F.plainAttrs_list PySem.F.slot_list_pop PySem.F.type_list_pop mt_pop vm_pop ho hbase hline
end
end L3
namespace L3
open PySem PySem.Spec PyProof.Rows L2 PySem.SeqAt

/-! ### slots changed -/
section
variable {K : PySem.W.Frag} {F : Fx} {z : SS} {σ : St} {I H : Hp}
theorem get_set {α : Type} {l : List α} {i j : Nat} {x y : α} (h : (l.set i x)[j]? = some y) : (j = i ∧ y = x ∧ i < l.length) ∨ (j ≠ i ∧ l[j]? = some y) := by
  by_cases hj : j = i
  · subst hj
    by_cases hl : j < l.length
    · rw [List.getElem?_set_self hl] at h; exact .inl ⟨rfl, (Option.some.inj h).symm, hl⟩
    · rw [List.getElem?_eq_none (by rw [List.length_set]; omega)] at h; cases h
  · rw [List.getElem?_set_ne (Ne.symm hj)] at h; exact .inr ⟨hj, h⟩
/-- a slot is given a datum -/
theorem Ok.set (ok : Ok K F z σ I H) {i : Nat} {v : V} {d : D} (r : Rp K I v d) : Ok K F (z.set i (some (.val d))) (σ.set i (some v)) I H := by
  refine ⟨by simp [ok.len], fun j x e => ?_, fun j b l e => ?_, fun j k b b' l l' a e f g h => ?_, ok.sub, ok.base, ok.new, ok.keep, ok.wf⟩
  · rcases get_set e with ⟨rfl, q, hl⟩ | ⟨hj, q⟩
    · cases q
      exact ⟨v, by rw [List.getElem?_set_self (by rw [← ok.len]; exact hl)], r⟩
    · obtain ⟨w, e2, r2⟩ := ok.val j x q
      exact ⟨w, by rw [List.getElem?_set_ne (Ne.symm hj)]; exact e2, r2⟩
  · rcases get_set e with ⟨rfl, q, hl⟩ | ⟨hj, q⟩
    · cases q
    · obtain ⟨a, vs, e2, r2⟩ := ok.own j b l q
      exact ⟨a, vs, by rw [List.getElem?_set_ne (Ne.symm hj)]; exact e2, r2⟩
  · rcases get_set e with ⟨rfl, q, hl⟩ | ⟨hj, q⟩
    · cases q
    rcases get_set f with ⟨rfl, q', hl⟩ | ⟨hk, q'⟩
    · cases q'
    rw [List.getElem?_set_ne (Ne.symm hj)] at g
    rw [List.getElem?_set_ne (Ne.symm hk)] at h
    exact ok.dis j k b b' l l' a q q' g h
/-- a slot is forgotten -/
theorem Ok.kill (ok : Ok K F z σ I H) (i : Nat) : Ok K F (z.set i none) σ I H := by
  have back : ∀ (j : Nat) (x : S), (z.set i none)[j]? = some (some x) → z[j]? = some (some x) := fun j x e => by
    rcases get_set e with ⟨rfl, q, hl⟩ | ⟨hj, q⟩
    · cases q
    · exact q
  exact ⟨by simp [ok.len], fun j x e => ok.val j x (back _ _ e), fun j b l e => ok.own j b l (back _ _ e), fun j k b b' l l' a e f g h => ok.dis j k b b' l l' a (back _ _ e) (back _ _ f) g h, ok.sub, ok.base, ok.new, ok.keep, ok.wf⟩
/-- the same slots, other places: those that z does not know may be anything -/
theorem Ok.slots {σ' : St} (ok : Ok K F z σ I H) (hl : σ'.length = σ.length) (h : ∀ (i : Nat) (s : S), z[i]? = some (some s) → σ'[i]? = σ[i]?) : Ok K F z σ' I H := by
  refine ⟨by rw [ok.len, hl], fun j x e => ?_, fun j b l e => ?_, fun j k b b' l l' a e f g g' => ?_, ok.sub, ok.base, ok.new, ok.keep, ok.wf⟩
  · rw [h j _ e]; exact ok.val j x e
  · rw [h j _ e]; exact ok.own j b l e
  · rw [h j _ e] at g; rw [h k _ f] at g'
    exact ok.dis j k b b' l l' a e f g g'
/-- a slot is given a new list of its own -/
theorem Ok.setOwn (ok : Ok K F z σ I H) {i : Nat} {a : Addr} {vs : List V} {l : List D} (ha : H a = some (.lst vs)) (r : RpA K I vs l) (hi : I a = none) (h0 : F.H0 a = none) (hn : ¬ IsOwn z σ a) : Ok K F (z.set i (some (.own none l))) (σ.set i (some (.ref a))) I H := by
  refine ⟨by simp [ok.len], fun j x e => ?_, fun j b m e => ?_, fun j k b b' m m' c e f g h => ?_, ok.sub, ok.base, ok.new, ok.keep, ok.wf⟩
  · rcases get_set e with ⟨rfl, q, hl⟩ | ⟨hj, q⟩
    · cases q
    · obtain ⟨w, e2, r2⟩ := ok.val j x q
      exact ⟨w, by rw [List.getElem?_set_ne (Ne.symm hj)]; exact e2, r2⟩
  · rcases get_set e with ⟨rfl, q, hl⟩ | ⟨hj, q⟩
    · cases q
      exact ⟨a, vs, by rw [List.getElem?_set_self (by rw [← ok.len]; exact hl)], ha, hi, r, h0⟩
    · obtain ⟨c, ws, e2, r2⟩ := ok.own j b m q
      exact ⟨c, ws, by rw [List.getElem?_set_ne (Ne.symm hj)]; exact e2, r2⟩
  · rcases get_set e with ⟨rfl, q, hl⟩ | ⟨hj, q⟩
    · rcases get_set f with ⟨rfl, q', hl'⟩ | ⟨hk, q'⟩
      · rfl
      · rw [List.getElem?_set_self (by rw [← ok.len]; exact hl)] at g
        rw [List.getElem?_set_ne (Ne.symm hk)] at h
        cases g
        exact absurd ⟨k, _, _, q', h⟩ hn
    · rw [List.getElem?_set_ne (Ne.symm hj)] at g
      rcases get_set f with ⟨rfl, q', hl'⟩ | ⟨hk, q'⟩
      · rw [List.getElem?_set_self (by rw [← ok.len]; exact hl')] at h
        cases h
        exact absurd ⟨j, _, _, q, g⟩ hn
      · rw [List.getElem?_set_ne (Ne.symm hk)] at h
        exact ok.dis j k b b' m m' c q q' g h
end

/-! ### statements -/
structure En where
  nx : SS → Prop
  rt : RV → SS → Prop
  bk : SS → Prop := fun _ => False
  ct : SS → Prop := fun _ => False
structure En.le (E E' : En) : Prop where
  nx : ∀ z, E.nx z → E'.nx z
  rt : ∀ r z, E.rt r z → E'.rt r z
  bk : ∀ z, E.bk z → E'.bk z
  ct : ∀ z, E.ct z → E'.ct z
abbrev WS := En → SS → Prop
def MonoS (t : WS) : Prop := ∀ E E' z, E.le E' → t E z → t E' z
/-- a new list that goes out -/
structure Out (K : PySem.W.Frag) (F : Fx) (z : SS) (σ : St) (I H : Hp) (a : Addr) (l : List D) : Prop where
  at_ : ∃ vs, H a = some (.lst vs) ∧ RpA K I vs l
  imm : I a = none
  h0 : F.H0 a = none
  nown : ¬ IsOwn z σ a
def RtOf (K : PySem.W.Frag) (F : Fx) (I : Hp) (Q : VK) : RV → SS → Prop
  | .d d, z => ∀ v σ I' H, Ok K F z σ I' H → Same I I' → Rp K I' v d → Q v H
  | .n l, z => ∀ a σ I' H, Ok K F z σ I' H → Same I I' → Out K F z σ I' H a l → Q (.ref a) H
def NxOf (K : PySem.W.Frag) (F : Fx) (I : Hp) (Q : St → Hp → Prop) : SS → Prop := fun z => ∀ σ I' H, Ok K F z σ I' H → Same I I' → Q σ H
def endsOf (K : PySem.W.Frag) (F : Fx) (I : Hp) (D : Ends) : En := ⟨NxOf K F I D.nx, RtOf K F I D.rt, NxOf K F I D.bk, NxOf K F I D.ct⟩
def liftS (K : PySem.W.Frag) (F : Fx) (t : WS) : TS := fun D σ H => ∃ z I, Ok K F z σ I H ∧ t (endsOf K F I D) z
structure XS (X : Cx) (F : Fx) (st : Stmt) (t : WS) : Prop where
  mono : MonoS t
  run : PS X st (liftS X.K F t)
structure XSs (X : Cx) (F : Fx) (st : List Stmt) (t : WS) : Prop where
  mono : MonoS t
  run : PSs X st (liftS X.K F t)
theorem ps_imp {X : Cx} {e : Stmt} {t t' : TS} (h : PS X e t) (i : ∀ D σ H, t' D σ H → t D σ H) : PS X e t' := ⟨fun pins s σ H D I q => h.run pins s σ H D I (i D σ H q)⟩
theorem pss_imp {X : Cx} {e : List Stmt} {t t' : TS} (h : PSs X e t) (i : ∀ D σ H, t' D σ H → t D σ H) : PSs X e t' := ⟨fun pins s σ H D I q => h.run pins s σ H D I (i D σ H q)⟩
section
variable {K : PySem.W.Frag} {F : Fx} {I I' : Hp}
theorem NxOf.later {Q : St → Hp → Prop} {z : SS} (s : Same I I') (h : NxOf K F I Q z) : NxOf K F I' Q z := fun σ I2 H ok t => h σ I2 H ok (s.trans t)
theorem RtOf.later {Q : VK} {r : RV} {z : SS} (s : Same I I') (h : RtOf K F I Q r z) : RtOf K F I' Q r z := by
  cases r with
  | d x => exact fun v σ I2 H ok t r => h v σ I2 H ok (s.trans t) r
  | n l => exact fun a σ I2 H ok t o => h a σ I2 H ok (s.trans t) o
theorem endsOf.later {D : Ends} (s : Same I I') : (endsOf K F I D).le (endsOf K F I' D) := ⟨fun _ h => h.later s, fun _ _ h => h.later s, fun _ h => h.later s, fun _ h => h.later s⟩
theorem En.le.refl {E : En} : E.le E := ⟨fun _ h => h, fun _ _ h => h, fun _ h => h, fun _ h => h⟩
end
section
variable {X : Cx} {F : Fx} {st : Stmt} {rest : List Stmt} {t u : WS} {pos : Pos} {e : Expr} {te : WE} {tr : WR}
theorem XS.at {z : SS} {σ : St} {I I0 H : Hp} {E : En} {D : Ends} (h : XS X F st t) (ok : Ok X.K F z σ I H) (w : t E z) (le : E.le (endsOf X.K F I D)) : liftS X.K F t D σ H := ⟨z, I, ok, h.mono _ _ _ le w⟩
def wNext : WS := fun E z => E.nx z
def wSeq (t u : WS) : WS := fun E z => t { E with nx := fun z' => u E z' } z
theorem xss_nil : XSs X F [] wNext := ⟨fun E E' z l w => l.nx z w, pss_imp pss_nil fun D σ H ⟨z, I, ok, w⟩ => w σ I H ok (Same.refl _)⟩
theorem xss_one (h : XS X F st t) : XSs X F [st] t := ⟨h.mono, pss_imp (pss_one h.run) fun D σ H w => w⟩
theorem xss_cons (h : XS X F st t) (g : XSs X F rest u) : XSs X F (st :: rest) (wSeq t u) :=
  ⟨fun E E' z l w => h.mono { E with nx := fun z' => u E z' } _ _ ⟨fun z' w => g.mono _ _ _ l w, l.rt, l.bk, l.ct⟩ w, pss_imp (pss_cons h.run g.run) fun D σ H ⟨z, I, ok, w⟩ =>
    ⟨z, I, ok, h.mono { endsOf X.K F I D with nx := fun z' => u (endsOf X.K F I D) z' } _ _ ⟨fun z' w σ' I' H' ok' s => ⟨z', I', ok', g.mono _ _ _ (endsOf.later s) w⟩, fun _ _ q => q, fun _ q => q, fun _ q => q⟩ w⟩⟩
theorem xs_pass : XS X F (.Pass pos) wNext := ⟨fun E E' z l w => l.nx z w, ps_imp ps_pass fun D σ H ⟨z, I, ok, w⟩ => w σ I H ok (Same.refl _)⟩
theorem xs_break : XS X F (.Break pos) (fun E z => E.bk z) := ⟨fun E E' z l w => l.bk z w, ps_imp ps_break fun D σ H ⟨z, I, ok, w⟩ => w σ I H ok (Same.refl _)⟩
theorem xs_continue : XS X F (.Continue pos) (fun E z => E.ct z) := ⟨fun E E' z l w => l.ct z w, ps_imp ps_continue fun D σ H ⟨z, I, ok, w⟩ => w σ I H ok (Same.refl _)⟩
theorem xs_never : XS X F st (fun _ _ => False) := ⟨fun _ _ _ _ w => w, ps_imp ps_never fun D σ H ⟨z, I, ok, w⟩ => w⟩
/-- slots forgotten behind a statement -/
def killAll : List Nat → SS → SS
  | [], z => z
  | i :: r, z => killAll r (z.set i none)
theorem Ok.killAll {K : PySem.W.Frag} {σ : St} {I H : Hp} : ∀ {is : List Nat} {z : SS}, Ok K F z σ I H → Ok K F (killAll is z) σ I H
  | [], _, ok => ok
  | i :: r, _, ok => Ok.killAll (is := r) (ok.kill i)
def wKill (is : List Nat) (t : WS) : WS := fun E z => t { E with nx := fun z' => E.nx (killAll is z'), ct := fun z' => E.ct (killAll is z') } z
theorem NxOf.kill {K : PySem.W.Frag} {I : Hp} {Q : St → Hp → Prop} {is : List Nat} {z : SS} (h : NxOf K F I Q (killAll is z)) : NxOf K F I Q z := fun σ I' H ok s => h σ I' H ok.killAll s
theorem xss_kill (is : List Nat) (h : XSs X F rest t) : XSs X F rest (wKill is t) :=
  ⟨fun E E' z l w => h.mono { E with nx := fun z' => E.nx (killAll is z'), ct := fun z' => E.ct (killAll is z') } _ _ ⟨fun z' q => l.nx _ q, l.rt, l.bk, fun z' q => l.ct _ q⟩ w, pss_imp h.run fun D σ H ⟨z, I, ok, w⟩ =>
    ⟨z, I, ok, h.mono { endsOf X.K F I D with nx := fun z' => (endsOf X.K F I D).nx (killAll is z'), ct := fun z' => (endsOf X.K F I D).ct (killAll is z') } _ _ ⟨fun z' q => q.kill, fun _ _ q => q, fun _ q => q, fun z' q => q.kill⟩ w⟩⟩
/-- an own list becomes a datum -/
def frzS (i : Nat) (z : SS) : Option SS := match z[i]? with
  | some (some (.own none l)) => some (z.set i (some (.val (.list l))))
  | _ => none
theorem Ok.frzS {K : PySem.W.Frag} {σ : St} {I H : Hp} {i : Nat} {z z' : SS} (ok : Ok K F z σ I H) (h : frzS i z = some z') : ∃ I', Ok K F z' σ I' H ∧ Same I I' := by
  unfold L3.frzS at h
  split at h
  · rename_i l e
    cases h
    obtain ⟨a, vs, e1, e2, e3, r, tg⟩ := ok.own i none l e
    have k := ok.kill i
    have hn : ¬ IsOwn (z.set i none) σ a := fun ⟨j, b, m, f1, f2⟩ => by
      rcases get_set f1 with ⟨rfl, q, hl⟩ | ⟨hj, q⟩
      · cases q
      · exact hj (ok.dis _ _ _ _ _ _ _ q e f2 e1)
    have k2 := k.freezeAt e2 e3 tg hn
    have si := same_upd (o := HO.lst vs) e3
    have k3 := k2.set (i := i) (v := .ref a) (d := .list l) (.lst upd_same (r.mono si))
    rw [List.set_set] at k3
    have hs : σ.set i (some (.ref a)) = σ := by
      apply List.ext_getElem?
      intro j
      by_cases hj : j = i
      · subst hj
        rw [List.getElem?_set_self (List.getElem?_eq_some_iff.mp e1).1, e1]
      · rw [List.getElem?_set_ne (Ne.symm hj)]
    rw [hs] at k3
    exact ⟨_, k3, si⟩
  · cases h
def wFreeze (i : Nat) (t : WS) : WS := fun E z => ∃ z', frzS i z = some z' ∧ t E z'
theorem xs_freeze (i : Nat) (h : XS X F st t) : XS X F st (wFreeze i t) :=
  ⟨fun E E' z l ⟨z', e, w⟩ => ⟨z', e, h.mono _ _ _ l w⟩, ps_imp h.run fun D σ H ⟨z, I, ok, z', e, w⟩ => by
    obtain ⟨I', ok', s⟩ := ok.frzS e
    exact ⟨z', I', ok', h.mono _ _ _ (endsOf.later s) w⟩⟩
/-- expressions as statements; return -/
def wDrop (t : WE) : WS := fun E z => t z fun _ z' => E.nx z'
theorem xs_expr (h : XE X F e te) (hs : swapsWith e none pos.line X.env = pure false := by rfl) : XS X F (.Expr e pos) (wDrop te) :=
  ⟨fun E E' z l w => h.mono _ _ _ (fun _ _ q => l.nx _ q) w, ps_imp (ps_expr h.run hs) fun D σ H ⟨z, I, ok, w⟩ => h.at ok w fun _ z' v I' H' q o s _ => q σ I' H' o s.imm⟩
def wRet (t : WE) : WS := fun E z => t z fun ev z' => ∃ d, ev = .d d ∧ E.rt (.d d) z'
theorem xs_ret (h : XE X F e te) : XS X F (.Return (some e) pos) (wRet te) :=
  ⟨fun E E' z l w => h.mono _ _ _ (fun _ _ ⟨d, e, q⟩ => ⟨d, e, l.rt _ _ q⟩) w, ps_imp (ps_ret h.run) fun D σ H ⟨z, I, ok, w⟩ => h.at ok w fun ev z' v I' H' ⟨d, e, q⟩ o s r => by
    subst e
    exact q v σ I' H' o s.imm r⟩
def wRetR (t : WR) : WS := fun E z => t z fun r z' => E.rt r z'
theorem xs_retR (h : XR X F e tr) : XS X F (.Return (some e) pos) (wRetR tr) :=
  ⟨fun E E' z l w => h.mono _ _ _ (fun _ _ q => l.rt _ _ q) w, ps_imp (ps_ret h.run) fun D σ H ⟨z, I, ok, w⟩ => ⟨z, I, ok, h.mono _ _ _ (fun r z' q => by
    cases r with
    | d x => exact fun v I' H' o s r => q v σ I' H' o s.imm r
    | n l => exact fun a I' H' o s n => q a σ I' H' o s.imm ⟨n.at_, n.imm, n.h0, n.nown⟩) w⟩⟩
/-- return of an own list: it goes out -/
def wRetO (i : Nat) : WS := fun E z => ∃ l, z[i]? = some (some (.own none l)) ∧ E.rt (.n l) (z.set i none)
theorem xs_retO (i : Nat) {x : Str} {p : Pos} (hN : X.N[i]? = some x := by rfl) (hv : Vis X.env.scope x := by first | exact Or.inl rfl | exact Or.inr (Or.inl rfl) | exact Or.inr (Or.inr rfl)) (hd : (x == ("__debug__" : Str)) = false := by decide)
    (hcd : (x == ("__classdict__" : Str)) = false := by decide) : XS X F (.Return (some (.Name x p)) pos) (wRetO i) :=
  ⟨fun E E' z l ⟨m, e, q⟩ => ⟨m, e, l.rt _ _ q⟩, ps_imp (ps_ret (pv i hN hv hd hcd)) fun D σ H ⟨z, I, ok, l, e, q⟩ => by
    obtain ⟨a, vs, e1, e2, e3, r, tg⟩ := ok.own i none l e
    refine ⟨.ref a, e1, q a σ I H (ok.kill i) (Same.refl _) ⟨⟨vs, e2, r⟩, e3, tg, fun ⟨j, b, m, f1, f2⟩ => ?_⟩⟩
    rcases get_set f1 with ⟨rfl, q, hl⟩ | ⟨hj, q⟩
    · cases q
    · exact hj (ok.dis _ _ _ _ _ _ _ q e f2 e1)⟩
def wIfS (c : WT) (t u : WS) : WS := fun E z => c z fun b z' => if b = true then t E z' else u E z'
theorem xs_if {c : Expr} {a b : List Stmt} {tc : WT} (hc : XT X F c tc) (ha : XSs X F a t) (hb : XSs X F b u) : XS X F (.If c a b pos) (wIfS tc t u) :=
  ⟨fun E E' z l w => hc.mono _ _ _ (fun b z' q => by
    cases b with
    | true => exact ha.mono _ _ _ l q
    | false => exact hb.mono _ _ _ l q) w, ps_imp (ps_if hc.run ha.run hb.run) fun D σ H ⟨z, I, ok, w⟩ => hc.at ok w fun b z' I' H' q o s => by
    cases b with
    | true => exact ⟨z', I', o, ha.mono _ _ _ (endsOf.later s.imm) q⟩
    | false => exact ⟨z', I', o, hb.mono _ _ _ (endsOf.later s.imm) q⟩⟩
end

/-! ### targets -/
abbrev GS := D → SS → Option SS
structure Tgt (is : List Nat) (z : SS) (σ : St) (z' : SS) (σ' : St) : Prop where
  wp : ∀ vs : List Nat, (∀ i ∈ is, i ∈ vs) → wipe σ' vs = wipe σ vs
  own : ∀ a, IsOwn z' σ' a → IsOwn z σ a
  idx : ∀ (i : Nat) (b : Option Nat) (l : List D), z'[i]? = some (some (.own b l)) → z[i]? = some (some (.own b l))
structure XG (X : Cx) (F : Fx) (tg : Expr) (is : List Nat) (g : GS) : Prop where
  run : PG X tg (fun v σ H Q => ∃ z I d z', Ok X.K F z σ I H ∧ Rp X.K I v d ∧ g d z = some z' ∧ ∀ σ', Ok X.K F z' σ' I H → Tgt is z σ z' σ' → Q σ' H)
structure XGs (X : Cx) (F : Fx) (tgs : List Expr) (is : List Nat) (g : List D → SS → Option SS) : Prop where
  run : PGs X tgs (fun vs σ H Q => ∃ z I ds z', Ok X.K F z σ I H ∧ RpA X.K I vs ds ∧ g ds z = some z' ∧ ∀ σ', Ok X.K F z' σ' I H → Tgt is z σ z' σ' → Q σ' H)
theorem wipe_set {σ : St} {i : Nat} {x : Option V} : ∀ {vs : List Nat}, i ∈ vs → wipe (σ.set i x) vs = wipe σ vs
  | v :: vs, h => by
    unfold wipe
    by_cases e : i = v
    · subst e
      by_cases hm : i ∈ vs
      · rw [wipe_set hm]
      · have out : ∀ (ws : List Nat), i ∉ ws → wipe (σ.set i x) ws = (wipe σ ws).set i x := by
          intro ws
          induction ws with
          | nil => intro _; rfl
          | cons w ws ih =>
            intro hw
            unfold wipe
            rw [ih (fun q => hw (List.mem_cons_of_mem _ q)), List.set_comm _ _ (fun q => hw (by rw [q]; exact List.mem_cons_self))]
        rw [out vs hm, List.set_set]
    · rw [wipe_set (List.mem_of_ne_of_mem e h)]
def gNm (i : Nat) : GS := fun d z => some (z.set i (some (.val d)))
def gAll : List GS → List D → SS → Option SS
  | [], [], z => some z
  | g :: gs, d :: ds, z => (g d z).bind (gAll gs ds)
  | _, _, _ => none
def gTp (gs : List GS) : GS := fun d z => match d with
  | .tuple ds => gAll gs ds z
  | .list ds => gAll gs ds z
  | _ => none
section
variable {X : Cx} {F : Fx} {pos : Pos}
theorem xg_name {i : Nat} {x : Str} (hN : X.N.Nodup) (hi : X.N[i]? = some x) (hx : Loc X.env.scope x) (hf : X.fn x = true ∨ X.env.scope.names.lookup x = some .local := by first | exact .inl rfl | exact .inr rfl | assumption) : XG X F (.Name x pos) [i] (gNm i) :=
  ⟨⟨fun pins s σ H v u Q I r ⟨z, I1, d, z', ok, rv, e, q⟩ => (pg_name hN hi hx hf).run pins s σ H v u Q I r (by
    cases e
    refine q _ (ok.set rv) ⟨fun vs h => wipe_set (h i (by simp)), fun a ⟨j, b, l, e1, e2⟩ => ?_, fun j b l e1 => ?_⟩
    · rcases get_set e1 with ⟨rfl, q, hl⟩ | ⟨hj, q⟩
      · cases q
      · rw [List.getElem?_set_ne fun e => hj e.symm] at e2
        exact ⟨j, b, l, q, e2⟩
    · rcases get_set e1 with ⟨rfl, q, hl⟩ | ⟨hj, q⟩
      · cases q
      · exact q)⟩⟩
theorem xgs_nil : XGs X F [] [] (gAll []) := ⟨⟨fun pins s σ H vs us Q I r ⟨z, I1, ds, z', ok, rv, e, q⟩ => by
  refine pgs_nil.run pins s σ H vs us Q I r ?_
  cases rv with
  | nil =>
    cases e
    exact ⟨rfl, q σ ok ⟨fun _ _ => rfl, fun _ h => h, fun _ _ _ h => h⟩⟩
  | cons _ _ => cases e⟩⟩
theorem xgs_cons {e : Expr} {es : List Expr} {is js : List Nat} {g : GS} {gs : List GS} (h1 : XG X F e is g) (h2 : XGs X F es js (gAll gs))
    (hs : (assignEach (e :: es) X.env).map (·.2) = assign e X.env :: (assignEach es X.env).map (·.2) := by rfl) : XGs X F (e :: es) (is ++ js) (gAll (g :: gs)) := ⟨⟨fun pins s σ H vs us Q I r ⟨z, I1, ds, z', ok, rv, e, q⟩ => by
  refine (pgs_cons h1.run h2.run hs).run pins s σ H vs us Q I r ?_
  cases rv with
  | nil => cases e
  | cons r1 rr =>
    obtain ⟨z1, e1, e2⟩ := Option.bind_eq_some_iff.mp e
    refine ⟨_, _, rfl, z, I1, _, z1, ok, r1, e1, fun σ1 ok1 w1 => ⟨z1, I1, _, z', ok1, rr, e2, fun σ2 ok2 w2 => q σ2 ok2 ⟨fun vs h => ?_, fun a h => w1.own a (w2.own a h), fun i b l h => w1.idx i b l (w2.idx i b l h)⟩⟩⟩
    rw [w2.wp vs fun i hi => h i (List.mem_append_right _ hi), w1.wp vs fun i hi => h i (List.mem_append_left _ hi)]⟩⟩
theorem xg_tup {es : List Expr} {k : Nat} {is : List Nat} {gs : List GS} (hc : X.calm = true) (h : XGs X F es is (gAll gs)) (hl : gs.length = es.length := by rfl)
    (hn : (assignEach es X.env).length = es.length := by rfl) (hst : (assignEach es X.env).findIdx? (·.1) = none := by rfl) : XG X F (.Tuple es k pos) is (gTp gs) := ⟨⟨fun pins s σ H v u Q I r ⟨z, I1, d, z', ok, rv, e, q⟩ => by
  have len : ∀ (gs : List GS) (ds : List D) (z z' : SS), gAll gs ds z = some z' → gs.length = ds.length := by
    intro gs
    induction gs with
    | nil => intro ds z z' e; cases ds with
      | nil => rfl
      | cons _ _ => cases e
    | cons g gs ih => intro ds z z' e; cases ds with
      | nil => cases e
      | cons d ds =>
        obtain ⟨z1, _, e2⟩ := Option.bind_eq_some_iff.mp e
        simp [ih ds z1 z' e2]
  cases d with
  | tuple ds =>
    cases rv with
    | tup hq ra =>
      have e2 : gAll gs ds z = some z' := e
      exact (pg_tup hc h.run hn hst).run pins s σ H _ u Q I r ⟨_, _, rfl, same_tup ok.sub hq, by rw [ra.length, ← len gs ds z z' e2, hl], z, I1, ds, z', ok, ra, e2, q⟩
  | list ds =>
    cases rv with
    | lst hq ra =>
      have e2 : gAll gs ds z = some z' := e
      exact (pg_lst hc h.run hn hst).run pins s σ H _ u Q I r ⟨_, _, rfl, SqL.of (ok.sub _ _ hq), by rw [ra.length, ← len gs ds z z' e2, hl], z, I1, ds, z', ok, ra, e2, q⟩
  | none => cases e
  | bool _ => cases e
  | int _ => cases e
  | str _ => cases e
  | dict _ => cases e⟩⟩
end

/-! ### assignments -/
section
variable {X : Cx} {F : Fx} {pos pos' : Pos} {e tg : Expr} {te : WE} {tr : WR}
def wAsg (t : WE) (g : GS) : WS := fun E z => t z fun ev z1 => ∃ d z2, ev = .d d ∧ g d z1 = some z2 ∧ E.nx z2
theorem xs_asg {is : List Nat} {g : GS} (h : XE X F e te) (hg : XG X F tg is g) (hs : swapsWithSole [tg] e pos.line X.env = pure false := by rfl) (hw : swappedStores [tg] e X.env = pure none := by rfl)
    (h1 : (assignEach [tg] X.env).map (·.2) = [assign tg X.env] := by rfl) : XS X F (.Assign [tg] e pos) (wAsg te g) :=
  ⟨fun E E' z l w => h.mono _ _ _ (fun ev z1 ⟨d, z2, e, f, q⟩ => ⟨d, z2, e, f, l.nx _ q⟩) w, ps_imp (ps_asg h.run hg.run hs hw h1) fun D σ H ⟨z, I, ok, w⟩ => h.at ok w fun ev z1 v I1 H1 ⟨d, z2, e, f, q⟩ o s r => by
    subst e
    exact ⟨z1, I1, d, z2, o, r, f, fun σ' ok' _ => q σ' I1 H1 ok' s.imm⟩⟩
def wSet (i : Nat) (t : WE) : WS := fun E z => t z fun ev z1 => ∃ d, ev = .d d ∧ E.nx (z1.set i (some (.val d)))
theorem xs_set {i : Nat} {x : Str} (hN : X.N.Nodup) (hi : X.N[i]? = some x) (hx : Loc X.env.scope x) (h : XE X F e te) (hs : swapsWith e (some (.Name x pos')) pos.line X.env = pure false := by rfl) (hf : X.fn x = true ∨ X.env.scope.names.lookup x = some .local := by first | exact .inl rfl | exact .inr rfl | assumption) :
    XS X F (.Assign [.Name x pos'] e pos) (wSet i te) :=
  ⟨fun E E' z l w => h.mono _ _ _ (fun ev z1 ⟨d, e, q⟩ => ⟨d, e, l.nx _ q⟩) w, ps_imp (ps_set hN hi hx h.run hs hf) fun D σ H ⟨z, I, ok, w⟩ => h.at ok w fun ev z1 v I1 H1 ⟨d, e, q⟩ o s r => by
    subst e
    exact q _ I1 H1 (o.set r) s.imm⟩
/-- name = a new list: its own -/
def wSetO (i : Nat) (t : WR) : WS := fun E z => t z fun r z1 => ∃ l, r = .n l ∧ E.nx (z1.set i (some (.own none l)))
theorem xs_setO {i : Nat} {x : Str} (hN : X.N.Nodup) (hi : X.N[i]? = some x) (hx : Loc X.env.scope x) (h : XR X F e tr) (hs : swapsWith e (some (.Name x pos')) pos.line X.env = pure false := by rfl) (hf : X.fn x = true ∨ X.env.scope.names.lookup x = some .local := by first | exact .inl rfl | exact .inr rfl | assumption) :
    XS X F (.Assign [.Name x pos'] e pos) (wSetO i tr) :=
  ⟨fun E E' z l w => h.mono _ _ _ (fun r z1 ⟨d, e, q⟩ => ⟨d, e, l.nx _ q⟩) w, ps_imp (ps_set hN hi hx h.run hs hf) fun D σ H ⟨z, I, ok, w⟩ => ⟨z, I, ok, h.mono _ _ _ (fun r z1 ⟨l, e, q⟩ => by
    subst e
    intro a I1 H1 o s n
    obtain ⟨vs, f1, f2⟩ := n.at_
    exact q _ I1 H1 (o.setOwn f1 f2 n.imm n.h0 n.nown) s.imm) w⟩⟩
/-- own[i] = e -/
def wPut (t to ti : WE) : WS := fun E z => t z fun ev z1 => to z1 fun o z2 => ti z2 fun i z3 => ∃ d s k b l j, ev = .d d ∧ o = .o s ∧ i = .d (.int k) ∧ z3[s]? = some (some (.own b l)) ∧ ixN l.length k = some j ∧ E.nx (z3.set s (some (.own b (l.set j d))))
theorem xs_put {o i : Expr} {to ti : WE} (h : XE X F e te) (ho : XE X F o to) (hi : XE X F i ti)
    (ha : ∀ v, assign (.Subscript o i pos') X.env v = (do
      let a0 ← holding [v] (eval o X.env)
      let a1 ← holding [v, a0] (eval i X.env)
      standAt pos'
      holding [v, a0, a1] (setItem a0 a1 v)
      release [v, a0, a1] []) := by intro _; rfl) (hs : swapsWithSole [.Subscript o i pos'] e pos.line X.env = pure false := by rfl) (hw : swappedStores [.Subscript o i pos'] e X.env = pure none := by rfl)
    (h1 : (assignEach [.Subscript o i pos'] X.env).map (·.2) = [assign (.Subscript o i pos') X.env] := by rfl) : XS X F (.Assign [.Subscript o i pos'] e pos) (wPut te to ti) :=
  ⟨fun E E' z l w => h.mono _ _ _ (fun _ _ w => ho.mono _ _ _ (fun _ _ w => hi.mono _ _ _ (fun _ _ ⟨d, s, k, b, m, j, e1, e2, e3, e4, e5, q⟩ => ⟨d, s, k, b, m, j, e1, e2, e3, e4, e5, l.nx _ q⟩) w) w) w,
    ps_imp (ps_asg h.run (pg_sub ho.run hi.run set_list ha) hs hw h1) fun D σ H ⟨z, I, ok, w⟩ => h.at ok w fun ev z1 v I1 H1 w o1 s1 r1 => ho.at o1 w fun ov z2 v2 I2 H2 w o2 s2 r2 => hi.at o2 w fun iv z3 v3 I3 H3 ⟨d, sl, k, b, m, j, e1, e2, e3, e4, e5, q⟩ o3 s3 r3 => by
      subst e1 e2 e3
      cases r3
      obtain ⟨a, ws, f1, f2, f3, r, tg⟩ := o3.own sl b m e4
      rw [show σ[sl]? = some (some v2) from r2] at f1; cases f1
      obtain ⟨o4, s4⟩ := o3.mutate e4 r2 (r.set j (Rp.mono s3.imm (Rp.mono s2.imm r1)))
      exact ⟨a, ws, k, j, rfl, rfl, f2, by rw [r.length]; exact e5, q σ I3 _ o4 ((s1.imm.trans s2.imm).trans s3.imm)⟩⟩
end

/-! ### while -/
section
variable {X : Cx} {F : Fx} {pos : Pos}
def wWhile (c : WT) (t : WS) : WS := fun E z => ∃ P : Nat → SS → Prop, (∃ m, P m z) ∧ ∀ m z, P m z → c z fun b z1 => if b = true then t { nx := fun z' => ∃ m', m' < m ∧ P m' z', rt := E.rt, bk := E.nx, ct := fun z' => ∃ m', m' < m ∧ P m' z' } z1 else E.nx z1
theorem xs_while {c : Expr} {body : List Stmt} {tc : WT} {t : WS} (hp : PassesOwn (model X.prog X.w) X.A X.env X.xe) (hc : XT X F c tc) (hb : XSs X F body t) : XS X F (.While c body [] pos) (wWhile tc t) :=
  ⟨fun E E' z l ⟨P, h0, h⟩ => ⟨P, h0, fun m z p => hc.mono _ _ _ (fun b z1 q => by
    cases b with
    | true => exact hb.mono { nx := fun z' => ∃ m', m' < m ∧ P m' z', rt := E.rt, bk := E.nx, ct := fun z' => ∃ m', m' < m ∧ P m' z' } _ _ ⟨fun _ q => q, l.rt, fun _ q => l.nx _ q, fun _ q => q⟩ q
    | false => exact l.nx _ q) (h m z p)⟩, ps_imp (ps_while hp hc.run hb.run) fun D σ H ⟨z, I, ok, P, ⟨m0, p0⟩, h⟩ => by
    refine ⟨fun m σ H => ∃ z I', Ok X.K F z σ I' H ∧ Same I I' ∧ P m z, ⟨m0, z, I, ok, Same.refl _, p0⟩, ?_⟩
    rintro m σ1 H1 ⟨z1, I1, ok1, s1, p1⟩
    refine hc.at ok1 (h m z1 p1) fun b z2 I2 H2 q o2 s2 => ?_
    cases b with
    | true =>
      refine ⟨fun σ' H' => ∃ m', m' < m ∧ ∃ z I', Ok X.K F z σ' I' H' ∧ Same I I' ∧ P m' z, fun σ' H' ⟨m', hm, r⟩ => ⟨m', hm, r⟩, z2, I2, o2, hb.mono _ _ _ ?_ q⟩
      have s12 := s1.trans s2.imm
      exact ⟨fun z' ⟨m', hm, p⟩ σ' I' H' ok' s' => ⟨m', hm, z', I', ok', s12.trans s', p⟩, fun _ _ q => q.later s12, fun _ q => q.later s12, fun z' ⟨m', hm, p⟩ σ' I' H' ok' s' => ⟨m', hm, z', I', ok', s12.trans s', p⟩⟩
    | false => exact q _ I2 H2 o2 (s1.trans s2.imm)⟩
end
end L3
namespace L3
open PySem PySem.Spec PyProof.Rows L2 PySem.SeqAt

/-! ### what is walked -/
def Serves (K : PySem.W.Frag) (F : Fx) (J : It) (items : List D) (I1 : Hp) : Prop := ∀ (z : SS) (σ : St) (I H : Hp), Ok K F z σ I H → Same I1 I →
  (∀ i, i < items.length → J.go i H) ∧ J.stop items.length H ∧ ∀ i x H', i < items.length → J.yld i H x H' → ∃ I' d, items[i]? = some d ∧ Ok K F z σ I' H' ∧ Step z σ I H z I' H' ∧ Rp K I' x d
abbrev WI := SS → (List D → SS → Prop) → Prop
def liftI (K : PySem.W.Frag) (F : Fx) (t : WI) : TI := fun σ H R => ∃ z I, Ok K F z σ I H ∧ t z fun items z' => ∀ J I' H', Ok K F z' σ I' H' → Step z σ I H z' I' H' → Serves K F J items I' → R J H'
structure XI (X : Cx) (F : Fx) (tg iter : Expr) (t : WI) : Prop where
  mono : Mono t
  run : PI X tg iter (liftI X.K F t)
theorem pi_imp {X : Cx} {tg e : Expr} {t t' : TI} (h : PI X tg e t) (i : ∀ σ H R, t' σ H R → t σ H R) : PI X tg e t' := ⟨fun pins s σ H R I q => h.run pins s σ H R I (i σ H R q)⟩
section
variable {K : PySem.W.Frag} {F : Fx}
theorem serves_list {a : Addr} {vs : List V} {l : List D} {I1 : Hp} (ha : I1 a = some (.lst vs)) (r : RpA K I1 vs l) : Serves K F (Itl K a) l I1 := fun z σ I H ok s => by
  have hq : SqL K H a vs := SqL.of (ok.sub _ _ (s _ _ ha))
  refine ⟨fun i hi => ?_, ⟨vs, hq, by rw [r.length]; exact Nat.le_refl _⟩, fun i x H' hi y => ?_⟩
  · have hi' : i < vs.length := by rw [r.length]; exact hi
    exact ⟨vs, vs[i], hq, by simp [hi']⟩
  · obtain ⟨rfl, y⟩ := y
    obtain ⟨d, e, rd⟩ := r.get' (y vs hq)
    exact ⟨I, d, e, ok, .refl, rd.mono s⟩
theorem serves_tup {a : Addr} {vs : List V} {l : List D} {I1 : Hp} (ha : SqT K I1 a vs) (r : RpA K I1 vs l) : Serves K F (Itt K a) l I1 := fun z σ I H ok s => by
  have hq : SqT K H a vs := same_tup ok.sub (same_tup s ha)
  refine ⟨fun i hi => ?_, ⟨vs, hq, by rw [r.length]; exact Nat.le_refl _⟩, fun i x H' hi y => ?_⟩
  · have hi' : i < vs.length := by rw [r.length]; exact hi
    exact ⟨vs, vs[i], hq, by simp [hi']⟩
  · obtain ⟨rfl, y⟩ := y
    obtain ⟨d, e, rd⟩ := r.get' (y vs hq)
    exact ⟨I, d, e, ok, .refl, rd.mono s⟩
def signs (t : Str) : List D := t.cps.toList.map fun c => .str ⟨#[c]⟩
theorem serves_str {t : Str} {I1 : Hp} : Serves K F (Its t) (signs t) I1 := fun z σ I H ok s => by
  have hl : (signs t).length = t.cps.size := by simp [signs]
  refine ⟨fun i hi => by rw [hl] at hi; exact hi, by rw [hl]; exact Nat.le_refl _, fun i x H' hi y => ?_⟩
  obtain ⟨rfl, c, e, rfl⟩ := y
  exact ⟨I, .str ⟨#[c]⟩, by simp [signs, e], ok, .refl, .str _⟩
def rangeD (lo hi : Int) : List D := (List.range (hi - lo).toNat).map fun (i : Nat) => .int (lo + (i : Int))
theorem serves_range {lo : Int} {n : Nat} {I1 : Hp} : Serves K F (Itr lo n) ((List.range n).map fun (i : Nat) => PyData.int (lo + i)) I1 := fun z σ I H ok s => by
  have hl : ((List.range n).map fun (i : Nat) => PyData.int (lo + i)).length = n := by simp
  refine ⟨fun i hi => by rw [hl] at hi; exact hi, by rw [hl]; exact Nat.le_refl _, fun i x H' hi y => ?_⟩
  rw [hl] at hi
  obtain ⟨rfl, rfl⟩ := y
  exact ⟨I, .int (lo + i), by simp [hi], ok, .refl, .int _⟩
end
def srcOf : EV → Option (List D)
  | .d (.list l) => some l
  | .d (.tuple l) => some l
  | .d (.str t) => some (signs t)
  | _ => none
section
variable {X : Cx} {F : Fx} {tg e : Expr} {t : WE} {te : TE}
theorem pi_any (he : PE X e te) : PI X tg e (fun σ H R => te σ H fun x K1 => (∃ a xs, x = .ref a ∧ SqL X.K K1 a xs ∧ R (Itl X.K a) K1) ∨ (∃ a xs, x = .ref a ∧ SqT X.K K1 a xs ∧ R (Itt X.K a) K1) ∨ (∃ t, x = .str t ∧ R (Its t) K1)) := by
  refine ⟨fun ps0 s σ H R I h => ?_⟩
  refine thn (he.run ps0 s σ H _ I h) fun v u1 ⟨x, K1, J1, m1, q1⟩ => ?_
  rcases q1 with ⟨a, xs, rfl, hq, q⟩ | ⟨a, xs, rfl, hq, q⟩ | ⟨y, rfl, q⟩
  · cases m1
    obtain ⟨cs0, rv0, p, hz0⟩ := J1.list hq
    refine wpAny_pyIter_list p.isList ?_
    refine ⟨u1.heap.objs.size, [u1.heap.objs.size], _, _, K1, rfl, J1.kept (t' := u1.toks) fun b o e => Heap.get?_push_of_some _ e, turn_list a _, ⟨_, Heap.get?_push_size _ rfl, rfl, rfl⟩, fun b hb0 => ?_, q⟩
    have e : b = u1.heap.objs.size := by simpa using hb0
    subst e
    exact J1.fpOk (Nat.le_refl _) (J1.hok.fresh (Nat.le_refl _))
  · cases m1
    obtain ⟨cs0, rv0, p, hz0⟩ := J1.tuple hq
    refine wpAny_pyIter_tuple (show u1.heap.IsTuple a cs0.toArray from p) ?_
    refine ⟨u1.heap.objs.size, [u1.heap.objs.size], _, _, K1, rfl, J1.kept (t' := u1.toks) fun b o e => Heap.get?_push_of_some _ e, turn_tuple a _, ⟨_, Heap.get?_push_size _ rfl, rfl, rfl⟩, fun b hb0 => ?_, q⟩
    have e : b = u1.heap.objs.size := by simpa using hb0
    subst e
    exact J1.fpOk (Nat.le_refl _) (J1.hok.fresh (Nat.le_refl _))
  · obtain ⟨t, rfl⟩ := m1
    cases ha : y.cps.all (· < 128)
    · exact wpAny_pyIter_wide ha (pi_one (tk := u1.toks) J1 _ (turn_str _ y t "str_iterator" (.inr rfl)) ⟨_, Heap.get?_push_size _ rfl, rfl, rfl⟩ q)
    · exact wpAny_pyIter_ascii ha (pi_one (tk := u1.toks) J1 _ (turn_str _ y t "str_ascii_iterator" (.inl rfl)) ⟨_, Heap.get?_push_size _ rfl, rfl, rfl⟩ q)
def wSrc (t : WE) : WI := fun z R => t z fun ev z1 => ∃ l, srcOf ev = some l ∧ R l z1
theorem xi_any (he : XE X F e t) : XI X F tg e (wSrc t) :=
  ⟨fun z R R' k w => he.mono _ _ _ (fun ev z1 ⟨l, e, q⟩ => ⟨l, e, k _ _ q⟩) w, pi_imp (pi_any he.run) fun σ H R ⟨z, I, ok, w⟩ => he.at ok w fun ev z1 v I1 H1 ⟨l, e, q⟩ o s r => by
    cases ev with
    | o i => cases e
    | d y =>
      cases y <;> simp [srcOf] at e
      · subst e
        cases r
        exact .inr (.inr ⟨_, rfl, q _ I1 H1 o s serves_str⟩)
      · subst e
        cases r with
        | lst h ra => exact .inl ⟨_, _, rfl, SqL.of (o.sub _ _ h), q _ I1 H1 o s (serves_list h ra)⟩
      · subst e
        cases r with
        | tup h ra => exact .inr (.inl ⟨_, _, rfl, same_tup o.sub h, q _ I1 H1 o s (serves_tup h ra)⟩)⟩
/-- ranges -/
def wRng1 (u : WA) : WI := fun z R => u z fun es z1 => ∃ j, es = [.d (.int j)] ∧ -(2 ^ 62) ≤ j ∧ j < 2 ^ 62 ∧ R (rangeD 0 j) z1
def wRng2 (u : WA) : WI := fun z R => u z fun es z1 => ∃ i j, es = [.d (.int i), .d (.int j)] ∧ (-(2 ^ 62) ≤ i ∧ i < 2 ^ 62 ∧ -(2 ^ 62) ≤ j ∧ j < 2 ^ 62) ∧ R (rangeD i j) z1
theorem xi_range1 {a : Expr} {u : WA} {p pos : Pos} (hg : Gl X "range") (hm : X.mg "range" = none) (ha : XA X F [a] u) (hs : starEach [a] X.env = [(false, eval a X.env)] := by rfl) : XI X F tg (.Call (.Name "range" p) [a] [] pos) (wRng1 u) :=
  ⟨fun z R R' k w => ha.mono _ _ _ (fun es z1 ⟨j, e, a, b, q⟩ => ⟨j, e, a, b, k _ _ q⟩) w, pi_imp (pi_range1 hg hm ha.run hs) fun σ H R ⟨z, I, ok, w⟩ => ha.at ok w fun es z1 vs I1 H1 ⟨j, e, a, b, q⟩ o s ev => by
    subst e
    cases ev with
    | cons e1 t =>
      cases t
      cases e1
      refine ⟨j, rfl, a, b, q _ I1 H1 o s ?_⟩
      have := @serves_range X.K F 0 j.toNat I1
      unfold rangeD
      rw [Int.sub_zero]
      exact this⟩
theorem xi_range2 {a b : Expr} {u : WA} {p pos : Pos} (hg : Gl X "range") (hm : X.mg "range" = none) (ha : XA X F [a, b] u) (hs : starEach [a, b] X.env = [(false, eval a X.env), (false, eval b X.env)] := by rfl) (hs2 : starEach [b] X.env = [(false, eval b X.env)] := by rfl) :
    XI X F tg (.Call (.Name "range" p) [a, b] [] pos) (wRng2 u) :=
  ⟨fun z R R' k w => ha.mono _ _ _ (fun es z1 ⟨i, j, e, a, q⟩ => ⟨i, j, e, a, k _ _ q⟩) w, pi_imp (pi_range2 hg hm ha.run hs hs2) fun σ H R ⟨z, I, ok, w⟩ => ha.at ok w fun es z1 vs I1 H1 ⟨i, j, e, a, q⟩ o s ev => by
    subst e
    cases ev with
    | cons e1 t =>
      cases t with
      | cons e2 t =>
        cases t
        cases e1; cases e2
        exact ⟨i, j, rfl, a, q _ I1 H1 o s serves_range⟩⟩
/-- list(range(..)) -/
def wLRg (lo : WE) : WR := fun z R => lo z fun x z1 => ∃ j, x = .d (.int j) ∧ RgOk 0 j ∧ R (.n (rangeD 0 j)) z1
theorem rgV_rp {K : PySem.W.Frag} {I : Hp} (a b : Int) : RpA K I (rgV a b) (rangeD a b) := by
  have h : ∀ (n : Nat), RpA K I ((List.range n).map fun (i : Nat) => V.int (a + i)) ((List.range n).map fun (i : Nat) => PyData.int (a + i)) := fun n => by
    induction n with
    | zero => exact .nil
    | succ n ih =>
      rw [List.range_succ, List.map_append, List.map_append]
      exact ih.append (.cons (.int _) .nil)
  have e : rgV a b = (List.range (b - a).toNat).map fun (i : Nat) => V.int (a + i) := by
    unfold rgV
    first | rfl | simp
  rw [e]
  exact h _
theorem xr_listrg {a : Expr} {t : WE} {p p2 pos pos2 : Pos} (hc : X.calm = true) (hg : Gl X "list") (hm : X.mg "list" = none) (hg2 : Gl X "range") (hm2 : X.mg "range" = none) (ha : XE X F a t) (na : starEach [a] X.env = (false, eval a X.env) :: starEach [] X.env := by rfl)
    (nb : starEach [.Call (.Name "range" p2) [a] [] pos2] X.env = (false, eval (.Call (.Name "range" p2) [a] [] pos2) X.env) :: starEach [] X.env := by rfl) : XR X F (.Call (.Name "list" p) [.Call (.Name "range" p2) [a] [] pos2] [] pos) (wLRg t) :=
  ⟨fun z R R' k w => ha.mono _ _ _ (fun x z1 ⟨j, e, c, q⟩ => ⟨j, e, c, k _ _ q⟩) w, pe_imp (pe_listRg hc hg hm (prg_1 hg2 hm2 ha.run na) nb) fun σ H Q ⟨z, I, ok, w⟩ => ha.at ok w fun x z1 v I1 H1 ⟨j, e, c, q⟩ o s ev => by
    subst e
    cases ev
    refine ⟨j, rfl, c, fun p hp => ?_⟩
    obtain ⟨o2, s2, n⟩ := o.newL (rgV_rp 0 j) hp
    exact q _ _ _ o2 (s.trans s2) (n.back s)⟩
end
/-! ### enumerate of a tuple -/
def tupItO (l : Addr) : Obj := { cls := .type "tuple_iterator", data := .fields #[.ref l, .int 0 0] }
def enumO (n : Addr) : Obj := { cls := .type "enumerate", data := .fields #[.none, .bool false, .ref n, rawInt 0, .none, .none] }
theorem meets_enumerate_newT (l : Addr) (items : Array Value) : Meets (Builtin.«enumerate.__new__» ⟨[.type "enumerate", .ref l], []⟩) fun _ R s =>
    s.heap.IsTuple l items ∧ R (.ok (.ret (.ref (s.heap.push (tupItO l)).objs.size))) { s with heap := (s.heap.push (tupItO l)).push (enumO s.heap.objs.size) } := by
  refine .of_wp fun P W Ar Rr u hu => ?_
  obtain ⟨hp0, gl, dd, tk, os⟩ := u
  obtain ⟨isT0, hu⟩ := hu
  have hsub := sub_enumerate
  have isT : Heap.IsTuple (Shared.heap ⟨hp0, gl, dd, tk, os⟩) l items := isT0
  wp_walk
  refine wpAny_stack_any fun _ => wpAny_pure ?_
  split
  · rename_i c _ _ _ _ _
    generalize (c == Value.type "enumerate") = cb
    cases cb <;> (wp_walk using wpAny_pyIter_tuple isT; exact ⟨_, rfl, hu⟩)
  · wp_walk using wpAny_pyIter_tuple isT
    exact ⟨_, rfl, hu⟩
theorem call_enumerate_tup {P : Program} {W : World} {Ar : Around} {Ex : Value → Shared → Prop} {u : Shared} {l : Addr} {cells : Array Value} {Q : Value → Shared → Prop} (isT : u.heap.IsTuple l cells)
    (h : ∀ hh, IsEnum hh (u.heap.objs.size + 1) u.heap.objs.size 0 .none → hh.IsTupleIter u.heap.objs.size l 0 → hh.objs.size = u.heap.objs.size + 2 → (∀ b o, u.heap.get? b = some o → hh.get? b = some o) → Q (.ref (u.heap.objs.size + 1)) { u with heap := hh }) :
    wpAny (model P W) Ar (call (.type "enumerate") [.ref l]) Q Ex u := by
  have sz : (u.heap.push (tupItO l)).objs.size = u.heap.objs.size + 1 := Heap.size_push ..
  have isE : IsEnum ((u.heap.push (tupItO l)).push (enumO u.heap.objs.size)) (u.heap.objs.size + 1) u.heap.objs.size 0 .none := by
    have g := Heap.get?_push_size (u.heap.push (tupItO l)) (o := enumO u.heap.objs.size) rfl
    rw [sz] at g
    exact g
  have fin := h _ isE ⟨_, Heap.get?_push_of_some _ (Heap.get?_push_size _ rfl), rfl, rfl⟩ (by rw [Heap.size_push, sz]) fun b o x => Heap.get?_push_of_some _ (Heap.get?_push_of_some _ x)
  refine callType_new F.called_enumerate (by decide) (F.typeCall_enumerate_1 _) (F.newCall_enumerate_1 _)
    (fun obj => F.args_object_init_2 obj _) F.entry_enumerate_new (meets_enumerate_newT l cells) ⟨isT, ?_⟩
  show _ ∧ _
  rw [sz]
  exact ⟨⟨_, isE, rfl⟩, fin⟩
def IteT (K : PySem.W.Frag) (a : Addr) : It :=
  ⟨fun i H => ∃ (xs : List V) (x : V), SqT K H a xs ∧ xs[i]? = some x, fun i H v H' => ∃ T x, v = .ref T ∧ H T = none ∧ H' = upd H T (.tup [.int (i : Nat), x]) ∧ ∀ xs, SqT K H a xs → xs[i]? = some x, fun i H => ∃ xs : List V, SqT K H a xs ∧ xs.length = i⟩
theorem turn_enumT {P : Program} {w : World} {K : PySem.W.Frag} {elts : List Expr} {kk : Nat} {tpos : Pos} (a e it : Addr) :
    Turn P w K (.Tuple elts kk tpos) (IteT K a) [e, it] e (fun i h => (∃ was, IsEnum h e it ((i : Nat) : Int) was) ∧ h.IsTupleIter it a i ∧ e ≠ it ∧ a ≠ it) where
  mem := by simp
  obj := fun i h stt b hb0 => by
    obtain ⟨⟨was, isE⟩, ⟨o, ob, oc, od⟩, _⟩ := stt
    have e' : b = e ∨ b = it := by simpa using hb0
    rcases e' with z | z
    · rw [z]; exact ⟨_, isE, fun v q => nomatch q⟩
    · rw [z]; exact ⟨o, ob, fun v q => by rw [od] at q; cases q⟩
  keep := fun i h hh1 stt k => let ⟨⟨was, isE⟩, hi, dI⟩ := stt; ⟨⟨was, k e (by simp) _ isE⟩, hi.at fun o q => k it (by simp) o q, dI⟩
  item := by
    intro X hP hw hK oc i ps0 s σ H E J fps stt gv
    subst hP hw hK
    obtain ⟨⟨was, isE⟩, isI, dI, dA⟩ := stt
    obtain ⟨xs, x, hq, hxx⟩ := gv
    obtain ⟨cs0, rv0, p, hz0⟩ := J.tuple hq
    obtain ⟨u, hu, ru⟩ := rv0.get hxx
    have ltE : e < s.heap.objs.size := Heap.lt_size isE
    have ltI : it < s.heap.objs.size := by obtain ⟨_, q, _⟩ := isI; exact Heap.lt_size q
    have neE : a ≠ e := fun q => by
      obtain ⟨o, ob, oc', _⟩ := id p
      rw [q] at ob
      rw [show s.heap.get? e = some _ from isE] at ob
      cases ob
      simp at oc'
    have pT : s.heap.IsTuple a cs0.toArray := p
    refine wpAny_pyNext_enum_itemD (Draws.tuple (prog := X.prog) (w := X.w) (A := X.A.in1) (show X.A.in1.handled = none from J.ok.hd oc) it a dA cs0.toArray) isE ⟨isI, pT⟩ (n := cs0.toArray.size) (by have := (List.getElem?_eq_some_iff.mp hu).1; simpa using this) dI (by simp [dI, Ne.symm neE]) fun y hh1 tk hy ob hst' hT hsz hkk => ?_
    have ey : y = u := by
      have hy' : cs0.toArray[i]? = some y := hy
      simp at hy'
      rw [hu] at hy'
      exact (Option.some.inj hy').symm
    subst ey
    refine ⟨_, rfl, wpAny_letOwnedTupleGo_enum (s := { s with heap := hh1, toks := tk + 1 }) ob fun h'' isE' sbx => ?_⟩
    have hT2 : h''.get? s.heap.objs.size = some { cls := .type "tuple", data := .seq #[.int i tk, y] } := (sbx.2 _ (Nat.ne_of_gt ltE)).trans hT
    have nw : ObjOk X.prog X.w (upd H s.heap.objs.size (.tup [.int (i : Nat), x])) h'' s.heap.objs.size (.tup [.int (i : Nat), x]) :=
      ⟨by show 2 ≤ sizeLine; decide, [.int i tk, y], .cons ⟨_, rfl⟩ (.cons ru .nil), ⟨_, hT2, rfl, _, rfl⟩⟩
    have J1 : Inv X ps0 σ (upd H s.heap.objs.size (.tup [.int (i : Nat), x])) { s with heap := h'', toks := tk + 1 } :=
      J.turnedNew (ch := [e, it]) (fun b ob hb0 q => (sbx.2 b (fun z => hb0 (by simp [z]))).trans (hkk b ob (fun z => hb0 (by simp [z])) (fun z => hb0 (by simp [z])) q)) fps (Nat.le_refl _) nw
    refine ⟨.ref s.heap.objs.size, _, J1, rfl, ⟨_, x, rfl, J.hok.fresh (Nat.le_refl _), rfl, fun ys hy => by rw [J.tuple_inj hy hq]; exact hxx⟩, ⟨⟨y, ?_⟩, hst'.1.at fun o q => (sbx.2 it (Ne.symm dI)).trans q, dI, dA⟩, fun b hb0 => ?_⟩
    · rw [show ((i + 1 : Nat) : Int) = (i : Int) + 1 from by omega]; exact isE'
    · have ltb : b < s.heap.objs.size := by
        have e' : b = e ∨ b = it := by simpa using hb0
        rcases e' with z | z
        · rw [z]; exact ltE
        · rw [z]; exact ltI
      rw [upd_ne (Nat.ne_of_lt ltb)]
      exact (fps b hb0).1
  done := by
    intro X hP hw hK oc i ps0 s σ H E J fps stt gv
    subst hP hw hK
    obtain ⟨⟨was, isE⟩, isI, dI, dA⟩ := stt
    obtain ⟨xs, hq, hxx⟩ := gv
    obtain ⟨cs0, rv0, p, hz0⟩ := J.tuple hq
    obtain ⟨f0, f1, f2, f3, f4, f5⟩ := fps it (by simp)
    have hl := rv0.length
    have pT : s.heap.IsTuple a cs0.toArray := p
    have ei : i = cs0.toArray.size := by rw [List.size_toArray, ← hl, hxx]
    subst ei
    exact wpAny_pyNext_enum_endD (Draws.tuple (prog := X.prog) (w := X.w) (A := X.A.in1) (show X.A.in1.handled = none from J.ok.hd oc) it a dA cs0.toArray) isE ⟨isI, pT⟩ fun hh1 eb => ⟨rfl, J.turned (t' := s.toks) (fun b o hb0 q => eb b o hb0 q) f0 f1 f3 f4 f5⟩
  self := fun A i s Q E stt h => let ⟨⟨_, isE⟩, _⟩ := stt; wpAny_pyIter_enum isE h
theorem pi_enumT {X : Cx} {e : Expr} {ta : TA} {p pos tpos : Pos} {elts : List Expr} {kk : Nat} (gv : Gl X "enumerate") (hm : X.mg "enumerate" = none) (ha : PA X [e] ta) (hs : starEach [e] X.env = [(false, eval e X.env)] := by rfl) :
    PI X (.Tuple elts kk tpos) (.Call (.Name "enumerate" p) [e] [] pos) (fun σ H R => ta σ H fun vs K1 => ∃ a xs, vs = [.ref a] ∧ ((SqL X.K K1 a xs ∧ R (Ite X.K a) K1) ∨ (SqT X.K K1 a xs ∧ R (IteT X.K a) K1))) := by
  refine ⟨fun ps0 s σ H R J h => ?_⟩
  refine Call_ (ld_blt J gv hm boot_enumerate (PyProof.Rows.callWith_type1 (thn (ha.run pos ps0 s σ H _ J h) fun us u1 ⟨vs, K1, J1, r1, q1⟩ => ?_) hs rfl))
  obtain ⟨a, xs, ex, q1⟩ := q1
  subst ex
  cases r1 with
  | cons r rr =>
    cases rr
    cases r
    have fr : ∀ b ∈ [u1.heap.objs.size + 1, u1.heap.objs.size], FpOk X ps0 K1 b := fun b hb0 => by
      have e' : b = u1.heap.objs.size + 1 ∨ b = u1.heap.objs.size := by simpa using hb0
      have hle : u1.heap.objs.size ≤ b := by
        rcases e' with z | z
        · rw [z]; exact Nat.le_add_right _ _
        · rw [z]; exact Nat.le_refl _
      exact J1.fpOk hle (J1.hok.fresh hle)
    rcases q1 with ⟨hq, q⟩ | ⟨hq, q⟩
    · obtain ⟨cs0, rv0, p', hz0⟩ := J1.list hq
      refine call_enumerate_list p'.isList fun hh1 isE isI hsz hkk => wpAny_pyIter_enum isE ?_
      have J2 : Inv X ps0 σ K1 { u1 with heap := hh1 } := J1.kept (t' := u1.toks) hkk
      exact ⟨u1.heap.objs.size + 1, [u1.heap.objs.size + 1, u1.heap.objs.size], _, _, K1, rfl, J2, turn_enum a (u1.heap.objs.size + 1) u1.heap.objs.size, ⟨⟨.none, isE⟩, isI, Nat.succ_ne_self _⟩, fr, q⟩
    · obtain ⟨cs0, rv0, p', hz0⟩ := J1.tuple hq
      have hal : a < u1.heap.objs.size := by
        obtain ⟨o, ob, _⟩ := id p'
        exact Heap.lt_size ob
      refine call_enumerate_tup (show u1.heap.IsTuple a cs0.toArray from p') fun hh1 isE isI hsz hkk => wpAny_pyIter_enum isE ?_
      have J2 : Inv X ps0 σ K1 { u1 with heap := hh1 } := J1.kept (t' := u1.toks) hkk
      exact ⟨u1.heap.objs.size + 1, [u1.heap.objs.size + 1, u1.heap.objs.size], _, _, K1, rfl, J2, turn_enumT a (u1.heap.objs.size + 1) u1.heap.objs.size, ⟨⟨.none, isE⟩, isI, Nat.succ_ne_self _, Nat.ne_of_lt hal⟩, fr, q⟩
def enumD (l : List D) : List D := l.zipIdx.map fun p => .tuple [.int (p.2 : Nat), p.1]
theorem enumD_len (l : List D) : (enumD l).length = l.length := by simp [enumD]
theorem enumD_get {l : List D} {i : Nat} {d : D} (h : l[i]? = some d) : (enumD l)[i]? = some (.tuple [.int (i : Nat), d]) := by
  simp [enumD, h]
section
variable {K : PySem.W.Frag} {F : Fx}
theorem pair_ok {z : SS} {σ : St} {I H : Hp} {T : Addr} {x : V} {d : D} {n : Nat} (ok : Ok K F z σ I H) (hT : H T = none) (r : Rp K I x d) :
    ∃ I', Ok K F z σ I' (upd H T (.tup [.int n, x])) ∧ Step z σ I H z I' (upd H T (.tup [.int n, x])) ∧ Rp K I' (.ref T) (.tuple [.int n, d]) := by
  obtain ⟨o2, s2⟩ := ok.alloc (.tup [.int n, x]) hT
  exact ⟨_, o2, s2, .tup (SqT.of upd_same) (.cons (.int _) (.cons (r.mono s2.imm) .nil))⟩
theorem serves_enum {a : Addr} {vs : List V} {l : List D} {I1 : Hp} (ha : I1 a = some (.lst vs)) (r : RpA K I1 vs l) : Serves K F (Ite K a) (enumD l) I1 := fun z σ I H ok s => by
  have hq : SqL K H a vs := SqL.of (ok.sub _ _ (s _ _ ha))
  rw [enumD_len]
  refine ⟨fun i hi => ?_, ⟨vs, hq, by rw [r.length]; exact Nat.le_refl _⟩, fun i x H' hi y => ?_⟩
  · have hi' : i < vs.length := by rw [r.length]; exact hi
    exact ⟨vs, vs[i], hq, by simp [hi']⟩
  · obtain ⟨T, x', rfl, hT, rfl, y⟩ := y
    obtain ⟨d, e, rd⟩ := r.get' (y vs hq)
    obtain ⟨I', o2, s2, r2⟩ := pair_ok (n := i) ok hT (rd.mono s)
    exact ⟨I', _, enumD_get e, o2, s2, r2⟩
theorem serves_enumT {a : Addr} {vs : List V} {l : List D} {I1 : Hp} (ha : SqT K I1 a vs) (r : RpA K I1 vs l) : Serves K F (IteT K a) (enumD l) I1 := fun z σ I H ok s => by
  have hq : SqT K H a vs := same_tup ok.sub (same_tup s ha)
  rw [enumD_len]
  refine ⟨fun i hi => ?_, ⟨vs, hq, r.length⟩, fun i x H' hi y => ?_⟩
  · have hi' : i < vs.length := by rw [r.length]; exact hi
    exact ⟨vs, vs[i], hq, by simp [hi']⟩
  · obtain ⟨T, x', rfl, hT, rfl, y⟩ := y
    obtain ⟨d, e, rd⟩ := r.get' (y vs hq)
    obtain ⟨I', o2, s2, r2⟩ := pair_ok (n := i) ok hT (rd.mono s)
    exact ⟨I', _, enumD_get e, o2, s2, r2⟩
end
def itemsD : D → Option (List D)
  | .list l => some l
  | .tuple l => some l
  | _ => none
def wEnum (u : WA) : WI := fun z R => u z fun es z1 => ∃ d l, es = [.d d] ∧ itemsD d = some l ∧ R (enumD l) z1
theorem xi_enum {X : Cx} {F : Fx} {e : Expr} {u : WA} {p pos tpos : Pos} {elts : List Expr} {kk : Nat} (hg : Gl X "enumerate") (hm : X.mg "enumerate" = none) (ha : XA X F [e] u) (hs : starEach [e] X.env = [(false, eval e X.env)] := by rfl) :
    XI X F (.Tuple elts kk tpos) (.Call (.Name "enumerate" p) [e] [] pos) (wEnum u) :=
  ⟨fun z R R' k w => ha.mono _ _ _ (fun es z1 ⟨d, l, e1, e2, q⟩ => ⟨d, l, e1, e2, k _ _ q⟩) w, pi_imp (pi_enumT hg hm ha.run hs) fun σ H R ⟨z, I, ok, w⟩ => ha.at ok w fun es z1 vs I1 H1 ⟨d, l, e1, e2, q⟩ o s ev => by
    subst e1
    cases ev with
    | cons r t =>
      cases t
      cases d <;> simp [itemsD] at e2
      · subst e2
        cases r with
        | lst h ra => exact ⟨_, _, rfl, .inl ⟨SqL.of (o.sub _ _ h), q _ I1 H1 o s (serves_enum h ra)⟩⟩
      · subst e2
        cases r with
        | tup h ra => exact ⟨_, _, rfl, .inr ⟨same_tup o.sub h, q _ I1 H1 o s (serves_enumT h ra)⟩⟩⟩
end L3
namespace L3
open PySem PySem.Spec PyProof.Rows L2 PySem.SeqAt

/-! ### for -/
def wForL (g : GS) (t : WS) (E : En) : List D → SS → Prop
  | [], z => E.nx z
  | x :: xs, z => ∃ z1, g x z = some z1 ∧ t { nx := fun z' => wForL g t E xs z', rt := E.rt, bk := E.nx, ct := fun z' => wForL g t E xs z' } z1
def wFor (s : WI) (g : GS) (t : WS) : WS := fun E z => s z fun items z1 => wForL g t E items z1
theorem wForL_mono {g : GS} {t : WS} (h : MonoS t) {E E' : En} (le : E.le E') : ∀ (l : List D) (z : SS), wForL g t E l z → wForL g t E' l z
  | [], z, w => le.nx z w
  | x :: xs, z, ⟨z1, e, w⟩ => ⟨z1, e, h { nx := fun z' => wForL g t E xs z', rt := E.rt, bk := E.nx, ct := fun z' => wForL g t E xs z' } _ _ ⟨fun z' q => wForL_mono h le xs z' q, le.rt, le.nx, fun z' q => wForL_mono h le xs z' q⟩ w⟩
section
variable {X : Cx} {F : Fx} {pos : Pos} {tg iter : Expr} {body : List Stmt} {s : WI} {g : GS} {t : WS} {is : List Nat}
theorem xs_for (hp : PassesOwn (model X.prog X.w) X.A X.env X.xe) (hc : X.calm = true) (hi : XI X F tg iter s) (hg : XG X F tg is g) (hb : XSs X F body t)
    (hs : ∀ x, foldedSetIterable iter X.env x = pure x := by intro _; rfl) : XS X F (.For tg iter body [] pos) (wFor s g t) :=
  ⟨fun E E' z l w => hi.mono _ _ _ (fun items z1 q => wForL_mono hb.mono l items z1 q) w, ps_imp (ps_for hp hc hi.run hg.run hb.run hs) fun D σ H ⟨z, I, ok, w⟩ => ⟨z, I, ok, hi.mono _ _ _ (fun items z1 w J I1 H1 ok1 s1 sv => by
    refine ⟨fun i m σ H => m = items.length - i ∧ i ≤ items.length ∧ ∃ z I', Ok X.K F z σ I' H ∧ Same I1 I' ∧ wForL g t (endsOf X.K F I D) (items.drop i) z, ⟨items.length, by simp, Nat.zero_le _, z1, I1, ok1, Same.refl _, by simpa using w⟩, ?_⟩
    rintro i m σ2 H2 ⟨rfl, hi, z2, I2, ok2, s2, w2⟩
    obtain ⟨go, stop, yld⟩ := sv z2 σ2 I2 H2 ok2 s2
    by_cases hlt : i < items.length
    · refine .inr ⟨go i hlt, fun σ' H' => ∃ z I', Ok X.K F z σ' I' H' ∧ Same I1 I' ∧ wForL g t (endsOf X.K F I D) (items.drop (i + 1)) z, fun σ' H' ⟨z', I', a, b, c⟩ => ⟨items.length - (i + 1), by omega, rfl, hlt, z', I', a, b, c⟩, fun x H' y => ?_⟩
      obtain ⟨I3, d, e, ok3, s3, r⟩ := yld i x H' hlt y
      have ed : items.drop i = d :: items.drop (i + 1) := by
        rw [List.drop_eq_getElem_cons hlt]
        rw [List.getElem?_eq_getElem hlt] at e
        rw [Option.some.inj e]
      rw [ed] at w2
      obtain ⟨z4, e4, w4⟩ := w2
      refine ⟨z2, I3, d, z4, ok3, r, e4, fun σ' ok' _ => ⟨z4, I3, ok', hb.mono { nx := fun z' => wForL g t (endsOf X.K F I D) (items.drop (i + 1)) z', rt := (endsOf X.K F I D).rt, bk := (endsOf X.K F I D).nx, ct := fun z' => wForL g t (endsOf X.K F I D) (items.drop (i + 1)) z' } _ _ ?_ w4⟩⟩
      have s13 := s2.trans s3.imm
      have s03 := s1.imm.trans s13
      exact ⟨fun z' q σ' I' H' ok' s' => ⟨z', I', ok', s13.trans s', q⟩, fun _ _ q => q.later s03, fun _ q => q.later s03, fun z' q σ' I' H' ok' s' => ⟨z', I', ok', s13.trans s', q⟩⟩
    · have e : i = items.length := by omega
      subst e
      refine .inl ⟨stop, ?_⟩
      rw [List.drop_length] at w2
      exact w2 σ2 I2 H2 ok2 (s1.imm.trans s2)) w⟩⟩
end

/-! ### list comprehensions -/
structure CI (K : PySem.W.Frag) (F : Fx) (zb : SS) (σb : St) (Ib Hb : Hp) (a : Addr) (z : SS) (σ : St) (I H : Hp) (acc : List D) : Prop where
  ok : Ok K F z σ I H
  imm : Same Ib I
  new : ∀ c o, I c = some o → Ib c = some o ∨ Hb c = none ∨ IsOwn zb σb c
  keep : ∀ c o, Hb c = some o → ¬ IsOwn zb σb c → H c = some o
  own : ∀ c, IsOwn z σ c → IsOwn zb σb c
  osub : ∀ (i : Nat) (b : Option Nat) (l : List D), z[i]? = some (some (.own b l)) → ∃ l' : List D, zb[i]? = some (some (.own b l'))
  there : ∀ c, H c = none → Hb c = none
  acc : ∃ vs, H a = some (.lst vs) ∧ RpA K I vs acc
  dI : I a = none
  d0 : F.H0 a = none
  dW : a ∉ F.W
  dB : Hb a = none
  dO : ¬ IsOwn zb σb a
section
variable {K : PySem.W.Frag} {F : Fx} {zb z z' : SS} {σb σ σ' : St} {Ib Hb I H I' H' : Hp} {a : Addr} {acc : List D}
theorem CI.step (c : CI K F zb σb Ib Hb a z σ I H acc) (ok : Ok K F z' σ I' H') (s : Step z σ I H z' I' H') : CI K F zb σb Ib Hb a z' σ I' H' acc where
  ok := ok
  imm := c.imm.trans s.imm
  new := fun b o h => by
    rcases s.new b o h with h | h | h
    · exact c.new b o h
    · exact .inr (.inl (c.there b h))
    · exact .inr (.inr (c.own b h))
  keep := fun b o h hn => s.keep b o (c.keep b o h hn) fun q => hn (c.own b q)
  own := fun b h => c.own b (s.own h)
  osub := fun i b l h => by
    obtain ⟨l1, h1⟩ := s.osub i b l h
    exact c.osub i b l1 h1
  there := fun b h => c.there b (s.there b h)
  acc := by
    obtain ⟨vs, e, r⟩ := c.acc
    exact ⟨vs, s.keep a _ e fun q => c.dO (c.own a q), r.mono s.imm⟩
  dI := by
    cases q : I' a with
    | none => rfl
    | some o =>
      rcases s.new a o q with h | h | h
      · rw [c.dI] at h; cases h
      · obtain ⟨vs, e, _⟩ := c.acc
        rw [h] at e; cases e
      · exact absurd (c.own a h) c.dO
  d0 := c.d0
  dW := c.dW
  dB := c.dB
  dO := c.dO
theorem CI.app (c : CI K F zb σb Ib Hb a z σ I H acc) {d : D} {v : V} (r : Rp K I v d) : ∃ vs, H a = some (.lst vs) ∧ vs.length = acc.length ∧ CI K F zb σb Ib Hb a z σ I (upd H a (.lst (vs ++ [v]))) (acc ++ [d]) := by
  obtain ⟨vs, e, ra⟩ := c.acc
  have hn : ¬ IsOwn z σ a := fun q => c.dO (c.own a q)
  refine ⟨vs, e, ra.length, ⟨⟨c.ok.len, c.ok.val, fun i b l h => ?_, c.ok.dis, fun b o h => ?_, c.ok.base, c.ok.new, fun b o h hw => ?_, fun b hw => ?_⟩, c.imm, c.new, fun b o h hn => ?_, c.own, c.osub, fun b h => ?_, ⟨_, upd_same, ra.append (.cons r .nil)⟩, c.dI, c.d0, c.dW, c.dB, c.dO⟩⟩
  · obtain ⟨p, ws, e1, e2, e3⟩ := c.ok.own i b l h
    have ne : p ≠ a := fun q => hn ⟨i, b, l, h, by rw [e1, q]⟩
    exact ⟨p, ws, e1, by rw [upd_ne ne]; exact e2, e3⟩
  · have ne : b ≠ a := fun q => by subst q; rw [c.dI] at h; cases h
    rw [upd_ne ne]; exact c.ok.sub b o h
  · have ne : b ≠ a := fun q => by subst q; rw [c.d0] at h; cases h
    rw [upd_ne ne]; exact c.ok.keep b o h hw
  · obtain ⟨f1, f2, ws, f3⟩ := c.ok.wf b hw
    have ne : b ≠ a := fun q => c.dW (by rw [← q]; exact hw)
    exact ⟨f1, f2, ws, by rw [upd_ne ne]; exact f3⟩
  · have ne : b ≠ a := fun q => by subst q; rw [c.dB] at h; cases h
    rw [upd_ne ne]; exact c.keep b o h hn
  · by_cases q : b = a
    · subst q; exact c.dB
    · rw [upd_ne q] at h; exact c.there b h
theorem killAll_len : ∀ (is : List Nat) (z : SS), (killAll is z).length = z.length
  | [], _ => rfl
  | i :: r, z => by unfold killAll; rw [killAll_len r, List.length_set]
theorem killAll_get : ∀ {is : List Nat} {z : SS} {j : Nat} {x : S}, (killAll is z)[j]? = some (some x) → j ∉ is ∧ z[j]? = some (some x)
  | [], _, _, _, h => ⟨by simp, h⟩
  | i :: r, z, j, x, h => by
    unfold killAll at h
    obtain ⟨h1, h2⟩ := killAll_get h
    rcases get_set h2 with ⟨rfl, q, hl⟩ | ⟨hj, q⟩
    · cases q
    · exact ⟨by simp [hj, h1], q⟩
/-- the block's own names forgotten -/
theorem CI.wiped (c : CI K F zb σb Ib Hb a z σ' I H acc) {vs : List Nat} (hw : wipe σ' vs = wipe σ vs) : CI K F zb σb Ib Hb a (killAll vs z) (wipe σ vs) I H acc := by
  have hl : (wipe σ vs).length = σ'.length := by rw [← hw, wipe_length]
  have ok2 : Ok K F (killAll vs z) (wipe σ vs) I H := (c.ok.killAll (is := vs)).slots hl fun i s h => by
    rw [← hw]; exact wipe_out (killAll_get h).1
  refine ⟨ok2, c.imm, c.new, c.keep, fun b ⟨i, t, l, e1, e2⟩ => ?_, fun i b l h => c.osub i b l (killAll_get h).2, c.there, c.acc, c.dI, c.d0, c.dW, c.dB, c.dO⟩
  obtain ⟨h1, h2⟩ := killAll_get e1
  rw [← hw, wipe_out h1] at e2
  exact c.own b ⟨i, t, l, h2, e2⟩
theorem CI.tgt {is : List Nat} (c : CI K F zb σb Ib Hb a z σ I H acc) (ok : Ok K F z' σ' I H) (t : Tgt is z σ z' σ') : CI K F zb σb Ib Hb a z' σ' I H acc :=
  ⟨ok, c.imm, c.new, c.keep, fun b h => c.own b (t.own b h), fun i b l h => c.osub i b l (t.idx i b l h), c.there, c.acc, c.dI, c.d0, c.dW, c.dB, c.dO⟩
end
def restS : List Nat → SS → SS → SS
  | [], _, z' => z'
  | i :: r, z, z' => (restS r z z').set i (match z[i]? with
    | some (some (.val d)) => some (.val d)
    | _ => none)
theorem restS_len : ∀ (is : List Nat) (z z' : SS), (restS is z z').length = z'.length
  | [], _, _ => rfl
  | i :: r, z, z' => by unfold restS; rw [List.length_set, restS_len r]
theorem restS_get : ∀ {is : List Nat} {z z' : SS} {j : Nat} {x : S}, (restS is z z')[j]? = some (some x) → (j ∉ is ∧ z'[j]? = some (some x)) ∨ (∃ d, x = .val d ∧ z[j]? = some (some (.val d)))
  | [], _, _, _, _, h => .inl ⟨by simp, h⟩
  | i :: r, z, z', j, x, h => by
    unfold restS at h
    rcases get_set h with ⟨rfl, q, hl⟩ | ⟨hj, q⟩
    · split at q
      · rename_i d e
        cases q
        exact .inr ⟨d, rfl, e⟩
      · cases q
    · rcases restS_get q with ⟨h1, h2⟩ | h2
      · exact .inl ⟨by simp [hj, h1], h2⟩
      · exact .inr h2
section
variable {K : PySem.W.Frag} {F : Fx} {zb z : SS} {σ : St} {Ib Hb I H : Hp} {a : Addr} {acc : List D}
/-- the comprehension is made -/
theorem CI.done (c : CI K F zb σ Ib Hb a z (wipe σ vs) I H acc) (okb : Ok K F zb σ Ib Hb) : Ok K F (restS vs zb z) σ I H ∧ Step zb σ Ib Hb (restS vs zb z) I H ∧ New K F (restS vs zb z) σ I Hb H a acc := by
  have hl : z.length = σ.length := by rw [c.ok.len, wipe_length]
  have owns : ∀ (i : Nat) (b : Option Nat) (l : List D), (restS vs zb z)[i]? = some (some (.own b l)) → i ∉ vs ∧ z[i]? = some (some (.own b l)) := fun i b l h => by
    rcases restS_get h with h | ⟨d, q, _⟩
    · exact h
    · cases q
  have isown : ∀ p, IsOwn (restS vs zb z) σ p → IsOwn z (wipe σ vs) p := fun p ⟨i, b, l, e1, e2⟩ => by
    obtain ⟨h1, h2⟩ := owns i b l e1
    exact ⟨i, b, l, h2, by rw [wipe_out h1]; exact e2⟩
  refine ⟨⟨by rw [restS_len, hl], fun i d h => ?_, fun i b l h => ?_, fun i j b b' l l' p e f g h => ?_, c.ok.sub, c.ok.base, c.ok.new, c.ok.keep, c.ok.wf⟩, ⟨c.imm, c.new, c.keep, fun i b l h => c.osub i b l (owns i b l h).2, c.there⟩, ⟨c.dB, c.acc, c.dI, c.d0, fun q => c.dO (c.own a (isown a q))⟩⟩
  · rcases restS_get h with ⟨h1, h2⟩ | ⟨d', q, h2⟩
    · obtain ⟨v, e, r⟩ := c.ok.val i d h2
      exact ⟨v, by rw [← wipe_out h1]; exact e, r⟩
    · cases q
      obtain ⟨v, e, r⟩ := okb.val i _ h2
      exact ⟨v, e, r.mono c.imm⟩
  · obtain ⟨h1, h2⟩ := owns i b l h
    obtain ⟨p, ws, e1, e2⟩ := c.ok.own i b l h2
    exact ⟨p, ws, by rw [← wipe_out h1]; exact e1, e2⟩
  · obtain ⟨h1, h2⟩ := owns i b l e
    obtain ⟨h3, h4⟩ := owns j b' l' f
    exact c.ok.dis i j b b' l l' p h2 h4 (by rw [wipe_out h1]; exact g) (by rw [wipe_out h3]; exact h)
/-- a comprehension begins -/
theorem Ok.begin (ok : Ok K F z σ I H) (hp : H a = none) (vs : List Nat) : CI K F z σ I H a (L3.killAll vs z) (wipe σ vs) I (upd H a (.lst [])) [] := by
  obtain ⟨o2, s2⟩ := ok.fresh (.lst []) hp
  have c : CI K F z σ I H a z σ I (upd H a (.lst [])) [] := ⟨o2, s2.imm, s2.new, s2.keep, fun _ h => h, s2.osub, s2.there, ⟨[], upd_same, .nil⟩, ok.i0 hp, (ok.h0 hp).1, (ok.h0 hp).2, hp, ok.nown hp⟩
  exact c.wiped rfl
end
structure XTs (X : Cx) (F : Fx) (ifs : List Expr) (t : WT) : Prop where
  mono : Mono t
  run : PTs X ifs (liftT X.K F t)
theorem pts_imp {X : Cx} {e : List Expr} {t t' : TT} (h : PTs X e t) (i : ∀ σ H Q, t' σ H Q → t σ H Q) : PTs X e t' := ⟨fun pins s σ H Q I q => h.run pins s σ H Q I (i σ H Q q)⟩
def wYes : WT := fun z R => R true z
theorem xts_nil {X : Cx} {F : Fx} : XTs X F [] wYes := ⟨fun z R R' k w => k _ _ w, pts_imp pts_nil fun σ H Q ⟨z, I, ok, w⟩ => w I H ok .refl⟩
theorem xts_one {X : Cx} {F : Fx} {c : Expr} {t : WT} (h : XT X F c t) : XTs X F [c] t := ⟨h.mono, pts_one h.run⟩
def wLcL (g : GS) (own : List Nat) (tt : WT) (te : WE) (k : List D → SS → Prop) : List D → List D → SS → Prop
  | [], acc, z => k acc z
  | x :: xs, acc, z => ∃ z1, g x z = some z1 ∧ tt z1 fun b z2 => if b = true then te z2 fun ev z3 => ∃ d, ev = .d d ∧ acc.length < sizeLine ∧ wLcL g own tt te k xs (acc ++ [d]) (killAll own z3) else wLcL g own tt te k xs acc (killAll own z2)
theorem wLcL_mono {g : GS} {own : List Nat} {tt : WT} {te : WE} {k k' : List D → SS → Prop} (ht : Mono tt) (he : Mono te) (hk : ∀ acc z, k acc z → k' acc z) : ∀ (l acc : List D) (z : SS), wLcL g own tt te k l acc z → wLcL g own tt te k' l acc z
  | [], acc, z, w => hk acc z w
  | x :: xs, acc, z, ⟨z1, e, w⟩ => ⟨z1, e, ht _ _ _ (fun b z2 q => by
    cases b with
    | true => exact he _ _ _ (fun ev z3 ⟨d, e, l, q⟩ => ⟨d, e, l, wLcL_mono ht he hk xs _ _ q⟩) q
    | false => exact wLcL_mono ht he hk xs _ _ q) w⟩
def wLc (s : WI) (g : GS) (own : List Nat) (tt : WT) (te : WE) : WR := fun z R => s z fun items z1 => wLcL g own tt te (fun acc z' => R (.n acc) (restS own z1 z')) items [] (killAll own z1)
def wLcL2 (g : GS) (own : List Nat) (tt : WT) (s1 : WI) (g1 : GS) (vs1 : List Nat) (tt1 : WT) (te : WE) (k : List D → SS → Prop) : List D → List D → SS → Prop
  | [], acc, z => k acc z
  | x :: xs, acc, z => ∃ z1, g x z = some z1 ∧ tt z1 fun b z2 => if b = true then s1 z2 fun items z3 => wLcL g1 vs1 tt1 te (fun acc' z4 => wLcL2 g own tt s1 g1 vs1 tt1 te k xs acc' (killAll own z4)) items acc (killAll vs1 z3) else wLcL2 g own tt s1 g1 vs1 tt1 te k xs acc (killAll own z2)
def wLc2 (s : WI) (g : GS) (own : List Nat) (tt : WT) (s1 : WI) (g1 : GS) (vs1 : List Nat) (tt1 : WT) (te : WE) : WR := fun z R => s z fun items z1 => wLcL2 g own tt s1 g1 vs1 tt1 te (fun acc z' => R (.n acc) (restS own z1 z')) items [] (killAll own z1)
section
variable {X : Cx} {F : Fx} {tg iter elt : Expr} {g : GS} {tt : WT} {te : WE} {vs : List Nat}
/-- one clause's loop -/
theorem lc_loop {is : List Nat} {ifs : List Expr} {J : It} {items acc : List D} {I1 : Hp} {zb : SS} {σb : St} {Ib Hb : Hp} {a : Addr} {k : List D → SS → Prop} {Fin : Hp → Prop} {z : SS} {σ : St} {I H : Hp} {gt : TG} {t1 : TT} {t2 : TE}
    (hg : ∀ v σ H Q, (∃ z I d z', Ok X.K F z σ I H ∧ Rp X.K I v d ∧ g d z = some z' ∧ ∀ σ', Ok X.K F z' σ' I H → Tgt is z σ z' σ' → Q σ' H) → gt v σ H Q) (hv : ∀ i ∈ is, i ∈ vs)
    (ht : ∀ σ H Q, liftT X.K F tt σ H Q → t1 σ H Q) (mt : Mono tt) (he : ∀ σ H Q, liftE X.K F te σ H Q → t2 σ H Q) (me : Mono te)
    (sv : Serves X.K F J items I1) (c : CI X.K F zb σb Ib Hb a z (wipe σ vs) I H acc) (hI : Same I1 I) (w : wLcL g vs tt te k items acc z)
    (fin : ∀ z I H acc, CI X.K F zb σb Ib Hb a z (wipe σ vs) I H acc → k acc z → Fin H) :
    ∃ W : Nat → Nat → Hp → Prop, (∃ m, W 0 m H) ∧ ∀ i m H, W i m H →
      (J.stop i H ∧ Fin H) ∨ (J.go i H ∧ ∃ Nx : Hp → Prop, (∀ H', Nx H' → ∃ m', m' < m ∧ W (i + 1) m' H') ∧ ∀ x H', J.yld i H x H' → gt x (wipe σ vs) H' fun σ2 H2 => wipe σ2 vs = wipe σ vs ∧ t1 σ2 H2 fun b H3 =>
        if b = true then t2 σ2 H3 fun y H4 => ∃ acc, H4 a = some (.lst acc) ∧ acc.length < sizeLine ∧ Nx (upd H4 a (.lst (acc ++ [y]))) else Nx H3) := by
  refine ⟨fun i m H => m = items.length - i ∧ i ≤ items.length ∧ ∃ z I acc, CI X.K F zb σb Ib Hb a z (wipe σ vs) I H acc ∧ Same I1 I ∧ wLcL g vs tt te k (items.drop i) acc z, ⟨items.length, by simp, Nat.zero_le _, z, I, acc, c, hI, by simpa using w⟩, ?_⟩
  rintro i m H2 ⟨rfl, hi, z2, I2, acc2, c2, s2, w2⟩
  obtain ⟨go, stop, yld⟩ := sv z2 _ I2 H2 c2.ok s2
  by_cases hlt : i < items.length
  · refine .inr ⟨go i hlt, fun H' => ∃ z I acc, CI X.K F zb σb Ib Hb a z (wipe σ vs) I H' acc ∧ Same I1 I ∧ wLcL g vs tt te k (items.drop (i + 1)) acc z, fun H' ⟨z', I', acc', p, q, r⟩ => ⟨items.length - (i + 1), by omega, rfl, hlt, z', I', acc', p, q, r⟩, fun x H' y => ?_⟩
    obtain ⟨I3, d, e, ok3, s3, r⟩ := yld i x H' hlt y
    have ed : items.drop i = d :: items.drop (i + 1) := by
      rw [List.drop_eq_getElem_cons hlt]
      rw [List.getElem?_eq_getElem hlt] at e
      rw [Option.some.inj e]
    rw [ed] at w2
    obtain ⟨z4, e4, w4⟩ := w2
    have c3 := c2.step ok3 s3
    refine hg _ _ _ _ ⟨z2, I3, d, z4, ok3, r, e4, fun σ' ok' tg => ⟨?_, ?_⟩⟩
    · have := tg.wp vs hv
      rw [this]
      have hww : ∀ (ws : List Nat), wipe (wipe σ ws) ws = wipe σ ws := by
        intro ws
        have hs : ∀ (us : List Nat), (∀ i ∈ us, i ∈ ws) → wipe (wipe σ us) ws = wipe σ ws := by
          intro us
          induction us with
          | nil => intro _; rfl
          | cons u us ih =>
            intro hm
            show wipe ((wipe σ us).set u none) ws = _
            rw [wipe_set (hm u List.mem_cons_self), ih fun i hi => hm i (List.mem_cons_of_mem _ hi)]
        exact hs ws fun _ h => h
      rw [hww]
    · have hw' : wipe σ' vs = wipe σ vs := by
        have := tg.wp vs hv
        rw [this]
        have hs : ∀ (us : List Nat), (∀ i ∈ us, i ∈ vs) → wipe (wipe σ us) vs = wipe σ vs := by
          intro us
          induction us with
          | nil => intro _; rfl
          | cons u us ih =>
            intro hm
            show wipe ((wipe σ us).set u none) vs = _
            rw [wipe_set (hm u List.mem_cons_self), ih fun i hi => hm i (List.mem_cons_of_mem _ hi)]
        exact hs vs fun _ h => h
      have c4 := c3.tgt ok' tg
      refine ht _ _ _ ⟨z4, I3, ok', mt _ _ _ (fun b z5 q I5 H5 o5 s5 => ?_) w4⟩
      have c5 := c4.step o5 s5
      cases b with
      | true =>
        simp only [if_true] at q ⊢
        refine he _ _ _ ⟨z5, I5, o5, me _ _ _ (fun ev z6 ⟨d', e', hl, q⟩ v I6 H6 o6 s6 r6 => ?_) q⟩
        subst e'
        obtain ⟨ws, f1, f2, c7⟩ := (c5.step o6 s6).app r6
        exact ⟨ws, f1, by rw [f2]; exact hl, _, I6, _, c7.wiped hw', ((s2.trans s3.imm).trans s5.imm).trans s6.imm, q⟩
      | false =>
        simp only [Bool.false_eq_true, if_false] at q ⊢
        exact ⟨_, I5, _, c5.wiped hw', (s2.trans s3.imm).trans s5.imm, q⟩
  · have e : i = items.length := by omega
    subst e
    rw [List.drop_length] at w2
    exact .inl ⟨stop, fin z2 I2 H2 acc2 c2 w2⟩
variable {ifs : List Expr} {scope : Scope} {own : List (Str × Nat)} {pos : Pos} {s : WI} {is : List Nat}
theorem lc_run {σ : St} {H : Hp} {Q : VK} (hi : Mono s) (hv : ∀ i ∈ is, i ∈ own.map (·.2)) (mt : Mono tt) (me : Mono te) (h : liftR X.K F (wLc s g (own.map (·.2)) tt te) σ H Q) :
    tLc (liftI X.K F s) (fun v σ H Q => ∃ z I d z', Ok X.K F z σ I H ∧ Rp X.K I v d ∧ g d z = some z' ∧ ∀ σ', Ok X.K F z' σ' I H → Tgt is z σ z' σ' → Q σ' H) (liftT X.K F tt) (liftE X.K F te) (own.map (·.2)) σ H Q := by
  obtain ⟨z, I, ok, w⟩ := h
  refine ⟨z, I, ok, hi _ _ _ (fun items z1 w J I1 H1 ok1 s1 sv a ha => ?_) w⟩
  refine lc_loop (X := X) (ifs := []) (fun _ _ _ _ q => q) hv (fun _ _ _ q => q) mt (fun _ _ _ q => q) me sv (ok1.begin ha (own.map (·.2))) (Same.refl _) w fun z2 I2 H2 acc c q => ?_
  obtain ⟨o3, s3, n⟩ := c.done ok1
  exact q a I2 H2 o3 (s1.trans s3) (n.back s1)
theorem xr_lc (hc : X.calm = true) (hN : X.N.Nodup) (hi : XI X F tg iter s) (ok : BlkOk X.N X.env.scope scope own) (hv : ∀ i ∈ is, i ∈ own.map (·.2))
    (hg : ∀ (s : Shared) (H : Hp) (C : Addr) (cl : List (Str × Addr)) (fp : List Addr), XG (X.blk s H scope (compEnvC scope cl C X.env) fp) F tg is g) (ht : ∀ (s : Shared) (H : Hp) (C : Addr) (cl : List (Str × Addr)) (fp : List Addr), XTs (X.blk s H scope (compEnvC scope cl C X.env) fp) F ifs tt)
    (he : ∀ (s : Shared) (H : Hp) (C : Addr) (cl : List (Str × Addr)) (fp : List Addr), XE (X.blk s H scope (compEnvC scope cl C X.env) fp) F elt te) (mt : Mono tt) (me : Mono te) (hs : ∀ x, foldedSetIterable iter X.env x = pure x := by intro _; rfl) :
    XR X F (.ListComp elt [⟨tg, iter, ifs, 0⟩] scope pos) (wLc s g (own.map (·.2)) tt te) :=
  ⟨fun z R R' k w => hi.mono _ _ _ (fun items z1 q => wLcL_mono mt me (fun acc z q => k _ _ q) _ _ _ q) w,
    pe_imp (pe_lc hc hN hi.run ok (fun s H C cl fp => (hg s H C cl fp).run) (fun s H C cl fp => (ht s H C cl fp).run) (fun s H C cl fp => (he s H C cl fp).run) hs) fun σ H Q h => lc_run hi.mono hv mt me h⟩
/-- name = [..] -/
def wLcSet (i : Nat) (t : WR) : WS := fun E z => t z fun r z1 => E.nx (z1.set i (some (.val r.toD)))
theorem xs_setLc {i : Nat} {y : Str} {py spos : Pos} (hc : X.calm = true) (hN : X.N.Nodup) (hy : X.N[i]? = some y) (hyl : X.env.scope.names.lookup y = some .local)
    (hsw : swapsWith (.ListComp elt [⟨tg, iter, ifs, 0⟩] scope pos) (some (.Name y py)) spos.line X.env = pure true) (hi : XI X F tg iter s) (ok : BlkOk X.N X.env.scope scope own) (hv : ∀ i ∈ is, i ∈ own.map (·.2))
    (hg : ∀ (s : Shared) (H : Hp) (C : Addr) (cl : List (Str × Addr)) (fp : List Addr), XG (X.blk s H scope (compEnvC scope cl C X.env) fp) F tg is g) (ht : ∀ (s : Shared) (H : Hp) (C : Addr) (cl : List (Str × Addr)) (fp : List Addr), XTs (X.blk s H scope (compEnvC scope cl C X.env) fp) F ifs tt)
    (he : ∀ (s : Shared) (H : Hp) (C : Addr) (cl : List (Str × Addr)) (fp : List Addr), XE (X.blk s H scope (compEnvC scope cl C X.env) fp) F elt te) (mt : Mono tt) (me : Mono te) (hs : ∀ x, foldedSetIterable iter X.env x = pure x := by intro _; rfl) :
    XS X F (.Assign [.Name y py] (.ListComp elt [⟨tg, iter, ifs, 0⟩] scope pos) spos) (wLcSet i (wLc s g (own.map (·.2)) tt te)) :=
  ⟨fun E E' z l w => hi.mono _ _ _ (fun items z1 q => wLcL_mono mt me (fun acc z q => l.nx _ q) _ _ _ q) w,
    ps_imp (ps_setLc hc hN hy hyl hsw hi.run ok (fun s H C cl fp => (hg s H C cl fp).run) (fun s H C cl fp => (ht s H C cl fp).run) (fun s H C cl fp => (he s H C cl fp).run) hs) fun D σ H ⟨z, I, o, w⟩ => by
      refine lc_run (X := X) (Q := fun x H1 => gName i x σ H1 D.nx) hi.mono hv mt me ⟨z, I, o, hi.mono _ _ _ (fun items z1 q => wLcL_mono mt me (fun acc z' q => ?_) _ _ _ q) w⟩
      refine PostX.frz fun v I' H' o' s' r => ?_
      exact q _ I' H' (o'.set r) s'.imm⟩
end
end L3
namespace L3
open PySem PySem.Spec PyProof.Rows L2 PySem.SeqAt

/-! ### comprehensions of two clauses -/
section
variable {X : Cx} {F : Fx} {tg iter tg1 iter1 elt : Expr} {g g1 : GS} {tt tt1 : WT} {te : WE} {vs1 : List Nat}
variable {ifs ifs1 : List Expr} {scope : Scope} {own : List (Str × Nat)} {pos : Pos} {s s1 : WI} {is is1 : List Nat}
theorem wLcL2_mono {k k' : List D → SS → Prop} {own : List Nat} (ht : Mono tt) (hs : Mono s1) (ht1 : Mono tt1) (he : Mono te) (hk : ∀ acc z, k acc z → k' acc z) : ∀ (l acc : List D) (z : SS), wLcL2 g own tt s1 g1 vs1 tt1 te k l acc z → wLcL2 g own tt s1 g1 vs1 tt1 te k' l acc z
  | [], acc, z, w => hk acc z w
  | x :: xs, acc, z, ⟨z1, e, w⟩ => ⟨z1, e, ht _ _ _ (fun b z2 q => by
    cases b with
    | true => exact hs _ _ _ (fun items z3 q => wLcL_mono ht1 he (fun acc' z4 q => wLcL2_mono ht hs ht1 he hk xs _ _ q) _ _ _ q) q
    | false => exact wLcL2_mono ht hs ht1 he hk xs _ _ q) w⟩
theorem wipe_wipe {σ : St} {us ws : List Nat} (h : ∀ i ∈ us, i ∈ ws) : wipe (wipe σ us) ws = wipe σ ws := by
  induction us with
  | nil => rfl
  | cons u us ih =>
    show wipe ((wipe σ us).set u none) ws = _
    rw [wipe_set (h u List.mem_cons_self), ih fun i hi => h i (List.mem_cons_of_mem _ hi)]
theorem lc2_run {σ : St} {Hz : Hp} {Q : VK} (hi : Mono s) (hv : ∀ i ∈ is, i ∈ own.map (·.2)) (hv1 : ∀ i ∈ is1, i ∈ vs1) (hvo : ∀ i ∈ vs1, i ∈ own.map (·.2)) (mt : Mono tt) (ms : Mono s1) (mt1 : Mono tt1) (me : Mono te) (h : liftR X.K F (wLc2 s g (own.map (·.2)) tt s1 g1 vs1 tt1 te) σ Hz Q) :
    tLc2 (liftI X.K F s) (fun v σ H Q => ∃ z I d z', Ok X.K F z σ I H ∧ Rp X.K I v d ∧ g d z = some z' ∧ ∀ σ', Ok X.K F z' σ' I H → Tgt is z σ z' σ' → Q σ' H) (liftT X.K F tt) (liftI X.K F s1)
      (fun v σ H Q => ∃ z I d z', Ok X.K F z σ I H ∧ Rp X.K I v d ∧ g1 d z = some z' ∧ ∀ σ', Ok X.K F z' σ' I H → Tgt is1 z σ z' σ' → Q σ' H) (liftT X.K F tt1) (liftE X.K F te) (own.map (·.2)) vs1 σ Hz Q := by
  obtain ⟨zz, Iz, okz, w⟩ := h
  refine ⟨zz, Iz, okz, hi _ _ _ (fun items z1 w J I1 H1 ok1 st1 sv a ha => ?_) w⟩
  generalize hvs : own.map (·.2) = vs at *
  refine ⟨fun i m H => m = items.length - i ∧ i ≤ items.length ∧ ∃ z I acc, CI X.K F z1 σ I1 H1 a z (wipe σ vs) I H acc ∧ Same I1 I ∧ wLcL2 g vs tt s1 g1 vs1 tt1 te (fun acc z' => PostX X.K F zz σ Iz Hz Q (.n acc) (restS vs z1 z')) (items.drop i) acc z,
    ⟨items.length, by simp, Nat.zero_le _, _, I1, [], ok1.begin ha vs, Same.refl _, by simpa using w⟩, ?_⟩
  rintro i m H2 ⟨rfl, hi, z2, I2, acc2, c2, s2, w2⟩
  obtain ⟨go, stop, yld⟩ := sv z2 _ I2 H2 c2.ok s2
  by_cases hlt : i < items.length
  · refine .inr ⟨go i hlt, fun H' => ∃ z I acc, CI X.K F z1 σ I1 H1 a z (wipe σ vs) I H' acc ∧ Same I1 I ∧ wLcL2 g vs tt s1 g1 vs1 tt1 te (fun acc z' => PostX X.K F zz σ Iz Hz Q (.n acc) (restS vs z1 z')) (items.drop (i + 1)) acc z, fun H' ⟨z', I', acc', p, q, r⟩ => ⟨items.length - (i + 1), by omega, rfl, hlt, z', I', acc', p, q, r⟩, fun x H' y => ?_⟩
    obtain ⟨I3, d, e, ok3, s3, r⟩ := yld i x H' hlt y
    have ed : items.drop i = d :: items.drop (i + 1) := by
      rw [List.drop_eq_getElem_cons hlt]
      rw [List.getElem?_eq_getElem hlt] at e
      rw [Option.some.inj e]
    rw [ed] at w2
    obtain ⟨z4, e4, w4⟩ := w2
    have c3 := c2.step ok3 s3
    refine ⟨z2, I3, d, z4, ok3, r, e4, fun σ' ok' tg => ⟨?_, ?_⟩⟩
    · rw [tg.wp vs hv, wipe_wipe fun _ h => h]
    · have hw' : wipe σ' vs = wipe σ vs := by rw [tg.wp vs hv, wipe_wipe fun _ h => h]
      have c4 := c3.tgt ok' tg
      refine ⟨z4, I3, ok', mt _ _ _ (fun b z5 q I5 H5 o5 s5 => ?_) w4⟩
      have c5 := c4.step o5 s5
      cases b with
      | true =>
        simp only [if_true] at q ⊢
        refine ⟨z5, I5, o5, ms _ _ _ (fun items1 z6 q J1 I6 H6 o6 s6 sv1 => ?_) q⟩
        have c6 := c5.step o6 s6
        refine lc_loop (X := X) (ifs := []) (is := is1) (k := fun acc' z4 => wLcL2 g vs tt s1 g1 vs1 tt1 te (fun acc z' => PostX X.K F zz σ Iz Hz Q (.n acc) (restS vs z1 z')) (items.drop (i + 1)) acc' (killAll vs z4)) (fun _ _ _ _ q => q) hv1 (fun _ _ _ q => q) mt1 (fun _ _ _ q => q) me sv1 (c6.wiped rfl) (Same.refl _) q fun z7 I7 H7 acc7 c7 q7 => ?_
        have c8 := c7.wiped (vs := vs) (σ := σ) (by rw [wipe_wipe hvo, hw'])
        exact ⟨_, I7, _, c8, c8.imm, q7⟩
      | false =>
        simp only [Bool.false_eq_true, if_false] at q ⊢
        exact ⟨_, I5, _, c5.wiped hw', (s2.trans s3.imm).trans s5.imm, q⟩
  · have e : i = items.length := by omega
    subst e
    rw [List.drop_length] at w2
    obtain ⟨o3, s3, n⟩ := c2.done ok1
    exact .inl ⟨stop, w2 a I2 H2 o3 (st1.trans s3) (n.back st1)⟩
theorem xr_lc2 (hc : X.calm = true) (hN : X.N.Nodup) (hi : XI X F tg iter s) (ok : BlkOk X.N X.env.scope scope own) (hv : ∀ i ∈ is, i ∈ own.map (·.2)) (hv1 : ∀ i ∈ is1, i ∈ vs1) (hvo : ∀ i ∈ vs1, i ∈ own.map (·.2))
    (hg : ∀ (s : Shared) (H : Hp) (C : Addr) (cl : List (Str × Addr)) (fp : List Addr), XG (X.blk s H scope (compEnvC scope cl C X.env) fp) F tg is g) (ht : ∀ (s : Shared) (H : Hp) (C : Addr) (cl : List (Str × Addr)) (fp : List Addr), XTs (X.blk s H scope (compEnvC scope cl C X.env) fp) F ifs tt)
    (hi1 : ∀ (s : Shared) (H : Hp) (C : Addr) (cl : List (Str × Addr)) (fp : List Addr), XI (X.blk s H scope (compEnvC scope cl C X.env) fp) F tg1 iter1 s1)
    (hg1 : ∀ (s : Shared) (H : Hp) (C : Addr) (cl : List (Str × Addr)) (fp : List Addr), XG (X.blk s H scope (compEnvC scope cl C X.env) fp) F tg1 is1 g1) (ht1 : ∀ (s : Shared) (H : Hp) (C : Addr) (cl : List (Str × Addr)) (fp : List Addr), XTs (X.blk s H scope (compEnvC scope cl C X.env) fp) F ifs1 tt1)
    (he : ∀ (s : Shared) (H : Hp) (C : Addr) (cl : List (Str × Addr)) (fp : List Addr), XE (X.blk s H scope (compEnvC scope cl C X.env) fp) F elt te) (mt : Mono tt) (ms : Mono s1) (mt1 : Mono tt1) (me : Mono te) (hs : ∀ x, foldedSetIterable iter X.env x = pure x := by intro _; rfl) (hs1 : ∀ env x, foldedSetIterable iter1 env x = pure x := by intro _ _; rfl) :
    XR X F (.ListComp elt [⟨tg, iter, ifs, 0⟩, ⟨tg1, iter1, ifs1, 0⟩] scope pos) (wLc2 s g (own.map (·.2)) tt s1 g1 vs1 tt1 te) :=
  ⟨fun z R R' k w => hi.mono _ _ _ (fun items z1 q => wLcL2_mono mt ms mt1 me (fun acc z q => k _ _ q) _ _ _ q) w,
    pe_imp (pe_lc2 hc hN hi.run ok hvo (fun s H C cl fp => (hg s H C cl fp).run) (fun s H C cl fp => (ht s H C cl fp).run) (fun s H C cl fp => (hi1 s H C cl fp).run) (fun s H C cl fp => (hg1 s H C cl fp).run) (fun s H C cl fp => (ht1 s H C cl fp).run) (fun s H C cl fp => (he s H C cl fp).run) hs hs1) fun σ H Q h => lc2_run hi.mono hv hv1 hvo mt ms mt1 me h⟩
theorem xs_setLc2 {i : Nat} {y : Str} {py spos : Pos} (hc : X.calm = true) (hN : X.N.Nodup) (hy : X.N[i]? = some y) (hyl : X.env.scope.names.lookup y = some .local)
    (hsw : swapsWith (.ListComp elt [⟨tg, iter, ifs, 0⟩, ⟨tg1, iter1, ifs1, 0⟩] scope pos) (some (.Name y py)) spos.line X.env = pure true) (hi : XI X F tg iter s) (ok : BlkOk X.N X.env.scope scope own) (hv : ∀ i ∈ is, i ∈ own.map (·.2)) (hv1 : ∀ i ∈ is1, i ∈ vs1) (hvo : ∀ i ∈ vs1, i ∈ own.map (·.2))
    (hg : ∀ (s : Shared) (H : Hp) (C : Addr) (cl : List (Str × Addr)) (fp : List Addr), XG (X.blk s H scope (compEnvC scope cl C X.env) fp) F tg is g) (ht : ∀ (s : Shared) (H : Hp) (C : Addr) (cl : List (Str × Addr)) (fp : List Addr), XTs (X.blk s H scope (compEnvC scope cl C X.env) fp) F ifs tt)
    (hi1 : ∀ (s : Shared) (H : Hp) (C : Addr) (cl : List (Str × Addr)) (fp : List Addr), XI (X.blk s H scope (compEnvC scope cl C X.env) fp) F tg1 iter1 s1)
    (hg1 : ∀ (s : Shared) (H : Hp) (C : Addr) (cl : List (Str × Addr)) (fp : List Addr), XG (X.blk s H scope (compEnvC scope cl C X.env) fp) F tg1 is1 g1) (ht1 : ∀ (s : Shared) (H : Hp) (C : Addr) (cl : List (Str × Addr)) (fp : List Addr), XTs (X.blk s H scope (compEnvC scope cl C X.env) fp) F ifs1 tt1)
    (he : ∀ (s : Shared) (H : Hp) (C : Addr) (cl : List (Str × Addr)) (fp : List Addr), XE (X.blk s H scope (compEnvC scope cl C X.env) fp) F elt te) (mt : Mono tt) (ms : Mono s1) (mt1 : Mono tt1) (me : Mono te) (hs : ∀ x, foldedSetIterable iter X.env x = pure x := by intro _; rfl) (hs1 : ∀ env x, foldedSetIterable iter1 env x = pure x := by intro _ _; rfl) :
    XS X F (.Assign [.Name y py] (.ListComp elt [⟨tg, iter, ifs, 0⟩, ⟨tg1, iter1, ifs1, 0⟩] scope pos) spos) (wLcSet i (wLc2 s g (own.map (·.2)) tt s1 g1 vs1 tt1 te)) :=
  ⟨fun E E' z l w => hi.mono _ _ _ (fun items z1 q => wLcL2_mono mt ms mt1 me (fun acc z q => l.nx _ q) _ _ _ q) w,
    ps_imp (ps_setLc2 hc hN hy hyl hsw hi.run ok hvo (fun s H C cl fp => (hg s H C cl fp).run) (fun s H C cl fp => (ht s H C cl fp).run) (fun s H C cl fp => (hi1 s H C cl fp).run) (fun s H C cl fp => (hg1 s H C cl fp).run) (fun s H C cl fp => (ht1 s H C cl fp).run) (fun s H C cl fp => (he s H C cl fp).run) hs hs1) fun D σ H ⟨z, I, o, w⟩ => by
      refine lc2_run (X := X) (Q := fun x H1 => gName i x σ H1 D.nx) hi.mono hv hv1 hvo mt ms mt1 me ⟨z, I, o, hi.mono _ _ _ (fun items z1 q => wLcL2_mono mt ms mt1 me (fun acc z' q => ?_) _ _ _ q) w⟩
      refine PostX.frz fun v I' H' o' s' r => ?_
      exact q _ I' H' (o'.set r) s'.imm⟩
end

/-! ### calls of the text's own defs -/
/-- an argument: a datum, or a list of the caller's own that the def may change -/
inductive AV where
  | val (d : D)
  | own (l : List D)
/-- what a def promises: from its arguments, what its answer and the list behind it (where it has one) are to satisfy -/
abbrev FS := List AV → (RV → Option (List D) → Prop) → Prop
def MonoF (p : FS) : Prop := ∀ as R R', (∀ r o, R r o → R' r o) → p as R → p as R'
inductive ArgsOk (K : PySem.W.Frag) (I H : Hp) : List V → List AV → Option Addr → Prop
  | nil : ArgsOk K I H [] [] none
  | val {v : V} {d : D} {vs : List V} {as : List AV} {w : Option Addr} : Rp K I v d → ArgsOk K I H vs as w → ArgsOk K I H (v :: vs) (.val d :: as) w
  | own {a : Addr} {ws : List V} {l : List D} {vs : List V} {as : List AV} : H a = some (.lst ws) → I a = none → RpA K I ws l → ArgsOk K I H vs as none → ArgsOk K I H (.ref a :: vs) (.own l :: as) (some a)
def OutOk (K : PySem.W.Frag) (I' H' : Hp) : Option Addr → Option (List D) → Prop
  | some a, some l => I' a = none ∧ ∃ ws, H' a = some (.lst ws) ∧ RpA K I' ws l
  | none, none => True
  | _, _ => False
def RvOk (K : PySem.W.Frag) (I' H H' : Hp) (v : V) : RV → Prop
  | .d d => Rp K I' v d
  | .n l => ∃ a vs, v = .ref a ∧ H' a = some (.lst vs) ∧ RpA K I' vs l ∧ I' a = none ∧ H a = none
structure RetOk (K : PySem.W.Frag) (I H : Hp) (w : Option Addr) (rv : RV) (out : Option (List D)) (v : V) (I' H' : Hp) : Prop where
  imm : Same I I'
  sub : Same I' H'
  new : ∀ a o, I' a = some o → I a = some o ∨ H a = none
  keep : ∀ a o, H a = some o → w ≠ some a → H' a = some o
  out : OutOk K I' H' w out
  rv : RvOk K I' H H' v rv
def spOf (K : PySem.W.Frag) (p : FS) : Sp := fun vs H Q _ => ∃ I as w, ArgsOk K I H vs as w ∧ Same I H ∧ p as fun rv out => ∀ v I' H', RetOk K I H w rv out v I' H' → Q v H'
def argsOf (z : SS) : List EV → Option (List AV × Option Nat)
  | [] => some ([], none)
  | .d x :: r => (argsOf z r).map fun p => (.val x :: p.1, p.2)
  | .o i :: r => match z[i]?, argsOf z r with
    | some (some (.own _ l)), some (as, none) => some (.own l :: as, some i)
    | _, _ => none
def putOut (z : SS) : Option Nat → Option (List D) → Option SS
  | none, none => some z
  | some j, some l => match z[j]? with
    | some (some (.own b _)) => some (z.set j (some (.own b l)))
    | _ => none
  | _, _ => none
def wCall (p : FS) (u : WA) : WR := fun z R => u z fun es z1 => ∃ as j, argsOf z1 es = some (as, j) ∧ p as fun rv out => ∃ z2, putOut z1 j out = some z2 ∧ R rv z2
section
variable {K : PySem.W.Frag} {F : Fx} {z z2 : SS} {σ : St} {I H I' H' : Hp}
def SameArg (z : SS) (σ : St) : Option Nat → Option Addr → Prop
  | some i, some a => σ[i]? = some (some (.ref a)) ∧ ∃ b l, z[i]? = some (some (.own b l))
  | none, none => True
  | _, _ => False
theorem args_ok (ok : Ok K F z σ I H) : ∀ {es : List EV} {vs : List V} {as : List AV} {j : Option Nat}, Paired (EvOk K I σ) es vs → argsOf z es = some (as, j) → ∃ w, ArgsOk K I H vs as w ∧ SameArg z σ j w
  | _, _, _, _, .nil, h => by cases h; exact ⟨none, .nil, trivial⟩
  | _, _, _, _, .cons (a := .d x) r t, h => by
    unfold argsOf at h
    obtain ⟨⟨as, j⟩, e, q⟩ := Option.map_eq_some_iff.mp h
    cases q
    obtain ⟨w, h1, h2⟩ := args_ok ok t e
    exact ⟨w, .val r h1, h2⟩
  | _, _, _, _, .cons (a := .o i) r t, h => by
    unfold argsOf at h
    split at h
    · rename_i b l as e1 e2
      cases h
      obtain ⟨w, h1, h2⟩ := args_ok ok t e2
      obtain ⟨a, ws, f1, f2, f3, f4, f5⟩ := ok.own i b l e1
      rw [show σ[i]? = some (some _) from r] at f1; cases f1
      cases w with
      | some _ => exact h2.elim
      | none => exact ⟨some a, .own f2 f3 f4 h1, r, b, l, e1⟩
    · cases h
/-- behind a call -/
theorem Ok.called (ok : Ok K F z σ I H) {j : Option Nat} {w : Option Addr} {out : Option (List D)} {rv : RV} {v : V} (sa : SameArg z σ j w) (r : RetOk K I H w rv out v I' H') (hp : putOut z j out = some z2) :
    Ok K F z2 σ I' H' ∧ Step z σ I H z2 I' H' := by
  have inew : ∀ a, H a ≠ none → I a = none → I' a = none := fun a h1 h2 => by
    cases q : I' a with
    | none => rfl
    | some o =>
      rcases r.new a o q with h | h
      · rw [h2] at h; cases h
      · exact absurd h h1
  have fh0 : ∀ a, H a = none → F.H0 a = none := fun a h => (ok.h0 h).1
  have wown : ∀ a, w = some a → IsOwn z σ a := fun a e => by
    subst e
    cases j with
    | none => exact sa.elim
    | some i => exact ⟨i, sa.2.choose, sa.2.choose_spec.choose, sa.2.choose_spec.choose_spec, sa.1⟩
  have there : ∀ a, H' a = none → H a = none := fun a h => by
    cases q : H a with
    | none => rfl
    | some o =>
      by_cases e : w = some a
      · subst e
        cases out with
        | none => exact r.out.elim
        | some l =>
          obtain ⟨_, ws, e2, _⟩ := r.out
          rw [h] at e2; cases e2
      · rw [r.keep a o q e] at h; cases h
  -- the slots behind
  have slot : ∀ (i : Nat) (b : Option Nat) (l : List D), z2[i]? = some (some (.own b l)) → ∃ l0 a, z[i]? = some (some (.own b l0)) ∧ σ[i]? = some (some (.ref a)) ∧ ∃ ws, H' a = some (.lst ws) ∧ RpA K I' ws l := fun i b l h => by
    cases j with
    | none =>
      cases out with
      | some _ => cases hp
      | none =>
        cases hp
        obtain ⟨a, ws, f1, f2, f3, f4, f5⟩ := ok.own i b l h
        cases w with
        | some _ => exact sa.elim
        | none => exact ⟨l, a, h, f1, ws, r.keep a _ f2 (by simp), f4.mono r.imm⟩
    | some k =>
      cases out with
      | none => cases hp
      | some l' =>
        cases w with
        | none => exact sa.elim
        | some c =>
          obtain ⟨s1, b', l0, s2⟩ := sa
          unfold putOut at hp
          simp only [s2] at hp
          cases hp
          rcases get_set h with ⟨rfl, q, hl⟩ | ⟨hk, q⟩
          · cases q
            obtain ⟨_, ws, e1, e2⟩ := r.out
            exact ⟨l0, c, s2, s1, ws, e1, e2⟩
          · obtain ⟨a, ws, f1, f2, f3, f4, f5⟩ := ok.own i b l q
            refine ⟨l, a, q, f1, ws, r.keep a _ f2 fun e => hk ?_, f4.mono r.imm⟩
            cases e
            exact ok.dis _ _ _ _ _ _ _ q s2 f1 s1
  have vals : ∀ (i : Nat) (d : D), z2[i]? = some (some (.val d)) → z[i]? = some (some (.val d)) := fun i d h => by
    unfold putOut at hp
    split at hp
    · cases hp; exact h
    · split at hp
      · cases hp
        rcases get_set h with ⟨rfl, q, hl⟩ | ⟨hk, q⟩
        · cases q
        · exact q
      · cases hp
    · cases hp
  have len : z2.length = z.length := by
    unfold putOut at hp
    split at hp
    · cases hp; rfl
    · split at hp
      · cases hp; simp
      · cases hp
    · cases hp
  refine ⟨⟨by rw [len, ok.len], fun i d h => ?_, fun i b l h => ?_, fun i k b b' l l' a e f g h => ?_, r.sub, ok.base.trans r.imm, fun a o h => ?_, fun a o h hw => ?_, fun a hw => ?_⟩, ⟨r.imm, fun a o h => ?_, fun a o h hn => ?_, fun i b l h => ?_, there⟩⟩
  · obtain ⟨v, e, rr⟩ := ok.val i d (vals i d h)
    exact ⟨v, e, rr.mono r.imm⟩
  · obtain ⟨l0, a, e1, e2, ws, e3, e4⟩ := slot i b l h
    obtain ⟨a', us, f1, f2, f3, f4, f5⟩ := ok.own i b l0 e1
    rw [e2] at f1; cases f1
    exact ⟨a, ws, e2, e3, inew a (by rw [f2]; simp) f3, e4, f5⟩
  · obtain ⟨_, _, e1, _⟩ := slot i b l e
    obtain ⟨_, _, e2, _⟩ := slot k b' l' f
    exact ok.dis i k _ _ _ _ a e1 e2 g h
  · rcases r.new a o h with h | h
    · exact ok.new a o h
    · exact .inr (fh0 a h)
  · refine r.keep a o (ok.keep a o h hw) fun e => ?_
    obtain ⟨i, b, l, e1, e2⟩ := wown a e
    obtain ⟨a', us, f1, f2, f3, f4, f5⟩ := ok.own i b l e1
    rw [e2] at f1; cases f1
    unfold Tag at f5
    cases b with
    | some k => exact hw (List.mem_of_getElem? f5)
    | none => simp only at f5; rw [f5] at h; cases h
  · obtain ⟨f1, f2, ws, f3⟩ := ok.wf a hw
    refine ⟨inew a (by rw [f3]; simp) f1, f2, ?_⟩
    by_cases e : w = some a
    · subst e
      cases out with
      | none => exact r.out.elim
      | some l =>
        obtain ⟨_, us, e2, _⟩ := r.out
        exact ⟨us, e2⟩
    · exact ⟨ws, r.keep a _ f3 e⟩
  · rcases r.new a o h with h | h
    · exact .inl h
    · exact .inr (.inl h)
  · exact r.keep a o h fun e => hn (wown a e)
  · obtain ⟨l0, a, e1, _⟩ := slot i b l h
    exact ⟨l0, e1⟩
theorem isOwn_of {z : SS} {σ : St} {j : Option Nat} {w : Option Addr} (sa : SameArg z σ j w) : ∀ a, w = some a → IsOwn z σ a := fun a e => by
  subst e
  cases j with
  | none => exact sa.elim
  | some i => exact ⟨i, sa.2.choose, sa.2.choose_spec.choose, sa.2.choose_spec.choose_spec, sa.1⟩
end
section
variable {X : Cx} {k : Nat} {f : Addr} {fd : FuncData} {ps : List Str} {p : FS} {x : Str} {pp pos : Pos} {F : Fx} {e : Expr} {es : List Expr} {u : WA}
theorem call_run (hp : MonoF p) (ha : XA X F es u) {σ : St} {H : Hp} {Q : VK} {E : XK} (h : liftR X.K F (wCall p u) σ H Q) : tCall (spOf X.K p) [] E (liftA X.K F u) σ H Q := by
  obtain ⟨z, I, ok, w⟩ := h
  refine ha.at ok w fun es z1 vs I1 H1 ⟨as, j, ea, q⟩ o s ev => ?_
  obtain ⟨w', ao, sa⟩ := args_ok o ev ea
  show spOf X.K p (vs ++ []) H1 Q E
  rw [List.append_nil]
  refine ⟨I1, as, w', ao, o.sub, hp _ _ _ (fun rv out ⟨z2, e2, q⟩ v I' H' r => ?_) q⟩
  obtain ⟨o2, s2⟩ := o.called sa r e2
  have st := s.trans s2
  cases rv with
  | d x => exact q v I' H' o2 st r.rv
  | n l =>
    obtain ⟨a, ws, rfl, e3, e4, e5, e6⟩ := r.rv
    refine q a I' H' o2 st ⟨s.there a e6, ⟨ws, e3, e4⟩, e5, (o.h0 e6).1, fun hn => ?_⟩
    obtain ⟨i, b, m, g1, g2⟩ := hn
    obtain ⟨l0, g3⟩ := s2.osub i b m g1
    obtain ⟨a', us, f1, f2, _⟩ := o.own i b l0 g3
    rw [g2] at f1; cases f1
    rw [e6] at f2; cases f2
theorem wCall_mono (hp : MonoF p) (hu : Mono u) : Mono (wCall p u) := fun z R R' k w => hu _ _ _ (fun es z1 ⟨as, j, e, q⟩ => ⟨as, j, e, hp _ _ _ (fun rv out ⟨z2, e2, q⟩ => ⟨z2, e2, k _ _ q⟩) q⟩) w
theorem xr_call (hp : MonoF p) (Fn : FnOk X.prog X.w X.K X.mg X.base CX0 k f fd ps (spOf X.K p)) (hr : Room k X.A) (hg : Gl X x) (hm : X.mg x = some (.ref f)) (hk : PySem.W.keepIn X.K (.ref f) = true) (hb : Binds X.K fd ps [])
    (ha : XA X F (e :: es) u) (hdb : (x == ("__debug__" : Str)) = false := by decide) (he : starEach (e :: es) X.env = (false, eval e X.env) :: starEach es X.env := by rfl) (hpl : (backTo pos (starEach es X.env)).any (·.1) = false := by rfl) :
    XR X F (.Call (.Name x pp) (e :: es) [] pos) (wCall p u) :=
  ⟨wCall_mono hp ha.mono, pe_imp (pe_call Fn hr hg hm hk hb .nil pass0 ha.run hdb he hpl) fun σ H Q h => call_run hp ha h⟩
theorem xr_call0 (hp : MonoF p) (Fn : FnOk X.prog X.w X.K X.mg X.base CX0 k f fd ps (spOf X.K p)) (hr : Room k X.A) (hg : Gl X x) (hm : X.mg x = some (.ref f)) (hk : PySem.W.keepIn X.K (.ref f) = true) (hb : Binds X.K fd ps [])
    (hdb : (x == ("__debug__" : Str)) = false := by decide) : XR X F (.Call (.Name x pp) [] [] pos) (wCall p wNil) :=
  ⟨wCall_mono hp (xa_nil (X := X) (F := F)).mono, pe_imp (pe_call0 Fn hr hg hm hk hb .nil pass0 hdb) fun σ H Q h => by
    obtain ⟨z, I, ok, w⟩ := h
    have := call_run (X := X) (F := F) (es := []) (E := E0) hp xa_nil ⟨z, I, ok, w⟩
    obtain ⟨z', I', ok', w'⟩ := this
    exact w' [] I' H ok' .refl .nil⟩
end

/-! ### a def keeps its promise -/
def startS (n : Nat) (as : List AV) : SS := (as.map fun a => match a with
  | .val d => some (.val d)
  | .own l => some (.own (some 0) l)) ++ List.replicate (n - as.length) none
def findOwn : SS → Option (List D)
  | [] => none
  | some (.own (some _) l) :: _ => some l
  | _ :: r => findOwn r
def hasOwn : List AV → Bool
  | [] => false
  | .own _ :: _ => true
  | .val _ :: r => hasOwn r
def outOf (o : Bool) (z : SS) : Option (Option (List D)) := if o then (findOwn z).map some else some none
def retEn (o : Bool) (R : RV → Option (List D) → Prop) : En where
  nx := fun z => ∃ out, outOf o z = some out ∧ R (.d .none) out
  rt := fun rv z => ∃ out, outOf o z = some out ∧ R rv out
theorem findOwn_at : ∀ {z : SS} {l : List D}, findOwn z = some l → ∃ (i : Nat) (k : Nat), z[i]? = some (some (.own (some k) l))
  | [], _, h => by cases h
  | some (.own (some k) m) :: r, l, h => by
    cases h
    exact ⟨0, k, rfl⟩
  | none :: r, l, h => by
    obtain ⟨i, k, e⟩ := findOwn_at (z := r) h
    exact ⟨i + 1, k, e⟩
  | some (.val d) :: r, l, h => by
    obtain ⟨i, k, e⟩ := findOwn_at (z := r) h
    exact ⟨i + 1, k, e⟩
  | some (.own none m) :: r, l, h => by
    obtain ⟨i, k, e⟩ := findOwn_at (z := r) h
    exact ⟨i + 1, k, e⟩
section
variable {K : PySem.W.Frag} {I H : Hp}
theorem ArgsOk.len : ∀ {vs : List V} {as : List AV} {w : Option Addr}, ArgsOk K I H vs as w → vs.length = as.length
  | _, _, _, .nil => rfl
  | _, _, _, .val _ t => by simp [ArgsOk.len t]
  | _, _, _, .own _ _ _ t => by simp [ArgsOk.len t]
theorem ArgsOk.has : ∀ {vs : List V} {as : List AV} {w : Option Addr}, ArgsOk K I H vs as w → hasOwn as = w.isSome
  | _, _, _, .nil => rfl
  | _, _, _, .val _ t => by
    have := ArgsOk.has t
    exact this
  | _, _, _, .own _ _ _ t => rfl
theorem args_val : ∀ {vs : List V} {as : List AV} {w : Option Addr} {i : Nat} {d : D}, ArgsOk K I H vs as w → as[i]? = some (.val d) → ∃ v, vs[i]? = some v ∧ Rp K I v d
  | _, _, _, _, _, .nil, h => by simp at h
  | _, _, _, 0, _, .val r t, h => by simp at h; subst h; exact ⟨_, rfl, r⟩
  | _, _, _, i + 1, _, .val r t, h => by
    obtain ⟨v, e, q⟩ := args_val (i := i) t (by simpa using h)
    exact ⟨v, by simpa using e, q⟩
  | _, _, _, 0, _, .own _ _ _ t, h => by simp at h
  | _, _, _, i + 1, _, .own _ _ _ t, h => by
    obtain ⟨v, e, q⟩ := args_val (i := i) t (by simpa using h)
    exact ⟨v, by simpa using e, q⟩
theorem args_own : ∀ {vs : List V} {as : List AV} {w : Option Addr} {i : Nat} {l : List D}, ArgsOk K I H vs as w → as[i]? = some (.own l) → ∃ a ws, w = some a ∧ vs[i]? = some (.ref a) ∧ H a = some (.lst ws) ∧ I a = none ∧ RpA K I ws l
  | _, _, _, _, _, .nil, h => by simp at h
  | _, _, _, 0, _, .val r t, h => by simp at h
  | _, _, _, i + 1, _, .val r t, h => by
    obtain ⟨a, ws, e1, e2, q⟩ := args_own (i := i) t (by simpa using h)
    exact ⟨a, ws, e1, by simpa using e2, q⟩
  | _, _, _, 0, _, .own h1 h2 h3 t, h => by simp at h; subst h; exact ⟨_, _, rfl, rfl, h1, h2, h3⟩
  | _, _, _, i + 1, _, .own _ _ _ t, h => by
    obtain ⟨a, ws, e1, _⟩ := args_own (i := i) t (by simpa using h)
    cases e1
theorem args_one : ∀ {vs : List V} {as : List AV} {w : Option Addr} {i j : Nat} {l m : List D}, ArgsOk K I H vs as w → as[i]? = some (.own l) → as[j]? = some (.own m) → i = j
  | _, _, _, _, _, _, _, .nil, h, _ => by simp at h
  | _, _, _, 0, _, _, _, .val r t, h, _ => by simp at h
  | _, _, _, _, 0, _, _, .val r t, _, h => by simp at h
  | _, _, _, i + 1, j + 1, _, _, .val r t, h, g => by rw [args_one (i := i) (j := j) t (by simpa using h) (by simpa using g)]
  | _, _, _, 0, 0, _, _, .own _ _ _ t, _, _ => rfl
  | _, _, _, i + 1, _, _, _, .own _ _ _ t, h, _ => by
    obtain ⟨a, ws, e1, _⟩ := args_own (i := i) t (by simpa using h)
    cases e1
  | _, _, _, _, j + 1, _, _, .own _ _ _ t, _, h => by
    obtain ⟨a, ws, e1, _⟩ := args_own (i := j) t (by simpa using h)
    cases e1
theorem start_get {n : Nat} {as : List AV} {i : Nat} {s : S} (h : (startS n as)[i]? = some (some s)) : ∃ a, as[i]? = some a ∧ s = (match a with | .val d => .val d | .own l => .own (some 0) l) := by
  unfold startS at h
  by_cases hi : i < as.length
  · rw [List.getElem?_append_left (by simpa using hi)] at h
    rw [List.getElem?_map] at h
    obtain ⟨a, e, q⟩ := Option.map_eq_some_iff.mp h
    refine ⟨a, e, ?_⟩
    cases a <;> simpa using q.symm
  · rw [List.getElem?_append_right (by simpa using hi)] at h
    have := List.mem_of_getElem? h
    rw [List.mem_replicate] at this
    cases this.2
theorem Ok.start {vs : List V} {as : List AV} {w : Option Addr} {N : List Str} (ha : ArgsOk K I H vs as w) (hs : Same I H) (hn : as.length ≤ N.length) : Ok K ⟨I, H, w.toList⟩ (startS N.length as) (L2.start N vs) I H := by
  have sget : ∀ (i : Nat) (v : V), vs[i]? = some v → (L2.start N vs)[i]? = some (some v) := fun i v h => by
    unfold L2.start
    have hl : i < vs.length := (List.getElem?_eq_some_iff.mp h).1
    rw [List.getElem?_append_left (by simpa using hl), List.getElem?_map, h]
    rfl
  have hl := ha.len
  refine ⟨?_, fun i d h => ?_, fun i b l h => ?_, fun i j b b' l l' a e f _ _ => ?_, hs, Same.refl _, fun a o h => .inl h, fun a o h _ => h, fun a hw => ?_⟩
  · unfold startS L2.start
    simp only [List.length_append, List.length_map, List.length_replicate]
    omega
  · obtain ⟨a, e, q⟩ := start_get h
    cases a with
    | val d' =>
      cases q
      obtain ⟨v, e2, r⟩ := args_val ha e
      exact ⟨v, sget i v e2, r⟩
    | own l => cases q
  · obtain ⟨a, e, q⟩ := start_get h
    cases a with
    | val d' => cases q
    | own l' =>
      cases q
      obtain ⟨a, ws, rfl, e2, e3, e4, e5⟩ := args_own ha e
      exact ⟨a, ws, sget i _ e2, e3, e4, e5, rfl⟩
  · obtain ⟨a1, e1, q1⟩ := start_get e
    obtain ⟨a2, e2, q2⟩ := start_get f
    cases a1 with
    | val d' => cases q1
    | own l1 =>
      cases a2 with
      | val d' => cases q2
      | own l2 => exact args_one ha e1 e2
  · cases w with
    | none => simp at hw
    | some c =>
      have e : a = c := by simpa using hw
      subst e
      have find : ∀ {vs : List V} {as : List AV} {w : Option Addr}, ArgsOk K I H vs as w → w = some a → I a = none ∧ ∃ ws, H a = some (.lst ws) := by
        intro vs as w h
        induction h with
        | nil => intro e; cases e
        | val _ _ ih => exact ih
        | own h1 h2 h3 _ _ => intro e; cases e; exact ⟨h2, _, h1⟩
      obtain ⟨g1, ws, g2⟩ := find ha rfl
      exact ⟨g1, by show H a ≠ none; rw [g2]; simp, ws, g2⟩
end
/-- THE RULE for a def -/
theorem fn_ok {P : Program} {w : World} {K : PySem.W.Frag} {mg : Str → Option Value} {base : Heap} {x qual : Str} {st : Stmt} {f : Addr} {fd : FuncData} {N ps : List Str} {k : Nat} {p : FS} {t : WS} (Fn : Fun K x qual st f fd) (Sc : FnScope N ps (defScope st))
    (hlen : ∀ as R, p as R → as.length = ps.length)
    (hb : ∀ (cdv : Value) (A : Around) (outer : List Env) (s : Shared) (H : Hp) (E : XK) (F : Fx), Room k (A.deeper (envOfC qual (defScope st) s.heap.objs.size f cdv)) → XSs (cxOf CX0 P w K mg base N qual (defScope st) f cdv A outer s H E).nox F (defBody st) t)
    (vc : ∀ as R, p as R → t (retEn (hasOwn as) R) (startS N.length as)) : FnOk P w K mg base CX0 (k + 1) f fd ps (spOf K p) := by
  have hN : ps.length ≤ N.length := by
    have := congrArg List.length Sc.pre
    rw [List.length_take] at this
    omega
  refine Fn.ok Sc (fun vs H Q E ⟨I, as, w, ha, _, hp⟩ => by rw [ha.len, hlen _ _ hp]) (fun cdv A outer s H vs Q E hr ⟨I, as, w, ha, hs, hp⟩ => ?_)
  have hx := hb cdv A outer s H E ⟨I, H, w.toList⟩ hr
  refine ⟨_, hx.run, startS N.length as, I, Ok.start ha hs (by rw [hlen _ _ hp]; exact hN), hx.mono _ _ _ ?_ (vc as _ hp)⟩
  have fin : ∀ (z : SS) (out : Option (List D)) (σ : St) (I' H' : Hp) (rv : RV) (v : V), outOf (hasOwn as) z = some out → Ok K ⟨I, H, w.toList⟩ z σ I' H' → Same I I' → RvOk K I' H H' v rv → RetOk K I H w rv out v I' H' := by
    intro z out σ I' H' rv v ho ok hi rk
    refine ⟨hi, ok.sub, ok.new, fun a o h hw => ok.keep a o h (fun q => hw ?_), ?_, rk⟩
    · cases w with
      | none => simp at q
      | some c => simp at q; rw [q]
    · rw [ha.has] at ho
      cases w with
      | none => cases ho; trivial
      | some c =>
        unfold outOf at ho
        simp only [Option.isSome_some, if_true] at ho
        obtain ⟨l, e, q⟩ := Option.map_eq_some_iff.mp ho
        subst q
        obtain ⟨i, k, e⟩ := findOwn_at e
        obtain ⟨a, ws, f1, f2, f3, f4, f5⟩ := ok.own i _ l e
        have ec : c = a := by
          have : [c][k]? = some a := f5
          cases k with
          | zero => simpa using this
          | succ k => simp at this
        subst ec
        exact ⟨f3, ws, f2, f4⟩
  refine ⟨fun z ⟨out, ho, q⟩ σ I' H' ok s' => q _ I' H' (fin z out σ I' H' (.d .none) .non ho ok s' .non), fun rv z ⟨out, ho, q⟩ => ?_, fun _ h => h.elim, fun _ h => h.elim⟩
  cases rv with
  | d x => exact fun v σ I' H' ok s' r => q v I' H' (fin z out σ I' H' (.d x) v ho ok s' r)
  | n l => exact fun a σ I' H' ok s' o => q _ I' H' (fin z out σ I' H' (.n l) _ ho ok s' ⟨a, o.at_.choose, rfl, o.at_.choose_spec.1, o.at_.choose_spec.2, o.imm, o.h0⟩)
/-- the law's own promise, and its end -/
def pLaw : FS := fun as R => ∃ ns : List Int, as = [.val (.dict [(.none, .list (ns.map PyData.int))])] ∧ ns.length ≤ 63 ∧ R (.d (.bool true)) none
theorem pLaw_end {K : PySem.W.Frag} {H : Hp} {a : Addr} {ns : List Int} (hl : ns.length ≤ 63) (hS : SqL K H a (ns.map V.int)) : spOf K pLaw [.ref a] H (fun v _ => v = .bl true) fun _ _ _ => False :=
  ⟨H, _, none, .val (.scr hS (rpA_ints ns)) .nil, Same.refl _, ns, rfl, hl, fun v I' H' r => by
    have := r.rv
    cases this
    rfl⟩
end L3
namespace L3
open PySem PySem.Spec PyProof.Rows L2 PySem.SeqAt

section
variable {X : Cx} {F : Fx} {pos : Pos} {a b c : Expr} {ta tb tc : WE}
theorem wChain_mono {f g : F2} {r r' : R2} (hf : VR2 X F r f) (hg : VR2 X F r' g) (ha : Mono ta) (hb : Mono tb) (hc : Mono tc) : Mono (wChain f g ta tb tc) := fun z R R' k w =>
  ha _ _ _ (fun x z1 w => hb _ _ _ (fun y z2 w => hf.mono _ _ _ _ _ (fun d ⟨c, e, q⟩ => ⟨c, e, by
    cases c with
    | true => exact hc _ _ _ (fun v z3 w => hg.mono _ _ _ _ _ (fun d q => k _ _ q) w) q
    | false => exact k _ _ q⟩) w) w) w
theorem PostR.frz {K : PySem.W.Frag} {z : SS} {σ : St} {I H : Hp} {Q : VK} {r : RV} (q : Post K F z σ I H Q (.d r.toD) z) : PostR K F z σ I H Q r := by
  cases r with
  | d x => exact fun v I' H' o s r => q v I' H' o s r
  | n l =>
    intro a I' H' o s n
    have ⟨I2, o2, s2, r2⟩ := n.frz o s
    exact q _ I2 H' o2 s2 r2
theorem chain_run {f g : F2} {r r' : R2} (hf : VR2 X F r f) (hg : VR2 X F r' g) (ha : XE X F a ta) (hb : XE X F b tb) (hc : XE X F c tc) : ∀ σ H Q, liftE X.K F (wChain f g ta tb tc) σ H Q → tChain r r' (liftE X.K F ta) (liftE X.K F tb) (liftE X.K F tc) σ H Q := fun σ H Q ⟨z, I, ok, w⟩ =>
  ha.at ok w fun x z1 v1 I1 H1 w ok1 s1 e1 => hb.at ok1 w fun y z2 v2 I2 H2 w ok2 s2 e2 =>
    hf.run ok2 (e1.mono s2.imm) e2 (hf.mono _ _ _ _ _ (fun d ⟨c, e, q⟩ => by
      subst e
      intro v I3 H3 o3 s3 r3
      cases r3
      refine ⟨c, rfl, ?_⟩
      cases c with
      | true =>
        simp only [if_true] at q ⊢
        have ok3 : Ok X.K F z2 σ I3 H3 := o3
        refine hc.at o3 q fun w z4 v4 I4 H4 q o4 s4 e4 => ?_
        refine hg.run o4 ((e2.mono s3.imm).mono s4.imm) e4 (hg.mono _ _ _ _ _ (fun d q => PostR.frz (Post.step (((s1.trans s2).trans s3).trans s4) q)) q)
      | false =>
        simp only [Bool.false_eq_true, if_false] at q ⊢
        exact q _ I3 H3 o3 ((s1.trans s2).trans s3) (.bl false)) w)
theorem xe_chain {op op' : CmpOp} {f g : F2} {r r' : R2} (ho : OpR X (compareOp op) r) (ho' : OpR X (compareOp op') r') (hf : VR2 X F r f) (hg : VR2 X F r' g) (ha : XE X F a ta) (hb : XE X F b tb) (hc : XE X F c tc)
    (hm : lastMarks [op, op'] [b, c] = false := by with_unfolding_all rfl) : XE X F (.Compare a [op, op'] [b, c] pos) (wChain f g ta tb tc) :=
  ⟨wChain_mono hf hg ha.mono hb.mono hc.mono, pe_imp (pe_chain ho ho' ha.run hb.run hc.run hm) (chain_run hf hg ha hb hc)⟩
theorem xt_chain {op op' : CmpOp} {f g : F2} {r r' : R2} (ho : OpR X (compareOp op) r) (ho' : OpR X (compareOp op') r') (hf : VR2 X F r f) (hg : VR2 X F r' g) (ha : XE X F a ta) (hb : XE X F b tb) (hc : XE X F c tc)
    (hm : lastMarks [op, op'] [b, c] = false := by with_unfolding_all rfl) : XT X F (.Compare a [op, op'] [b, c] pos) (wTest (wChain f g ta tb tc)) :=
  ⟨wTest_mono (wChain_mono hf hg ha.mono hb.mono hc.mono), pt_imp (pt_chain ho ho' ha.run hb.run hc.run hm) fun σ H Q ⟨z, I, ok, w⟩ => by
    refine chain_run hf hg ha hb hc σ H _ ⟨z, I, ok, wChain_mono hf hg ha.mono hb.mono hc.mono _ _ _ (fun x z1 q v I' H' o s e => ?_) w⟩
    obtain ⟨c, rfl, q⟩ := q
    cases e
    exact ⟨c, rfl, q I' H' o s⟩⟩
/-- -a -/
def wNeg (t : WE) : WE := fun z R => t z fun x z1 => ∃ i, x = .d (.int i) ∧ R (.d (.int (-i))) z1
theorem xe_neg (h : XE X F a ta) : XE X F (.UnaryOp .USub a pos) (wNeg ta) :=
  ⟨fun z R R' k w => h.mono _ _ _ (fun x z1 ⟨i, e, q⟩ => ⟨i, e, k _ _ q⟩) w, pe_imp (pe_un un_neg h.run) fun σ H Q ⟨z, I, ok, w⟩ => h.at ok w fun x z1 v I' H' ⟨i, e, q⟩ o s ev => by
    subst e
    cases ev
    exact ⟨i, rfl, q _ I' H' o s (.int _)⟩⟩
theorem xe_gI {x : Str} {i : Int} (hg : Gl X x) (hm : ∃ t, X.mg x = some (.int i t)) (hd : (x == ("__debug__" : Str)) = false := by decide) : XE X F (.Name x pos) (wC (.int i)) := xe_glob hg hm.choose_spec (show RelV (.int i) _ from ⟨_, rfl⟩) (fun _ => .int _) hd
theorem xe_gS {x : Str} {y : Str} (hg : Gl X x) (hm : ∃ t, X.mg x = some (.str y t)) (hd : (x == ("__debug__" : Str)) = false := by decide) : XE X F (.Name x pos) (wC (.str y)) := xe_glob hg hm.choose_spec (show RelV (.str y) _ from ⟨_, rfl⟩) (fun _ => .str _) hd
def wDct : WE := fun z R => R (.d (.dict [])) z
theorem xe_dict0 : XE X F (.Dict [] [] pos) wDct := xe_dct (pe_imp pe_dnewK fun σ H Q h => h)
end
section
variable {X : Cx} {F : Fx} {tg iter elt tg1 iter1 : Expr} {g g1 : GS} {tt tt1 : WT} {te : WE} {vs1 : List Nat}
variable {ifs ifs1 : List Expr} {scope : Scope} {own : List (Str × Nat)} {pos : Pos} {s s1 : WI} {is is1 : List Nat}
abbrev B0 (X : Cx) (scope : Scope) : Cx := X.blk {} (fun _ => none) scope (compEnvC scope [] 0 X.env) []
theorem xr_lcA (own : List (Str × Nat)) (hc : X.calm = true) (hN : X.N.Nodup) (hi : XI X F tg iter s) (ok : BlkOk X.N X.env.scope scope own)
    (hg : ∀ (s : Shared) (H : Hp) (C : Addr) (cl : List (Str × Addr)) (fp : List Addr), XG (X.blk s H scope (compEnvC scope cl C X.env) fp) F tg is g) (ht : ∀ (s : Shared) (H : Hp) (C : Addr) (cl : List (Str × Addr)) (fp : List Addr), XTs (X.blk s H scope (compEnvC scope cl C X.env) fp) F ifs tt)
    (he : ∀ (s : Shared) (H : Hp) (C : Addr) (cl : List (Str × Addr)) (fp : List Addr), XE (X.blk s H scope (compEnvC scope cl C X.env) fp) F elt te) (hv : ∀ i ∈ is, i ∈ own.map (·.2) := by decide) (hs : ∀ x, foldedSetIterable iter X.env x = pure x := by intro _; rfl) :
    XR X F (.ListComp elt [⟨tg, iter, ifs, 0⟩] scope pos) (wLc s g (own.map (·.2)) tt te) := xr_lc hc hN hi ok hv hg ht he (ht {} (fun _ => none) 0 [] []).mono (he {} (fun _ => none) 0 [] []).mono hs
theorem xs_setLcA (own : List (Str × Nat)) {i : Nat} {y : Str} {py spos : Pos} (hc : X.calm = true) (hN : X.N.Nodup) (hy : X.N[i]? = some y) (hyl : X.env.scope.names.lookup y = some .local)
    (hsw : swapsWith (.ListComp elt [⟨tg, iter, ifs, 0⟩] scope pos) (some (.Name y py)) spos.line X.env = pure true) (hi : XI X F tg iter s) (ok : BlkOk X.N X.env.scope scope own)
    (hg : ∀ (s : Shared) (H : Hp) (C : Addr) (cl : List (Str × Addr)) (fp : List Addr), XG (X.blk s H scope (compEnvC scope cl C X.env) fp) F tg is g) (ht : ∀ (s : Shared) (H : Hp) (C : Addr) (cl : List (Str × Addr)) (fp : List Addr), XTs (X.blk s H scope (compEnvC scope cl C X.env) fp) F ifs tt)
    (he : ∀ (s : Shared) (H : Hp) (C : Addr) (cl : List (Str × Addr)) (fp : List Addr), XE (X.blk s H scope (compEnvC scope cl C X.env) fp) F elt te) (hv : ∀ i ∈ is, i ∈ own.map (·.2) := by decide) (hs : ∀ x, foldedSetIterable iter X.env x = pure x := by intro _; rfl) :
    XS X F (.Assign [.Name y py] (.ListComp elt [⟨tg, iter, ifs, 0⟩] scope pos) spos) (wLcSet i (wLc s g (own.map (·.2)) tt te)) := xs_setLc hc hN hy hyl hsw hi ok hv hg ht he (ht {} (fun _ => none) 0 [] []).mono (he {} (fun _ => none) 0 [] []).mono hs
theorem xr_lc2A (own : List (Str × Nat)) (vs1 : List Nat) (hc : X.calm = true) (hN : X.N.Nodup) (hi : XI X F tg iter s) (ok : BlkOk X.N X.env.scope scope own)
    (hg : ∀ (s : Shared) (H : Hp) (C : Addr) (cl : List (Str × Addr)) (fp : List Addr), XG (X.blk s H scope (compEnvC scope cl C X.env) fp) F tg is g) (ht : ∀ (s : Shared) (H : Hp) (C : Addr) (cl : List (Str × Addr)) (fp : List Addr), XTs (X.blk s H scope (compEnvC scope cl C X.env) fp) F ifs tt)
    (hi1 : ∀ (s : Shared) (H : Hp) (C : Addr) (cl : List (Str × Addr)) (fp : List Addr), XI (X.blk s H scope (compEnvC scope cl C X.env) fp) F tg1 iter1 s1)
    (hg1 : ∀ (s : Shared) (H : Hp) (C : Addr) (cl : List (Str × Addr)) (fp : List Addr), XG (X.blk s H scope (compEnvC scope cl C X.env) fp) F tg1 is1 g1) (ht1 : ∀ (s : Shared) (H : Hp) (C : Addr) (cl : List (Str × Addr)) (fp : List Addr), XTs (X.blk s H scope (compEnvC scope cl C X.env) fp) F ifs1 tt1)
    (he : ∀ (s : Shared) (H : Hp) (C : Addr) (cl : List (Str × Addr)) (fp : List Addr), XE (X.blk s H scope (compEnvC scope cl C X.env) fp) F elt te)
    (hv : ∀ i ∈ is, i ∈ own.map (·.2) := by decide) (hv1 : ∀ i ∈ is1, i ∈ vs1 := by decide) (hvo : ∀ i ∈ vs1, i ∈ own.map (·.2) := by decide) (hs : ∀ x, foldedSetIterable iter X.env x = pure x := by intro _; rfl) (hs1 : ∀ env x, foldedSetIterable iter1 env x = pure x := by intro _ _; rfl) :
    XR X F (.ListComp elt [⟨tg, iter, ifs, 0⟩, ⟨tg1, iter1, ifs1, 0⟩] scope pos) (wLc2 s g (own.map (·.2)) tt s1 g1 vs1 tt1 te) :=
  xr_lc2 hc hN hi ok hv hv1 hvo hg ht hi1 hg1 ht1 he (ht {} (fun _ => none) 0 [] []).mono (hi1 {} (fun _ => none) 0 [] []).mono (ht1 {} (fun _ => none) 0 [] []).mono (he {} (fun _ => none) 0 [] []).mono hs hs1
theorem xs_setLc2A (own : List (Str × Nat)) (vs1 : List Nat) {i : Nat} {y : Str} {py spos : Pos} (hc : X.calm = true) (hN : X.N.Nodup) (hy : X.N[i]? = some y) (hyl : X.env.scope.names.lookup y = some .local)
    (hsw : swapsWith (.ListComp elt [⟨tg, iter, ifs, 0⟩, ⟨tg1, iter1, ifs1, 0⟩] scope pos) (some (.Name y py)) spos.line X.env = pure true) (hi : XI X F tg iter s) (ok : BlkOk X.N X.env.scope scope own)
    (hg : ∀ (s : Shared) (H : Hp) (C : Addr) (cl : List (Str × Addr)) (fp : List Addr), XG (X.blk s H scope (compEnvC scope cl C X.env) fp) F tg is g) (ht : ∀ (s : Shared) (H : Hp) (C : Addr) (cl : List (Str × Addr)) (fp : List Addr), XTs (X.blk s H scope (compEnvC scope cl C X.env) fp) F ifs tt)
    (hi1 : ∀ (s : Shared) (H : Hp) (C : Addr) (cl : List (Str × Addr)) (fp : List Addr), XI (X.blk s H scope (compEnvC scope cl C X.env) fp) F tg1 iter1 s1)
    (hg1 : ∀ (s : Shared) (H : Hp) (C : Addr) (cl : List (Str × Addr)) (fp : List Addr), XG (X.blk s H scope (compEnvC scope cl C X.env) fp) F tg1 is1 g1) (ht1 : ∀ (s : Shared) (H : Hp) (C : Addr) (cl : List (Str × Addr)) (fp : List Addr), XTs (X.blk s H scope (compEnvC scope cl C X.env) fp) F ifs1 tt1)
    (he : ∀ (s : Shared) (H : Hp) (C : Addr) (cl : List (Str × Addr)) (fp : List Addr), XE (X.blk s H scope (compEnvC scope cl C X.env) fp) F elt te)
    (hv : ∀ i ∈ is, i ∈ own.map (·.2) := by decide) (hv1 : ∀ i ∈ is1, i ∈ vs1 := by decide) (hvo : ∀ i ∈ vs1, i ∈ own.map (·.2) := by decide) (hs : ∀ x, foldedSetIterable iter X.env x = pure x := by intro _; rfl) (hs1 : ∀ env x, foldedSetIterable iter1 env x = pure x := by intro _ _; rfl) :
    XS X F (.Assign [.Name y py] (.ListComp elt [⟨tg, iter, ifs, 0⟩, ⟨tg1, iter1, ifs1, 0⟩] scope pos) spos) (wLcSet i (wLc2 s g (own.map (·.2)) tt s1 g1 vs1 tt1 te)) :=
  xs_setLc2 hc hN hy hyl hsw hi ok hv hv1 hvo hg ht hi1 hg1 ht1 he (ht {} (fun _ => none) 0 [] []).mono (hi1 {} (fun _ => none) 0 [] []).mono (ht1 {} (fun _ => none) 0 [] []).mono (he {} (fun _ => none) 0 [] []).mono hs hs1
end
/-- name = [..], the name's own list -/
theorem xs_setLcO {X : Cx} {F : Fx} {tg iter elt : Expr} {g : GS} {tt : WT} {te : WE} {ifs : List Expr} {scope : Scope} {pos : Pos} {s : WI} {is : List Nat} (own : List (Str × Nat)) {i : Nat} {y : Str} {py spos : Pos} (hc : X.calm = true) (hN : X.N.Nodup) (hy : X.N[i]? = some y) (hyl : X.env.scope.names.lookup y = some .local)
    (hsw : swapsWith (.ListComp elt [⟨tg, iter, ifs, 0⟩] scope pos) (some (.Name y py)) spos.line X.env = pure true) (hi : XI X F tg iter s) (ok : BlkOk X.N X.env.scope scope own)
    (hg : ∀ (s : Shared) (H : Hp) (C : Addr) (cl : List (Str × Addr)) (fp : List Addr), XG (X.blk s H scope (compEnvC scope cl C X.env) fp) F tg is g) (ht : ∀ (s : Shared) (H : Hp) (C : Addr) (cl : List (Str × Addr)) (fp : List Addr), XTs (X.blk s H scope (compEnvC scope cl C X.env) fp) F ifs tt)
    (he : ∀ (s : Shared) (H : Hp) (C : Addr) (cl : List (Str × Addr)) (fp : List Addr), XE (X.blk s H scope (compEnvC scope cl C X.env) fp) F elt te) (hv : ∀ i ∈ is, i ∈ own.map (·.2) := by decide) (hs : ∀ x, foldedSetIterable iter X.env x = pure x := by intro _; rfl) :
    XS X F (.Assign [.Name y py] (.ListComp elt [⟨tg, iter, ifs, 0⟩] scope pos) spos) (wSetO i (wLc s g (own.map (·.2)) tt te)) :=
  have mt := (ht {} (fun _ => none) 0 [] []).mono
  have me := (he {} (fun _ => none) 0 [] []).mono
  ⟨fun E E' z l w => hi.mono _ _ _ (fun items z1 q => wLcL_mono mt me (fun acc z ⟨m, e, q⟩ => ⟨m, e, l.nx _ q⟩) _ _ _ q) w,
    ps_imp (ps_setLc hc hN hy hyl hsw hi.run ok (fun s H C cl fp => (hg s H C cl fp).run) (fun s H C cl fp => (ht s H C cl fp).run) (fun s H C cl fp => (he s H C cl fp).run) hs) fun D σ H ⟨z, I, o, w⟩ => by
      refine lc_run (X := X) (Q := fun x H1 => gName i x σ H1 D.nx) hi.mono hv mt me ⟨z, I, o, hi.mono _ _ _ (fun items z1 q => wLcL_mono mt me (fun acc z' q => ?_) _ _ _ q) w⟩
      obtain ⟨m, e, q⟩ := q
      injection e with e
      subst e
      intro a I' H' o' s' n
      obtain ⟨vs, f1, f2⟩ := n.at_
      exact q _ I' H' (o'.setOwn f1 f2 n.imm n.h0 n.nown) s'.imm⟩
/-! ### count -/
def mCount : FM := fun z x xs k => ∃ l d, lstOf z x = some l ∧ xs = [.d d] ∧ PyData.plainAll l = true ∧ d.plain = true ∧ min (PyData.depthAll l) d.depth ≤ 60 ∧ k (.d (.int ((l.countP fun y => PyData.eqv y d : Nat) : Int))) z
def rCountD (K : PySem.W.Frag) : V → List V → Hp → VK → Prop := fun x vs H Q => ∃ a us l v d, x = .ref a ∧ vs = [v] ∧ SqL K H a us ∧ RpA K H us l ∧ Rp K H v d ∧ PyData.plainAll l = true ∧ d.plain = true ∧ min (PyData.depthAll l) d.depth ≤ 60 ∧ Q (.int ((l.countP fun y => PyData.eqv y d : Nat) : Int)) H
section
variable {X : Cx} {F : Fx}
theorem mt_countD (hu : X.A.units + 64 < cLine) : MtR X "list.count" (rCountD X.K) := by
  intro pins s σ H x xs v us Q I rx rv h
  obtain ⟨a, ws, l, y, d, rfl, rfl, hq, ra, rd, p1, p2, m, q⟩ := h
  cases rx
  obtain ⟨u, rfl, ru⟩ := Vals.one rv
  obtain ⟨its, r2, pl, _⟩ := I.list hq
  obtain ⟨as, hr⟩ := RpA.reads I its ra p1 r2
  obtain ⟨bs, hd⟩ := Rp.reads I u rd p2 ru
  exact count_list_data pl.isList (by simpa using hr) hd p1 p2 (by omega) ⟨.int _, H, I.tok _, ⟨_, rfl⟩, q⟩
theorem vm_count : VM X F (rCountD X.K) mCount where
  mono := fun z x xs k k' h ⟨l, d, e1, e2, p1, p2, m, q⟩ => ⟨l, d, e1, e2, p1, p2, m, h _ _ q⟩
  run := fun {σ z I H x v xs vs Q} ok ev evs ⟨l, d, e1, e2, p1, p2, m, q⟩ => by
    subst e2
    cases evs with
    | cons e6 t =>
      cases t
      obtain ⟨c, us, rfl, g2, r2⟩ := ok.lst ev e1
      exact ⟨c, us, l, _, d, rfl, rfl, SqL.of g2, r2.mono ok.sub, Rp.mono ok.sub e6, p1, p2, m, q _ I H ok .refl (.int _)⟩
variable {pos apos : Pos} {o e : Expr} {t : WE} {u : WA}
theorem xr_count (hu : X.A.units + 64 < cLine) (ho : XE X F o t) (ha : XA X F [e] u) (hbase : attributeBase o "count" X.env (eval o X.env) = eval o X.env := by rfl) (hfew : ((backTo pos (starEach [e] X.env)).all (fun x => !x.1) && (backToKw pos (keywordEach [] X.env)).all (fun x => x.1.isSome)
      && decide ([e].length + ([] : List Keyword).length + (if ([] : List Keyword).isEmpty then 0 else 1) < 30)) = true := by rfl) (hline : (apos.endLine == pos.line) = true := by rfl) (hs : starEach [e] X.env = (false, eval e X.env) :: starEach [] X.env := by rfl) : XR X F (.Call (.Attribute o "count" apos) [e] [] pos) (wBM "list" mCount t u) :=
  xr_bm PySem.F.plainAttrs_list PySem.F.slot_list_count PySem.F.type_list_count (mt_countD hu) vm_count ho ha (hbase := hbase) (hfew := hfew) (hline := hline) (hs := hs)
end
/-! ### tuple times an int -/
section
variable {X : Cx} {Fx' : Fx}
theorem int_rmul_tuple1 (l : Addr) (items : Array Value) (n : Nat) (dd : Option Addr) (sl : Array (Option Value)) (u : Tok) :
    Meets (Builtin.«tuple.__mul__» ⟨[.ref l, .int 1 u], []⟩) (fun _ R s => s.heap.get? l = some { cls := .type "tuple", dict := dd, data := .seq items n, slots := sl } ∧ R (.ok (.ret (.ref l))) s) :=
  .of_wp fun P W Ar Rr u hu => by
    obtain ⟨hp0, gl, dd0, tk, os⟩ := u
    obtain ⟨at0, hu⟩ := hu
    wp_walk using wpAny_loadPart' at0
    exact ⟨_, rfl, hu⟩
def rRepT1 (K : PySem.W.Frag) : R2 := fun x y H Q => ∃ l xs, x = .ref l ∧ y = .int 1 ∧ SqT K H l xs ∧ Q (.ref l) H
theorem op_repT1 : OpR X (binaryOp .Mult) (rRepT1 X.K) := by
  intro pins s σ H x y v u Q I rx ry h
  obtain ⟨l, xs, rfl, rfl, hq, q⟩ := h
  cases rx
  obtain ⟨t, rfl⟩ := ry
  obtain ⟨its, r, ⟨o, ho, hc, n, hd⟩, _⟩ := I.tuple hq
  obtain ⟨cls, dd, data, sl⟩ := o
  simp only at hc hd
  subst hc hd
  refine wpAny_binaryOp_repeat_ref (T := "tuple") (U := "int") (by decide) ⟨_, ho, rfl⟩ (fun s' => typeIs_int s' 1 t) noFill_tuple_mul F.fills_int_mul F.slot_int_rmul repeat_tuple F.slot_int_index.lookup
    (call_meets F.slot_int_rmul (typeIs_int s 1 t) F.entry_int_rmul (F.args_int_rmul_2 _ _) (int_rmul_tuple 1 t l its.toArray n dd sl)
      ⟨ho, rfl, ⟨_, ho, rfl⟩, call_meets F.slot_tuple_mul ⟨_, ho, rfl⟩ F.entry_tuple_mul (F.args_tuple_mul_2 _ _) (int_rmul_tuple1 l its.toArray n dd sl t) ⟨ho, ?_⟩⟩)
  exact ⟨.ref l, H, I, rfl, q⟩
/-- a tuple times a positive int -/
def sMulT : F2 := fun _ x y k => ∃ l j, x = .d (.tuple l) ∧ y = .d (.int j) ∧ l ≠ [] ∧ 1 ≤ j ∧ j ≤ 1000 ∧ l.length ≤ 1000 ∧ k (.d (.tuple (List.replicate j.toNat l).flatten))
theorem op_mulT : OpR X (binaryOp .Mult) (fun x y H Q => rRepT1 X.K x y H Q ∨ rRepT X.K x y H Q) := OpR.or op_repT1 op_repT
theorem vr_mulT : VR2 X Fx' (fun x y H Q => rRepT1 X.K x y H Q ∨ rRepT X.K x y H Q) sMulT where
  mono := fun z x y k k' h ⟨l, j, e1, e2, a, b, c, d, q⟩ => ⟨l, j, e1, e2, a, b, c, d, h _ q⟩
  run := fun {σ z I H x y vx vy Q} ok ex ey ⟨l, j, e1, e2, hn, h1, h2, h3, q⟩ => by
    subst e1 e2
    cases ey
    cases ex with
    | tup hq r =>
    by_cases hj : j = 1
    · subst hj
      have e : (List.replicate (1 : Int).toNat l).flatten = l := by
        show (List.replicate 1 l).flatten = l
        simp
      rw [e] at q
      exact .inl ⟨_, _, rfl, rfl, same_tup ok.sub hq, q.scal ok (.tup hq r)⟩
    · refine .inr ⟨_, j, _, rfl, rfl, same_tup ok.sub hq, fun e => hn ?_, by omega, h2, by rw [r.length]; exact h3, fun p hp => q.tup ok (r.rep _) hp⟩
      subst e
      cases r
      rfl
end
/-! ### the def of the text as it stands -/
structure Fd (P : Program) (w : World) (K : PySem.W.Frag) (mg : Str → Option Value) (base : Heap) (x : Str) (k : Nat) (ps : List Str) (p : FS) where
  f : Addr
  fd : FuncData
  ok : FnOk P w K mg base CX0 k f fd ps (spOf K p)
  mg : mg x = some (.ref f)
  kp : PySem.W.keepIn K (Value.ref f) = true
  b : Binds K fd ps []
end L3
/-! Rules to run a body by hand: one a construct, the continuation last. -/
namespace L3
open PySem PySem.Spec PyProof.Rows L2 PySem.SeqAt
section
variable {z z1 : SS} {R : EV → SS → Prop} {RR : RV → SS → Prop} {RA : List EV → SS → Prop} {RT : Bool → SS → Prop} {RI : List D → SS → Prop} {RO : Option Int → SS → Prop} {E : En} {k : RV → Prop}
variable {i j : Int} {n m : Nat} {d x y : D} {a b : Str} {l l' : List D} {c c' : Bool}
variable {t u ta tb tc : WE} {tr : WR} {ts us : WS} {tt tu : WT} {wa : WA} {wi wi1 : WI} {wo wo' : WO} {g g1 : GS} {f f' : F2} {fc : FC} {fm : FM} {ev ew : EV}
-- statements
theorem i_seq (h : ts { E with nx := fun z' => us E z' } z) : wSeq ts us E z := h
theorem i_next (h : E.nx z) : wNext E z := h
theorem i_kill {is : List Nat} (h : ts { E with nx := fun z' => E.nx (killAll is z'), ct := fun z' => E.ct (killAll is z') } z) : wKill is ts E z := h
theorem i_freeze (e : frzS n z = some z1) (h : ts E z1) : wFreeze n ts E z := ⟨z1, e, h⟩
theorem i_drop (h : t z fun _ z' => E.nx z') : wDrop t E z := h
theorem i_ret (h : t z fun ev z' => ∃ d, ev = .d d ∧ E.rt (.d d) z') : wRet t E z := h
theorem i_retR (h : tr z fun r z' => E.rt r z') : wRetR tr E z := h
theorem i_retO (e : z[n]? = some (some (.own none l))) (h : E.rt (.n l) (z.set n none)) : wRetO n E z := ⟨l, e, h⟩
theorem i_ifS (h : tt z fun b z' => if b = true then ts E z' else us E z') : wIfS tt ts us E z := h
theorem i_set (h : t z fun ev z1 => ∃ d, ev = .d d ∧ E.nx (z1.set n (some (.val d)))) : wSet n t E z := h
theorem i_setO (h : tr z fun r z1 => ∃ l, r = .n l ∧ E.nx (z1.set n (some (.own none l)))) : wSetO n tr E z := h
theorem i_lcSet (h : tr z fun r z1 => E.nx (z1.set n (some (.val r.toD)))) : wLcSet n tr E z := h
theorem i_asg (h : t z fun ev z1 => ∃ d z2, ev = .d d ∧ g d z1 = some z2 ∧ E.nx z2) : wAsg t g E z := h
theorem i_put (h : t z fun ev z1 => ta z1 fun o z2 => tb z2 fun i z3 => ∃ d s k b l j, ev = .d d ∧ o = .o s ∧ i = .d (.int k) ∧ z3[s]? = some (some (.own b l)) ∧ ixN l.length k = some j ∧ E.nx (z3.set s (some (.own b (l.set j d))))) : wPut t ta tb E z := h
theorem i_for (h : wi z fun items z1 => wForL g ts E items z1) : wFor wi g ts E z := h
-- tests
theorem i_test (h : t z fun x z1 => ∃ c, x = .d (.bool c) ∧ RT c z1) : wTest t z RT := h
theorem i_tnot (h : tt z fun c z1 => RT (!c) z1) : wNot tt z RT := h
theorem i_tand (h : tt z fun c z1 => if c = true then tu z1 RT else RT false z1) : wAnd tt tu z RT := h
theorem i_tor (h : tt z fun c z1 => if c = true then RT true z1 else tu z1 RT) : wOr tt tu z RT := h
theorem i_yes (h : RT true z) : wYes z RT := h
-- expressions
theorem i_var (e : z[n]? = some (some (.val d))) (h : R (.d d) z) : wVar n z R := by unfold wVar; rw [e]; exact h
theorem i_varO {b : Option Nat} (e : z[n]? = some (some (.own b l))) (h : R (.o n) z) : wVar n z R := by unfold wVar; rw [e]; exact h
theorem i_c (h : R (.d d) z) : wC d z R := h
theorem i_dct (h : R (.d (.dict [])) z) : wDct z R := h
theorem i_frz (h : tr z fun r z' => R (.d r.toD) z') : wFrz tr z R := h
theorem i_bin (h : ta z fun x z1 => tb z1 fun y z2 => f z2 x y fun d => R (.d d.toD) z2) : wBin f ta tb z R := h
theorem i_binR (h : ta z fun x z1 => tb z1 fun y z2 => f z2 x y fun d => RR d z2) : wBinR f ta tb z RR := h
theorem i_cb (h : wa z fun es z1 => fc z1 es fun r => RR r z1) : wCB fc wa z RR := h
theorem i_nil (h : RA [] z) : wNil z RA := h
theorem i_cons (h : t z fun x z1 => wa z1 fun xs z2 => RA (x :: xs) z2) : wCons t wa z RA := h
theorem i_tup (h : wa z fun es z1 => ∃ ds, allD es = some ds ∧ ds.length ≤ sizeLine ∧ R (.d (.tuple ds)) z1) : wTup wa z R := h
theorem i_lst (h : wa z fun es z1 => ∃ ds, allD es = some ds ∧ ds.length ≤ sizeLine ∧ RR (.n ds) z1) : wLst wa z RR := h
theorem i_neg (h : t z fun x z1 => ∃ i, x = .d (.int i) ∧ R (.d (.int (-i))) z1) : wNeg t z R := h
theorem i_isa {T : String} (h : t z fun x z1 => ∃ d, evD z1 x = some d ∧ (∀ l, d ≠ .dict [(.none, .list l)]) ∧ R (.d (.bool (isA T d))) z1) : wIsa T t z R := h
theorem i_andV (h : ta z fun x z1 => ∃ c, x = .d (.bool c) ∧ if c = true then tb z1 R else R (.d (.bool false)) z1) : wAndV ta tb z R := h
theorem i_orV (h : ta z fun x z1 => ∃ c, x = .d (.bool c) ∧ if c = true then R (.d (.bool true)) z1 else tb z1 R) : wOrV ta tb z R := h
theorem i_notV (h : t z fun x z1 => ∃ c, x = .d (.bool c) ∧ R (.d (.bool (!c))) z1) : wNotV t z R := h
theorem i_if (h : tt z fun c z1 => if c = true then ta z1 R else tb z1 R) : wIf tt ta tb z R := h
theorem i_chain (h : ta z fun x z1 => tb z1 fun y z2 => f z2 x y fun d => ∃ c, d = .d (.bool c) ∧ if c = true then tc z2 fun w z3 => f' z3 y w fun d => R (.d d.toD) z3 else R (.d (.bool false)) z2) : wChain f f' ta tb tc z R := h
theorem i_sl (h : t z fun x z1 => wo z1 fun lo z2 => wo' z2 fun hi z3 => sSl z3 x lo hi fun d => RR d z3) : wSl t wo wo' z RR := h
theorem i_noPart (h : RO none z) : wNoPart z RO := h
theorem i_part (h : t z fun x z1 => ∃ i, x = .d (.int i) ∧ RO (some i) z1) : wPart t z RO := h
theorem i_bm {T : String} (h : t z fun x z1 => tyE T z1 x ∧ wa z1 fun xs z2 => fm z2 x xs RR) : wBM T fm t wa z RR := h
theorem i_bm0 {T : String} (h : t z fun x z1 => tyE T z1 x ∧ fm z1 x [] RR) : wBM0 T fm t z RR := h
theorem i_lrg (h : t z fun x z1 => ∃ j, x = .d (.int j) ∧ RgOk 0 j ∧ RR (.n (rangeD 0 j)) z1) : wLRg t z RR := h
theorem i_call {p : FS} (h : wa z fun es z1 => ∃ as j, argsOf z1 es = some (as, j) ∧ p as fun rv out => ∃ z2, putOut z1 j out = some z2 ∧ RR rv z2) : wCall p wa z RR := h
theorem i_src (h : t z fun ev z1 => ∃ l, srcOf ev = some l ∧ RI l z1) : wSrc t z RI := h
theorem i_rng1 (h : wa z fun es z1 => ∃ j, es = [.d (.int j)] ∧ -(2 ^ 62) ≤ j ∧ j < 2 ^ 62 ∧ RI (rangeD 0 j) z1) : wRng1 wa z RI := h
theorem i_rng2 (h : wa z fun es z1 => ∃ i j, es = [.d (.int i), .d (.int j)] ∧ (-(2 ^ 62) ≤ i ∧ i < 2 ^ 62 ∧ -(2 ^ 62) ≤ j ∧ j < 2 ^ 62) ∧ RI (rangeD i j) z1) : wRng2 wa z RI := h
theorem i_enum (h : wa z fun es z1 => ∃ d l, es = [.d d] ∧ itemsD d = some l ∧ RI (enumD l) z1) : wEnum wa z RI := h
theorem i_lc {own : List Nat} {tt : WT} {te : WE} (h : wi z fun items z1 => wLcL g own tt te (fun acc z' => RR (.n acc) (restS own z1 z')) items [] (killAll own z1)) : wLc wi g own tt te z RR := h
theorem i_lc2 {own vs : List Nat} {tt tt1 : WT} {te : WE} (h : wi z fun items z1 => wLcL2 g own tt wi1 g1 vs tt1 te (fun acc z' => RR (.n acc) (restS own z1 z')) items [] (killAll own z1)) : wLc2 wi g own tt wi1 g1 vs tt1 te z RR := h
-- what continuations ask
theorem i_exD {P : D → Prop} (h : P d) : ∃ x, EV.d d = .d x ∧ P x := ⟨d, rfl, h⟩
theorem i_exB {P : Bool → Prop} (h : P c) : ∃ x, EV.d (.bool c) = .d (.bool x) ∧ P x := ⟨c, rfl, h⟩
theorem i_exRB {P : Bool → Prop} (h : P c) : ∃ x, RV.d (.bool c) = .d (.bool x) ∧ P x := ⟨c, rfl, h⟩
theorem i_exI {P : Int → Prop} (h : P i) : ∃ x, EV.d (.int i) = .d (.int x) ∧ P x := ⟨i, rfl, h⟩
theorem i_exN {P : List D → Prop} (h : P l) : ∃ x, RV.n l = .n x ∧ P x := ⟨l, rfl, h⟩
theorem i_ifT {A B : Prop} (e : c = true) (h : A) : if c = true then A else B := by rw [if_pos e]; exact h
theorem i_ifF {A B : Prop} (e : c = false) (h : B) : if c = true then A else B := by rw [if_neg (by rw [e]; decide)]; exact h
theorem i_ifB {A B : Prop} (h : c = true → A) (h' : c = false → B) : if c = true then A else B := by
  cases e : c with
  | true => rw [if_pos rfl]; exact h e
  | false => rw [if_neg (by decide)]; exact h' e
theorem i_ifD {A B p : Prop} [Decidable p] (h : p → A) (h' : ¬ p → B) : if decide p = true then A else B := by
  by_cases e : p
  · rw [if_pos (decide_eq_true e)]; exact h e
  · rw [if_neg (by rw [decide_eq_false e]; decide)]; exact h' e
theorem i_allD {P : List D → Prop} {es : List EV} (e : allD es = some l) (e2 : l.length ≤ sizeLine) (h : P l) : ∃ ds, allD es = some ds ∧ ds.length ≤ sizeLine ∧ P ds := ⟨l, e, e2, h⟩
theorem i_args {P : List AV → Option Nat → Prop} {es : List EV} {as : List AV} {o : Option Nat} (e : argsOf z es = some (as, o)) (h : P as o) : ∃ as j, argsOf z es = some (as, j) ∧ P as j := ⟨as, o, e, h⟩
theorem i_out {P : SS → Prop} {o : Option Nat} {out : Option (List D)} (e : putOut z o out = some z1) (h : P z1) : ∃ z2, putOut z o out = some z2 ∧ P z2 := ⟨z1, e, h⟩
theorem i_rt {o : Bool} {Q : RV → Option (List D) → Prop} {rv : RV} {out : Option (List D)} (e : outOf o z = some out) (h : Q rv out) : (retEn o Q).rt rv z := ⟨out, e, h⟩
theorem i_srcOf {P : List D → Prop} (e : srcOf ev = some l) (h : P l) : ∃ l, srcOf ev = some l ∧ P l := ⟨l, e, h⟩
theorem i_evD {P : D → Prop} (e : evD z ev = some d) (e2 : ∀ l, d ≠ .dict [(.none, .list l)]) (h : P d) : ∃ d, evD z ev = some d ∧ (∀ l, d ≠ .dict [(.none, .list l)]) ∧ P d := ⟨d, e, e2, h⟩
theorem i_rngD {P : Int → Prop} (a : -(2 ^ 62) ≤ i) (b : i < 2 ^ 62) (h : P i) : ∃ j, [EV.d (.int i)] = [.d (.int j)] ∧ -(2 ^ 62) ≤ j ∧ j < 2 ^ 62 ∧ P j := ⟨i, rfl, a, b, h⟩
theorem i_rngD2 {P : Int → Int → Prop} (a : -(2 ^ 62) ≤ i ∧ i < 2 ^ 62 ∧ -(2 ^ 62) ≤ j ∧ j < 2 ^ 62) (h : P i j) : ∃ i' j', [EV.d (.int i), .d (.int j)] = [.d (.int i'), .d (.int j')] ∧ (-(2 ^ 62) ≤ i' ∧ i' < 2 ^ 62 ∧ -(2 ^ 62) ≤ j' ∧ j' < 2 ^ 62) ∧ P i' j' := ⟨i, j, rfl, a, h⟩
theorem i_lrgD {P : Int → Prop} (a : RgOk 0 i) (h : P i) : ∃ j, EV.d (.int i) = .d (.int j) ∧ RgOk 0 j ∧ P j := ⟨i, rfl, a, h⟩
theorem i_enumD {P : List D → Prop} (e : itemsD d = some l) (h : P (enumD l)) : ∃ d' l, [EV.d d] = [.d d'] ∧ itemsD d' = some l ∧ P (enumD l) := ⟨d, l, rfl, e, h⟩
theorem i_putD {P : SS → Prop} {s : Nat} {b : Option Nat} {jj : Nat} (e1 : z[s]? = some (some (.own b l))) (e2 : ixN l.length i = some jj) (h : P (z.set s (some (.own b (l.set jj d))))) :
    ∃ d' s' k b' l' j', EV.d d = .d d' ∧ EV.o s = .o s' ∧ EV.d (.int i) = .d (.int k) ∧ z[s']? = some (some (.own b' l')) ∧ ixN l'.length k = some j' ∧ P (z.set s' (some (.own b' (l'.set j' d')))) := ⟨d, s, i, b, l, jj, rfl, rfl, rfl, e1, e2, h⟩
theorem i_asgD {P : SS → Prop} (e : g d z = some z1) (h : P z1) : ∃ d' z2, EV.d d = .d d' ∧ g d' z = some z2 ∧ P z2 := ⟨d, z1, rfl, e, h⟩
theorem le_line {n : Nat} (h : n ≤ 100000) : n ≤ sizeLine := by rw [sizeLine_eq]; omega
theorem lt_line {n : Nat} (h : n ≤ 100000) : n < sizeLine := by rw [sizeLine_eq]; omega
theorem pow_ok {i j : Int} (h : 0 ≤ j ∧ j ≤ 1000000 ∧ i.natAbs < 2 ^ 64) : CPow i j := h
-- operators
theorem i_addI (h : k (.d (.int (i + j)))) : sAdd z (.d (.int i)) (.d (.int j)) k := h
theorem i_addS (e : a.length + b.length ≤ sizeLine) (h : k (.d (.str (a ++ b)))) : sAdd z (.d (.str a)) (.d (.str b)) k := ⟨e, h⟩
theorem i_addT (e : l.length + l'.length ≤ sizeLine) (h : k (.d (.tuple (l ++ l')))) : sAdd z (.d (.tuple l)) (.d (.tuple l')) k := ⟨e, h⟩
theorem i_addL (e1 : lstOf z ev = some l) (e2 : lstOf z ew = some l') (e : l.length + l'.length ≤ sizeLine) (h : k (.n (l ++ l'))) : sAdd z ev ew k := by
  have c : catL z ev ew k := ⟨l, l', e1, e2, e, h⟩
  unfold sAdd
  split
  · cases e1
  · cases e1
  · cases e1
  · exact c
theorem i_sub (h : k (.d (.int (i - j)))) : sSub z (.d (.int i)) (.d (.int j)) k := ⟨i, j, rfl, rfl, h⟩
theorem i_mul (e : CMul i j) (h : k (.d (.int (i * j)))) : sMul z (.d (.int i)) (.d (.int j)) k := ⟨e, h⟩
theorem i_mulL (e1 : lstOf z ev = some l) (a : -(2 ^ 63) ≤ j) (b : j < 2 ^ 63) (e : l.length * j.toNat ≤ sizeLine) (h : k (.n (List.replicate j.toNat l).flatten)) : sMul z ev (.d (.int j)) k := by
  cases ev with
  | o n => exact ⟨l, e1, a, b, e, h⟩
  | d y => cases y <;> first | exact ⟨l, e1, a, b, e, h⟩ | cases e1
theorem i_mulT (e : l ≠ []) (a : 1 ≤ j) (b : j ≤ 1000) (c : l.length ≤ 1000) (h : k (.d (.tuple (List.replicate j.toNat l).flatten))) : sMulT z (.d (.tuple l)) (.d (.int j)) k := ⟨l, j, rfl, rfl, e, a, b, c, h⟩
theorem i_fdiv (e : CDiv i j) (h : k (.d (.int (i / j)))) : sFDiv z (.d (.int i)) (.d (.int j)) k := ⟨i, j, rfl, rfl, e, h⟩
theorem i_mod (e : 0 < j) (h : k (.d (.int (i % j)))) : sMod z (.d (.int i)) (.d (.int j)) k := ⟨i, j, rfl, rfl, e, h⟩
theorem i_pow (e : CPow i j) (h : k (.d (.int (i ^ j.toNat)))) : sPow z (.d (.int i)) (.d (.int j)) k := ⟨i, j, rfl, rfl, e, h⟩
theorem i_lt (h : k (.d (.bool (decide (i < j))))) : sLt z (.d (.int i)) (.d (.int j)) k := ⟨i, j, rfl, rfl, h⟩
theorem i_le (h : k (.d (.bool (decide (i ≤ j))))) : sLe z (.d (.int i)) (.d (.int j)) k := ⟨i, j, rfl, rfl, h⟩
theorem i_gt (h : k (.d (.bool (decide (j < i))))) : sGt z (.d (.int i)) (.d (.int j)) k := ⟨i, j, rfl, rfl, h⟩
theorem i_ge (h : k (.d (.bool (decide (j ≤ i))))) : sGe z (.d (.int i)) (.d (.int j)) k := ⟨i, j, rfl, rfl, h⟩
/-- ==, != of scalars -/
theorem eqv_int : PyData.eqv (.int i) (.int j) = decide (i = j) := by simp [PyData.eqv, Bool.beq_eq_decide_eq]
theorem eqv_bool : PyData.eqv (.bool c) (.bool c') = decide (c = c') := by cases c <;> cases c' <;> rfl
theorem eqv_str : PyData.eqv (.str a) (.str b) = decide (a = b) := by simp [PyData.eqv, Bool.beq_eq_decide_eq]
theorem i_eqI (h : k (.d (.bool (decide (i = j))))) : sEq z (.d (.int i)) (.d (.int j)) k := ⟨_, _, rfl, rfl, rfl, rfl, by simp [PyData.depth], by rw [eqv_int]; exact h⟩
theorem i_neI (h : k (.d (.bool (!decide (i = j))))) : sNe z (.d (.int i)) (.d (.int j)) k := ⟨_, _, rfl, rfl, rfl, rfl, by simp [PyData.depth], by rw [eqv_int]; exact h⟩
theorem i_eqB (h : k (.d (.bool (decide (c = c'))))) : sEq z (.d (.bool c)) (.d (.bool c')) k := ⟨_, _, rfl, rfl, rfl, rfl, by simp [PyData.depth], by rw [eqv_bool]; exact h⟩
theorem i_neB (h : k (.d (.bool (!decide (c = c'))))) : sNe z (.d (.bool c)) (.d (.bool c')) k := ⟨_, _, rfl, rfl, rfl, rfl, by simp [PyData.depth], by rw [eqv_bool]; exact h⟩
theorem i_eqS (h : k (.d (.bool (decide (a = b))))) : sEq z (.d (.str a)) (.d (.str b)) k := ⟨_, _, rfl, rfl, rfl, rfl, by simp [PyData.depth], by rw [eqv_str]; exact h⟩
theorem i_neS (h : k (.d (.bool (!decide (a = b))))) : sNe z (.d (.str a)) (.d (.str b)) k := ⟨_, _, rfl, rfl, rfl, rfl, by simp [PyData.depth], by rw [eqv_str]; exact h⟩
theorem i_isN (e : evD z ev = some d) (h : k (.d (.bool (isNone d)))) : sIsN id z ev (.d .none) k := ⟨rfl, d, e, h⟩
theorem i_notN (e : evD z ev = some d) (h : k (.d (.bool (!isNone d)))) : sIsN not z ev (.d .none) k := ⟨rfl, d, e, h⟩
theorem i_isB (h : k (.d (.bool (decide (c = c'))))) : sIsB id z (.d (.bool c)) (.d (.bool c')) k := ⟨c, c', rfl, rfl, h⟩
theorem i_ix (e : seqOf z ev = some l) (e2 : atI l i = some d) (h : k (.d d)) : sIx z ev (.d (.int i)) k := ⟨i, rfl, .inl ⟨l, d, e, e2, h⟩⟩
theorem i_ixS {cc : Nat} (e : a.length ≤ sizeLine) (e2 : atI a.cps.toList i = some cc) (h : k (.d (.str ⟨#[cc]⟩))) : sIx z (.d (.str a)) (.d (.int i)) k := ⟨i, rfl, .inr ⟨a, cc, rfl, e, e2, h⟩⟩
theorem i_slS {lo hi : Option Int} (e : a.length ≤ sizeLine) (h : k (.d (.str (cutT a lo hi)))) : sSl z (.d (.str a)) lo hi k := ⟨e, h⟩
theorem i_slT {lo hi : Option Int} (h : k (.d (.tuple (cutD l lo hi)))) : sSl z (.d (.tuple l)) lo hi k := h
theorem i_slL {lo hi : Option Int} (e : evD z ev = some (.list l)) (h : k (.n (cutD l lo hi))) : sSl z ev lo hi k := by unfold sSl; rw [e]; exact h
-- built-in functions
theorem i_f1 {g : SS → EV → (RV → Prop) → Prop} (h : g z ev k) : f1 g z [ev] k := ⟨ev, rfl, h⟩
theorem i_f2 {g : SS → EV → EV → (RV → Prop) → Prop} (h : g z ev ew k) : f2 g z [ev, ew] k := ⟨ev, ew, rfl, h⟩
theorem i_len (e : seqOf z ev = some l) (h : k (.d (.int l.length))) : sLen z ev k := .inl ⟨l, e, h⟩
theorem i_lenS (e : a.length ≤ sizeLine) (h : k (.d (.int a.length))) : sLen z (.d (.str a)) k := .inr (.inl ⟨a, rfl, e, h⟩)
theorem i_abs (h : k (.d (.int (if i < 0 then -i else i)))) : sAbs z (.d (.int i)) k := ⟨i, rfl, h⟩
theorem i_int (h : k (.d (.int i))) : sInt z (.d (.int i)) k := .inl ⟨i, rfl, h⟩
theorem i_intB (h : k (.d (.int (if c then 1 else 0)))) : sInt z (.d (.bool c)) k := .inr ⟨c, rfl, h⟩
theorem i_max (h : k (.d (.int (if j > i then j else i)))) : sMax z (.d (.int i)) (.d (.int j)) k := ⟨i, j, rfl, rfl, h⟩
theorem i_min (h : k (.d (.int (if j < i then j else i)))) : sMin z (.d (.int i)) (.d (.int j)) k := ⟨i, j, rfl, rfl, h⟩
theorem i_sum {ns : List Int} (e : lstOf z ev = some (ns.map PyData.int)) (h : k (.d (.int ns.sum))) : sSum z ev k := ⟨ns, e, h⟩
theorem i_all {bs : List Bool} (e : lstOf z ev = some (bs.map PyData.bool)) (h : k (.d (.bool (bs.all id)))) : sAll z ev k := ⟨bs, e, h⟩
theorem i_any {bs : List Bool} (e : lstOf z ev = some (bs.map PyData.bool)) (h : k (.d (.bool (bs.any id)))) : sAny z ev k := ⟨bs, e, h⟩
theorem i_list (e : seqOf z ev = some l) (h : k (.n l)) : sListOf z ev k := .inl ⟨l, e, h⟩
theorem i_listScr (h : k (.n l)) : sListOf z (.d (.dict [(.none, .list l)])) k := .inr ⟨l, rfl, h⟩
theorem i_tuple (e : seqOf z ev = some l) (h : k (.d (.tuple l))) : sTupOf z ev k := ⟨l, e, h⟩
theorem i_str (e : i.natAbs.log2 < 1920) (h : k (.d (.str (toString i)))) : sStr z (.d (.int i)) k := ⟨i, rfl, e, h⟩
-- methods
theorem i_tyL {P : Prop} (e : lstOf z ev = some l) (h : P) : tyE "list" z ev ∧ P := ⟨.inl ⟨rfl, l, e⟩, h⟩
theorem i_tyS {P : Prop} (h : P) : tyE "str" z (.d (.str a)) ∧ P := ⟨.inr ⟨rfl, a, rfl⟩, h⟩
theorem i_append {b : Option Nat} (e : z[n]? = some (some (.own b l))) (e2 : l.length < sizeLine) (h : RR (.d .none) (z.set n (some (.own b (l ++ [d]))))) : mAppend z (.o n) [.d d] RR := ⟨n, b, l, d, rfl, rfl, e, e2, h⟩
theorem i_extend {b : Option Nat} (e : z[n]? = some (some (.own b l))) (e1 : lstOf z ev = some l') (e2 : l.length + l'.length ≤ sizeLine) (h : RR (.d .none) (z.set n (some (.own b (l ++ l'))))) : mExtend z (.o n) [ev] RR := ⟨n, b, l, ev, l', rfl, rfl, e, e1, e2, h⟩
theorem i_pop {b : Option Nat} (e : z[n]? = some (some (.own b l))) (e2 : l[l.length - 1]? = some d) (h : RR (.d d) (z.set n (some (.own b l.dropLast)))) : mPop z (.o n) [] RR := ⟨n, b, l, d, rfl, rfl, e, e2, h⟩
end
/-! ### loops by what holds between the turns -/
theorem forL_inv {g : GS} {t : WS} {E : En} {items : List D} (P : Nat → SS → Prop) (step : ∀ (i : Nat) (x : D) (z : SS), items[i]? = some x → P i z → ∀ N : SS → Prop, (∀ z', P (i + 1) z' → N z') → ∃ z1, g x z = some z1 ∧ t { nx := N, rt := E.rt, bk := E.nx, ct := N } z1)
    (fin : ∀ z, P items.length z → E.nx z) {z : SS} (h0 : P 0 z) : wForL g t E items z := by
  have go : ∀ (k i : Nat) (z : SS), k = items.length - i → i ≤ items.length → P i z → wForL g t E (items.drop i) z := by
    intro k
    induction k with
    | zero =>
      intro i z hk hi p
      have e : i = items.length := by omega
      subst e
      rw [List.drop_length]
      exact fin z p
    | succ k ih =>
      intro i z hk hi p
      have hlt : i < items.length := by omega
      rw [List.drop_eq_getElem_cons hlt]
      obtain ⟨z1, e, w⟩ := step i items[i] z (List.getElem?_eq_getElem hlt) p (fun z' => wForL g t E (items.drop (i + 1)) z') fun z' p' => ih (i + 1) z' (by omega) hlt p'
      exact ⟨z1, e, w⟩
  have := go items.length 0 z (by simp) (Nat.zero_le _) h0
  simpa using this
theorem rangeD_get {lo hi : Int} {i : Nat} {x : D} (h : (rangeD lo hi)[i]? = some x) : x = .int (lo + i) ∧ lo + i < hi := by
  unfold rangeD at h
  rw [List.getElem?_map] at h
  obtain ⟨j, e, q⟩ := Option.map_eq_some_iff.mp h
  obtain ⟨h1, h2⟩ := List.getElem?_eq_some_iff.mp e
  rw [List.getElem_range] at h2
  subst h2
  rw [List.length_range] at h1
  exact ⟨q.symm, by omega⟩
theorem rangeD_len (lo hi : Int) : (rangeD lo hi).length = (hi - lo).toNat := by unfold rangeD; simp
/-- over range(lo, hi) -/
theorem forR_inv {g : GS} {t : WS} {E : En} {lo hi : Int} (P : Nat → SS → Prop) (step : ∀ (i : Nat) (z : SS), lo + i < hi → P i z → ∀ N : SS → Prop, (∀ z', P (i + 1) z' → N z') → ∃ z1, g (.int (lo + i)) z = some z1 ∧ t { nx := N, rt := E.rt, bk := E.nx, ct := N } z1)
    (fin : ∀ z, P (hi - lo).toNat z → E.nx z) {z : SS} (h0 : P 0 z) : wForL g t E (rangeD lo hi) z :=
  forL_inv P (fun i x z e p N hN => by
    obtain ⟨rfl, hlt⟩ := rangeD_get e
    exact step i z hlt p N hN) (fun z p => fin z (by rw [rangeD_len] at p; exact p)) h0
theorem lcL_inv {g : GS} {own : List Nat} {tt : WT} {te : WE} {k : List D → SS → Prop} {items : List D} (P : Nat → List D → SS → Prop)
    (step : ∀ (i : Nat) (x : D) (acc : List D) (z : SS), items[i]? = some x → P i acc z → ∀ N : List D → SS → Prop, (∀ acc' z', P (i + 1) acc' z' → N acc' z') →
      ∃ z1, g x z = some z1 ∧ tt z1 fun b z2 => if b = true then te z2 fun ev z3 => ∃ d, ev = .d d ∧ acc.length < sizeLine ∧ N (acc ++ [d]) (killAll own z3) else N acc (killAll own z2))
    (fin : ∀ acc z, P items.length acc z → k acc z) {acc : List D} {z : SS} (h0 : P 0 acc z) : wLcL g own tt te k items acc z := by
  have go : ∀ (m i : Nat) (acc : List D) (z : SS), m = items.length - i → i ≤ items.length → P i acc z → wLcL g own tt te k (items.drop i) acc z := by
    intro m
    induction m with
    | zero =>
      intro i acc z hk hi p
      have e : i = items.length := by omega
      subst e
      rw [List.drop_length]
      exact fin acc z p
    | succ m ih =>
      intro i acc z hk hi p
      have hlt : i < items.length := by omega
      rw [List.drop_eq_getElem_cons hlt]
      obtain ⟨z1, e, w⟩ := step i items[i] acc z (List.getElem?_eq_getElem hlt) p (fun acc z' => wLcL g own tt te k (items.drop (i + 1)) acc z') fun acc z' p' => ih (i + 1) acc z' (by omega) hlt p'
      exact ⟨z1, e, w⟩
  have := go items.length 0 acc z (by simp) (Nat.zero_le _) h0
  simpa using this
/-- a comprehension that only reads: the map -/
theorem lcL_map {g : GS} {own : List Nat} {te : WE} {k : List D → SS → Prop} {items : List D} {z0 : SS} (fn : D → D) (hl : items.length ≤ sizeLine)
    (step : ∀ (x : D), x ∈ items → ∀ N : D → SS → Prop, (∀ z, killAll own z = z0 → N (fn x) z) → ∃ z1, g x z0 = some z1 ∧ te z1 fun ev z3 => ∃ d, ev = .d d ∧ N d z3) (fin : k (items.map fn) z0) : wLcL g own wYes te k items [] z0 := by
  refine lcL_inv (P := fun i acc z => acc = (items.take i).map fn ∧ z = z0) (fun i x acc z e h N hN => ?_) (fun acc z h => ?_) ⟨by simp, rfl⟩
  · obtain ⟨ea, ez⟩ := h
    have hm := List.mem_of_getElem? e
    have hlt : i < items.length := (List.getElem?_eq_some_iff.mp e).1
    have hacc : acc.length < sizeLine := by
      rw [ea, List.length_map, List.length_take]
      omega
    have hn : N (acc ++ [fn x]) z0 := by
      refine hN _ _ ⟨?_, rfl⟩
      rw [ea, List.take_add_one, e]
      simp
    obtain ⟨z1, e1, w⟩ := step x hm (fun d z3 => acc.length < sizeLine ∧ N (acc ++ [d]) (killAll own z3)) fun z' hz => ⟨hacc, by rw [hz]; exact hn⟩
    rw [ez]
    exact ⟨z1, e1, i_yes (i_ifT rfl w)⟩
  · obtain ⟨ea, ez⟩ := h
    rw [ea, ez, List.take_length]
    exact fin

end L3
/-! The mathematics of the laws' own helpers: promises, and that each body keeps its promise. No program text here. -/
namespace L3
open PySem PySem.Spec PyProof.Rows L2 PySem.SeqAt

/-! ### the drawn stream -/
def isStrm (l : List D) : Prop := ∃ (ns : List Int) (cur k : Int), l = [.list (ns.map PyData.int), .int cur, .int k] ∧ 0 ≤ cur ∧ 0 ≤ k ∧ ns.length ≤ 63
def p_law_stream : FS := fun as R => ∃ ns : List Int, as = [.val (.dict [(.none, .list (ns.map PyData.int))])] ∧ ns.length ≤ 63 ∧ ∀ l, isStrm l → R (.n l) none
def p_law_next : FS := fun as R => ∃ l many, as = [.own l, .val (.int many)] ∧ isStrm l ∧ 0 < many ∧ many < 1073741824 ∧ ∀ d l', isStrm l' → 0 ≤ d → d < many → R (.d (.int d)) (some l')
theorem m_law_stream : MonoF p_law_stream := fun as R R' h ⟨ns, e, a, k⟩ => ⟨ns, e, a, fun l b => h _ _ (k l b)⟩
theorem l_law_stream : ∀ as R, p_law_stream as R → as.length = 1 := fun as R ⟨ns, e, _⟩ => by rw [e]; rfl
theorem m_law_next : MonoF p_law_next := fun as R R' h ⟨l, m, e, a, b, c, k⟩ => ⟨l, m, e, a, b, c, fun d l' x y z => h _ _ (k d l' x y z)⟩
theorem l_law_next : ∀ as R, p_law_next as R → as.length = 2 := fun as R ⟨l, m, e, _⟩ => by rw [e]; rfl
/-- 0 script -/
def w_law_stream : WS :=
(wRetR (wLst (wCons (wFrz (wCB (f1 sListOf) (wCons (wVar 0) wNil))) (wCons (wC (.int 0)) (wCons (wC (.int 0)) wNil)))))
/-- 0 stream, 1 many, 2 k, 3 cell, 4 digit -/
def w_law_next : WS :=
(wSeq (wIfS (wTest (wBin sEq (wBin sIx (wVar 0) (wC (.int 1))) (wC (.int 0))))
 (wSeq (wSet 2 (wBin sIx (wVar 0) (wC (.int 2))))
 (wSeq (wSet 3 (wBin sAdd (wC (.int 7)) (wVar 2)))
 (wSeq (wIfS (wTest (wBin sLt (wVar 2) (wFrz (wCB (f1 sLen) (wCons (wBin sIx (wVar 0) (wC (.int 0))) wNil)))))
 (wSet 3 (wFrz (wCB (f1 sAbs) (wCons (wBin sIx (wBin sIx (wVar 0) (wC (.int 0))) (wVar 2)) wNil))))
 wNext)
 (wSeq (wIfS (wTest (wBin sLt (wVar 3) (wBin sPow (wC (.int 10)) (wC (.int 18)))))
 (wSeq (wSet 3 (wBin sMod (wFrz (wCB (f1 sInt) (wCons (wBin sAdd (wBin sAdd (wBin sMul (wVar 3) (wC (.int 48271))) (wBin sMul (wVar 2) (wC (.int 69621)))) (wC (.int 11))) wNil))) (wC (.int 2147483647))))
 (wSet 3 (wBin sAdd (wBin sMul (wBin sMod (wFrz (wCB (f1 sInt) (wCons (wBin sAdd (wBin sMul (wVar 3) (wC (.int 16807))) (wC (.int 13))) wNil))) (wC (.int 2147483647))) (wC (.int 65537))) (wVar 3))))
 wNext)
 (wSeq (wPut (wVar 3) (wVar 0) (wC (.int 1)))
 (wPut (wBin sAdd (wVar 2) (wC (.int 1))) (wVar 0) (wC (.int 2))))))))
 wNext)
 (wSeq (wSet 4 (wBin sMod (wFrz (wCB (f1 sInt) (wCons (wBin sIx (wVar 0) (wC (.int 1))) wNil))) (wVar 1)))
 (wSeq (wPut (wBin sFDiv (wBin sIx (wVar 0) (wC (.int 1))) (wVar 1)) (wVar 0) (wC (.int 1)))
 (wRet (wVar 4)))))
local macro_rules | `(tactic| walk_at "w1") => `(tactic| first
  | (with_reducible refine' i_seq ?_) | (with_reducible refine' i_set ?_) | (with_reducible refine' i_ifS ?_) | (with_reducible refine' i_ret ?_) | (with_reducible refine' i_next ?_) | (with_reducible refine' i_kill ?_)
  | (with_reducible refine' i_setO ?_) | (with_reducible refine' i_lcSet ?_) | (with_reducible refine' i_asg ?_) | (with_reducible refine' i_put ?_) | (with_reducible refine' i_drop ?_) | (with_reducible refine' i_retR ?_)
  | ((with_reducible refine' i_retO ?h1 ?_); (case h1 => rfl)) | (with_reducible refine' i_for ?_)
  | (with_reducible refine' i_test ?_) | (with_reducible refine' i_tnot ?_) | (with_reducible refine' i_tand ?_) | (with_reducible refine' i_tor ?_) | (with_reducible refine' i_yes ?_)
  | ((with_reducible refine' i_var ?h1 ?_); (case h1 => rfl)) | ((with_reducible refine' i_varO ?h1 ?_); (case h1 => rfl)) | (with_reducible refine' i_c ?_) | (with_reducible refine' i_dct ?_) | (with_reducible refine' i_frz ?_) | (with_reducible refine' i_bin ?_) | (with_reducible refine' i_binR ?_)
  | (with_reducible refine' i_cb ?_) | (with_reducible refine' i_nil ?_) | (with_reducible refine' i_cons ?_) | (with_reducible refine' i_tup ?_) | (with_reducible refine' i_lst ?_) | (with_reducible refine' i_neg ?_) | (with_reducible refine' i_isa ?_)
  | (with_reducible refine' i_andV ?_) | (with_reducible refine' i_orV ?_) | (with_reducible refine' i_notV ?_) | (with_reducible refine' i_if ?_) | (with_reducible refine' i_chain ?_) | (with_reducible refine' i_sl ?_) | (with_reducible refine' i_noPart ?_) | (with_reducible refine' i_part ?_)
  | (with_reducible refine' i_bm ?_) | (with_reducible refine' i_bm0 ?_) | (with_reducible refine' i_lrg ?_) | (with_reducible refine' i_call ?_) | (with_reducible refine' i_src ?_) | (with_reducible refine' i_rng1 ?_) | (with_reducible refine' i_rng2 ?_) | (with_reducible refine' i_enum ?_)
  | (with_reducible refine' i_lc ?_) | (with_reducible refine' i_lc2 ?_))
local macro_rules | `(tactic| walk_at "w2") => `(tactic| first
  | (with_reducible refine' i_exD ?_) | (with_reducible refine' i_exB ?_) | (with_reducible refine' i_exRB ?_) | (with_reducible refine' i_exI ?_) | (with_reducible refine' i_exN ?_)
  | (with_reducible refine' i_addI ?_) | (with_reducible refine' i_sub ?_) | (with_reducible refine' i_lt ?_) | (with_reducible refine' i_le ?_) | (with_reducible refine' i_gt ?_) | (with_reducible refine' i_ge ?_)
  | (with_reducible refine' i_eqI ?_) | (with_reducible refine' i_neI ?_) | (with_reducible refine' i_eqB ?_) | (with_reducible refine' i_neB ?_) | (with_reducible refine' i_eqS ?_) | (with_reducible refine' i_neS ?_)
  | (with_reducible refine' i_isB ?_) | ((with_reducible refine' i_isN ?h1 ?_); (case h1 => rfl)) | ((with_reducible refine' i_notN ?h1 ?_); (case h1 => rfl))
  | (with_reducible refine' i_f1 ?_) | (with_reducible refine' i_f2 ?_) | ((with_reducible refine' i_len ?h1 ?_); (case h1 => rfl)) | (with_reducible refine' i_abs ?_) | (with_reducible refine' i_int ?_) | (with_reducible refine' i_max ?_) | (with_reducible refine' i_min ?_)
  | (with_reducible refine' i_listScr ?_) | ((with_reducible refine' i_list ?h1 ?_); (case h1 => rfl)) | ((with_reducible refine' i_tuple ?h1 ?_); (case h1 => rfl))
  | ((with_reducible refine' i_tyL ?h1 ?_); (case h1 => rfl)) | (with_reducible refine' i_tyS ?_)
  | (with_reducible refine' i_slT ?_) | ((with_reducible refine' i_slL ?h1 ?_); (case h1 => rfl)))
local macro_rules | `(tactic| walk_at "w3") => `(tactic| first
  | ((with_reducible refine' i_ix ?h1 ?h2 ?_); (case h1 => rfl); (case h2 => rfl)) | ((with_reducible refine' i_allD ?h1 ?h2 ?_); (case h1 => rfl); (case h2 => (simp [sizeLine_eq]; done)))
  | ((with_reducible refine' i_args ?h1 ?_); (case h1 => rfl)) | ((with_reducible refine' i_out ?h1 ?_); (case h1 => rfl)) | ((with_reducible refine' i_rt ?h1 ?_); (case h1 => rfl))
  | ((with_reducible refine' i_srcOf ?h1 ?_); (case h1 => rfl)) | ((with_reducible refine' i_evD ?h1 ?h2 ?_); (case h1 => rfl); (case h2 => (intro l e; cases e; done)))
  | ((with_reducible refine' i_rngD ?h1 ?h2 ?_); (case h1 => (first | decide | omega)); (case h2 => (first | decide | omega))) | ((with_reducible refine' i_rngD2 ?h1 ?_); (case h1 => (first | decide | omega)))
  | ((with_reducible refine' i_lrgD ?h1 ?_); (case h1 => (apply RgOk.of_le <;> omega))) | ((with_reducible refine' i_enumD ?h1 ?_); (case h1 => rfl))
  | ((with_reducible refine' i_putD ?h1 ?h2 ?_); (case h1 => rfl); (case h2 => rfl)) | ((with_reducible refine' i_asgD ?h1 ?_); (case h1 => rfl))
  | ((with_reducible refine' i_mul ?h1 ?_); (case h1 => (first | exact .inr (by decide) | exact .inl (by decide)))) | ((with_reducible refine' i_mod ?h1 ?_); (case h1 => (first | decide | omega)))
  | ((with_reducible refine' i_fdiv ?h1 ?_); (case h1 => (first | exact ⟨by decide, by decide⟩ | exact ⟨by omega, by omega⟩))) | ((with_reducible refine' i_pow ?h1 ?_); (case h1 => exact pow_ok (by decide)))
  | ((with_reducible refine' i_ifT ?h1 ?_); (case h1 => rfl)) | ((with_reducible refine' i_ifF ?h1 ?_); (case h1 => rfl))
  | ((with_reducible refine' i_append ?h1 ?h2 ?_); (case h1 => rfl); (case h2 => (first | (simp [sizeLine_eq]; done) | (apply lt_line; omega)))))
local macro_rules | `(tactic| walk_at "w") => `(tactic| repeat' (first | walk_at "w1" | walk_at "w2" | walk_at "w3"))
local macro_rules | `(tactic| walk_at "w0") => `(tactic| simp only [startS, hasOwn, List.map_cons, List.map_nil, List.length_cons, List.length_nil, List.cons_append, List.nil_append, List.replicate, Nat.reduceAdd, Nat.reduceSub, Nat.zero_add])
theorem v_law_stream : ∀ as R, p_law_stream as R → w_law_stream (retEn (hasOwn as) R) (startS 1 as) := by
  rintro as R ⟨ns, rfl, hl, q⟩
  unfold w_law_stream
  walk_at "w0"
  walk_at "w"
  exact q _ ⟨ns, 0, 0, rfl, by decide, by decide, hl⟩
theorem v_law_next : ∀ as R, p_law_next as R → w_law_next (retEn (hasOwn as) R) (startS 5 as) := by
  rintro as R ⟨l, many, rfl, ⟨ns, cur, k, rfl, hc, hk, hl⟩, h0, h1, q⟩
  unfold w_law_next
  walk_at "w0"
  walk_at "w"
  have ix : ∀ (h : k < ((ns.map PyData.int).length : Nat)), ∃ x : Int, atI (ns.map PyData.int) k = some (.int x) := fun h => by
    rw [List.length_map] at h
    have h2 : k.toNat < ns.length := by omega
    refine ⟨ns[k.toNat], ?_⟩
    have e : ((k.toNat : Nat) : Int) = k := by omega
    have := atI_nat (xs := ns.map PyData.int) (j := k.toNat) (v := .int ns[k.toNat]) (by simp [h2])
    rw [e] at this
    exact this
  have fin : ∀ (c k' : Int), 0 ≤ c → 0 ≤ k' → R (.d (.int (c % many))) (some [.list (ns.map PyData.int), .int (c / many), .int k']) := fun c k' a b =>
    q _ _ ⟨ns, _, _, rfl, Int.ediv_nonneg a (by omega), b, hl⟩ (Int.emod_nonneg _ (by omega)) (Int.emod_lt_of_pos _ h0)
  refine i_ifD (fun e => ?_) (fun e => ?_)
  · walk_at "w"
    refine i_ifD (fun e2 => ?_) (fun e2 => ?_)
    · obtain ⟨x, ex⟩ := ix e2
      walk_at "w"
      refine i_ix rfl ex ?_
      walk_at "w"
      refine i_ifD (fun e3 => ?_) (fun e3 => ?_)
      · walk_at "w"
        exact fin _ _ (by split <;> omega) (by omega)
      · walk_at "w"
        exact fin _ _ (by split <;> omega) (by omega)
    · walk_at "w"
      refine i_ifD (fun e3 => ?_) (fun e3 => ?_)
      · walk_at "w"
        exact fin _ _ (by omega) (by omega)
      · walk_at "w"
        exact fin _ _ (by omega) (by omega)
  · walk_at "w"
    exact fin _ _ hc hk
end L3
/-! Signatures: what the program's judges of forms say of any datum. -/
namespace L3
open PySem PySem.Spec PyProof.Rows L2 PySem.SeqAt
/-! ### data that is small enough to be looked at -/
mutual
def okD : D → Bool
  | .str s => decide (s.length ≤ 1000)
  | .list l => okA l
  | .tuple l => okA l
  | .dict [] => true
  | .dict (_ :: _) => false
  | .none => true
  | .bool _ => true
  | .int _ => true
def okA : List D → Bool
  | [] => decide True
  | d :: r => okD d && okA r
end
theorem okA_mem : ∀ {l : List D} {d : D}, okA l = true → d ∈ l → okD d = true
  | x :: r, d, h, m => by
    simp only [okA, Bool.and_eq_true] at h
    rcases List.mem_cons.mp m with e | m
    · rw [e]; exact h.1
    · exact okA_mem h.2 m
theorem okD_scr {d : D} (h : okD d = true) : ∀ l, d ≠ .dict [(.none, .list l)] := fun l e => by rw [e] at h; cases h
/-- what continues an isinstance test -/
theorem i_isD {z : SS} {P : D → Prop} {d : D} (h : okD d = true) (k : P d) : ∃ x, evD z (.d d) = some x ∧ (∀ l, x ≠ .dict [(.none, .list l)]) ∧ P x := ⟨d, rfl, okD_scr h, k⟩
theorem le_of_okS {s : Str} (h : okD (.str s) = true) : s.length ≤ sizeLine := le_line (by have : decide (s.length ≤ 1000) = true := h; have := of_decide_eq_true this; omega)

/-! ### whole numbers, names, kinds -/
def isWhole (v : D) (lo : Int) : Bool := match v with
  | .int i => decide (lo ≤ i)
  | _ => false
def isWithin (v : D) (lo hi : Int) : Bool := match v with
  | .int i => decide (lo ≤ i) && decide (i ≤ hi)
  | _ => false
def lowC (c : Nat) : Bool := decide (97 ≤ c) && decide (c ≤ 122)
def lowS (s : Str) : Bool := s.cps.toList.all lowC
def letter (x : D) : Bool := match x with
  | .str s => !(Builtin.Str.occurrences ("abcdefghijklmnopqrstuvwxyz" : Str) s 0 ("abcdefghijklmnopqrstuvwxyz" : Str).length 1).isEmpty
  | _ => false
def isName (v : D) : Bool := match v with
  | .str s => decide (2 ≤ s.length) && decide (s.length ≤ 8) && lowS s
  | _ => false
def areKinds (many : Int) (v : D) (least most : Int) : Bool := match v with
  | .tuple l => decide (least ≤ (l.length : Int)) && decide ((l.length : Int) ≤ most) && l.all fun k => isWithin k 0 (many - 1)
  | _ => false
def isCons (many : Int) (v : D) : Bool := match v with
  | .tuple [a, b] => isName a && areKinds many b 0 2
  | _ => false
def isRow (many : Int) (v : D) : Bool := match v with
  | .tuple [.str h, .tuple rows] => (decide (h = ("closed" : Str)) || decide (h = ("open" : Str))) && decide (rows.length ≤ 4) && rows.all (isCons many)
  | _ => false
def p_is_whole : FS := fun as R => ∃ v lo, as = [.val v, .val (.int lo)] ∧ okD v = true ∧ R (.d (.bool (isWhole v lo))) none
def p_is_within : FS := fun as R => ∃ v lo hi, as = [.val v, .val (.int lo), .val (.int hi)] ∧ okD v = true ∧ R (.d (.bool (isWithin v lo hi))) none
def p_is_name : FS := fun as R => ∃ v, as = [.val v] ∧ okD v = true ∧ R (.d (.bool (isName v))) none
def p_are_kinds : FS := fun as R => ∃ many v least most, as = [.val (.int many), .val v, .val (.int least), .val (.int most)] ∧ okD v = true ∧ most ≤ 1000 ∧ R (.d (.bool (areKinds many v least most))) none
def p_is_constructor : FS := fun as R => ∃ many v, as = [.val (.int many), .val v] ∧ okD v = true ∧ R (.d (.bool (isCons many v))) none
def p_is_kind_row : FS := fun as R => ∃ many v, as = [.val (.int many), .val v] ∧ okD v = true ∧ R (.d (.bool (isRow many v))) none
theorem m_is_whole : MonoF p_is_whole := fun as R R' h ⟨v, lo, e, a, k⟩ => ⟨v, lo, e, a, h _ _ k⟩
theorem l_is_whole : ∀ as R, p_is_whole as R → as.length = 2 := fun as R ⟨v, lo, e, _⟩ => by rw [e]; rfl
theorem m_is_within : MonoF p_is_within := fun as R R' h ⟨v, lo, hi, e, a, k⟩ => ⟨v, lo, hi, e, a, h _ _ k⟩
theorem l_is_within : ∀ as R, p_is_within as R → as.length = 3 := fun as R ⟨v, lo, hi, e, _⟩ => by rw [e]; rfl
theorem m_is_name : MonoF p_is_name := fun as R R' h ⟨v, e, a, k⟩ => ⟨v, e, a, h _ _ k⟩
theorem l_is_name : ∀ as R, p_is_name as R → as.length = 1 := fun as R ⟨v, e, _⟩ => by rw [e]; rfl
theorem m_are_kinds : MonoF p_are_kinds := fun as R R' h ⟨a, b, c, d, e, f, g, k⟩ => ⟨a, b, c, d, e, f, g, h _ _ k⟩
theorem l_are_kinds : ∀ as R, p_are_kinds as R → as.length = 4 := fun as R ⟨a, b, c, d, e, _⟩ => by rw [e]; rfl
theorem m_is_constructor : MonoF p_is_constructor := fun as R R' h ⟨a, b, e, f, k⟩ => ⟨a, b, e, f, h _ _ k⟩
theorem l_is_constructor : ∀ as R, p_is_constructor as R → as.length = 2 := fun as R ⟨a, b, e, _⟩ => by rw [e]; rfl
theorem m_is_kind_row : MonoF p_is_kind_row := fun as R R' h ⟨a, b, e, f, k⟩ => ⟨a, b, e, f, h _ _ k⟩
theorem l_is_kind_row : ∀ as R, p_is_kind_row as R → as.length = 2 := fun as R ⟨a, b, e, _⟩ => by rw [e]; rfl
/-- 0 value, 1 low -/
def w_is_whole : WS :=
(wRet (wAndV (wIsa "int" (wVar 0)) (wAndV (wNotV (wIsa "bool" (wVar 0))) (wBin sGe (wVar 0) (wVar 1)))))
/-- 0 value, 1 low, 2 high -/
def w_is_within : WS :=
(wRet (wAndV (wFrz (wCall p_is_whole (wCons (wVar 0) (wCons (wVar 1) wNil)))) (wBin sLe (wVar 0) (wVar 2))))
/-- 0 value, 1 letter -/
def w_is_name : WS :=
(wRet (wAndV (wIsa "str" (wVar 0)) (wAndV (wChain sLe sLe (wC (.int 2)) (wFrz (wCB (f1 sLen) (wCons (wVar 0) wNil))) (wC (.int 8))) (wFrz (wCB (f1 sAll) (wCons (wFrz (wLc (wSrc (wVar 0)) (gNm 1) [1] wYes (wBin sIn (wVar 1) (wC (.str "abcdefghijklmnopqrstuvwxyz"))))) wNil))))))
/-- 0 many, 1 value, 2 least, 3 most, 4 kind -/
def w_are_kinds : WS :=
(wSeq (wIfS (wOr (wNot (wTest (wIsa "tuple" (wVar 1)))) (wNot (wTest (wChain sLe sLe (wVar 2) (wFrz (wCB (f1 sLen) (wCons (wVar 1) wNil))) (wVar 3)))))
 (wRet (wC (.bool false)))
 wNext)
 (wRet (wFrz (wCB (f1 sAll) (wCons (wFrz (wLc (wSrc (wVar 1)) (gNm 4) [4] wYes (wFrz (wCall p_is_within (wCons (wVar 4) (wCons (wC (.int 0)) (wCons (wBin sSub (wVar 0) (wC (.int 1))) wNil))))))) wNil)))))
/-- 0 many, 1 value -/
def w_is_constructor : WS :=
(wSeq (wIfS (wOr (wNot (wTest (wIsa "tuple" (wVar 1)))) (wOr (wTest (wBin sNe (wFrz (wCB (f1 sLen) (wCons (wVar 1) wNil))) (wC (.int 2)))) (wNot (wTest (wFrz (wCall p_is_name (wCons (wBin sIx (wVar 1) (wC (.int 0))) wNil)))))))
 (wRet (wC (.bool false)))
 wNext)
 (wRetR (wCall p_are_kinds (wCons (wVar 0) (wCons (wBin sIx (wVar 1) (wC (.int 1))) (wCons (wC (.int 0)) (wCons (wC (.int 2)) wNil)))))))
/-- 0 many, 1 value, 2 row -/
def w_is_kind_row : WS :=
(wSeq (wIfS (wOr (wNot (wTest (wIsa "tuple" (wVar 1)))) (wOr (wTest (wBin sNe (wFrz (wCB (f1 sLen) (wCons (wVar 1) wNil))) (wC (.int 2)))) (wNot (wTest (wIsa "str" (wBin sIx (wVar 1) (wC (.int 0))))))))
 (wRet (wC (.bool false)))
 wNext)
 (wSeq (wIfS (wOr (wTest (wBin sNotIn (wBin sIx (wVar 1) (wC (.int 0))) (wTup (wCons (wC (.str "closed")) (wCons (wC (.str "open")) wNil))))) (wOr (wNot (wTest (wIsa "tuple" (wBin sIx (wVar 1) (wC (.int 1)))))) (wTest (wBin sGt (wFrz (wCB (f1 sLen) (wCons (wBin sIx (wVar 1) (wC (.int 1))) wNil))) (wC (.int 4))))))
 (wRet (wC (.bool false)))
 wNext)
 (wRet (wFrz (wCB (f1 sAll) (wCons (wFrz (wLc (wSrc (wBin sIx (wVar 1) (wC (.int 1)))) (gNm 2) [2] wYes (wFrz (wCall p_is_constructor (wCons (wVar 0) (wCons (wVar 2) wNil)))))) wNil))))))


/-- a comprehension that only reads: some of the items, mapped -/
theorem lcL_fm {g : GS} {own : List Nat} {tt : WT} {te : WE} {k : List D → SS → Prop} {items : List D} {z0 : SS} (fn : D → Option D) (hl : items.length ≤ sizeLine)
    (step : ∀ (x : D), x ∈ items → ∀ N : Option D → SS → Prop, (∀ z, killAll own z = z0 → N (fn x) z) → ∃ z1, g x z0 = some z1 ∧ tt z1 fun b z2 => if b = true then te z2 fun ev z3 => ∃ d, ev = .d d ∧ N (some d) z3 else N none z2)
    (fin : k (items.filterMap fn) z0) : wLcL g own tt te k items [] z0 := by
  refine lcL_inv (P := fun i acc z => acc = (items.take i).filterMap fn ∧ z = z0) (fun i x acc z e h N hN => ?_) (fun acc z h => ?_) ⟨by simp, rfl⟩
  · obtain ⟨ea, ez⟩ := h
    have hm := List.mem_of_getElem? e
    have hlt : i < items.length := (List.getElem?_eq_some_iff.mp e).1
    have hacc : acc.length < sizeLine := by
      have := List.length_filterMap_le fn (items.take i)
      rw [← ea, List.length_take] at this
      omega
    have ht : (items.take (i + 1)).filterMap fn = acc ++ (fn x).toList := by
      rw [ea, List.take_add_one, e]
      cases h : fn x <;> simp [h]
    rw [ez]
    exact step x hm (fun o z3 => match o with
      | some d => acc.length < sizeLine ∧ N (acc ++ [d]) (killAll own z3)
      | none => N acc (killAll own z3)) fun z' hz => by
        cases h : fn x with
        | none => exact hN _ _ ⟨by rw [ht, h]; simp, hz⟩
        | some d => exact ⟨hacc, hN _ _ ⟨by rw [ht, h]; rfl, hz⟩⟩
  · obtain ⟨ea, ez⟩ := h
    rw [ea, ez, List.take_length]
    exact fin
/-- the map, after what is there already -/
theorem lcL_mapA {g : GS} {own : List Nat} {te : WE} {k : List D → SS → Prop} {items acc0 : List D} {z0 : SS} (fn : D → D) (hl : acc0.length + items.length ≤ sizeLine)
    (step : ∀ (x : D), x ∈ items → ∀ N : D → SS → Prop, (∀ z, killAll own z = z0 → N (fn x) z) → ∃ z1, g x z0 = some z1 ∧ te z1 fun ev z3 => ∃ d, ev = .d d ∧ N d z3) (fin : k (acc0 ++ items.map fn) z0) : wLcL g own wYes te k items acc0 z0 := by
  refine lcL_inv (P := fun i acc z => acc = acc0 ++ (items.take i).map fn ∧ z = z0) (fun i x acc z e h N hN => ?_) (fun acc z h => ?_) ⟨by simp, rfl⟩
  · obtain ⟨ea, ez⟩ := h
    have hm := List.mem_of_getElem? e
    have hlt : i < items.length := (List.getElem?_eq_some_iff.mp e).1
    have hacc : acc.length < sizeLine := by
      rw [ea, List.length_append, List.length_map, List.length_take]
      omega
    have hn : N (acc ++ [fn x]) z0 := by
      refine hN _ _ ⟨?_, rfl⟩
      rw [ea, List.take_add_one, e]
      simp
    obtain ⟨z1, e1, w⟩ := step x hm (fun d z3 => acc.length < sizeLine ∧ N (acc ++ [d]) (killAll own z3)) fun z' hz => ⟨hacc, by rw [hz]; exact hn⟩
    rw [ez]
    exact ⟨z1, e1, i_yes (i_ifT rfl w)⟩
  · obtain ⟨ea, ez⟩ := h
    rw [ea, ez, List.take_length]
    exact fin
theorem lcL2_inv {g g1 : GS} {own vs1 : List Nat} {tt tt1 : WT} {s1 : WI} {te : WE} {k : List D → SS → Prop} {items : List D} (P : Nat → List D → SS → Prop)
    (step : ∀ (i : Nat) (x : D) (acc : List D) (z : SS), items[i]? = some x → P i acc z → ∀ N : List D → SS → Prop, (∀ acc' z', P (i + 1) acc' z' → N acc' z') →
      ∃ z1, g x z = some z1 ∧ tt z1 fun b z2 => if b = true then s1 z2 fun its z3 => wLcL g1 vs1 tt1 te (fun acc' z4 => N acc' (killAll own z4)) its acc (killAll vs1 z3) else N acc (killAll own z2))
    (fin : ∀ acc z, P items.length acc z → k acc z) {acc : List D} {z : SS} (h0 : P 0 acc z) : wLcL2 g own tt s1 g1 vs1 tt1 te k items acc z := by
  have go : ∀ (m i : Nat) (acc : List D) (z : SS), m = items.length - i → i ≤ items.length → P i acc z → wLcL2 g own tt s1 g1 vs1 tt1 te k (items.drop i) acc z := by
    intro m
    induction m with
    | zero =>
      intro i acc z hk hi p
      have e : i = items.length := by omega
      subst e
      rw [List.drop_length]
      exact fin acc z p
    | succ m ih =>
      intro i acc z hk hi p
      have hlt : i < items.length := by omega
      rw [List.drop_eq_getElem_cons hlt]
      obtain ⟨z1, e, w⟩ := step i items[i] acc z (List.getElem?_eq_getElem hlt) p (fun acc z' => wLcL2 g own tt s1 g1 vs1 tt1 te k (items.drop (i + 1)) acc z') fun acc z' p' => ih (i + 1) acc z' (by omega) hlt p'
      exact ⟨z1, e, w⟩
  have := go items.length 0 acc z (by simp) (Nat.zero_le _) h0
  simpa using this
theorem i_allM {z : SS} {items : List D} {fb : D → Bool} {k : RV → Prop} (h : k (.d (.bool (items.all fb)))) : sAll z (.d (.list (items.map fun x => PyData.bool (fb x)))) k :=
  i_all (bs := items.map fb) (by rw [List.map_map]; rfl) (by rw [List.all_map]; exact h)
theorem i_anyM {z : SS} {items : List D} {fb : D → Bool} {k : RV → Prop} (h : k (.d (.bool (items.any fb)))) : sAny z (.d (.list (items.map fun x => PyData.bool (fb x)))) k :=
  i_any (bs := items.map fb) (by rw [List.map_map]; rfl) (by rw [List.any_map]; exact h)
theorem i_enumE {d : D} {l : List D} {P : List D → Prop} (e : itemsD d = some l) (h : P l) : ∃ d' l, [EV.d d] = [.d d'] ∧ itemsD d' = some l ∧ P l := ⟨d, l, rfl, e, h⟩
local macro_rules | `(tactic| walk_at "w1") => `(tactic| first
  | (with_reducible refine' i_seq ?_) | (with_reducible refine' i_set ?_) | (with_reducible refine' i_ifS ?_) | (with_reducible refine' i_ret ?_) | (with_reducible refine' i_next ?_) | (with_reducible refine' i_kill ?_)
  | (with_reducible refine' i_setO ?_) | (with_reducible refine' i_lcSet ?_) | (with_reducible refine' i_asg ?_) | (with_reducible refine' i_put ?_) | (with_reducible refine' i_drop ?_) | (with_reducible refine' i_retR ?_)
  | ((with_reducible refine' i_retO ?h1 ?_); (case h1 => rfl)) | (with_reducible refine' i_for ?_)
  | (with_reducible refine' i_test ?_) | (with_reducible refine' i_tnot ?_) | (with_reducible refine' i_tand ?_) | (with_reducible refine' i_tor ?_) | (with_reducible refine' i_yes ?_)
  | ((with_reducible refine' i_var ?h1 ?_); (case h1 => rfl)) | ((with_reducible refine' i_varO ?h1 ?_); (case h1 => rfl)) | (with_reducible refine' i_c ?_) | (with_reducible refine' i_dct ?_) | (with_reducible refine' i_frz ?_) | (with_reducible refine' i_bin ?_) | (with_reducible refine' i_binR ?_)
  | (with_reducible refine' i_cb ?_) | (with_reducible refine' i_nil ?_) | (with_reducible refine' i_cons ?_) | (with_reducible refine' i_tup ?_) | (with_reducible refine' i_lst ?_) | (with_reducible refine' i_neg ?_) | (with_reducible refine' i_isa ?_)
  | (with_reducible refine' i_andV ?_) | (with_reducible refine' i_orV ?_) | (with_reducible refine' i_notV ?_) | (with_reducible refine' i_if ?_) | (with_reducible refine' i_chain ?_) | (with_reducible refine' i_sl ?_) | (with_reducible refine' i_noPart ?_) | (with_reducible refine' i_part ?_)
  | (with_reducible refine' i_bm ?_) | (with_reducible refine' i_bm0 ?_) | (with_reducible refine' i_lrg ?_) | (with_reducible refine' i_call ?_) | (with_reducible refine' i_src ?_) | (with_reducible refine' i_rng1 ?_) | (with_reducible refine' i_rng2 ?_) | (with_reducible refine' i_enum ?_)
  | (with_reducible refine' i_lc ?_) | (with_reducible refine' i_lc2 ?_))
local macro_rules | `(tactic| walk_at "w2") => `(tactic| first
  | (with_reducible refine' i_allM ?_) | (with_reducible refine' i_anyM ?_)
  | (with_reducible refine' i_exD ?_) | (with_reducible refine' i_exB ?_) | (with_reducible refine' i_exRB ?_) | (with_reducible refine' i_exI ?_) | (with_reducible refine' i_exN ?_)
  | (with_reducible refine' i_addI ?_) | (with_reducible refine' i_sub ?_) | (with_reducible refine' i_lt ?_) | (with_reducible refine' i_le ?_) | (with_reducible refine' i_gt ?_) | (with_reducible refine' i_ge ?_)
  | (with_reducible refine' i_eqI ?_) | (with_reducible refine' i_neI ?_) | (with_reducible refine' i_eqB ?_) | (with_reducible refine' i_neB ?_) | (with_reducible refine' i_eqS ?_) | (with_reducible refine' i_neS ?_)
  | (with_reducible refine' i_isB ?_) | ((with_reducible refine' i_isN ?h1 ?_); (case h1 => rfl)) | ((with_reducible refine' i_notN ?h1 ?_); (case h1 => rfl))
  | (with_reducible refine' i_f1 ?_) | (with_reducible refine' i_f2 ?_) | ((with_reducible refine' i_len ?h1 ?_); (case h1 => rfl)) | (with_reducible refine' i_abs ?_) | (with_reducible refine' i_int ?_) | (with_reducible refine' i_max ?_) | (with_reducible refine' i_min ?_)
  | (with_reducible refine' i_listScr ?_) | ((with_reducible refine' i_list ?h1 ?_); (case h1 => rfl)) | ((with_reducible refine' i_tuple ?h1 ?_); (case h1 => rfl))
  | ((with_reducible refine' i_tyL ?h1 ?_); (case h1 => rfl)) | (with_reducible refine' i_tyS ?_)
  | (with_reducible refine' i_slT ?_) | ((with_reducible refine' i_slL ?h1 ?_); (case h1 => rfl)))
local macro_rules | `(tactic| walk_at "w3") => `(tactic| first
  | ((with_reducible refine' i_ix ?h1 ?h2 ?_); (case h1 => rfl); (case h2 => rfl)) | ((with_reducible refine' i_allD ?h1 ?h2 ?_); (case h1 => rfl); (case h2 => (simp [sizeLine_eq]; done)))
  | ((with_reducible refine' i_args ?h1 ?_); (case h1 => rfl)) | ((with_reducible refine' i_out ?h1 ?_); (case h1 => rfl)) | ((with_reducible refine' i_rt ?h1 ?_); (case h1 => rfl))
  | ((with_reducible refine' i_srcOf ?h1 ?_); (case h1 => rfl)) | ((with_reducible refine' i_evD ?h1 ?h2 ?_); (case h1 => rfl); (case h2 => (intro l e; cases e; done)))
  | ((with_reducible refine' i_rngD ?h1 ?h2 ?_); (case h1 => (first | decide | omega)); (case h2 => (first | decide | omega))) | ((with_reducible refine' i_rngD2 ?h1 ?_); (case h1 => (first | decide | omega)))
  | ((with_reducible refine' i_lrgD ?h1 ?_); (case h1 => (apply RgOk.of_le <;> omega))) | ((with_reducible refine' i_enumE ?h1 ?_); (case h1 => rfl))
  | ((with_reducible refine' i_putD ?h1 ?h2 ?_); (case h1 => rfl); (case h2 => rfl)) | ((with_reducible refine' i_asgD ?h1 ?_); (case h1 => rfl))
  | ((with_reducible refine' i_mul ?h1 ?_); (case h1 => (first | exact .inr (by decide) | exact .inl (by decide)))) | ((with_reducible refine' i_mod ?h1 ?_); (case h1 => (first | decide | omega)))
  | ((with_reducible refine' i_fdiv ?h1 ?_); (case h1 => (first | exact ⟨by decide, by decide⟩ | exact ⟨by omega, by omega⟩))) | ((with_reducible refine' i_pow ?h1 ?_); (case h1 => exact pow_ok (by decide)))
  | ((with_reducible refine' i_ifT ?h1 ?_); (case h1 => (first | rfl | assumption | (simp [isA]; done)))) | ((with_reducible refine' i_ifF ?h1 ?_); (case h1 => (first | rfl | assumption | (simp [isA]; done))))
  | ((with_reducible refine' i_isD ?h1 ?_); (case h1 => assumption))
  | ((with_reducible refine' i_append ?h1 ?h2 ?_); (case h1 => rfl); (case h2 => (first | (simp [sizeLine_eq]; done) | (apply lt_line; omega)))))
local macro_rules | `(tactic| walk_at "w") => `(tactic| repeat' (first | walk_at "w1" | walk_at "w2" | walk_at "w3" | fail "open"))
local macro_rules | `(tactic| walk_at "w0") => `(tactic| simp only [startS, hasOwn, List.map_cons, List.map_nil, List.length_cons, List.length_nil, List.cons_append, List.nil_append, List.replicate, Nat.reduceAdd, Nat.reduceSub, Nat.zero_add])


theorem v_is_whole : ∀ as R, p_is_whole as R → w_is_whole (retEn (hasOwn as) R) (startS 2 as) := by
  rintro as R ⟨v, lo, rfl, hv, q⟩
  unfold w_is_whole
  walk_at "w0"
  walk_at "w"
  cases v <;> (walk_at "w"; first | exact q | skip)
theorem v_is_within : ∀ as R, p_is_within as R → w_is_within (retEn (hasOwn as) R) (startS 3 as) := by
  rintro as R ⟨v, lo, hi, rfl, hv, q⟩
  unfold w_is_within
  walk_at "w0"
  walk_at "w"
  refine ⟨v, lo, rfl, hv, ?_⟩
  walk_at "w"
  cases v <;> (simp only [isWithin] at q; walk_at "w"; first | exact q | skip)
  rename_i i
  refine i_ifD (fun h => ?_) (fun h => ?_)
  · walk_at "w"
    rw [decide_eq_true h, Bool.true_and] at q
    exact q
  · walk_at "w"
    rw [decide_eq_false h, Bool.false_and] at q
    exact q
theorem low_mem (c : Nat) : decide (c ∈ [97, 98, 99, 100, 101, 102, 103, 104, 105, 106, 107, 108, 109, 110, 111, 112, 113, 114, 115, 116, 117, 118, 119, 120, 121, 122]) = lowC c := by
  rw [lowC, ← Bool.decide_and]
  refine decide_eq_decide.mpr ?_
  simp only [List.mem_cons, List.not_mem_nil, or_false]
  omega
theorem in_low (c : Nat) : (!(Builtin.Str.occurrences ("abcdefghijklmnopqrstuvwxyz" : Str) ⟨#[c]⟩ 0 ("abcdefghijklmnopqrstuvwxyz" : Str).length 1).isEmpty) = lowC c := by
  rw [PySem.StrLaws.found_one]
  exact low_mem c
theorem v_is_name : ∀ as R, p_is_name as R → w_is_name (retEn (hasOwn as) R) (startS 2 as) := by
  rintro as R ⟨v, rfl, hv, q⟩
  unfold w_is_name
  walk_at "w0"
  walk_at "w"
  cases v <;> (walk_at "w"; first | exact q | skip)
  rename_i s
  refine i_lenS (le_of_okS hv) ?_
  walk_at "w"
  have hl : s.length ≤ 1000 := of_decide_eq_true (hv : decide (s.length ≤ 1000) = true)
  simp only [isName] at q
  refine i_ifD (fun h => ?_) (fun h => ?_)
  · walk_at "w"
    refine i_ifD (fun h2 => ?_) (fun h2 => ?_)
    · walk_at "w"
      rw [decide_eq_true (show 2 ≤ s.length by omega), decide_eq_true (show s.length ≤ 8 by omega), Bool.true_and, Bool.true_and] at q
      refine lcL_map (fun x => .bool (letter x)) (by rw [signs, List.length_map]; exact le_line (by have : s.cps.toList.length = s.length := (by simp [Str.length]); omega)) (fun x hx N hN => ?_) ?_
      · obtain ⟨c, hc, rfl⟩ := List.mem_map.mp hx
        refine ⟨_, rfl, ?_⟩
        walk_at "w"
        refine ⟨_, _, rfl, rfl, _, rfl, ?_⟩
        exact i_exD (hN _ rfl)
      · walk_at "w"
        have e : (signs s).all letter = lowS s := by
          rw [signs, List.all_map, lowS]
          congr 1
          funext c
          exact in_low c
        rw [e]
        exact q
    · walk_at "w"
      rw [decide_eq_false (fun x : s.length ≤ 8 => h2 (by omega)), Bool.and_false, Bool.false_and] at q
      exact q
  · walk_at "w"
    rw [decide_eq_false (fun x : 2 ≤ s.length => h (by omega)), Bool.false_and, Bool.false_and] at q
    exact q

theorem pl_str (s : Str) : PyData.plain (.str s) = true := rfl
/-- a data tuple's items are small too -/
theorem okT {l : List D} (h : okD (.tuple l) = true) {d : D} (m : d ∈ l) : okD d = true := okA_mem h m
theorem v_are_kinds : ∀ as R, p_are_kinds as R → w_are_kinds (retEn (hasOwn as) R) (startS 5 as) := by
  rintro as R ⟨many, v, least, most, rfl, hv, hmost, q⟩
  unfold w_are_kinds
  walk_at "w0"
  walk_at "w"
  cases v <;> (walk_at "w"; first | exact q | skip)
  rename_i l
  simp only [areKinds] at q
  refine i_ifD (fun h => ?_) (fun h => ?_)
  · walk_at "w"
    refine i_ifB (fun h2 => ?_) (fun h2 => ?_)
    · have h3 : ¬ (l.length : Int) ≤ most := by simpa using h2
      walk_at "w"
      rw [decide_eq_true h, decide_eq_false h3] at q
      exact q
    · have h3 : (l.length : Int) ≤ most := by simpa using h2
      walk_at "w"
      rw [decide_eq_true h, decide_eq_true h3] at q
      refine lcL_map (fun x => .bool (isWithin x 0 (many - 1))) ?_ (fun x hx N hN => ?_) ?_
      · exact le_line (by omega)
      · refine ⟨_, rfl, ?_⟩
        walk_at "w"
        refine ⟨x, _, _, rfl, okT hv hx, ?_⟩
        walk_at "w"
        exact hN _ rfl
      · walk_at "w"
        exact q
  · walk_at "w"
    rw [decide_eq_false h] at q
    exact q

theorem tup2 {l : List D} (h : (l.length : Int) = 2) : ∃ a b, l = [a, b] := by
  match l, h with
  | [a, b], _ => exact ⟨a, b, rfl⟩
  | [], h => simp at h
  | [a], h => simp at h
  | a :: b :: c :: r, h => simp at h; omega
theorem isCons_ne {many : Int} {l : List D} (h : ¬ (l.length : Int) = 2) : isCons many (.tuple l) = false := by
  match l, h with
  | [a, b], h => exact absurd rfl h
  | [], h => rfl
  | [a], h => rfl
  | a :: b :: c :: r, h => rfl
theorem v_is_constructor : ∀ as R, p_is_constructor as R → w_is_constructor (retEn (hasOwn as) R) (startS 2 as) := by
  rintro as R ⟨many, v, rfl, hv, q⟩
  unfold w_is_constructor
  walk_at "w0"
  walk_at "w"
  cases v <;> (walk_at "w"; first | exact q | skip)
  rename_i l
  refine i_ifB (fun h => ?_) (fun h => ?_)
  · have h3 : ¬ (l.length : Int) = 2 := by simpa using h
    walk_at "w"
    rw [isCons_ne h3] at q
    exact q
  · have h3 : (l.length : Int) = 2 := by simpa using h
    obtain ⟨a, b, rfl⟩ := tup2 h3
    walk_at "w"
    refine ⟨a, rfl, okT hv (by simp), ?_⟩
    walk_at "w"
    simp only [isCons] at q
    refine i_ifB (fun h => ?_) (fun h => ?_)
    · have h4 : isName a = false := by simpa using h
      walk_at "w"
      rw [h4] at q
      exact q
    · have h4 : isName a = true := by simpa using h
      walk_at "w"
      refine ⟨many, b, _, _, rfl, okT hv (by simp), by decide, ?_⟩
      walk_at "w"
      rw [h4] at q
      exact q
theorem isRow_ne {many : Int} {l : List D} (h : ¬ (l.length : Int) = 2) : isRow many (.tuple l) = false := by
  match l, h with
  | [a, b], h => exact absurd rfl h
  | [], h => rfl
  | [a], h => simp [isRow]
  | a :: b :: c :: r, h => simp [isRow]
theorem isRow_nt {many : Int} {s : Str} {b : D} (h : isA "tuple" b = false) : isRow many (.tuple [.str s, b]) = false := by
  cases b <;> first | rfl | (simp [isA] at h)
theorem isA_str {a : D} (h : isA "str" a = true) : ∃ s, a = .str s := by
  cases a <;> first | exact ⟨_, rfl⟩ | (simp [isA] at h)
theorem isA_tup {a : D} (h : isA "tuple" a = true) : ∃ s, a = .tuple s := by
  cases a <;> first | exact ⟨_, rfl⟩ | (simp [isA] at h)
theorem isRow_ns {many : Int} {a b : D} (h : isA "str" a = false) : isRow many (.tuple [a, b]) = false := by
  cases a <;> first | rfl | (simp [isA] at h)
theorem v_is_kind_row : ∀ as R, p_is_kind_row as R → w_is_kind_row (retEn (hasOwn as) R) (startS 3 as) := by
  rintro as R ⟨many, v, rfl, hv, q⟩
  unfold w_is_kind_row
  walk_at "w0"
  walk_at "w"
  cases v <;> (walk_at "w"; first | exact q | skip)
  rename_i l
  refine i_ifB (fun h => ?_) (fun h => ?_)
  · have h3 : ¬ (l.length : Int) = 2 := by simpa using h
    walk_at "w"
    rw [isRow_ne h3] at q
    exact q
  · have h3 : (l.length : Int) = 2 := by simpa using h
    obtain ⟨a, b, rfl⟩ := tup2 h3
    have ha : okD a = true := okT hv (by simp)
    have hb : okD b = true := okT hv (by simp)
    walk_at "w"
    refine i_ifB (fun h => ?_) (fun h => ?_)
    · have h4 : isA "str" a = false := by simpa using h
      walk_at "w"
      rw [isRow_ns h4] at q
      exact q
    · have h4 : isA "str" a = true := by simpa using h
      obtain ⟨s, rfl⟩ := isA_str h4
      walk_at "w"
      refine ⟨_, _, rfl, rfl, rfl, rfl, by simp [PyData.depth, PyData.depthAll], ?_⟩
      walk_at "w"
      have es : ([PyData.str (Str.ofString "closed"), PyData.str (Str.ofString "open")].any fun y => PyData.eqv y (.str s)) = (decide (s = ("closed" : Str)) || decide (s = ("open" : Str))) := by
        simp only [List.any_cons, List.any_nil, eqv_str, Bool.or_false]
        congr 1 <;> exact decide_eq_decide.mpr ⟨Eq.symm, Eq.symm⟩
      refine i_ifB (fun h => ?_) (fun h => ?_)
      · have h5 : (decide (s = ("closed" : Str)) || decide (s = ("open" : Str))) = false := by
          rw [← es]
          simpa using h
        walk_at "w"
        have : isRow many (.tuple [.str s, b]) = false := by
          cases b <;> first | rfl | (simp only [isRow, h5, Bool.false_and])
        rw [this] at q
        exact q
      · have h5 : (decide (s = ("closed" : Str)) || decide (s = ("open" : Str))) = true := by
          rw [← es]
          exact Bool.not_inj (y := true) h
        walk_at "w"
        refine i_ifB (fun h => ?_) (fun h => ?_)
        · have h6 : isA "tuple" b = false := by simpa using h
          walk_at "w"
          rw [isRow_nt h6] at q
          exact q
        · have h6 : isA "tuple" b = true := by simpa using h
          obtain ⟨rows, rfl⟩ := isA_tup h6
          walk_at "w"
          simp only [isRow, h5, Bool.true_and] at q
          refine i_ifD (fun h => ?_) (fun h => ?_)
          · walk_at "w"
            rw [decide_eq_false (by omega)] at q
            exact q
          · walk_at "w"
            rw [decide_eq_true (show rows.length ≤ 4 by omega)] at q
            refine lcL_map (fun x => .bool (isCons many x)) (le_line (by omega)) (fun x hx N hN => ?_) ?_
            · refine ⟨_, rfl, ?_⟩
              walk_at "w"
              refine ⟨many, x, rfl, okT hb hx, ?_⟩
              walk_at "w"
              exact hN _ rfl
            · walk_at "w"
              exact q
end L3
/-! Signatures as lists; what filled_kinds and is_signature answer. -/
namespace L3
open PySem PySem.Spec PyProof.Rows L2 PySem.SeqAt
abbrev Cn := Str × List Nat
abbrev Rw := Bool × List Cn
abbrev Sg := List Rw
def nsD (l : List Nat) : List D := l.map fun n => .int (n : Nat)
def consD (c : Cn) : D := .tuple [.str c.1, .tuple (nsD c.2)]
def rowD (r : Rw) : D := .tuple [.str (if r.1 then "open" else "closed"), .tuple (r.2.map consD)]
def sigD (s : Sg) : D := .tuple (s.map rowD)
def wfCons (n : Nat) (c : Cn) : Prop := isName (.str c.1) = true ∧ c.2.length ≤ 2 ∧ ∀ p ∈ c.2, p < n
def wfRow (n : Nat) (r : Rw) : Prop := r.2.length ≤ 4 ∧ ∀ c ∈ r.2, wfCons n c
def Wf (s : Sg) : Prop := 1 ≤ s.length ∧ s.length ≤ 3 ∧ ∀ r ∈ s, wfRow s.length r
def namesOf (s : Sg) : List Str := s.flatMap fun r => r.2.map Prod.fst
inductive Filled (s : Sg) : Nat → Prop
  | op {k : Nat} {r : Rw} : s[k]? = some r → r.1 = true → Filled s k
  | co {k : Nat} {r : Rw} {c : Cn} : s[k]? = some r → c ∈ r.2 → (∀ p ∈ c.2, Filled s p) → Filled s k
def Whole (s : Sg) : Prop := ∀ k, k < s.length → Filled s k
def IsSig (v : D) : Prop := ∃ s, v = sigD s ∧ Wf s ∧ (namesOf s).Nodup ∧ Whole s

noncomputable def isSig (v : D) : Bool := @decide (IsSig v) (Classical.propDecidable _)
def p_filled_kinds : FS := fun as R => ∃ s, as = [.val (sigD s)] ∧ Wf s ∧ ∀ f : List Nat, f.Nodup → (∀ k, k ∈ f ↔ k < s.length ∧ Filled s k) → R (.n (nsD f)) none
def p_is_signature : FS := fun as R => ∃ v, as = [.val v] ∧ okD v = true ∧ R (.d (.bool (isSig v))) none
theorem m_filled_kinds : MonoF p_filled_kinds := fun as R R' h ⟨s, e, a, k⟩ => ⟨s, e, a, fun f x y => h _ _ (k f x y)⟩
theorem l_filled_kinds : ∀ as R, p_filled_kinds as R → as.length = 1 := fun as R ⟨v, e, _⟩ => by rw [e]; rfl
theorem m_is_signature : MonoF p_is_signature := fun as R R' h ⟨v, e, a, k⟩ => ⟨v, e, a, h _ _ k⟩
theorem l_is_signature : ∀ as R, p_is_signature as R → as.length = 1 := fun as R ⟨v, e, _⟩ => by rw [e]; rfl
/-! ### plain facts -/
theorem nodup_len : ∀ {n : Nat} {f : List Nat}, f.Nodup → (∀ k ∈ f, k < n) → f.length ≤ n
  | 0, f, _, b => by
    cases f with
    | nil => exact Nat.le_refl 0
    | cons a r => exact absurd (b a (by simp)) (by omega)
  | n + 1, f, h, b => by
    have h1 := nodup_len (n := n) (h.erase n) fun k hk => by
      have := (h.mem_erase_iff).mp hk
      have := b k this.2
      omega
    by_cases hm : n ∈ f
    · rw [List.length_erase_of_mem hm] at h1
      omega
    · rw [List.erase_of_not_mem hm] at h1
      omega
theorem nodup_full {n : Nat} {f : List Nat} (h : f.Nodup) (b : ∀ k ∈ f, k < n) (l : n ≤ f.length) {k : Nat} (hk : k < n) : k ∈ f := by
  by_cases hm : k ∈ f
  · exact hm
  · have := nodup_len (n := n) (f := k :: f) (List.nodup_cons.mpr ⟨hm, h⟩) fun j hj => by
      rcases List.mem_cons.mp hj with e | e
      · omega
      · exact b j e
    simp at this
    omega
theorem nodup_sub {α : Type} [BEq α] [LawfulBEq α] : ∀ {a b : List α}, a.Nodup → (∀ x ∈ a, x ∈ b) → a.length ≤ b.length
  | [], b, _, _ => Nat.zero_le _
  | x :: a, b, h, s => by
    obtain ⟨h1, h2⟩ := List.nodup_cons.mp h
    have hx := s x (by simp)
    have := nodup_sub (a := a) (b := b.erase x) h2 fun y hy => (List.mem_erase_of_ne (by rintro rfl; exact h1 hy)).mpr (s y (by simp [hy]))
    rw [List.length_erase_of_mem hx] at this
    have := List.length_pos_of_mem hx
    simp
    omega
def opens (s : Sg) : List Nat := (s.zipIdx.filter fun p => p.1.1).map Prod.snd
theorem mem_opens {s : Sg} {k : Nat} : k ∈ opens s ↔ ∃ r, s[k]? = some r ∧ r.1 = true := by
  unfold opens
  constructor
  · intro h
    obtain ⟨p, hp, rfl⟩ := List.mem_map.mp h
    obtain ⟨h1, h2⟩ := List.mem_filter.mp hp
    exact ⟨p.1, List.mem_zipIdx_iff_getElem?.mp h1, h2⟩
  · rintro ⟨r, e, o⟩
    exact List.mem_map.mpr ⟨(r, k), List.mem_filter.mpr ⟨List.mem_zipIdx_iff_getElem?.mpr e, o⟩, rfl⟩
theorem opens_nodup (s : Sg) : (opens s).Nodup := by
  have h : (s.zipIdx.map Prod.snd).Nodup := by
    rw [List.zipIdx_map_snd]
    exact List.nodup_range'
  exact List.Nodup.sublist (List.filter_sublist.map _) h
theorem lt_of_get {α : Type} {s : List α} {k : Nat} {r : α} (h : s[k]? = some r) : k < s.length := (List.getElem?_eq_some_iff.mp h).1
def can (s : Sg) (F : List Nat) (k : Nat) : Prop := ∃ r, s[k]? = some r ∧ ∃ c ∈ r.2, ∀ p ∈ c.2, p ∈ F
structure FI (s : Sg) (F : List Nat) : Prop where
  nd : F.Nodup
  fl : ∀ k ∈ F, k < s.length ∧ Filled s k
  op : ∀ k ∈ opens s, k ∈ F
theorem FI.len {s : Sg} {F : List Nat} (h : FI s F) : F.length ≤ s.length := nodup_len h.nd fun k hk => (h.fl k hk).1
theorem FI.add {s : Sg} {F : List Nat} {k : Nat} (h : FI s F) (hk : k ∉ F) (c : can s F k) : FI s (F ++ [k]) := by
  obtain ⟨r, e, c, hc, hp⟩ := c
  refine ⟨List.nodup_append.mpr ⟨h.nd, by simp, fun a ha b hb => ?_⟩, fun j hj => ?_, fun j hj => List.mem_append_left _ (h.op j hj)⟩
  · rintro rfl
    simp at hb
    exact hk (hb ▸ ha)
  · rcases List.mem_append.mp hj with hj | hj
    · exact h.fl j hj
    · simp at hj
      subst hj
      exact ⟨lt_of_get e, .co e hc fun p hq => (h.fl p (hp p hq)).2⟩
theorem FI.all {s : Sg} {F : List Nat} (h : FI s F) (cl : ∀ k, can s F k → k ∈ F) (k : Nat) : k ∈ F ↔ k < s.length ∧ Filled s k := by
  have go : ∀ k, Filled s k → k ∈ F := fun k f => by
    induction f with
    | op e o => exact h.op _ (mem_opens.mpr ⟨_, e, o⟩)
    | co e hc _ ih => exact cl _ ⟨_, e, _, hc, ih⟩
  exact ⟨h.fl k, fun x => go k x.2⟩
theorem in_ns (F : List Nat) (k : Nat) : ((nsD F).any fun y => PyData.eqv y (.int (k : Nat))) = decide (k ∈ F) := by
  rw [Bool.eq_iff_iff, List.any_eq_true, decide_eq_true_eq]
  constructor
  · rintro ⟨y, hy, e⟩
    obtain ⟨n, hn, rfl⟩ := List.mem_map.mp hy
    rw [eqv_int] at e
    have := of_decide_eq_true e
    have e2 : n = k := by omega
    exact e2 ▸ hn
  · intro h
    exact ⟨_, List.mem_map.mpr ⟨k, h, rfl⟩, by rw [eqv_int]; exact decide_eq_true rfl⟩
theorem plain_ns : ∀ (F : List Nat), PyData.plainAll (nsD F) = true
  | [] => rfl
  | n :: F => by
    have := plain_ns F
    simp only [nsD, List.map_cons, PyData.plainAll, PyData.plain, Bool.true_and] at this ⊢
    exact this

theorem i_notinNs {z : SS} {ev ew : EV} {F : List Nat} {n : Nat} {k : RV → Prop} (e : evD z ev = some (.int (n : Nat))) (e2 : evD z ew = some (.list (nsD F))) (h : k (.d (.bool (!decide (n ∈ F))))) : sNotIn z ev ew k :=
  ⟨_, _, e, e2, plain_ns _, rfl, by simp [PyData.depth], by rw [in_ns]; exact h⟩
def opF (x : D) : Option D := match x with
  | .tuple [k, .tuple [.str h, _]] => if h = ("open" : Str) then some k else none
  | _ => none
theorem open_ne : ("closed" : Str) ≠ ("open" : Str) := by decide
theorem opF_row (k : Nat) (r : Rw) : opF (.tuple [.int (k : Nat), rowD r]) = if r.1 then some (.int (k : Nat)) else none := by
  unfold rowD opF
  cases r.1 with
  | true => simp
  | false => simp [open_ne]
theorem enum_sig (s : Sg) : enumD (s.map rowD) = s.zipIdx.map fun p => .tuple [.int (p.2 : Nat), rowD p.1] := by
  unfold enumD
  rw [List.zipIdx_map, List.map_map]
  rfl
theorem opens_eq (s : Sg) : (enumD (s.map rowD)).filterMap opF = nsD (opens s) := by
  rw [enum_sig, List.filterMap_map, nsD, opens, List.map_map]
  induction s.zipIdx with
  | nil => rfl
  | cons p r ih =>
    rw [List.filterMap_cons, List.filter_cons]
    simp only [Function.comp, opF_row] at ih ⊢
    cases p.1.1 with
    | true => simp [ih]
    | false => simp [ih]
def canD (F : List Nat) (x : D) : Bool := match x with
  | .tuple [_, .tuple ps] => ps.all fun p => (nsD F).any fun y => PyData.eqv y p
  | _ => false
theorem can_eq (F : List Nat) (cs : List Cn) : ((cs.map consD).any (canD F) = true) ↔ ∃ c ∈ cs, ∀ p ∈ c.2, p ∈ F := by
  rw [List.any_map, List.any_eq_true]
  have e : ∀ c : Cn, (canD F ∘ consD) c = true ↔ ∀ p ∈ c.2, p ∈ F := fun c => by
    simp only [Function.comp, consD, canD, nsD, List.all_map, List.all_eq_true]
    constructor
    · intro h p hp
      have := h p hp
      have e := in_ns F p
      unfold nsD at e
      rw [e] at this
      exact of_decide_eq_true this
    · intro h p hp
      have e := in_ns F p
      unfold nsD at e
      rw [e]
      exact decide_eq_true (h p hp)
  constructor
  · rintro ⟨c, hc, h⟩
    exact ⟨c, hc, (e c).mp h⟩
  · rintro ⟨c, hc, h⟩
    exact ⟨c, hc, (e c).mpr h⟩
theorem row_get {s : Sg} {i : Nat} {x : D} (h : (enumD (s.map rowD))[i]? = some x) : ∃ r, s[i]? = some r ∧ x = .tuple [.int (i : Nat), rowD r] := by
  rw [enum_sig, List.getElem?_map] at h
  obtain ⟨p, e, rfl⟩ := Option.map_eq_some_iff.mp h
  rw [List.getElem?_zipIdx] at e
  obtain ⟨r, e1, rfl⟩ := Option.map_eq_some_iff.mp e
  exact ⟨r, e1, by simp⟩
/-- 0 signature, 1 found, 2 turn, 3 kind, 4 row, 5 name, 6 parts, 7 part -/
def w_filled_kinds : WS :=
(wSeq (wSetO 1 (wLc (wEnum (wCons (wVar 0) wNil)) (gTp [(gNm 3), (gNm 4)]) [3, 4] (wTest (wBin sEq (wBin sIx (wVar 4) (wC (.int 0))) (wC (.str "open")))) (wVar 3)))
 (wSeq (wFor (wSrc (wVar 0)) (gNm 2)
 (wKill [2, 3, 4] (wFor (wEnum (wCons (wVar 0) wNil)) (gTp [(gNm 3), (gNm 4)])
 (wKill [3, 4] (wIfS (wAnd (wTest (wBin sNotIn (wVar 3) (wVar 1))) (wTest (wFrz (wCB (f1 sAny) (wCons (wFrz (wLc (wSrc (wBin sIx (wVar 4) (wC (.int 1)))) (gTp [(gNm 5), (gNm 6)]) [5, 6] wYes (wFrz (wCB (f1 sAll) (wCons (wFrz (wLc (wSrc (wVar 6)) (gNm 7) [7] wYes (wBin sIn (wVar 7) (wVar 1)))) wNil))))) wNil)))))
 (wDrop (wFrz (wBM "list" mAppend (wVar 1) (wCons (wVar 3) wNil))))
 wNext)))))
 (wRetO 1)))
/-- 0 value, 1 names, 2 row, 3 name, 4 parts -/
def w_is_signature : WS :=
(wSeq (wIfS (wOr (wNot (wTest (wIsa "tuple" (wVar 0)))) (wNot (wTest (wChain sLe sLe (wC (.int 1)) (wFrz (wCB (f1 sLen) (wCons (wVar 0) wNil))) (wC (.int 3))))))
 (wRet (wC (.bool false)))
 wNext)
 (wSeq (wIfS (wNot (wTest (wFrz (wCB (f1 sAll) (wCons (wFrz (wLc (wSrc (wVar 0)) (gNm 2) [2] wYes (wFrz (wCall p_is_kind_row (wCons (wFrz (wCB (f1 sLen) (wCons (wVar 0) wNil))) (wCons (wVar 2) wNil)))))) wNil)))))
 (wRet (wC (.bool false)))
 wNext)
 (wSeq (wSet 1 (wFrz (wLc2 (wSrc (wVar 0)) (gNm 2) [2, 3, 4] wYes (wSrc (wBin sIx (wVar 2) (wC (.int 1)))) (gTp [(gNm 3), (gNm 4)]) [3, 4] wYes (wVar 3))))
 (wSeq (wIfS (wTest (wFrz (wCB (f1 sAny) (wCons (wFrz (wLc (wSrc (wVar 1)) (gNm 3) [3] wYes (wBin sGt (wFrz (wBM "list" mCount (wVar 1) (wCons (wVar 3) wNil))) (wC (.int 1))))) wNil))))
 (wRet (wC (.bool false)))
 wNext)
 (wRet (wBin sEq (wFrz (wCB (f1 sLen) (wCons (wFrz (wCall p_filled_kinds (wCons (wVar 0) wNil))) wNil))) (wFrz (wCB (f1 sLen) (wCons (wVar 0) wNil)))))))))
local macro_rules | `(tactic| walk_at "w1") => `(tactic| first
  | (with_reducible refine' i_seq ?_) | (with_reducible refine' i_set ?_) | (with_reducible refine' i_ifS ?_) | (with_reducible refine' i_ret ?_) | (with_reducible refine' i_next ?_) | (with_reducible refine' i_kill ?_)
  | (with_reducible refine' i_setO ?_) | (with_reducible refine' i_lcSet ?_) | (with_reducible refine' i_asg ?_) | (with_reducible refine' i_put ?_) | (with_reducible refine' i_drop ?_) | (with_reducible refine' i_retR ?_)
  | ((with_reducible refine' i_retO ?h1 ?_); (case h1 => rfl)) | (with_reducible refine' i_for ?_)
  | (with_reducible refine' i_test ?_) | (with_reducible refine' i_tnot ?_) | (with_reducible refine' i_tand ?_) | (with_reducible refine' i_tor ?_) | (with_reducible refine' i_yes ?_)
  | ((with_reducible refine' i_var ?h1 ?_); (case h1 => rfl)) | ((with_reducible refine' i_varO ?h1 ?_); (case h1 => rfl)) | (with_reducible refine' i_c ?_) | (with_reducible refine' i_dct ?_) | (with_reducible refine' i_frz ?_) | (with_reducible refine' i_bin ?_) | (with_reducible refine' i_binR ?_)
  | (with_reducible refine' i_cb ?_) | (with_reducible refine' i_nil ?_) | (with_reducible refine' i_cons ?_) | (with_reducible refine' i_tup ?_) | (with_reducible refine' i_lst ?_) | (with_reducible refine' i_neg ?_) | (with_reducible refine' i_isa ?_)
  | (with_reducible refine' i_andV ?_) | (with_reducible refine' i_orV ?_) | (with_reducible refine' i_notV ?_) | (with_reducible refine' i_if ?_) | (with_reducible refine' i_chain ?_) | (with_reducible refine' i_sl ?_) | (with_reducible refine' i_noPart ?_) | (with_reducible refine' i_part ?_)
  | (with_reducible refine' i_bm ?_) | (with_reducible refine' i_bm0 ?_) | (with_reducible refine' i_lrg ?_) | (with_reducible refine' i_call ?_) | (with_reducible refine' i_src ?_) | (with_reducible refine' i_rng1 ?_) | (with_reducible refine' i_rng2 ?_) | (with_reducible refine' i_enum ?_)
  | (with_reducible refine' i_lc ?_) | (with_reducible refine' i_lc2 ?_))
local macro_rules | `(tactic| walk_at "w2") => `(tactic| first
  | (with_reducible refine' i_allM ?_) | (with_reducible refine' i_anyM ?_)
  | (with_reducible refine' i_exD ?_) | (with_reducible refine' i_exB ?_) | (with_reducible refine' i_exRB ?_) | (with_reducible refine' i_exI ?_) | (with_reducible refine' i_exN ?_)
  | (with_reducible refine' i_addI ?_) | (with_reducible refine' i_sub ?_) | (with_reducible refine' i_lt ?_) | (with_reducible refine' i_le ?_) | (with_reducible refine' i_gt ?_) | (with_reducible refine' i_ge ?_)
  | (with_reducible refine' i_eqI ?_) | (with_reducible refine' i_neI ?_) | (with_reducible refine' i_eqB ?_) | (with_reducible refine' i_neB ?_) | (with_reducible refine' i_eqS ?_) | (with_reducible refine' i_neS ?_)
  | (with_reducible refine' i_isB ?_) | ((with_reducible refine' i_isN ?h1 ?_); (case h1 => rfl)) | ((with_reducible refine' i_notN ?h1 ?_); (case h1 => rfl))
  | (with_reducible refine' i_f1 ?_) | (with_reducible refine' i_f2 ?_) | ((with_reducible refine' i_len ?h1 ?_); (case h1 => rfl)) | (with_reducible refine' i_abs ?_) | (with_reducible refine' i_int ?_) | (with_reducible refine' i_max ?_) | (with_reducible refine' i_min ?_)
  | (with_reducible refine' i_listScr ?_) | ((with_reducible refine' i_list ?h1 ?_); (case h1 => rfl)) | ((with_reducible refine' i_tuple ?h1 ?_); (case h1 => rfl))
  | ((with_reducible refine' i_tyL ?h1 ?_); (case h1 => rfl)) | (with_reducible refine' i_tyS ?_)
  | (with_reducible refine' i_slT ?_) | ((with_reducible refine' i_slL ?h1 ?_); (case h1 => rfl)))
local macro_rules | `(tactic| walk_at "w3") => `(tactic| first
  | ((with_reducible refine' i_ix ?h1 ?h2 ?_); (case h1 => rfl); (case h2 => rfl)) | ((with_reducible refine' i_allD ?h1 ?h2 ?_); (case h1 => rfl); (case h2 => (simp [sizeLine_eq]; done)))
  | ((with_reducible refine' i_args ?h1 ?_); (case h1 => rfl)) | ((with_reducible refine' i_out ?h1 ?_); (case h1 => rfl)) | ((with_reducible refine' i_rt ?h1 ?_); (case h1 => rfl))
  | ((with_reducible refine' i_srcOf ?h1 ?_); (case h1 => rfl)) | ((with_reducible refine' i_evD ?h1 ?h2 ?_); (case h1 => rfl); (case h2 => (intro l e; cases e; done)))
  | ((with_reducible refine' i_rngD ?h1 ?h2 ?_); (case h1 => (first | decide | omega)); (case h2 => (first | decide | omega))) | ((with_reducible refine' i_rngD2 ?h1 ?_); (case h1 => (first | decide | omega)))
  | ((with_reducible refine' i_lrgD ?h1 ?_); (case h1 => (apply RgOk.of_le <;> omega))) | ((with_reducible refine' i_enumE ?h1 ?_); (case h1 => rfl))
  | ((with_reducible refine' i_putD ?h1 ?h2 ?_); (case h1 => rfl); (case h2 => rfl)) | ((with_reducible refine' i_asgD ?h1 ?_); (case h1 => rfl))
  | ((with_reducible refine' i_mul ?h1 ?_); (case h1 => (first | exact .inr (by decide) | exact .inl (by decide)))) | ((with_reducible refine' i_mod ?h1 ?_); (case h1 => (first | decide | omega)))
  | ((with_reducible refine' i_fdiv ?h1 ?_); (case h1 => (first | exact ⟨by decide, by decide⟩ | exact ⟨by omega, by omega⟩))) | ((with_reducible refine' i_pow ?h1 ?_); (case h1 => exact pow_ok (by decide)))
  | ((with_reducible refine' i_ifT ?h1 ?_); (case h1 => (first | rfl | assumption | (simp [isA]; done)))) | ((with_reducible refine' i_ifF ?h1 ?_); (case h1 => (first | rfl | assumption | (simp [isA]; done))))
  | ((with_reducible refine' i_isD ?h1 ?_); (case h1 => assumption))
  | ((with_reducible refine' i_append ?h1 ?h2 ?_); (case h1 => rfl); (case h2 => (first | (simp [sizeLine_eq]; done) | (apply lt_line; omega)))))
local macro_rules | `(tactic| walk_at "w") => `(tactic| repeat' (first | walk_at "w1" | walk_at "w2" | walk_at "w3" | fail "open"))
local macro_rules | `(tactic| walk_at "w0") => `(tactic| simp only [startS, hasOwn, List.map_cons, List.map_nil, List.length_cons, List.length_nil, List.cons_append, List.nil_append, List.replicate, Nat.reduceAdd, Nat.reduceSub, Nat.zero_add])



def fillZ (s : Sg) (F : List Nat) : SS := [some (.val (sigD s)), some (.own none (nsD F)), none, none, none, none, none, none]
theorem nsD_app (F : List Nat) (k : Nat) : nsD (F ++ [k]) = nsD F ++ [.int (k : Nat)] := by simp [nsD]
theorem v_filled_kinds : ∀ as R, p_filled_kinds as R → w_filled_kinds (retEn (hasOwn as) R) (startS 8 as) := by
  rintro as R ⟨s, rfl, hs, q⟩
  unfold w_filled_kinds
  walk_at "w0"
  unfold sigD
  walk_at "w"
  have hl : (enumD (s.map rowD)).length ≤ sizeLine := by
    rw [enumD_len, List.length_map]
    exact le_line (by have := hs.2.1; omega)
  refine lcL_fm opF hl (fun x hx N hN => ?_) ?_
  · obtain ⟨i, hi⟩ := List.mem_iff_getElem?.mp hx
    obtain ⟨r, hr, rfl⟩ := row_get hi
    rw [opF_row] at hN
    unfold rowD
    refine ⟨_, rfl, ?_⟩
    walk_at "w"
    cases h : r.1 with
    | true =>
      rw [h] at hN
      walk_at "w"
      exact hN _ rfl
    | false =>
      rw [h] at hN
      walk_at "w"
      exact hN _ rfl
  rw [opens_eq]
  walk_at "w"
  refine forL_inv (P := fun i z => ∃ F, z = fillZ s F ∧ FI s F ∧ ((∀ k, can s F k → k ∈ F) ∨ i ≤ F.length)) (fun i x z hx p N hN => ?_) (fun z p => ?_) ⟨opens s, rfl, ⟨opens_nodup s, fun k hk => ?_, fun k hk => hk⟩, .inr (Nat.zero_le _)⟩
  · obtain ⟨F, rfl, hF, hc⟩ := p
    refine ⟨_, rfl, ?_⟩
    unfold fillZ sigD
    walk_at "w"
    refine forL_inv (P := fun j z => ∃ F', z = (fillZ s F').set 2 (some (.val x)) ∧ FI s F' ∧ (∀ k, k ∈ F → k ∈ F') ∧ ((F' = F ∧ ∀ k, k < j → can s F k → k ∈ F) ∨ F.length < F'.length)) (fun j y z hy p N2 hN2 => ?_) (fun z p => ?_) ⟨F, rfl, hF, fun k hk => hk, .inl ⟨rfl, fun k hk => absurd hk (by omega)⟩⟩
    · obtain ⟨F', rfl, hF', hs', hc'⟩ := p
      obtain ⟨r, hr, rfl⟩ := row_get hy
      unfold fillZ sigD rowD
      refine ⟨_, rfl, ?_⟩
      have hj := lt_of_get hr
      walk_at "w"
      have hr4 : r.2.length ≤ 4 := (hs.2.2 r (List.mem_of_getElem? hr)).1
      have hF3 := hF'.len
      have hs3 := hs.2.1
      refine i_notinNs rfl rfl ?_
      walk_at "w"
      refine i_ifB (fun h1 => ?_) (fun h1 => ?_)
      · have hm : j ∉ F' := by simpa using h1
        walk_at "w"
        refine lcL_map (fun x => .bool (canD F' x)) (by rw [List.length_map]; exact le_line (by omega)) (fun c hc N3 hN3 => ?_) ?_
        · obtain ⟨c, hc1, rfl⟩ := List.mem_map.mp hc
          unfold consD
          refine ⟨_, rfl, ?_⟩
          walk_at "w"
          refine lcL_map (fun p => .bool ((nsD F').any fun y => PyData.eqv y p)) ?_ (fun p hp N4 hN4 => ?_) ?_
          · have := ((hs.2.2 r (List.mem_of_getElem? hr)).2 c hc1).2.1
            rw [nsD, List.length_map]
            exact le_line (by omega)
          · obtain ⟨n, hn, rfl⟩ := List.mem_map.mp hp
            refine ⟨_, rfl, ?_⟩
            walk_at "w"
            refine ⟨_, _, rfl, rfl, plain_ns _, rfl, by simp [PyData.depth], ?_⟩
            exact i_exD (hN4 _ rfl)
          · walk_at "w"
            exact hN3 _ rfl
        · walk_at "w"
          refine i_ifB (fun h2 => ?_) (fun h2 => ?_)
          · have hcan : can s F' j := ⟨r, hr, (can_eq F' r.2).mp h2⟩
            walk_at "w"
            refine i_append rfl ?_ ?_
            · rw [nsD, List.length_map]
              exact lt_line (by omega)
            · refine hN2 _ ⟨F' ++ [j], ?_, hF'.add hm hcan, fun k hk => List.mem_append_left _ (hs' k hk), .inr ?_⟩
              · simp only [fillZ, nsD_app]
                rfl
              · rw [List.length_append]
                rcases hc' with ⟨rfl, _⟩ | h
                · simp
                · omega
          · walk_at "w"
            refine hN2 _ ⟨F', rfl, hF', hs', ?_⟩
            rcases hc' with ⟨rfl, h⟩ | h
            · refine .inl ⟨rfl, fun k hk hc => ?_⟩
              by_cases e : k = j
              · subst e
                obtain ⟨r2, e2, hc2⟩ := hc
                rw [hr] at e2
                cases e2
                have := (can_eq F' r.2).mpr hc2
                rw [this] at h2
                cases h2
              · exact h k (by omega) hc
            · exact .inr h
      · have hm : j ∈ F' := by simpa using h1
        walk_at "w"
        refine hN2 _ ⟨F', rfl, hF', hs', ?_⟩
        rcases hc' with ⟨rfl, h⟩ | h
        · refine .inl ⟨rfl, fun k hk hc => ?_⟩
          by_cases e : k = j
          · rw [e]; exact hm
          · exact h k (by omega) hc
        · exact .inr h
    · obtain ⟨F', rfl, hF', hs', hc'⟩ := p
      refine hN _ ⟨F', rfl, hF', ?_⟩
      rw [enumD_len, List.length_map] at hc'
      rcases hc' with ⟨rfl, h⟩ | h
      · refine .inl fun k hk => ?_
        obtain ⟨r, hr, _⟩ := id hk
        exact h k (lt_of_get hr) hk
      · rcases hc with hc | hc
        · refine .inl fun k hk => ?_
          obtain ⟨r, hr, c, hc1, hp⟩ := hk
          exact hs' k (hc k ⟨r, hr, c, hc1, fun p h => (hF.all hc p).mpr (hF'.fl p (hp p h))⟩)
        · exact .inr (by omega)
  · obtain ⟨F, rfl, hF, hc⟩ := p
    unfold fillZ
    walk_at "w"
    refine q F hF.nd (hF.all ?_)
    rcases hc with hc | hc
    · exact hc
    · rw [List.length_map] at hc
      intro k ⟨r, hr, _⟩
      exact nodup_full hF.nd (fun k hk => (hF.fl k hk).1) hc (lt_of_get hr)
  · obtain ⟨r, hr, ho⟩ := mem_opens.mp hk
    exact ⟨lt_of_get hr, .op hr ho⟩

theorem all_form {α : Type} {f : α → D} {p : D → Bool} {w : α → Prop} (h : ∀ d, p d = true ↔ ∃ a, d = f a ∧ w a) : ∀ l : List D, l.all p = true ↔ ∃ as : List α, l = as.map f ∧ ∀ a ∈ as, w a
  | [] => ⟨fun _ => ⟨[], rfl, by simp⟩, fun _ => rfl⟩
  | d :: l => by
    rw [List.all_cons, Bool.and_eq_true, h d, all_form h l]
    constructor
    · rintro ⟨⟨a, rfl, ha⟩, as, rfl, has⟩
      exact ⟨a :: as, rfl, fun b hb => (List.mem_cons.mp hb).elim (fun e => e ▸ ha) (has b)⟩
    · rintro ⟨as, e, has⟩
      cases as with
      | nil => cases e
      | cons a as =>
        rw [List.map_cons] at e
        cases e
        exact ⟨⟨a, rfl, has a (by simp)⟩, as, rfl, fun b hb => has b (by simp [hb])⟩
theorem within_iff (n : Nat) (d : D) : isWithin d 0 ((n : Int) - 1) = true ↔ ∃ k : Nat, d = .int (k : Nat) ∧ k < n := by
  constructor
  · intro h
    cases d with
    | int i =>
      simp only [isWithin, Bool.and_eq_true, decide_eq_true_eq] at h
      exact ⟨i.toNat, by congr 1; omega, by omega⟩
    | none => cases h
    | bool b => cases h
    | str s => cases h
    | list l => cases h
    | tuple l => cases h
    | dict l => cases h
  · rintro ⟨k, rfl, h⟩
    simp only [isWithin, Bool.and_eq_true, decide_eq_true_eq]
    omega
theorem areKinds_iff (n : Nat) (d : D) : areKinds n d 0 2 = true ↔ ∃ l : List Nat, d = .tuple (nsD l) ∧ l.length ≤ 2 ∧ ∀ p ∈ l, p < n := by
  constructor
  · intro h
    cases d with
    | tuple l =>
      simp only [areKinds, Bool.and_eq_true, decide_eq_true_eq] at h
      obtain ⟨as, rfl, ha⟩ := (all_form (within_iff n) l).mp h.2
      have := h.1.2
      rw [List.length_map] at this
      exact ⟨as, rfl, by omega, ha⟩
    | none => cases h
    | bool b => cases h
    | str s => cases h
    | list l => cases h
    | int l => cases h
    | dict l => cases h
  · rintro ⟨l, rfl, h, hp⟩
    simp only [areKinds, Bool.and_eq_true, decide_eq_true_eq]
    refine ⟨⟨by omega, by rw [nsD, List.length_map]; omega⟩, (all_form (within_iff n) _).mpr ⟨l, rfl, hp⟩⟩
theorem isCons_iff (n : Nat) (d : D) : isCons n d = true ↔ ∃ c, d = consD c ∧ wfCons n c := by
  constructor
  · intro h
    match d, h with
    | .tuple [a, b], h =>
      simp only [isCons, Bool.and_eq_true] at h
      obtain ⟨l, rfl, h1, h2⟩ := (areKinds_iff n b).mp h.2
      cases a with
      | str x => exact ⟨(x, l), rfl, h.1, h1, h2⟩
      | none => cases h.1
      | bool b => cases h.1
      | int s => cases h.1
      | list l => cases h.1
      | tuple l => cases h.1
      | dict l => cases h.1
  · rintro ⟨c, rfl, h1, h2, h3⟩
    simp only [isCons, consD, Bool.and_eq_true]
    exact ⟨h1, (areKinds_iff n _).mpr ⟨_, rfl, h2, h3⟩⟩
theorem isRow_iff (n : Nat) (d : D) : isRow n d = true ↔ ∃ r, d = rowD r ∧ wfRow n r := by
  constructor
  · intro h
    match d, h with
    | .tuple [.str x, .tuple rows], h =>
      simp only [isRow, Bool.and_eq_true, Bool.or_eq_true, decide_eq_true_eq] at h
      obtain ⟨as, rfl, ha⟩ := (all_form (isCons_iff n) rows).mp h.2
      rw [List.length_map] at h
      rcases h.1.1 with rfl | rfl
      · exact ⟨(false, as), rfl, h.1.2, ha⟩
      · exact ⟨(true, as), rfl, h.1.2, ha⟩
  · rintro ⟨⟨o, cs⟩, rfl, h1, h2⟩
    simp only [isRow, rowD, Bool.and_eq_true, Bool.or_eq_true, decide_eq_true_eq, List.length_map]
    refine ⟨⟨?_, h1⟩, (all_form (isCons_iff n) _).mpr ⟨cs, rfl, h2⟩⟩
    cases o
    · exact .inl rfl
    · exact .inr rfl
theorem nsD_inj {a b : List Nat} (h : nsD a = nsD b) : a = b := by
  unfold nsD at h
  exact (List.map_inj_right (fun x y e => by injection e with e; omega)).mp h
theorem consD_inj {a b : Cn} (h : consD a = consD b) : a = b := by
  obtain ⟨x, l⟩ := a
  obtain ⟨y, m⟩ := b
  simp only [consD, PyData.tuple.injEq, List.cons.injEq, PyData.str.injEq, and_true] at h
  rw [h.1, nsD_inj h.2]
theorem rowD_inj {a b : Rw} (h : rowD a = rowD b) : a = b := by
  obtain ⟨x, l⟩ := a
  obtain ⟨y, m⟩ := b
  simp only [rowD, PyData.tuple.injEq, List.cons.injEq, PyData.str.injEq, and_true] at h
  have e := (List.map_inj_right (fun x y e => consD_inj e)).mp h.2
  have e2 : x = y := by
    cases x <;> cases y <;> first | rfl | exact absurd (show ("closed" : Str) = "open" from h.1) open_ne | exact absurd (show ("open" : Str) = "closed" from h.1).symm open_ne
  rw [e, e2]
theorem sigD_inj {a b : Sg} (h : sigD a = sigD b) : a = b := by
  injection h with h
  exact (List.map_inj_right (fun x y e => rowD_inj e)).mp h
theorem isSig_false {v : D} (h : ¬ IsSig v) : isSig v = false := @decide_eq_false _ (Classical.propDecidable _) h
theorem isSig_true {v : D} (h : IsSig v) : isSig v = true := @decide_eq_true _ (Classical.propDecidable _) h
theorem isSig_iff {v : D} : isSig v = true ↔ IsSig v := ⟨fun h => @of_decide_eq_true _ (Classical.propDecidable _) h, isSig_true⟩
theorem isSig_nt {v : D} (h : ∀ l, v ≠ .tuple l) : isSig v = false := isSig_false fun ⟨s, e, _⟩ => h _ e
theorem isSig_form {l : List D} (h1 : 1 ≤ l.length) (h3 : l.length ≤ 3) (h : l.all (isRow l.length) = true) : ∃ s : Sg, l = s.map rowD ∧ Wf s := by
  obtain ⟨s, e, hs⟩ := (all_form (isRow_iff l.length) l).mp h
  have el : l.length = s.length := by rw [e, List.length_map]
  exact ⟨s, e, by omega, by omega, fun r hr => by rw [← el]; exact hs r hr⟩
theorem wf_all {s : Sg} (h : Wf s) : (s.map rowD).all (isRow s.length) = true := (all_form (isRow_iff s.length) _).mpr ⟨s, rfl, h.2.2⟩
theorem isSig_sig {s : Sg} (h : Wf s) : IsSig (sigD s) ↔ (namesOf s).Nodup ∧ Whole s :=
  ⟨fun ⟨s', e, _, a, b⟩ => by rw [sigD_inj e]; exact ⟨a, b⟩, fun ⟨a, b⟩ => ⟨s, rfl, h, a, b⟩⟩
def txs (l : List Str) : List D := l.map PyData.str
theorem plain_strs : ∀ l : List Str, PyData.plainAll (txs l) = true
  | [] => rfl
  | x :: l => by
    have := plain_strs l
    simp only [txs, List.map_cons, PyData.plainAll, PyData.plain, Bool.true_and] at this ⊢
    exact this
theorem count_strs (l : List Str) (x : Str) : ((txs l).countP fun y => PyData.eqv y (.str x)) = l.count x := by
  rw [txs, List.countP_map, List.count]
  congr 1
theorem dup_iff (l : List Str) : ((txs l).any fun x => decide ((1 : Int) < ((txs l).countP fun y => PyData.eqv y x : Nat))) = true ↔ ¬ l.Nodup := by
  rw [List.any_eq_true, List.nodup_iff_count]
  constructor
  · rintro ⟨x, hx, h⟩ hn
    obtain ⟨y, hy, rfl⟩ := List.mem_map.mp hx
    have h := of_decide_eq_true h
    rw [count_strs] at h
    have := hn y
    omega
  · intro h
    obtain ⟨y, hy⟩ := Classical.not_forall.mp h
    have hm : y ∈ l := List.count_pos_iff.mp (by omega)
    refine ⟨.str y, List.mem_map.mpr ⟨y, hm, rfl⟩, decide_eq_true ?_⟩
    rw [count_strs]
    omega
theorem len_names {s : Sg} (h : Wf s) : ∀ i, (namesOf (s.take i)).length ≤ 4 * i
  | 0 => by simp [namesOf]
  | i + 1 => by
    have ih := len_names h i
    rw [List.take_add_one]
    unfold namesOf at ih ⊢
    rw [List.flatMap_append, List.length_append]
    cases e : s[i]? with
    | none =>
      simp only [Option.toList, List.flatMap_nil, List.length_nil]
      omega
    | some r =>
      have := (h.2.2 r (List.mem_of_getElem? e)).1
      simp only [Option.toList, List.flatMap_cons, List.flatMap_nil, List.length_append, List.length_map, List.length_nil]
      omega
theorem names_step {s : Sg} {i : Nat} {r : Rw} (e : s[i]? = some r) : namesOf (s.take (i + 1)) = namesOf (s.take i) ++ r.2.map Prod.fst := by
  unfold namesOf
  rw [List.take_add_one, e, List.flatMap_append]
  simp
theorem strs_app (a b : List Str) : txs (a ++ b) = txs a ++ txs b := List.map_append
theorem v_is_signature : ∀ as R, p_is_signature as R → w_is_signature (retEn (hasOwn as) R) (startS 5 as) := by
  rintro as R ⟨v, rfl, hv, q⟩
  unfold w_is_signature
  walk_at "w0"
  walk_at "w"
  cases v <;> (walk_at "w"; first | (rw [isSig_nt (fun l e => by cases e)] at q; exact q) | skip)
  rename_i l
  have no : (¬ (1 ≤ l.length ∧ l.length ≤ 3 ∧ l.all (isRow l.length) = true)) → R (.d (.bool false)) none := fun h => by
    rw [isSig_false] at q
    · exact q
    · rintro ⟨s, e, w, _⟩
      injection e with e
      subst e
      rw [List.length_map] at h
      exact h ⟨w.1, w.2.1, wf_all w⟩
  refine i_ifD (fun h1 => ?_) (fun h1 => ?_)
  rotate_left
  · walk_at "w"
    exact no (fun h => h1 (by omega))
  walk_at "w"
  refine i_ifB (fun h2 => ?_) (fun h2 => ?_)
  · have h2 : ¬ (l.length : Int) ≤ 3 := by simpa using h2
    walk_at "w"
    exact no (fun h => h2 (by omega))
  have h2 : (l.length : Int) ≤ 3 := by simpa using h2
  walk_at "w"
  refine lcL_map (fun x => .bool (isRow l.length x)) (le_line (by omega)) (fun x hx N hN => ?_) ?_
  · refine ⟨_, rfl, ?_⟩
    walk_at "w"
    refine ⟨_, x, rfl, okT hv hx, ?_⟩
    walk_at "w"
    exact hN _ rfl
  walk_at "w"
  refine i_ifB (fun h3 => ?_) (fun h3 => ?_)
  · walk_at "w"
    refine no (fun h => ?_)
    rw [h.2.2] at h3
    cases h3
  have h3 : l.all (isRow l.length) = true := by simpa using h3
  obtain ⟨s, rfl, hs⟩ := isSig_form (by omega) (by omega) h3
  have hl3 := hs.2.1
  walk_at "w"
  refine lcL2_inv (P := fun i acc z => acc = txs (namesOf (s.take i)) ∧ z = [some (.val (sigD s)), none, none, none, none]) (fun i x acc z e p N hN => ?_) (fun acc z p => ?_) ⟨rfl, rfl⟩
  · obtain ⟨rfl, rfl⟩ := p
    rw [List.getElem?_map] at e
    obtain ⟨r, er, rfl⟩ := Option.map_eq_some_iff.mp e
    have hr4 := (hs.2.2 r (List.mem_of_getElem? er)).1
    refine ⟨_, rfl, ?_⟩
    unfold rowD
    walk_at "w"
    refine lcL_mapA (fun x => match x with | .tuple [n, _] => n | _ => .none) ?_ (fun c hc N3 hN3 => ?_) ?_
    · have := len_names hs i
      have := lt_of_get er
      rw [txs, List.length_map, List.length_map]
      exact le_line (by omega)
    · obtain ⟨c, hc, rfl⟩ := List.mem_map.mp hc
      refine ⟨_, rfl, ?_⟩
      walk_at "w"
      exact hN3 _ rfl
    · refine hN _ _ ⟨?_, rfl⟩
      rw [names_step er, strs_app]
      congr 1
      rw [List.map_map, txs, List.map_map]
      rfl
  obtain ⟨rfl, rfl⟩ := p
  rw [List.length_map, List.take_length]
  walk_at "w"
  have hn12 : (txs (namesOf s)).length ≤ 100 := by
    have := len_names hs s.length
    rw [List.take_length] at this
    rw [txs, List.length_map]
    omega
  refine lcL_map (fun x => .bool (decide ((1 : Int) < ((txs (namesOf s)).countP fun y => PyData.eqv y x : Nat)))) (le_line (by omega)) (fun x hx N hN => ?_) ?_
  · obtain ⟨y, hy, rfl⟩ := List.mem_map.mp hx
    refine ⟨_, rfl, ?_⟩
    walk_at "w"
    refine ⟨_, _, rfl, rfl, plain_strs _, rfl, by simp [PyData.depth], ?_⟩
    walk_at "w"
    exact hN _ rfl
  walk_at "w"
  refine i_ifB (fun h4 => ?_) (fun h4 => ?_)
  · have hd := (dup_iff (namesOf s)).mp h4
    walk_at "w"
    have q2 : R (.d (.bool (isSig (sigD s)))) none := q
    rw [isSig_false (fun h => hd ((isSig_sig hs).mp h).1)] at q2
    exact q2
  have hd : (namesOf s).Nodup := by
    by_cases hd : (namesOf s).Nodup
    · exact hd
    · have := (dup_iff (namesOf s)).mpr hd
      rw [this] at h4
      cases h4
  walk_at "w"
  refine ⟨s, rfl, hs, fun f nd hf => ?_⟩
  walk_at "w"
  have e : decide (((nsD f).length : Int) = ((s.map rowD).length : Nat)) = isSig (sigD s) := by
    refine Bool.eq_iff_iff.mpr ?_
    rw [decide_eq_true_eq, isSig_iff, isSig_sig hs, nsD, List.length_map, List.length_map]
    constructor
    · intro h
      exact ⟨hd, fun k hk => ((hf k).mp (nodup_full nd (fun k hk => ((hf k).mp hk).1) (by omega) hk)).2⟩
    · intro h
      have h1 := nodup_len nd fun k hk => ((hf k).mp hk).1
      have h2 := nodup_sub (a := List.range s.length) (b := f) List.nodup_range fun k hk => (hf k).mpr ⟨List.mem_range.mp hk, h.2 k (List.mem_range.mp hk)⟩
      rw [List.length_range] at h2
      omega
  have q2 : R (.d (.bool (isSig (sigD s)))) none := q
  rw [← e] at q2
  exact q2
end L3
/-! The law's drawers: a row, an order, a word. -/
namespace L3
open PySem PySem.Spec PyProof.Rows L2 PySem.SeqAt
theorem cutD_to {α : Type} {xs : List α} {i : Int} (h : 0 ≤ i) : cutD xs none (some i) = xs.take i.toNat := by
  obtain ⟨n, rfl⟩ := Int.eq_ofNat_of_zero_le h
  unfold cutD
  rw [HT.sIx_none, HT.sIx_nat, List.drop_zero, Nat.sub_zero, Int.toNat_natCast, ← List.take_eq_take_min]
theorem cutD_from {α : Type} {xs : List α} {i : Int} (h : 0 ≤ i) : cutD xs (some i) none = xs.drop i.toNat := by
  obtain ⟨n, rfl⟩ := Int.eq_ofNat_of_zero_le h
  unfold cutD
  rw [HT.sIx_none, HT.sIx_nat, Int.toNat_natCast, List.take_of_length_le (by rw [List.length_drop]; omega)]
  by_cases hn : n ≤ xs.length
  · rw [Nat.min_eq_left hn]
  · rw [Nat.min_eq_right (by omega), List.drop_length, List.drop_of_length_le (by omega)]
def p_law_pick : FS := fun as R => ∃ l rows, as = [.own l, .val (.list rows)] ∧ isStrm l ∧ rows ≠ [] ∧ rows.length ≤ 1000 ∧ ∀ d l', d ∈ rows → isStrm l' → R (.d d) (some l')
def p_law_order : FS := fun as R => ∃ l, ∃ many : Nat, as = [.own l, .val (.int (many : Nat))] ∧ isStrm l ∧ many ≤ 3 ∧ ∀ f l', f.Nodup → (∀ k, k ∈ f ↔ k < many) → isStrm l' → R (.d (.list (nsD f))) (some l')
def p_law_is_integer : FS := fun as R => ∃ i, as = [.val (.int i)] ∧ R (.d (.bool true)) none
def p_law_same : FS := fun as R => ∃ a b, as = [.val (.bool a), .val (.bool b)] ∧ R (.d (.bool (decide (a = b)))) none
def Low (w : Str) : Prop := ∀ c ∈ w.cps.toList, lowC c = true
def p_law_word : FS := fun as R => ∃ l least most, as = [.own l, .val (.int least), .val (.int most)] ∧ isStrm l ∧ 0 ≤ least ∧ least ≤ most ∧ most ≤ 100 ∧ ∀ w l', least ≤ w.length → w.length ≤ most → Low w → isStrm l' → R (.d (.str w)) (some l')
theorem m_law_pick : MonoF p_law_pick := fun as R R' h ⟨a, b, c, d, e, f, k⟩ => ⟨a, b, c, d, e, f, fun x y u v => h _ _ (k x y u v)⟩
theorem l_law_pick : ∀ as R, p_law_pick as R → as.length = 2 := fun as R ⟨a, b, e, _⟩ => by rw [e]; rfl
theorem m_law_order : MonoF p_law_order := fun as R R' h ⟨a, b, c, d, e, k⟩ => ⟨a, b, c, d, e, fun x y u v w => h _ _ (k x y u v w)⟩
theorem l_law_order : ∀ as R, p_law_order as R → as.length = 2 := fun as R ⟨a, b, e, _⟩ => by rw [e]; rfl
theorem m_law_is_integer : MonoF p_law_is_integer := fun as R R' h ⟨a, b, k⟩ => ⟨a, b, h _ _ k⟩
theorem l_law_is_integer : ∀ as R, p_law_is_integer as R → as.length = 1 := fun as R ⟨a, e, _⟩ => by rw [e]; rfl
theorem m_law_same : MonoF p_law_same := fun as R R' h ⟨a, b, c, k⟩ => ⟨a, b, c, h _ _ k⟩
theorem l_law_same : ∀ as R, p_law_same as R → as.length = 2 := fun as R ⟨a, b, e, _⟩ => by rw [e]; rfl
theorem m_law_word : MonoF p_law_word := fun as R R' h ⟨a, b, c, d, e, f, g, i, k⟩ => ⟨a, b, c, d, e, f, g, i, fun x y u v w t => h _ _ (k x y u v w t)⟩
theorem l_law_word : ∀ as R, p_law_word as R → as.length = 3 := fun as R ⟨a, b, c, e, _⟩ => by rw [e]; rfl
/-- 0 stream, 1 rows -/
def w_law_pick : WS :=
(wRet (wBin sIx (wVar 1) (wFrz (wCall p_law_next (wCons (wVar 0) (wCons (wFrz (wCB (f1 sLen) (wCons (wVar 1) wNil))) wNil))))))
/-- 0 stream, 1 many, 2 found, 3 k, 4 at -/
def w_law_order : WS :=
(wSeq (wSet 2 (wFrz (wLst wNil)))
 (wSeq (wFor (wRng1 (wCons (wVar 1) wNil)) (gNm 3)
 (wKill [3, 4] (wSeq (wSet 4 (wFrz (wCall p_law_next (wCons (wVar 0) (wCons (wBin sAdd (wVar 3) (wC (.int 1))) wNil)))))
 (wSet 2 (wBin sAdd (wBin sAdd (wFrz (wSl (wVar 2) wNoPart (wPart (wVar 4)))) (wFrz (wLst (wCons (wVar 3) wNil)))) (wFrz (wSl (wVar 2) (wPart (wVar 4)) wNoPart)))))))
 (wRet (wVar 2))))
/-- 0 actual -/
def w_law_is_integer : WS :=
(wRet (wAndV (wIsa "int" (wVar 0)) (wNotV (wIsa "bool" (wVar 0)))))
/-- 0 actual, 1 due, 2 left, 3 turn, 4 one, 5 other, 6 at -/
def w_law_same : WS :=
(wSeq (wSetO 2 (wLst (wCons (wTup (wCons (wVar 0) (wCons (wVar 1) wNil))) wNil)))
 (wSeq (wFor (wRng1 (wCons (wBin sPow (wC (.int 10)) (wC (.int 9))) wNil)) (gNm 3)
 (wKill [3, 4, 5] (wSeq (wIfS (wTest (wBin sEq (wFrz (wCB (f1 sLen) (wCons (wVar 2) wNil))) (wC (.int 0))))
 (wRet (wC (.bool true)))
 wNext)
 (wSeq (wAsg (wFrz (wBM0 "list" mPop (wVar 2))) (gTp [(gNm 4), (gNm 5)]))
 (wIfS (wOr (wTest (wIsa "tuple" (wVar 5))) (wTest (wIsa "list" (wVar 5))))
 (wSeq (wIfS (wOr (wTest (wBin sNe (wIsa "tuple" (wVar 5)) (wIsa "tuple" (wVar 4)))) (wTest (wBin sNe (wIsa "list" (wVar 5)) (wIsa "list" (wVar 4)))))
 (wRet (wC (.bool false)))
 wNext)
 (wSeq (wIfS (wTest (wBin sNe (wFrz (wCB (f1 sLen) (wCons (wVar 4) wNil))) (wFrz (wCB (f1 sLen) (wCons (wVar 5) wNil)))))
 (wRet (wC (.bool false)))
 wNext)
 (wDrop (wFrz (wBM "list" mExtend (wVar 2) (wCons (wFrz (wLc (wRng1 (wCons (wFrz (wCB (f1 sLen) (wCons (wVar 5) wNil))) wNil)) (gNm 6) [6] wYes (wTup (wCons (wBin sIx (wVar 4) (wVar 6)) (wCons (wBin sIx (wVar 5) (wVar 6)) wNil))))) wNil))))))
 (wIfS (wTest (wIsa "bool" (wVar 5)))
 (wIfS (wOr (wNot (wTest (wIsa "bool" (wVar 4)))) (wTest (wBin sNe (wVar 4) (wVar 5))))
 (wRet (wC (.bool false)))
 wNext)
 (wIfS (wTest (wIsa "int" (wVar 5)))
 (wIfS (wOr (wNot (wTest (wFrz (wCall p_law_is_integer (wCons (wVar 4) wNil))))) (wTest (wBin sNe (wVar 4) (wVar 5))))
 (wRet (wC (.bool false)))
 wNext)
 (wIfS (wTest (wIsa "str" (wVar 5)))
 (wIfS (wOr (wNot (wTest (wIsa "str" (wVar 4)))) (wTest (wBin sNe (wVar 4) (wVar 5))))
 (wRet (wC (.bool false)))
 wNext)
 (wIfS (wTest (wBin (sIsN not) (wVar 4) (wC .none)))
 (wRet (wC (.bool false)))
 wNext)))))))))
 (wRet (wC (.bool false)))))
/-- 0 stream, 1 least, 2 most, 3 letters, 4 word, 5 at -/
def w_law_word : WS :=
(wSeq (wSet 3 (wC (.str "abcdefghijklmnopqrstuvwxyz")))
 (wSeq (wSet 4 (wC (.str "")))
 (wSeq (wFor (wRng1 (wCons (wBin sAdd (wVar 1) (wFrz (wCall p_law_next (wCons (wVar 0) (wCons (wBin sAdd (wBin sSub (wVar 2) (wVar 1)) (wC (.int 1))) wNil))))) wNil)) (gNm 5)
 (wKill [5] (wSet 4 (wBin sAdd (wVar 4) (wBin sIx (wVar 3) (wFrz (wCall p_law_next (wCons (wVar 0) (wCons (wC (.int 26)) wNil)))))))))
 (wRet (wVar 4)))))
local macro_rules | `(tactic| walk_at "w1") => `(tactic| first
  | (with_reducible refine' i_seq ?_) | (with_reducible refine' i_set ?_) | (with_reducible refine' i_ifS ?_) | (with_reducible refine' i_ret ?_) | (with_reducible refine' i_next ?_) | (with_reducible refine' i_kill ?_)
  | (with_reducible refine' i_setO ?_) | (with_reducible refine' i_lcSet ?_) | (with_reducible refine' i_asg ?_) | (with_reducible refine' i_put ?_) | (with_reducible refine' i_drop ?_) | (with_reducible refine' i_retR ?_)
  | ((with_reducible refine' i_retO ?h1 ?_); (case h1 => rfl)) | (with_reducible refine' i_for ?_)
  | (with_reducible refine' i_test ?_) | (with_reducible refine' i_tnot ?_) | (with_reducible refine' i_tand ?_) | (with_reducible refine' i_tor ?_) | (with_reducible refine' i_yes ?_)
  | ((with_reducible refine' i_var ?h1 ?_); (case h1 => rfl)) | ((with_reducible refine' i_varO ?h1 ?_); (case h1 => rfl)) | (with_reducible refine' i_c ?_) | (with_reducible refine' i_dct ?_) | (with_reducible refine' i_frz ?_) | (with_reducible refine' i_bin ?_) | (with_reducible refine' i_binR ?_)
  | (with_reducible refine' i_cb ?_) | (with_reducible refine' i_nil ?_) | (with_reducible refine' i_cons ?_) | (with_reducible refine' i_tup ?_) | (with_reducible refine' i_lst ?_) | (with_reducible refine' i_neg ?_) | (with_reducible refine' i_isa ?_)
  | (with_reducible refine' i_andV ?_) | (with_reducible refine' i_orV ?_) | (with_reducible refine' i_notV ?_) | (with_reducible refine' i_if ?_) | (with_reducible refine' i_chain ?_) | (with_reducible refine' i_sl ?_) | (with_reducible refine' i_noPart ?_) | (with_reducible refine' i_part ?_)
  | (with_reducible refine' i_bm ?_) | (with_reducible refine' i_bm0 ?_) | (with_reducible refine' i_lrg ?_) | (with_reducible refine' i_call ?_) | (with_reducible refine' i_src ?_) | (with_reducible refine' i_rng1 ?_) | (with_reducible refine' i_rng2 ?_) | (with_reducible refine' i_enum ?_)
  | (with_reducible refine' i_lc ?_) | (with_reducible refine' i_lc2 ?_))
local macro_rules | `(tactic| walk_at "w2") => `(tactic| first
  | (with_reducible refine' i_allM ?_) | (with_reducible refine' i_anyM ?_)
  | (with_reducible refine' i_exD ?_) | (with_reducible refine' i_exB ?_) | (with_reducible refine' i_exRB ?_) | (with_reducible refine' i_exI ?_) | (with_reducible refine' i_exN ?_)
  | (with_reducible refine' i_addI ?_) | (with_reducible refine' i_sub ?_) | (with_reducible refine' i_lt ?_) | (with_reducible refine' i_le ?_) | (with_reducible refine' i_gt ?_) | (with_reducible refine' i_ge ?_)
  | (with_reducible refine' i_eqI ?_) | (with_reducible refine' i_neI ?_) | (with_reducible refine' i_eqB ?_) | (with_reducible refine' i_neB ?_) | (with_reducible refine' i_eqS ?_) | (with_reducible refine' i_neS ?_)
  | (with_reducible refine' i_isB ?_) | ((with_reducible refine' i_isN ?h1 ?_); (case h1 => rfl)) | ((with_reducible refine' i_notN ?h1 ?_); (case h1 => rfl))
  | (with_reducible refine' i_f1 ?_) | (with_reducible refine' i_f2 ?_) | ((with_reducible refine' i_len ?h1 ?_); (case h1 => rfl)) | (with_reducible refine' i_abs ?_) | (with_reducible refine' i_int ?_) | (with_reducible refine' i_max ?_) | (with_reducible refine' i_min ?_)
  | (with_reducible refine' i_listScr ?_) | ((with_reducible refine' i_list ?h1 ?_); (case h1 => rfl)) | ((with_reducible refine' i_tuple ?h1 ?_); (case h1 => rfl))
  | ((with_reducible refine' i_tyL ?h1 ?_); (case h1 => rfl)) | (with_reducible refine' i_tyS ?_)
  | (with_reducible refine' i_slT ?_) | ((with_reducible refine' i_slL ?h1 ?_); (case h1 => rfl)))
local macro_rules | `(tactic| walk_at "w3") => `(tactic| first
  | ((with_reducible refine' i_ix ?h1 ?h2 ?_); (case h1 => rfl); (case h2 => rfl)) | ((with_reducible refine' i_allD ?h1 ?h2 ?_); (case h1 => rfl); (case h2 => (simp [sizeLine_eq]; done)))
  | ((with_reducible refine' i_args ?h1 ?_); (case h1 => rfl)) | ((with_reducible refine' i_out ?h1 ?_); (case h1 => rfl)) | ((with_reducible refine' i_rt ?h1 ?_); (case h1 => rfl))
  | ((with_reducible refine' i_srcOf ?h1 ?_); (case h1 => rfl)) | ((with_reducible refine' i_evD ?h1 ?h2 ?_); (case h1 => rfl); (case h2 => (intro l e; cases e; done)))
  | ((with_reducible refine' i_rngD ?h1 ?h2 ?_); (case h1 => (first | decide | omega)); (case h2 => (first | decide | omega))) | ((with_reducible refine' i_rngD2 ?h1 ?_); (case h1 => (first | decide | omega)))
  | ((with_reducible refine' i_lrgD ?h1 ?_); (case h1 => (apply RgOk.of_le <;> omega))) | ((with_reducible refine' i_enumE ?h1 ?_); (case h1 => rfl))
  | ((with_reducible refine' i_putD ?h1 ?h2 ?_); (case h1 => rfl); (case h2 => rfl)) | ((with_reducible refine' i_asgD ?h1 ?_); (case h1 => rfl))
  | ((with_reducible refine' i_mul ?h1 ?_); (case h1 => (first | exact .inr (by decide) | exact .inl (by decide)))) | ((with_reducible refine' i_mod ?h1 ?_); (case h1 => (first | decide | omega)))
  | ((with_reducible refine' i_fdiv ?h1 ?_); (case h1 => (first | exact ⟨by decide, by decide⟩ | exact ⟨by omega, by omega⟩))) | ((with_reducible refine' i_pow ?h1 ?_); (case h1 => exact pow_ok (by decide)))
  | ((with_reducible refine' i_ifT ?h1 ?_); (case h1 => (first | rfl | assumption | (simp [isA]; done)))) | ((with_reducible refine' i_ifF ?h1 ?_); (case h1 => (first | rfl | assumption | (simp [isA]; done))))
  | ((with_reducible refine' i_isD ?h1 ?_); (case h1 => assumption))
  | ((with_reducible refine' i_append ?h1 ?h2 ?_); (case h1 => rfl); (case h2 => (first | (simp [sizeLine_eq]; done) | (apply lt_line; omega)))))
local macro_rules | `(tactic| walk_at "w") => `(tactic| repeat' (first | walk_at "w1" | walk_at "w2" | walk_at "w3" | fail "open"))
local macro_rules | `(tactic| walk_at "w0") => `(tactic| simp only [startS, hasOwn, List.map_cons, List.map_nil, List.length_cons, List.length_nil, List.cons_append, List.nil_append, List.replicate, Nat.reduceAdd, Nat.reduceSub, Nat.zero_add])



theorem atI_lt {α : Type} {xs : List α} {i : Int} (h0 : 0 ≤ i) (h1 : i < xs.length) : ∃ x ∈ xs, atI xs i = some x := by
  obtain ⟨n, rfl⟩ := Int.eq_ofNat_of_zero_le h0
  have hn : n < xs.length := by omega
  exact ⟨xs[n], List.getElem_mem hn, atI_nat (List.getElem?_eq_getElem hn)⟩
theorem v_law_pick : ∀ as R, p_law_pick as R → w_law_pick (retEn (hasOwn as) R) (startS 2 as) := by
  rintro as R ⟨l, rows, rfl, hs, hne, hl, q⟩
  unfold w_law_pick
  walk_at "w0"
  walk_at "w"
  have : 0 < rows.length := List.length_pos_iff.mpr hne
  refine ⟨l, _, rfl, hs, by omega, by omega, fun d l' h0 h1 h2 => ?_⟩
  obtain ⟨x, hx, e⟩ := atI_lt h1 h2
  walk_at "w"
  refine i_ix rfl e ?_
  walk_at "w"
  exact q _ _ hx h0
theorem v_law_is_integer : ∀ as R, p_law_is_integer as R → w_law_is_integer (retEn (hasOwn as) R) (startS 1 as) := by
  rintro as R ⟨i, rfl, q⟩
  unfold w_law_is_integer
  walk_at "w0"
  walk_at "w"
  exact q
theorem v_law_same : ∀ as R, p_law_same as R → w_law_same (retEn (hasOwn as) R) (startS 7 as) := by
  rintro as R ⟨a, b, rfl, q⟩
  unfold w_law_same
  walk_at "w0"
  walk_at "w"
  generalize hH : ((10 : Int) ^ Int.toNat 9) = H
  have hH2 : H = 1000000000 := by rw [← hH]; decide
  clear hH
  refine forR_inv (P := fun i z => (i = 0 ∧ z = [some (.val (.bool a)), some (.val (.bool b)), some (.own none [.tuple [.bool a, .bool b]]), none, none, none, none]) ∨ (i = 1 ∧ a = b ∧ z = [some (.val (.bool a)), some (.val (.bool b)), some (.own none []), none, none, none, none])) (fun i z hi p N hN => ?_) (fun z p => ?_) (.inl ⟨rfl, rfl⟩)
  · rcases p with ⟨rfl, rfl⟩ | ⟨rfl, rfl, rfl⟩
    · refine ⟨_, rfl, ?_⟩
      walk_at "w"
      refine i_pop rfl rfl ?_
      walk_at "w"
      refine i_ifB (fun h => ?_) (fun h => ?_)
      · have hn : ¬ a = b := by simpa using h
        walk_at "w"
        rw [decide_eq_false hn] at q
        exact q
      · have hn : a = b := by simpa using h
        walk_at "w"
        exact hN _ (.inr ⟨rfl, hn, rfl⟩)
    · refine ⟨_, rfl, ?_⟩
      walk_at "w"
      rw [decide_eq_true rfl] at q
      exact q
  · exact p.elim (fun h => absurd h.1 (by omega)) fun h => absurd h.1 (by omega)
theorem app_codes (a b : Str) : (a ++ b).cps.toList = a.cps.toList ++ b.cps.toList := Array.toList_append
theorem len_codes (a : Str) : a.length = a.cps.toList.length := by simp [Str.length]
theorem letters_at : ∀ n : Fin 26, ∃ c, atI ("abcdefghijklmnopqrstuvwxyz" : Str).cps.toList (n : Nat) = some c ∧ c = 97 + (n : Nat) := by
  intro n
  refine ⟨97 + n, ?_, rfl⟩
  revert n
  decide
theorem letter_at {d : Int} (h0 : 0 ≤ d) (h1 : d < 26) : atI ("abcdefghijklmnopqrstuvwxyz" : Str).cps.toList d = some (97 + d.toNat) := by
  obtain ⟨n, rfl⟩ := Int.eq_ofNat_of_zero_le h0
  obtain ⟨c, e, rfl⟩ := letters_at ⟨n, by omega⟩
  exact e
theorem v_law_word : ∀ as R, p_law_word as R → w_law_word (retEn (hasOwn as) R) (startS 6 as) := by
  rintro as R ⟨l, least, most, rfl, hs, h0, h1, h2, q⟩
  unfold w_law_word
  walk_at "w0"
  walk_at "w"
  refine ⟨l, _, rfl, hs, by omega, by omega, fun d l' hs' hd0 hd1 => ?_⟩
  walk_at "w"
  refine forR_inv (P := fun i z => ∃ w l', z = [some (.own (some 0) l'), some (.val (.int least)), some (.val (.int most)), some (.val (.str "abcdefghijklmnopqrstuvwxyz")), some (.val (.str w)), none] ∧ isStrm l' ∧ w.length = i ∧ Low w) (fun i z hi p N hN => ?_) (fun z p => ?_) ⟨"", l', rfl, hs', rfl, by intro c hc; cases hc⟩
  · obtain ⟨w, l2, rfl, hs2, hw, hlow⟩ := p
    refine ⟨_, rfl, ?_⟩
    walk_at "w"
    refine ⟨l2, _, rfl, hs2, by decide, by decide, fun d2 l3 hs3 h20 h21 => ?_⟩
    walk_at "w"
    refine i_ixS (le_line (by decide)) (letter_at h20 h21) ?_
    walk_at "w"
    have e1 : (w ++ (⟨#[97 + d2.toNat]⟩ : Str)).cps.toList = w.cps.toList ++ [97 + d2.toNat] := app_codes w _
    have ew : (⟨#[97 + d2.toNat]⟩ : Str).length = 1 := rfl
    refine i_addS (le_line (by rw [hw, ew]; omega)) ?_
    walk_at "w"
    refine hN _ ⟨_, l3, rfl, hs3, ?_, fun c hc => ?_⟩
    · rw [len_codes, e1, List.length_append, ← len_codes, hw]
      rfl
    · rw [e1] at hc
      rcases List.mem_append.mp hc with h | h
      · exact hlow c h
      · simp at h
        simp only [h, lowC, Bool.and_eq_true, decide_eq_true_eq]
        omega
  · obtain ⟨w, l2, rfl, hs2, hw, hlow⟩ := p
    walk_at "w"
    exact q w l2 (by omega) (by omega) hlow hs2
theorem cut_join {α : Type} {xs : List α} {i : Int} (h : 0 ≤ i) : cutD xs none (some i) ++ cutD xs (some i) none = xs := by
  rw [cutD_to h, cutD_from h, List.take_append_drop]
theorem v_law_order : ∀ as R, p_law_order as R → w_law_order (retEn (hasOwn as) R) (startS 5 as) := by
  rintro as R ⟨l, many, rfl, hs, hm, q⟩
  unfold w_law_order
  walk_at "w0"
  walk_at "w"
  refine forR_inv (P := fun i z => ∃ f l', z = [some (.own (some 0) l'), some (.val (.int (many : Nat))), some (.val (.list (nsD f))), none, none] ∧ isStrm l' ∧ f.Nodup ∧ ∀ k, k ∈ f ↔ k < i) (fun i z hi p N hN => ?_) (fun z p => ?_) ⟨[], l, rfl, hs, List.nodup_nil, fun k => by simp⟩
  · obtain ⟨f, l2, rfl, hs2, nd, hf⟩ := p
    refine ⟨_, rfl, ?_⟩
    walk_at "w"
    refine ⟨l2, _, rfl, hs2, by omega, by omega, fun d2 l3 hs3 h20 h21 => ?_⟩
    walk_at "w"
    have hlf : f.length ≤ i := nodup_len nd fun k hk => (hf k).mp hk
    have hln : (nsD f).length = f.length := by rw [nsD, List.length_map]
    refine i_addL rfl rfl (le_line ?_) ?_
    · rw [cutD_to h20, List.length_take, List.length_singleton]
      omega
    walk_at "w"
    refine i_addL rfl rfl (le_line ?_) ?_
    · rw [cutD_to h20, cutD_from h20, List.length_append, List.length_take, List.length_drop, List.length_singleton]
      omega
    walk_at "w"
    have hp : (f.take d2.toNat ++ [i] ++ f.drop d2.toNat).Perm (i :: f) := by
      have h1 : (f.take d2.toNat ++ [i] ++ f.drop d2.toNat).Perm ([i] ++ f.take d2.toNat ++ f.drop d2.toNat) := List.Perm.append_right _ List.perm_append_comm
      have e : [i] ++ f.take d2.toNat ++ f.drop d2.toNat = i :: f := by rw [List.append_assoc, List.take_append_drop]; rfl
      rw [e] at h1
      exact h1
    refine hN _ ⟨f.take d2.toNat ++ [i] ++ f.drop d2.toNat, l3, ?_, hs3, ?_, fun k => ?_⟩
    · rw [cutD_to h20, cutD_from h20]
      simp only [nsD, List.map_append, List.map_take, List.map_drop, Int.zero_add]
      rfl
    · rw [hp.nodup_iff]
      exact List.nodup_cons.mpr ⟨fun h => absurd ((hf i).mp h) (by omega), nd⟩
    · rw [hp.mem_iff, List.mem_cons, hf k]
      omega
  · obtain ⟨f, l2, rfl, hs2, nd, hf⟩ := p
    walk_at "w"
    refine q f l2 nd (fun k => ?_) hs2
    rw [hf k]
    omega
end L3
/-! Names that differ. -/
namespace L3
open PySem PySem.Spec PyProof.Rows L2 PySem.SeqAt
def p_law_names : FS := fun as R => ∃ l, ∃ many : Nat, as = [.own l, .val (.int (many : Nat)), .val (.int 2)] ∧ isStrm l ∧ many ≤ 25 ∧ ∀ ns l', ns.Nodup → ns.length = many → (∀ n ∈ ns, isName (.str n) = true) → isStrm l' → R (.n (txs ns)) (some l')
theorem m_law_names : MonoF p_law_names := fun as R R' h ⟨a, b, c, d, e, k⟩ => ⟨a, b, c, d, e, fun x y u v w t => h _ _ (k x y u v w t)⟩
theorem l_law_names : ∀ as R, p_law_names as R → as.length = 3 := fun as R ⟨a, b, e, _⟩ => by rw [e]; rfl
/-- 0 stream, 1 many, 2 least, 3 letters, 4 base, 5 at, 6 turn, 7 found, 8 k, 9 word, 10 options, 11 letter, 12 option -/
def w_law_names : WS :=
(wSeq (wSet 3 (wC (.str "abcdefghijklmnopqrstuvwxyz")))
 (wSeq (wIfS (wTest (wBin sEq (wFrz (wCall p_law_next (wCons (wVar 0) (wCons (wC (.int 2)) wNil)))) (wC (.int 0))))
 (wSeq (wSet 4 (wFrz (wCall p_law_word (wCons (wVar 0) (wCons (wVar 2) (wCons (wC (.int 8)) wNil))))))
 (wSeq (wSet 5 (wFrz (wCall p_law_next (wCons (wVar 0) (wCons (wFrz (wCB (f1 sLen) (wCons (wVar 4) wNil))) wNil)))))
 (wSeq (wSet 6 (wFrz (wCall p_law_next (wCons (wVar 0) (wCons (wC (.int 26)) wNil)))))
 (wRetR (wLc (wRng1 (wCons (wVar 1) wNil)) (gNm 8) [8] wYes (wBin sAdd (wBin sAdd (wFrz (wSl (wVar 4) wNoPart (wPart (wVar 5)))) (wBin sIx (wVar 3) (wBin sMod (wFrz (wCB (f1 sInt) (wCons (wBin sAdd (wVar 6) (wVar 8)) wNil))) (wC (.int 26))))) (wFrz (wSl (wVar 4) (wPart (wBin sAdd (wVar 5) (wC (.int 1)))) wNoPart))))))))
 wNext)
 (wSeq (wSetO 7 (wLst wNil))
 (wSeq (wFor (wRng1 (wCons (wVar 1) wNil)) (gNm 8)
 (wKill [8, 9, 10] (wSeq (wSet 9 (wFrz (wCall p_law_word (wCons (wVar 0) (wCons (wVar 2) (wCons (wC (.int 8)) wNil))))))
 (wSeq (wSet 10 (wBin sAdd (wFrz (wLst (wCons (wVar 9) wNil))) (wFrz (wLc (wSrc (wVar 3)) (gNm 11) [11] wYes (wBin sAdd (wFrz (wSl (wVar 9) wNoPart (wPart (wNeg (wC (.int 1)))))) (wVar 11))))))
 (wDrop (wFrz (wBM "list" mAppend (wVar 7) (wCons (wBin sIx (wFrz (wLc (wSrc (wVar 10)) (gNm 12) [12] (wTest (wBin sNotIn (wVar 12) (wVar 7))) (wVar 12))) (wC (.int 0))) wNil))))))))
 (wRetO 7)))))
local macro_rules | `(tactic| walk_at "w1") => `(tactic| first
  | (with_reducible refine' i_seq ?_) | (with_reducible refine' i_set ?_) | (with_reducible refine' i_ifS ?_) | (with_reducible refine' i_ret ?_) | (with_reducible refine' i_next ?_) | (with_reducible refine' i_kill ?_)
  | (with_reducible refine' i_setO ?_) | (with_reducible refine' i_lcSet ?_) | (with_reducible refine' i_asg ?_) | (with_reducible refine' i_put ?_) | (with_reducible refine' i_drop ?_) | (with_reducible refine' i_retR ?_)
  | ((with_reducible refine' i_retO ?h1 ?_); (case h1 => rfl)) | (with_reducible refine' i_for ?_)
  | (with_reducible refine' i_test ?_) | (with_reducible refine' i_tnot ?_) | (with_reducible refine' i_tand ?_) | (with_reducible refine' i_tor ?_) | (with_reducible refine' i_yes ?_)
  | ((with_reducible refine' i_var ?h1 ?_); (case h1 => rfl)) | ((with_reducible refine' i_varO ?h1 ?_); (case h1 => rfl)) | (with_reducible refine' i_c ?_) | (with_reducible refine' i_dct ?_) | (with_reducible refine' i_frz ?_) | (with_reducible refine' i_bin ?_) | (with_reducible refine' i_binR ?_)
  | (with_reducible refine' i_cb ?_) | (with_reducible refine' i_nil ?_) | (with_reducible refine' i_cons ?_) | (with_reducible refine' i_tup ?_) | (with_reducible refine' i_lst ?_) | (with_reducible refine' i_neg ?_) | (with_reducible refine' i_isa ?_)
  | (with_reducible refine' i_andV ?_) | (with_reducible refine' i_orV ?_) | (with_reducible refine' i_notV ?_) | (with_reducible refine' i_if ?_) | (with_reducible refine' i_chain ?_) | (with_reducible refine' i_sl ?_) | (with_reducible refine' i_noPart ?_) | (with_reducible refine' i_part ?_)
  | (with_reducible refine' i_bm ?_) | (with_reducible refine' i_bm0 ?_) | (with_reducible refine' i_lrg ?_) | (with_reducible refine' i_call ?_) | (with_reducible refine' i_src ?_) | (with_reducible refine' i_rng1 ?_) | (with_reducible refine' i_rng2 ?_) | (with_reducible refine' i_enum ?_)
  | (with_reducible refine' i_lc ?_) | (with_reducible refine' i_lc2 ?_))
local macro_rules | `(tactic| walk_at "w2") => `(tactic| first
  | (with_reducible refine' i_allM ?_) | (with_reducible refine' i_anyM ?_)
  | (with_reducible refine' i_exD ?_) | (with_reducible refine' i_exB ?_) | (with_reducible refine' i_exRB ?_) | (with_reducible refine' i_exI ?_) | (with_reducible refine' i_exN ?_)
  | (with_reducible refine' i_addI ?_) | (with_reducible refine' i_sub ?_) | (with_reducible refine' i_lt ?_) | (with_reducible refine' i_le ?_) | (with_reducible refine' i_gt ?_) | (with_reducible refine' i_ge ?_)
  | (with_reducible refine' i_eqI ?_) | (with_reducible refine' i_neI ?_) | (with_reducible refine' i_eqB ?_) | (with_reducible refine' i_neB ?_) | (with_reducible refine' i_eqS ?_) | (with_reducible refine' i_neS ?_)
  | (with_reducible refine' i_isB ?_) | ((with_reducible refine' i_isN ?h1 ?_); (case h1 => rfl)) | ((with_reducible refine' i_notN ?h1 ?_); (case h1 => rfl))
  | (with_reducible refine' i_f1 ?_) | (with_reducible refine' i_f2 ?_) | ((with_reducible refine' i_len ?h1 ?_); (case h1 => rfl)) | (with_reducible refine' i_abs ?_) | (with_reducible refine' i_int ?_) | (with_reducible refine' i_max ?_) | (with_reducible refine' i_min ?_)
  | (with_reducible refine' i_listScr ?_) | ((with_reducible refine' i_list ?h1 ?_); (case h1 => rfl)) | ((with_reducible refine' i_tuple ?h1 ?_); (case h1 => rfl))
  | ((with_reducible refine' i_tyL ?h1 ?_); (case h1 => rfl)) | (with_reducible refine' i_tyS ?_)
  | (with_reducible refine' i_slT ?_) | ((with_reducible refine' i_slL ?h1 ?_); (case h1 => rfl)))
local macro_rules | `(tactic| walk_at "w3") => `(tactic| first
  | ((with_reducible refine' i_ix ?h1 ?h2 ?_); (case h1 => rfl); (case h2 => rfl)) | ((with_reducible refine' i_allD ?h1 ?h2 ?_); (case h1 => rfl); (case h2 => (simp [sizeLine_eq]; done)))
  | ((with_reducible refine' i_args ?h1 ?_); (case h1 => rfl)) | ((with_reducible refine' i_out ?h1 ?_); (case h1 => rfl)) | ((with_reducible refine' i_rt ?h1 ?_); (case h1 => rfl))
  | ((with_reducible refine' i_srcOf ?h1 ?_); (case h1 => rfl)) | ((with_reducible refine' i_evD ?h1 ?h2 ?_); (case h1 => rfl); (case h2 => (intro l e; cases e; done)))
  | ((with_reducible refine' i_rngD ?h1 ?h2 ?_); (case h1 => (first | decide | omega)); (case h2 => (first | decide | omega))) | ((with_reducible refine' i_rngD2 ?h1 ?_); (case h1 => (first | decide | omega)))
  | ((with_reducible refine' i_lrgD ?h1 ?_); (case h1 => (apply RgOk.of_le <;> omega))) | ((with_reducible refine' i_enumE ?h1 ?_); (case h1 => rfl))
  | ((with_reducible refine' i_putD ?h1 ?h2 ?_); (case h1 => rfl); (case h2 => rfl)) | ((with_reducible refine' i_asgD ?h1 ?_); (case h1 => rfl))
  | ((with_reducible refine' i_mul ?h1 ?_); (case h1 => (first | exact .inr (by decide) | exact .inl (by decide)))) | ((with_reducible refine' i_mod ?h1 ?_); (case h1 => (first | decide | omega)))
  | ((with_reducible refine' i_fdiv ?h1 ?_); (case h1 => (first | exact ⟨by decide, by decide⟩ | exact ⟨by omega, by omega⟩))) | ((with_reducible refine' i_pow ?h1 ?_); (case h1 => exact pow_ok (by decide)))
  | ((with_reducible refine' i_ifT ?h1 ?_); (case h1 => (first | rfl | assumption | (simp [isA]; done)))) | ((with_reducible refine' i_ifF ?h1 ?_); (case h1 => (first | rfl | assumption | (simp [isA]; done))))
  | ((with_reducible refine' i_pop ?h1 ?h2 ?_); (case h1 => rfl); (case h2 => rfl))
  | ((with_reducible refine' i_isD ?h1 ?_); (case h1 => assumption))
  | ((with_reducible refine' i_append ?h1 ?h2 ?_); (case h1 => rfl); (case h2 => (first | (simp [sizeLine_eq]; done) | (apply lt_line; omega)))))
local macro_rules | `(tactic| walk_at "w") => `(tactic| repeat' (first | walk_at "w1" | walk_at "w2" | walk_at "w3" | fail "open"))
local macro_rules | `(tactic| walk_at "w0") => `(tactic| simp only [startS, hasOwn, List.map_cons, List.map_nil, List.length_cons, List.length_nil, List.cons_append, List.nil_append, List.replicate, Nat.reduceAdd, Nat.reduceSub, Nat.zero_add])



theorem str_ext {a b : Str} (h : a.cps = b.cps) : a = b := by
  cases a
  cases b
  cases h
  rfl
def ofL (l : List Nat) : Str := ⟨l.toArray⟩
theorem ofL_len (l : List Nat) : (ofL l).length = l.length := by simp [ofL, Str.length]
theorem ofL_app (a b : List Nat) : ofL a ++ ofL b = ofL (a ++ b) := by
  have : (ofL a ++ ofL b).cps = (ofL (a ++ b)).cps := by
    show a.toArray ++ b.toArray = (a ++ b).toArray
    simp
  exact str_ext this
theorem ofL_inj {a b : List Nat} (h : ofL a = ofL b) : a = b := by
  have := congrArg (fun s : Str => s.cps.toList) h
  simpa [ofL] using this
theorem cutT_ofL (l : List Nat) (lo hi : Option Int) : cutT (ofL l) lo hi = ofL (cutD l lo hi) := by
  unfold cutT cutS cutD
  rw [ofL_len]
  rfl
theorem ofL_of (w : Str) : w = ofL w.cps.toList := by
  unfold ofL
  exact str_ext (by simp)
theorem isName_ofL {l : List Nat} (h2 : 2 ≤ l.length) (h8 : l.length ≤ 8) (h : ∀ c ∈ l, lowC c = true) : isName (.str (ofL l)) = true := by
  simp only [isName, ofL_len, decide_eq_true h2, decide_eq_true h8, Bool.true_and, lowS]
  exact List.all_eq_true.mpr (by simpa [ofL] using h)
theorem low_letter {n : Nat} (h : n < 26) : lowC (97 + n) = true := by
  simp only [lowC, Bool.and_eq_true, decide_eq_true_eq]
  omega
theorem in_txs (F : List Str) (x : Str) : ((txs F).any fun y => PyData.eqv y (.str x)) = decide (x ∈ F) := by
  rw [Bool.eq_iff_iff, List.any_eq_true, decide_eq_true_eq]
  constructor
  · rintro ⟨y, hy, e⟩
    obtain ⟨n, hn, rfl⟩ := List.mem_map.mp hy
    rw [eqv_str] at e
    exact of_decide_eq_true e ▸ hn
  · intro h
    exact ⟨_, List.mem_map.mpr ⟨x, h, rfl⟩, by rw [eqv_str]; exact decide_eq_true rfl⟩
theorem i_notinTx {z : SS} {ev ew : EV} {F : List Str} {x : Str} {k : RV → Prop} (e : evD z ev = some (.str x)) (e2 : evD z ew = some (.list (txs F))) (h : k (.d (.bool (!decide (x ∈ F))))) : sNotIn z ev ew k :=
  ⟨_, _, e, e2, plain_strs _, rfl, by simp [PyData.depth], by rw [in_txs]; exact h⟩
theorem signs_letters : signs "abcdefghijklmnopqrstuvwxyz" = (List.range 26).map fun n => .str (ofL [97 + n]) := rfl
theorem cutD_neg1 {α : Type} (xs : List α) : cutD xs none (some (-1)) = xs.dropLast := by
  show (xs.drop 0).take ((-1 + (xs.length : Int)).toNat - 0) = xs.dropLast
  rw [List.drop_zero, Nat.sub_zero, List.dropLast_eq_take]
  congr 1
  omega
def newF (ns : List Str) (x : D) : Option D := match x with
  | .str s => if s ∈ ns then none else some (.str s)
  | _ => none
theorem newF_txs (ns : List Str) : ∀ l : List Str, (txs l).filterMap (newF ns) = txs (l.filter fun s => decide (s ∉ ns))
  | [] => rfl
  | x :: l => by
    have ih := newF_txs ns l
    simp only [txs, List.map_cons] at ih ⊢
    rw [List.filterMap_cons, List.filter_cons]
    by_cases hm : x ∈ ns
    · rw [if_neg (by simpa using hm)]
      simp only [newF, if_pos hm]
      exact ih
    · rw [if_pos (by simpa using hm)]
      simp only [newF, if_neg hm]
      rw [List.map_cons, ← ih]
/-- the name that one branch makes -/
def nameA (b : List Nat) (at' t k : Nat) : List Nat := b.take at' ++ [97 + (t + k) % 26] ++ b.drop (at' + 1)
theorem nameA_inj {b : List Nat} {a t k k' : Nat} (hk : k < 26) (hk' : k' < 26) (h : nameA b a t k = nameA b a t k') : k = k' := by
  unfold nameA at h
  have := List.append_cancel_right h
  have := List.append_cancel_left this
  simp at this
  omega
theorem nameA_len {b : List Nat} {a t k : Nat} (h : a < b.length) : (nameA b a t k).length = b.length := by
  simp [nameA]
  omega
theorem nameA_low {b : List Nat} {a t k : Nat} (h : ∀ c ∈ b, lowC c = true) : ∀ c ∈ nameA b a t k, lowC c = true := by
  intro c hc
  rcases List.mem_append.mp hc with hc | hc
  · rcases List.mem_append.mp hc with hc | hc
    · exact h c (List.mem_of_mem_take hc)
    · rw [List.mem_singleton] at hc
      rw [hc]
      exact low_letter (Nat.mod_lt _ (by decide))
  · exact h c (List.mem_of_mem_drop hc)
theorem v_law_names : ∀ as R, p_law_names as R → w_law_names (retEn (hasOwn as) R) (startS 13 as) := by
  rintro as R ⟨l, many, rfl, hs, hm, q⟩
  unfold w_law_names
  walk_at "w0"
  walk_at "w"
  refine ⟨l, _, rfl, hs, by decide, by decide, fun d l1 hs1 hd0 hd1 => ?_⟩
  walk_at "w"
  refine i_ifD (fun h => ?_) (fun h => ?_)
  · walk_at "w"
    refine ⟨l1, _, _, rfl, hs1, by decide, by decide, by decide, fun w l2 hw2 hw8 hlow hs2 => ?_⟩
    walk_at "w"
    refine i_lenS (le_line (by omega)) ?_
    walk_at "w"
    refine ⟨l2, _, rfl, hs2, by omega, by omega, fun a l3 hs3 ha0 ha1 => ?_⟩
    walk_at "w"
    refine ⟨l3, _, rfl, hs3, by decide, by decide, fun t l4 hs4 ht0 ht1 => ?_⟩
    walk_at "w"
    obtain ⟨a, rfl⟩ := Int.eq_ofNat_of_zero_le ha0
    obtain ⟨t, rfl⟩ := Int.eq_ofNat_of_zero_le ht0
    have hlen := len_codes w
    refine lcL_map (fun x => match x with | .int k => .str (ofL (nameA w.cps.toList a t k.toNat)) | _ => .none) ?_ (fun x hx N hN => ?_) ?_
    · rw [rangeD_len]
      exact le_line (by omega)
    · obtain ⟨i, hi⟩ := List.mem_iff_getElem?.mp hx
      obtain ⟨rfl, hlt⟩ := rangeD_get hi
      refine ⟨_, rfl, ?_⟩
      walk_at "w"
      refine i_slS (le_line (by omega)) ?_
      walk_at "w"
      refine i_ixS (le_line (by decide)) (letter_at (Int.emod_nonneg _ (by decide)) (Int.emod_lt_of_pos _ (by decide))) ?_
      walk_at "w"
      have ec : (({ cps := #[97 + (((t : Nat) + (0 + (i : Nat))) % 26 : Int).toNat] } : Str)) = ofL [97 + (t + i) % 26] := by
        have : ((((t : Nat) + (0 + (i : Nat))) % 26 : Int)).toNat = (t + i) % 26 := by omega
        rw [this]
        rfl
      have hwl : (w.cps.toList.take a).length ≤ 8 := by rw [List.length_take]; omega
      have hwd : (w.cps.toList.drop (a + 1)).length ≤ 8 := by rw [List.length_drop]; omega
      have e1 : cutT w none (some (a : Nat)) = ofL (w.cps.toList.take a) := by
        rw [ofL_of w, cutT_ofL, cutD_to (by omega)]
        rfl
      have e2 : cutT w (some ((a : Nat) + 1)) none = ofL (w.cps.toList.drop (a + 1)) := by
        rw [ofL_of w, cutT_ofL, cutD_from (by omega)]
        rfl
      rw [e1, ec]
      refine i_addS (le_line (by rw [ofL_len, ofL_len, List.length_singleton]; omega)) ?_
      walk_at "w"
      refine i_slS (le_line (by omega)) ?_
      rw [e2, ofL_app]
      walk_at "w"
      refine i_addS (le_line (by rw [ofL_len, ofL_len, List.length_append, List.length_singleton]; omega)) ?_
      rw [ofL_app]
      walk_at "w"
      have ei : ((0 : Int) + (i : Nat)).toNat = i := by omega
      simp only [ei] at hN
      exact hN _ rfl
    · walk_at "w"
      have e : (rangeD 0 (many : Nat)).map (fun x => match x with | .int k => PyData.str (ofL (nameA w.cps.toList a t k.toNat)) | _ => .none) = txs ((List.range many).map fun k => ofL (nameA w.cps.toList a t k)) := by
        rw [rangeD, List.map_map, txs, List.map_map, show ((many : Nat) - 0 : Int).toNat = many from by omega]
        refine List.map_congr_left fun k _ => ?_
        simp only [Function.comp]
        rw [show ((0 : Int) + (k : Nat)).toNat = k from by omega]
      rw [e]
      refine q _ _ ?_ (by rw [List.length_map, List.length_range]) (fun n hn => ?_) hs4
      · rw [List.nodup_iff_pairwise_ne, List.pairwise_map]
        refine List.Pairwise.imp_of_mem ?_ (List.nodup_iff_pairwise_ne.mp (List.nodup_range (n := many)))
        intro x y hx hy hxy h
        have := List.mem_range.mp hx
        have := List.mem_range.mp hy
        exact hxy (nameA_inj (by omega) (by omega) (ofL_inj h))
      · obtain ⟨k, _, rfl⟩ := List.mem_map.mp hn
        have hl := nameA_len (b := w.cps.toList) (a := a) (t := t) (k := k) (by omega)
        exact isName_ofL (by omega) (by omega) (nameA_low hlow)
  · walk_at "w"
    refine forR_inv (P := fun i z => ∃ ns l', z = [some (.own (some 0) l'), some (.val (.int (many : Nat))), some (.val (.int 2)), some (.val (.str "abcdefghijklmnopqrstuvwxyz")), none, none, none, some (.own none (txs ns)), none, none, none, none, none] ∧ isStrm l' ∧ ns.Nodup ∧ ns.length = i ∧ ∀ n ∈ ns, isName (.str n) = true) (fun i z hi p N hN => ?_) (fun z p => ?_) ⟨[], l1, rfl, hs1, List.nodup_nil, rfl, by simp⟩
    · obtain ⟨ns, l2, rfl, hs2, nd, hln, hns⟩ := p
      refine ⟨_, rfl, ?_⟩
      walk_at "w"
      refine ⟨l2, _, _, rfl, hs2, by decide, by decide, by decide, fun w l3 hw2 hw8 hlow hs3 => ?_⟩
      walk_at "w"
      have hlen := len_codes w
      have ec : cutT w none (some (-1)) = ofL w.cps.toList.dropLast := by
        conv => lhs; rw [ofL_of w, cutT_ofL, cutD_neg1]
      refine lcL_map (fun x => match x with | .str s => .str (ofL w.cps.toList.dropLast ++ s) | _ => .none) (le_line (by rw [signs_letters, List.length_map, List.length_range]; decide)) (fun x hx N1 hN1 => ?_) ?_
      · rw [signs_letters] at hx
        obtain ⟨n, hn, rfl⟩ := List.mem_map.mp hx
        refine ⟨_, rfl, ?_⟩
        walk_at "w"
        refine i_slS (le_line (by omega)) ?_
        rw [ec]
        walk_at "w"
        refine i_addS (le_line (by rw [ofL_len, ofL_len, List.length_dropLast, List.length_singleton]; omega)) ?_
        walk_at "w"
        exact hN1 _ rfl
      let opts : List Str := w :: (List.range 26).map fun n => ofL (w.cps.toList.dropLast ++ [97 + n])
      have eo : [PyData.str w] ++ (signs "abcdefghijklmnopqrstuvwxyz").map (fun x => match x with | .str s => PyData.str (ofL w.cps.toList.dropLast ++ s) | _ => .none) = txs opts := by
        rw [signs_letters, List.map_map]
        show _ = PyData.str w :: txs _
        rw [txs, List.map_map, List.singleton_append]
        congr 1
        refine List.map_congr_left fun n _ => ?_
        simp only [Function.comp, ofL_app]
      have ho : ∀ x ∈ opts, isName (.str x) = true := fun x hx => by
        rcases List.mem_cons.mp hx with rfl | hx
        · rw [ofL_of x]
          exact isName_ofL (by omega) (by omega) hlow
        · obtain ⟨n, hn, rfl⟩ := List.mem_map.mp hx
          refine isName_ofL (by rw [List.length_append, List.length_dropLast, List.length_singleton]; omega) (by rw [List.length_append, List.length_dropLast, List.length_singleton]; omega) fun c hc => ?_
          rcases List.mem_append.mp hc with hc | hc
          · exact hlow c ((List.dropLast_sublist _).subset hc)
          · rw [List.mem_singleton] at hc
            rw [hc]
            exact low_letter (List.mem_range.mp hn)
      have hopl : opts.length = 27 := by simp [opts]
      have hex : ¬ ∀ x ∈ opts, x ∈ ns := fun hall => by
        have hnd : ((List.range 26).map fun n => ofL (w.cps.toList.dropLast ++ [97 + n])).Nodup := by
          rw [List.nodup_iff_pairwise_ne, List.pairwise_map]
          refine List.Pairwise.imp ?_ (List.nodup_iff_pairwise_ne.mp (List.nodup_range (n := 26)))
          intro x y hxy h
          have := List.append_cancel_left (ofL_inj h)
          simp at this
          exact hxy this
        have := nodup_sub hnd fun x hx => hall x (List.mem_cons_of_mem _ hx)
        rw [List.length_map, List.length_range] at this
        omega
      refine i_addL rfl rfl (le_line (by rw [List.length_map, signs_letters, List.length_map, List.length_range]; show 1 + 26 ≤ 100000; omega)) ?_
      rw [eo]
      walk_at "w"
      refine lcL_fm (newF ns) (le_line (by rw [txs, List.length_map]; omega)) (fun x hx N1 hN1 => ?_) ?_
      · obtain ⟨y, hy, rfl⟩ := List.mem_map.mp hx
        refine ⟨_, rfl, ?_⟩
        walk_at "w"
        refine i_notinTx rfl rfl ?_
        walk_at "w"
        by_cases hm : y ∈ ns
        · rw [decide_eq_true hm]
          walk_at "w"
          simp only [newF, if_pos hm] at hN1
          exact hN1 _ rfl
        · rw [decide_eq_false hm]
          walk_at "w"
          simp only [newF, if_neg hm] at hN1
          exact hN1 _ rfl
      have ef := newF_txs ns opts
      rw [ef]
      walk_at "w"
      have hx0 : ∃ x0 r, (opts.filter fun s => decide (s ∉ ns)) = x0 :: r := by
        cases e : opts.filter fun s => decide (s ∉ ns) with
        | cons x0 r => exact ⟨x0, r, rfl⟩
        | nil =>
          refine absurd (fun x hx => ?_) hex
          have := List.filter_eq_nil_iff.mp e x hx
          simpa using this
      obtain ⟨x0, r, ex⟩ := hx0
      have hm0 : x0 ∈ opts ∧ x0 ∉ ns := by
        have : x0 ∈ opts.filter fun s => decide (s ∉ ns) := by rw [ex]; simp
        have := List.mem_filter.mp this
        exact ⟨this.1, by simpa using this.2⟩
      rw [ex]
      refine i_ix rfl (d := .str x0) (atI_nat (j := 0) rfl) ?_
      walk_at "w"
      refine i_append rfl (lt_line (by rw [txs, List.length_map]; omega)) ?_
      refine hN _ ⟨ns ++ [x0], l3, ?_, hs3, ?_, ?_, ?_⟩
      · rw [strs_app]
        rfl
      · refine List.nodup_append.mpr ⟨nd, by simp, fun a ha b hb => ?_⟩
        rw [List.mem_singleton] at hb
        rintro rfl
        exact hm0.2 (hb ▸ ha)
      · rw [List.length_append, List.length_singleton, hln]
      · intro n hn
        rcases List.mem_append.mp hn with hn | hn
        · exact hns n hn
        · rw [List.mem_singleton] at hn
          rw [hn]
          exact ho x0 hm0.1
    · obtain ⟨ns, l2, rfl, hs2, nd, hln, hns⟩ := p
      walk_at "w"
      exact q ns l2 nd (by omega) hns hs2
end L3
/-! A drawn signature. -/
namespace L3
open PySem PySem.Spec PyProof.Rows L2 PySem.SeqAt
def pValid : FS := fun as R => ∃ l, as = [.own l] ∧ isStrm l ∧ ∀ s l', Wf s → (namesOf s).Nodup → Whole s → isStrm l' → R (.d (sigD s)) (some l')
theorem m_valid : MonoF pValid := fun as R R' h ⟨a, b, c, k⟩ => ⟨a, b, c, fun x y u v w t => h _ _ (k x y u v w t)⟩
theorem l_valid : ∀ as R, pValid as R → as.length = 1 := fun as R ⟨a, e, _⟩ => by rw [e]; rfl
def p_law_any_signature : FS := pValid
theorem m_law_any_signature : MonoF p_law_any_signature := m_valid
theorem l_law_any_signature : ∀ as R, p_law_any_signature as R → as.length = 1 := l_valid
/-- 0 stream, 1 many, 2 opens, 3 counts, 4 names, 5 good, 6 found, 7 at, 8 kind, 9 ground, 10 rows, 11 place, 12 menu, 13 parts, 14 turn -/
def w_law_any_signature : WS :=
(wSeq (wSet 1 (wBin sAdd (wC (.int 1)) (wFrz (wCall p_law_next (wCons (wVar 0) (wCons (wC (.int 3)) wNil))))))
 (wSeq (wSet 2 (wFrz (wLc (wRng1 (wCons (wVar 1) wNil)) (gNm 8) [8] wYes (wBin sEq (wFrz (wCall p_law_next (wCons (wVar 0) (wCons (wC (.int 2)) wNil)))) (wC (.int 0))))))
 (wSeq (wLcSet 3 (wLc (wRng1 (wCons (wVar 1) wNil)) (gNm 8) [8] wYes (wIf (wTest (wBin sIx (wVar 2) (wVar 8))) (wFrz (wCall p_law_next (wCons (wVar 0) (wCons (wC (.int 5)) wNil)))) (wBin sAdd (wC (.int 1)) (wFrz (wCall p_law_next (wCons (wVar 0) (wCons (wC (.int 4)) wNil))))))))
 (wSeq (wSet 4 (wFrz (wCall p_law_names (wCons (wVar 0) (wCons (wFrz (wCB (f1 sSum) (wCons (wVar 3) wNil))) (wCons (wC (.int 2)) wNil))))))
 (wSeq (wSetO 5 (wLc (wRng1 (wCons (wVar 1) wNil)) (gNm 8) [8] (wTest (wBin sIx (wVar 2) (wVar 8))) (wVar 8)))
 (wSeq (wSetO 6 (wBinR sMul (wFrz (wLst (wCons (wC .none) wNil))) (wVar 1)))
 (wSeq (wSet 7 (wC (.int 0)))
 (wSeq (wFor (wSrc (wFrz (wCall p_law_order (wCons (wVar 0) (wCons (wVar 1) wNil))))) (gNm 8)
 (wKill [8, 9, 10, 11, 12, 13, 14] (wSeq (wSet 9 (wFrz (wCall p_law_next (wCons (wVar 0) (wCons (wFrz (wCB (f2 sMax) (wCons (wC (.int 1)) (wCons (wBin sIx (wVar 3) (wVar 8)) wNil)))) wNil)))))
 (wSeq (wSetO 10 (wLst wNil))
 (wSeq (wFor (wRng1 (wCons (wBin sIx (wVar 3) (wVar 8)) wNil)) (gNm 11)
 (wKill [11, 12, 13, 14] (wSeq (wSet 12 (wFrz (wLRg (wVar 1))))
 (wSeq (wIfS (wAnd (wNot (wTest (wBin sIx (wVar 2) (wVar 8)))) (wTest (wBin sEq (wVar 11) (wVar 9))))
 (wSet 12 (wFrz (wCB (f1 sListOf) (wCons (wVar 5) wNil))))
 wNext)
 (wSeq (wSet 13 (wTup wNil))
 (wSeq (wFor (wRng1 (wCons (wFrz (wCall p_law_next (wCons (wVar 0) (wCons (wC (.int 3)) wNil)))) wNil)) (gNm 14)
 (wKill [14] (wIfS (wTest (wBin sNe (wVar 12) (wFrz (wLst wNil))))
 (wSet 13 (wBin sAdd (wVar 13) (wTup (wCons (wFrz (wCall p_law_pick (wCons (wVar 0) (wCons (wVar 12) wNil)))) wNil))))
 wNext)))
 (wDrop (wFrz (wBM "list" mAppend (wVar 10) (wCons (wTup (wCons (wBin sIx (wVar 4) (wBin sAdd (wVar 7) (wVar 11))) (wCons (wVar 13) wNil))) wNil))))))))))
 (wSeq (wSet 7 (wBin sAdd (wVar 7) (wBin sIx (wVar 3) (wVar 8))))
 (wSeq (wPut (wTup (wCons (wIf (wTest (wBin sIx (wVar 2) (wVar 8))) (wC (.str "open")) (wC (.str "closed"))) (wCons (wFrz (wCB (f1 sTupOf) (wCons (wVar 10) wNil))) wNil))) (wVar 6) (wVar 8))
 (wIfS (wNot (wTest (wBin sIx (wVar 2) (wVar 8))))
 (wDrop (wFrz (wBM "list" mAppend (wVar 5) (wCons (wVar 8) wNil))))
 wNext))))))))
 (wRet (wFrz (wCB (f1 sTupOf) (wCons (wVar 6) wNil))))))))))))
local macro_rules | `(tactic| walk_at "w1") => `(tactic| first
  | (with_reducible refine' i_seq ?_) | (with_reducible refine' i_set ?_) | (with_reducible refine' i_ifS ?_) | (with_reducible refine' i_ret ?_) | (with_reducible refine' i_next ?_) | (with_reducible refine' i_kill ?_)
  | (with_reducible refine' i_setO ?_) | (with_reducible refine' i_lcSet ?_) | (with_reducible refine' i_asg ?_) | (with_reducible refine' i_put ?_) | (with_reducible refine' i_drop ?_) | (with_reducible refine' i_retR ?_)
  | ((with_reducible refine' i_retO ?h1 ?_); (case h1 => rfl)) | (with_reducible refine' i_for ?_)
  | (with_reducible refine' i_test ?_) | (with_reducible refine' i_tnot ?_) | (with_reducible refine' i_tand ?_) | (with_reducible refine' i_tor ?_) | (with_reducible refine' i_yes ?_)
  | ((with_reducible refine' i_var ?h1 ?_); (case h1 => rfl)) | ((with_reducible refine' i_varO ?h1 ?_); (case h1 => rfl)) | (with_reducible refine' i_c ?_) | (with_reducible refine' i_dct ?_) | (with_reducible refine' i_frz ?_) | (with_reducible refine' i_bin ?_) | (with_reducible refine' i_binR ?_)
  | (with_reducible refine' i_cb ?_) | (with_reducible refine' i_nil ?_) | (with_reducible refine' i_cons ?_) | (with_reducible refine' i_tup ?_) | (with_reducible refine' i_lst ?_) | (with_reducible refine' i_neg ?_) | (with_reducible refine' i_isa ?_)
  | (with_reducible refine' i_andV ?_) | (with_reducible refine' i_orV ?_) | (with_reducible refine' i_notV ?_) | (with_reducible refine' i_if ?_) | (with_reducible refine' i_chain ?_) | (with_reducible refine' i_sl ?_) | (with_reducible refine' i_noPart ?_) | (with_reducible refine' i_part ?_)
  | (with_reducible refine' i_bm ?_) | (with_reducible refine' i_bm0 ?_) | (with_reducible refine' i_lrg ?_) | (with_reducible refine' i_call ?_) | (with_reducible refine' i_src ?_) | (with_reducible refine' i_rng1 ?_) | (with_reducible refine' i_rng2 ?_) | (with_reducible refine' i_enum ?_)
  | (with_reducible refine' i_lc ?_) | (with_reducible refine' i_lc2 ?_))
local macro_rules | `(tactic| walk_at "w2") => `(tactic| first
  | (with_reducible refine' i_allM ?_) | (with_reducible refine' i_anyM ?_)
  | (with_reducible refine' i_exD ?_) | (with_reducible refine' i_exB ?_) | (with_reducible refine' i_exRB ?_) | (with_reducible refine' i_exI ?_) | (with_reducible refine' i_exN ?_)
  | (with_reducible refine' i_addI ?_) | (with_reducible refine' i_sub ?_) | (with_reducible refine' i_lt ?_) | (with_reducible refine' i_le ?_) | (with_reducible refine' i_gt ?_) | (with_reducible refine' i_ge ?_)
  | (with_reducible refine' i_eqI ?_) | (with_reducible refine' i_neI ?_) | (with_reducible refine' i_eqB ?_) | (with_reducible refine' i_neB ?_) | (with_reducible refine' i_eqS ?_) | (with_reducible refine' i_neS ?_)
  | (with_reducible refine' i_isB ?_) | ((with_reducible refine' i_isN ?h1 ?_); (case h1 => rfl)) | ((with_reducible refine' i_notN ?h1 ?_); (case h1 => rfl))
  | (with_reducible refine' i_f1 ?_) | (with_reducible refine' i_f2 ?_) | ((with_reducible refine' i_len ?h1 ?_); (case h1 => rfl)) | (with_reducible refine' i_abs ?_) | (with_reducible refine' i_int ?_) | (with_reducible refine' i_max ?_) | (with_reducible refine' i_min ?_)
  | (with_reducible refine' i_listScr ?_) | ((with_reducible refine' i_list ?h1 ?_); (case h1 => rfl)) | ((with_reducible refine' i_tuple ?h1 ?_); (case h1 => rfl))
  | ((with_reducible refine' i_tyL ?h1 ?_); (case h1 => rfl)) | (with_reducible refine' i_tyS ?_)
  | (with_reducible refine' i_slT ?_) | ((with_reducible refine' i_slL ?h1 ?_); (case h1 => rfl)))
local macro_rules | `(tactic| walk_at "w3") => `(tactic| first
  | ((with_reducible refine' i_ix ?h1 ?h2 ?_); (case h1 => rfl); (case h2 => rfl)) | ((with_reducible refine' i_allD ?h1 ?h2 ?_); (case h1 => rfl); (case h2 => (simp [sizeLine_eq]; done)))
  | ((with_reducible refine' i_args ?h1 ?_); (case h1 => rfl)) | ((with_reducible refine' i_out ?h1 ?_); (case h1 => rfl)) | ((with_reducible refine' i_rt ?h1 ?_); (case h1 => rfl))
  | ((with_reducible refine' i_srcOf ?h1 ?_); (case h1 => rfl)) | ((with_reducible refine' i_evD ?h1 ?h2 ?_); (case h1 => rfl); (case h2 => (intro l e; cases e; done)))
  | ((with_reducible refine' i_rngD ?h1 ?h2 ?_); (case h1 => (first | decide | omega)); (case h2 => (first | decide | omega))) | ((with_reducible refine' i_rngD2 ?h1 ?_); (case h1 => (first | decide | omega)))
  | ((with_reducible refine' i_lrgD ?h1 ?_); (case h1 => (apply RgOk.of_le <;> omega))) | ((with_reducible refine' i_enumE ?h1 ?_); (case h1 => rfl))
  | ((with_reducible refine' i_putD ?h1 ?h2 ?_); (case h1 => rfl); (case h2 => rfl)) | ((with_reducible refine' i_asgD ?h1 ?_); (case h1 => rfl))
  | ((with_reducible refine' i_mul ?h1 ?_); (case h1 => (first | exact .inr (by decide) | exact .inl (by decide)))) | ((with_reducible refine' i_mod ?h1 ?_); (case h1 => (first | decide | omega)))
  | ((with_reducible refine' i_fdiv ?h1 ?_); (case h1 => (first | exact ⟨by decide, by decide⟩ | exact ⟨by omega, by omega⟩))) | ((with_reducible refine' i_pow ?h1 ?_); (case h1 => exact pow_ok (by decide)))
  | ((with_reducible refine' i_ifT ?h1 ?_); (case h1 => (first | rfl | assumption | (simp [isA]; done)))) | ((with_reducible refine' i_ifF ?h1 ?_); (case h1 => (first | rfl | assumption | (simp [isA]; done))))
  | ((with_reducible refine' i_pop ?h1 ?h2 ?_); (case h1 => rfl); (case h2 => rfl))
  | ((with_reducible refine' i_isD ?h1 ?_); (case h1 => assumption))
  | ((with_reducible refine' i_append ?h1 ?h2 ?_); (case h1 => rfl); (case h2 => (first | (simp [sizeLine_eq]; done) | (apply lt_line; omega)))))
local macro_rules | `(tactic| walk_at "w") => `(tactic| repeat' (first | walk_at "w1" | walk_at "w2" | walk_at "w3" | fail "open"))
local macro_rules | `(tactic| walk_at "w0") => `(tactic| simp only [startS, hasOwn, List.map_cons, List.map_nil, List.length_cons, List.length_nil, List.cons_append, List.nil_append, List.replicate, Nat.reduceAdd, Nat.reduceSub, Nat.zero_add])



/-- kinds with values, while the rows come one after another -/
inductive FilG (o : Nat → Bool) (Rf : Nat → Option Rw) : Nat → Prop
  | op {k : Nat} : o k = true → FilG o Rf k
  | co {k : Nat} {r : Rw} {c : Cn} : Rf k = some r → c ∈ r.2 → (∀ p ∈ c.2, FilG o Rf p) → FilG o Rf k
theorem FilG.mono {o : Nat → Bool} {Rf Rg : Nat → Option Rw} (h : ∀ k r, Rf k = some r → Rg k = some r) : ∀ {k : Nat}, FilG o Rf k → FilG o Rg k := by
  intro k f
  induction f with
  | op e => exact .op e
  | co e hc _ ih => exact .co (h _ _ e) hc ih
def foundD (m : Nat) (Rf : Nat → Option Rw) : List D := (List.range m).map fun k => match Rf k with
  | some r => rowD r
  | none => .none
def putF (Rf : Nat → Option Rw) (k : Nat) (r : Rw) : Nat → Option Rw := fun j => if j = k then some r else Rf j
theorem foundD_put {m : Nat} {Rf : Nat → Option Rw} {k : Nat} {r : Rw} : (foundD m Rf).set k (rowD r) = foundD m (putF Rf k r) := by
  unfold foundD putF
  refine List.ext_getElem? fun j => ?_
  rw [List.getElem?_set, List.getElem?_map, List.getElem?_map]
  by_cases hj : k = j
  · subst hj
    rw [if_pos rfl, List.length_map, List.length_range]
    by_cases hk : k < m
    · rw [if_pos hk]
      simp [hk]
    · rw [if_neg hk]
      simp [hk]
  · rw [if_neg hj]
    have : ¬ j = k := fun e => hj e.symm
    cases e : (List.range m)[j]? with
    | none => rfl
    | some x =>
      obtain ⟨h1, h2⟩ := List.getElem?_eq_some_iff.mp e
      rw [List.getElem_range] at h2
      subst h2
      simp [this]
def nmR (r : Rw) : List Str := r.2.map Prod.fst
theorem at_map {α : Type} {f : α → D} {l : List α} {k : Nat} (d : α) (h : k < l.length) : atI (l.map f) (k : Nat) = some (f (l.getD k d)) := by
  refine atI_nat ?_
  rw [List.getElem?_map, List.getElem?_eq_getElem h, List.getD_eq_getElem?_getD, List.getElem?_eq_getElem h]
  rfl
theorem getD_left {α : Type} {a b : List α} {k : Nat} {d : α} (h : k < a.length) : (a ++ b).getD k d = a.getD k d := by
  rw [List.getD_eq_getElem?_getD, List.getD_eq_getElem?_getD, List.getElem?_append_left h]
theorem getD_last {α : Type} {a : List α} {x d : α} : (a ++ [x]).getD a.length d = x := by
  rw [List.getD_eq_getElem?_getD, List.getElem?_append_right (Nat.le_refl _), Nat.sub_self]
  rfl
theorem ixN_lt {n k : Nat} (h : k < n) : ixN n (k : Nat) = some k := by
  unfold ixN
  rw [if_pos (by omega), if_pos (by omega), Int.toNat_natCast]
theorem rangeD_ns (m : Nat) : rangeD 0 (m : Nat) = nsD (List.range m) := by
  rw [rangeD, nsD, show ((m : Nat) - 0 : Int).toNat = m from by omega]
  refine List.map_congr_left fun k _ => ?_
  rw [Int.zero_add]
theorem nsD_len (l : List Nat) : (nsD l).length = l.length := List.length_map _
theorem ns_at {l : List Nat} {k : Nat} (h : k < l.length) : atI (nsD l) (k : Nat) = some (.int (l.getD k 0 : Nat)) := at_map 0 h
theorem flat_congr {α β : Type} {f g : α → List β} : ∀ {l : List α}, (∀ x ∈ l, f x = g x) → l.flatMap f = l.flatMap g
  | [], _ => rfl
  | x :: l, h => by rw [List.flatMap_cons, List.flatMap_cons, h x (by simp), flat_congr fun y hy => h y (by simp [hy])]
def openF (os : List Bool) (x : D) : Option D := match x with
  | .int k => if os.getD k.toNat false = true then some x else none
  | _ => none
theorem openF_range (os : List Bool) (m : Nat) : (rangeD 0 (m : Nat)).filterMap (openF os) = nsD ((List.range m).filter fun k => os.getD k false) := by
  rw [rangeD, List.filterMap_map, show ((m : Nat) - 0 : Int).toNat = m from by omega]
  induction List.range m with
  | nil => rfl
  | cons k r ih =>
    rw [List.filterMap_cons, List.filter_cons]
    have e : ((0 : Int) + (k : Nat)).toNat = k := by omega
    simp only [Function.comp, openF, e, Int.zero_add, Int.toNat_natCast] at ih ⊢
    cases h : os.getD k false with
    | true =>
      simp only [nsD, List.map_cons, ↓reduceIte] at ih ⊢
      rw [ih]
    | false =>
      simp only [Bool.false_eq_true, ↓reduceIte]
      exact ih
theorem sum_le {n : Nat} : ∀ {l : List Nat}, (∀ c ∈ l, c ≤ n) → l.sum ≤ n * l.length
  | [], _ => Nat.zero_le _
  | c :: l, h => by
    have := sum_le (l := l) fun x hx => h x (by simp [hx])
    have := h c (by simp)
    rw [List.sum_cons, List.length_cons, Nat.mul_succ]
    omega
theorem sum_int : ∀ l : List Nat, (l.map fun n => ((n : Nat) : Int)).sum = ((l.sum : Nat) : Int)
  | [] => rfl
  | c :: l => by
    rw [List.map_cons, List.sum_cons, sum_int l, List.sum_cons]
    omega
def nmO (Rf : Nat → Option Rw) (k : Nat) : List Str := match Rf k with
  | some r => nmR r
  | none => []
/-- what holds between two kinds -/
structure AI (m : Nat) (os : List Bool) (cs : List Nat) (ns : List Str) (f : List Nat) (i : Nat) (g : List Nat) (Rf : Nat → Option Rw) (a : Nat) : Prop where
  a1 : a = ((f.take i).map fun k => cs.getD k 0).sum
  nm : (f.take i).flatMap (nmO Rf) = ns.take a
  ro : ∀ k, k ∈ f.take i → ∃ r, Rf k = some r ∧ r.1 = os.getD k false ∧ wfRow m r
  no : ∀ k, k ∉ f.take i → Rf k = none
  gd : ∀ k ∈ g, k < m ∧ FilG (fun k => os.getD k false) Rf k
  cl : ∀ k, k ∈ f.take i → os.getD k false = false → k ∈ g
  gl : g.length ≤ m + i
theorem AI.next {m : Nat} {os : List Bool} {cs : List Nat} {ns : List Str} {f : List Nat} {i : Nat} {g : List Nat} {Rf : Nat → Option Rw} {a k : Nat} (h : AI m os cs ns f i g Rf a) (fnd : f.Nodup) (hk : f[i]? = some k) (hkm : k < m)
    {rows : List Cn} (hfst : rows.map Prod.fst = (ns.drop a).take (cs.getD k 0)) (hw : ∀ c ∈ rows, wfCons m c) (h4 : rows.length ≤ 4) {g' : List Nat}
    (hg : (os.getD k false = true ∧ g' = g) ∨ (os.getD k false = false ∧ g' = g ++ [k] ∧ ∃ c ∈ rows, ∀ p ∈ c.2, p ∈ g)) : AI m os cs ns f (i + 1) g' (putF Rf k (os.getD k false, rows)) (a + cs.getD k 0) := by
  have et : f.take (i + 1) = f.take i ++ [k] := by rw [List.take_add_one, hk]; rfl
  have hkn : k ∉ f.take i := fun hm => by
    have h1 : (f.take (i + 1)).Nodup := List.Nodup.sublist (List.take_sublist _ _) fnd
    rw [et, List.nodup_append] at h1
    exact h1.2.2 k hm k (by simp) rfl
  have pk : putF Rf k (os.getD k false, rows) k = some (os.getD k false, rows) := if_pos rfl
  have pn : ∀ j, j ≠ k → putF Rf k (os.getD k false, rows) j = Rf j := fun j hj => if_neg hj
  have mono : ∀ j r, Rf j = some r → putF Rf k (os.getD k false, rows) j = some r := fun j r e => by
    rw [pn j (by rintro rfl; rw [h.no _ hkn] at e; cases e), e]
  have gd2 : ∀ j ∈ g, j < m ∧ FilG (fun k => os.getD k false) (putF Rf k (os.getD k false, rows)) j := fun j hj => ⟨(h.gd j hj).1, (h.gd j hj).2.mono mono⟩
  refine ⟨?_, ?_, ?_, ?_, ?_, ?_, ?_⟩
  · rw [et, List.map_append, List.sum_append, ← h.a1]
    simp
  · rw [et, List.flatMap_append, flat_congr (g := nmO Rf) (fun j hj => by
      unfold nmO
      rw [pn j (by rintro rfl; exact hkn hj)]), h.nm, List.take_add]
    congr 1
    rw [List.flatMap_cons, List.flatMap_nil, List.append_nil]
    unfold nmO
    rw [pk]
    exact hfst
  · intro j hj
    by_cases e : j = k
    · subst e
      exact ⟨_, pk, rfl, h4, hw⟩
    · rw [et, List.mem_append] at hj
      rw [pn j e]
      exact h.ro j (hj.elim id fun h => absurd (List.mem_singleton.mp h) e)
  · intro j hj
    rw [et, List.mem_append, List.mem_singleton] at hj
    rw [pn j fun e => hj (.inr e)]
    exact h.no j fun e => hj (.inl e)
  · intro j hj
    rcases hg with ⟨_, rfl⟩ | ⟨ho, rfl, c, hc, hp⟩
    · exact gd2 j hj
    · rcases List.mem_append.mp hj with hj | hj
      · exact gd2 j hj
      · rw [List.mem_singleton] at hj
        subst hj
        exact ⟨hkm, .co pk hc fun p h => (gd2 p (hp p h)).2⟩
  · intro j hj ho
    rcases hg with ⟨h1, rfl⟩ | ⟨_, rfl, _⟩
    · rw [et, List.mem_append, List.mem_singleton] at hj
      rcases hj with hj | rfl
      · exact h.cl j hj ho
      · rw [h1] at ho
        cases ho
    · rw [et, List.mem_append, List.mem_singleton] at hj
      rcases hj with hj | rfl
      · exact List.mem_append_left _ (h.cl j hj ho)
      · simp
  · have := h.gl
    rcases hg with ⟨_, rfl⟩ | ⟨_, rfl, _⟩
    · omega
    · rw [List.length_append, List.length_singleton]
      omega
theorem AI.done {m : Nat} {os : List Bool} {cs : List Nat} {ns : List Str} {f g : List Nat} {Rf : Nat → Option Rw} {a : Nat} (h : AI m os cs ns f f.length g Rf a) (fnd : f.Nodup) (hf : ∀ k, k ∈ f ↔ k < m) (nd : ns.Nodup) (hm1 : 1 ≤ m) (hm3 : m ≤ 3) :
    ∃ s, foundD m Rf = s.map rowD ∧ Wf s ∧ (namesOf s).Nodup ∧ Whole s := by
  have ro := h.ro
  have cl := h.cl
  have nm := h.nm
  rw [List.take_length] at ro cl nm
  have get : ∀ k, k < m → ∃ r, Rf k = some r ∧ r.1 = os.getD k false ∧ wfRow m r := fun k hk => ro k ((hf k).mpr hk)
  let s : Sg := (List.range m).map fun k => (Rf k).getD (false, [])
  have hl : s.length = m := by simp [s]
  have sg : ∀ k, k < m → s[k]? = Rf k := fun k hk => by
    obtain ⟨r, e, _⟩ := get k hk
    simp [s, hk, e]
  refine ⟨s, ?_, ⟨by omega, by omega, fun r hr => ?_⟩, ?_, fun k hk => ?_⟩
  · unfold foundD
    rw [List.map_map]
    refine List.map_congr_left fun k hk => ?_
    obtain ⟨r, e, _⟩ := get k (List.mem_range.mp hk)
    simp [e]
  · obtain ⟨k, hk, rfl⟩ := List.mem_map.mp hr
    obtain ⟨r, e, _, w⟩ := get k (List.mem_range.mp hk)
    rw [e, hl]
    exact w
  · have e1 : namesOf s = (List.range m).flatMap (nmO Rf) := by
      unfold namesOf
      rw [List.flatMap_map]
      refine flat_congr fun k hk => ?_
      obtain ⟨r, e, _⟩ := get k (List.mem_range.mp hk)
      simp [nmO, e, nmR]
    have hp : f.Perm (List.range m) := (List.perm_ext_iff_of_nodup fnd List.nodup_range).mpr fun k => by rw [hf k, List.mem_range]
    rw [e1, ← (hp.flatMap_right (nmO Rf)).nodup_iff, nm]
    exact List.Nodup.sublist (List.take_sublist _ _) nd
  · rw [hl] at hk
    have go : ∀ k, FilG (fun k => os.getD k false) Rf k → k < m → Filled s k := fun k hg => by
      induction hg with
      | op ho =>
        intro hk
        obtain ⟨r, e, h1, _⟩ := get _ hk
        exact .op ((sg _ hk).trans e) (h1.trans ho)
      | co e hc _ ih =>
        intro hk
        obtain ⟨r, e2, _, w⟩ := get _ hk
        rw [e] at e2
        cases e2
        exact .co ((sg _ hk).trans e) hc fun p hp => ih p hp ((w.2 _ hc).2.2 p hp)
    refine go k ?_ hk
    cases ho : os.getD k false with
    | true => exact .op ho
    | false => exact (h.gd k (cl k ((hf k).mpr hk) ho)).2
/-- the last part of a constructor's turn -/
def wRestA : WS := (wSeq (wSet 13 (wTup wNil))
 (wSeq (wFor (wRng1 (wCons (wFrz (wCall p_law_next (wCons (wVar 0) (wCons (wC (.int 3)) wNil)))) wNil)) (gNm 14)
 (wKill [14] (wIfS (wTest (wBin sNe (wVar 12) (wFrz (wLst wNil))))
 (wSet 13 (wBin sAdd (wVar 13) (wTup (wCons (wFrz (wCall p_law_pick (wCons (wVar 0) (wCons (wVar 12) wNil)))) wNil))))
 wNext)))
 (wDrop (wFrz (wBM "list" mAppend (wVar 10) (wCons (wTup (wCons (wBin sIx (wVar 4) (wBin sAdd (wVar 7) (wVar 11))) (wCons (wVar 13) wNil))) wNil))))))
def zA (l' : List D) (m : Nat) (os : List Bool) (cs : List Nat) (ns : List Str) (g : List Nat) (Rf : Nat → Option Rw) (a : Nat) (t : SS) : SS :=
  [some (.own (some 0) l'), some (.val (.int (m : Nat))), some (.val (.list (os.map PyData.bool))), some (.val (.list (nsD cs))), some (.val (.list (txs ns))), some (.own none (nsD g)), some (.own none (foundD m Rf)), some (.val (.int (a : Nat)))] ++ t
theorem plain_nsne (l : List Nat) : PyData.eqv (.list (nsD l)) (.list []) = decide (l = []) := by
  cases l with
  | nil => rfl
  | cons x l => rfl
theorem tx_at {ns : List Str} {a j : Nat} (h : a + j < ns.length) : atI (txs ns) ((a : Nat) + (j : Nat) : Int) = some (.str (ns.getD (a + j) "")) := by
  rw [show ((a : Nat) + (j : Nat) : Int) = ((a + j : Nat) : Int) from by omega]
  exact at_map (f := PyData.str) "" h
theorem foundD_len (m : Nat) (Rf : Nat → Option Rw) : (foundD m Rf).length = m := by simp [foundD]
theorem sum_part {m : Nat} {cs f : List Nat} (fnd : f.Nodup) (hf : ∀ k, k ∈ f ↔ k < m) (hcs : cs.length = m) (i : Nat) : ((f.take i).map fun k => cs.getD k 0).sum ≤ cs.sum := by
  have hp : f.Perm (List.range m) := (List.perm_ext_iff_of_nodup fnd List.nodup_range).mpr fun k => by rw [hf k, List.mem_range]
  have e1 : (List.range m).map (fun k => cs.getD k 0) = cs := by
    refine List.ext_getElem? fun j => ?_
    rw [List.getElem?_map]
    by_cases hj : j < m
    · have h2 : j < cs.length := by omega
      simp [hj, h2, List.getD_eq_getElem?_getD]
    · have h2 : cs.length ≤ j := by omega
      simp [hj, h2]
  have e2 : (f.map fun k => cs.getD k 0).sum = cs.sum := by
    rw [(hp.map _).sum_nat, e1]
  have e3 : (f.map fun k => cs.getD k 0).sum = ((f.take i).map fun k => cs.getD k 0).sum + ((f.drop i).map fun k => cs.getD k 0).sum := by
    rw [← List.sum_append, ← List.map_append, List.take_append_drop]
  omega
theorem rest_ok {E : En} {l' : List D} {m : Nat} {os : List Bool} {cs : List Nat} {ns : List Str} {g : List Nat} {Rf : Nat → Option Rw} {a k gr j : Nat} {rows : List Cn} {mn : List Nat} (hs : isStrm l') (hj : a + j < ns.length) (hr : rows.length ≤ 10) (hmn : mn.length ≤ 20)
    (h : ∀ ps l2, isStrm l2 → ps.length ≤ 2 → (∀ p ∈ ps, p ∈ mn) → E.nx (zA l2 m os cs ns g Rf a [some (.val (.int (k : Nat))), some (.val (.int (gr : Nat))), some (.own none ((rows ++ [(ns.getD (a + j) "", ps)]).map consD)), some (.val (.int (j : Nat))), some (.val (.list (nsD mn))), some (.val (.tuple (nsD ps))), none])) :
    wRestA E (zA l' m os cs ns g Rf a [some (.val (.int (k : Nat))), some (.val (.int (gr : Nat))), some (.own none (rows.map consD)), some (.val (.int (j : Nat))), some (.val (.list (nsD mn))), none, none]) := by
  unfold wRestA zA
  walk_at "w"
  refine ⟨l', _, rfl, hs, by decide, by decide, fun d l2 hs2 h0 h1 => ?_⟩
  walk_at "w"
  refine forR_inv (P := fun i z => ∃ ps l3, isStrm l3 ∧ ps.length ≤ i ∧ (∀ p ∈ ps, p ∈ mn) ∧ z = zA l3 m os cs ns g Rf a [some (.val (.int (k : Nat))), some (.val (.int (gr : Nat))), some (.own none (rows.map consD)), some (.val (.int (j : Nat))), some (.val (.list (nsD mn))), some (.val (.tuple (nsD ps))), none]) (fun i z hi p N hN => ?_) (fun z p => ?_) ⟨[], l2, hs2, Nat.le_refl _, by simp, rfl⟩
  · obtain ⟨ps, l3, hs3, hps, hpm, rfl⟩ := p
    refine ⟨_, rfl, ?_⟩
    unfold zA
    walk_at "w"
    refine ⟨_, _, rfl, rfl, plain_ns mn, rfl, by simp [PyData.depth, PyData.depthAll], ?_⟩
    walk_at "w"
    have hi2 : i < 2 := by omega
    refine i_ifB (fun hb => ?_) (fun hb => ?_)
    · have hne : mn ≠ [] := by
        rintro rfl
        cases hb
      walk_at "w"
      refine ⟨l3, nsD mn, rfl, hs3, by simpa [nsD] using hne, by rw [nsD_len]; omega, fun d l4 hd hs4 => ?_⟩
      obtain ⟨p, hp, rfl⟩ := List.mem_map.mp hd
      walk_at "w"
      refine i_addT (le_line (by rw [nsD_len]; show ps.length + 1 ≤ _; omega)) ?_
      walk_at "w"
      refine hN _ ⟨ps ++ [p], l4, hs4, by rw [List.length_append, List.length_singleton]; omega, fun q hq => ?_, ?_⟩
      · rcases List.mem_append.mp hq with hq | hq
        · exact hpm q hq
        · rw [List.mem_singleton] at hq
          rw [hq]
          exact hp
      · rw [nsD_app]
        rfl
    · walk_at "w"
      exact hN _ ⟨ps, l3, hs3, by omega, hpm, rfl⟩
  · obtain ⟨ps, l3, hs3, hps, hpm, rfl⟩ := p
    have hp2 : ps.length ≤ 2 := by omega
    unfold zA
    walk_at "w"
    refine i_ix rfl (tx_at hj) ?_
    walk_at "w"
    refine i_append rfl (lt_line (by rw [List.length_map]; omega)) ?_
    have := h ps l3 hs3 hp2 hpm
    rw [List.map_append] at this
    exact this
theorem v_law_any_signature : ∀ as R, p_law_any_signature as R → w_law_any_signature (retEn (hasOwn as) R) (startS 15 as) := by
  rintro as R ⟨l, rfl, hs, q⟩
  unfold w_law_any_signature
  walk_at "w0"
  walk_at "w"
  refine ⟨l, _, rfl, hs, by decide, by decide, fun d l1 hs1 hd0 hd1 => ?_⟩
  walk_at "w"
  obtain ⟨m, hm⟩ := Int.eq_ofNat_of_zero_le (show 0 ≤ 1 + d by omega)
  rw [hm]
  have hm1 : 1 ≤ m := by omega
  have hm3 : m ≤ 3 := by omega
  clear hd0 hd1 hm
  refine lcL_inv (P := fun i acc z => ∃ os : List Bool, os.length = i ∧ acc = os.map PyData.bool ∧ ∃ l', isStrm l' ∧ z = [some (.own (some 0) l'), some (.val (.int (m : Nat))), none, none, none, none, none, none, none, none, none, none, none, none, none]) (fun i x acc z hx p N hN => ?_) (fun acc z p => ?_) ⟨[], rfl, rfl, l1, hs1, rfl⟩
  · obtain ⟨os, hos, rfl, l2, hs2, rfl⟩ := p
    refine ⟨_, rfl, ?_⟩
    have := lt_of_get hx
    rw [rangeD_len] at this
    walk_at "w"
    refine ⟨l2, _, rfl, hs2, by decide, by decide, fun d2 l3 hs3 h20 h21 => ?_⟩
    walk_at "w"
    refine ⟨lt_line (by rw [List.length_map]; omega), ?_⟩
    exact hN _ _ ⟨os ++ [decide (d2 = 0)], by rw [List.length_append, hos]; rfl, by rw [List.map_append]; rfl, l3, hs3, rfl⟩
  obtain ⟨os, hos, rfl, l2, hs2, rfl⟩ := p
  rw [rangeD_len, show ((m : Nat) - 0 : Int).toNat = m from by omega] at hos
  walk_at "w"
  refine lcL_inv (P := fun i acc z => ∃ cs : List Nat, cs.length = i ∧ acc = nsD cs ∧ (∀ c ∈ cs, c ≤ 4) ∧ (∀ k, k < i → os.getD k false = false → 1 ≤ cs.getD k 0) ∧ ∃ l', isStrm l' ∧ z = [some (.own (some 0) l'), some (.val (.int (m : Nat))), some (.val (.list (os.map PyData.bool))), none, none, none, none, none, none, none, none, none, none, none, none]) (fun i x acc z hx p N hN => ?_) (fun acc z p => ?_) ⟨[], rfl, rfl, by simp, by simp, l2, hs2, rfl⟩
  · obtain ⟨cs, hcs, rfl, h4, h1, l3, hs3, rfl⟩ := p
    obtain ⟨rfl, hlt⟩ := rangeD_get hx
    rw [Int.zero_add] at hlt ⊢
    refine ⟨_, rfl, ?_⟩
    walk_at "w"
    refine i_ix rfl (at_map false (by omega)) ?_
    walk_at "w"
    have fin : ∀ (c : Nat) l', isStrm l' → c ≤ 4 → (os.getD i false = false → 1 ≤ c) → N (nsD cs ++ [.int (c : Nat)]) [some (.own (some 0) l'), some (.val (.int (m : Nat))), some (.val (.list (os.map PyData.bool))), none, none, none, none, none, none, none, none, none, none, none, none] := fun c l' hs' hc ho =>
      hN _ _ ⟨cs ++ [c], by rw [List.length_append, hcs]; rfl, (nsD_app cs c).symm, fun x hx => by
        rcases List.mem_append.mp hx with hx | hx
        · exact h4 x hx
        · rw [List.mem_singleton] at hx
          rw [hx]
          exact hc, fun k hk hf => by
        by_cases e : k < i
        · have := h1 k e hf
          rw [getD_left (by omega)]
          exact this
        · have e2 : k = i := by omega
          subst e2
          rw [← hcs, getD_last]
          exact ho hf, l', hs', rfl⟩
    refine i_ifB (fun h => ?_) (fun h => ?_)
    · walk_at "w"
      refine ⟨l3, _, rfl, hs3, by decide, by decide, fun d2 l4 hs4 h20 h21 => ?_⟩
      obtain ⟨c, rfl⟩ := Int.eq_ofNat_of_zero_le h20
      walk_at "w"
      refine ⟨lt_line (by rw [nsD, List.length_map]; omega), ?_⟩
      exact fin c l4 hs4 (by omega) (fun hf => by rw [h] at hf; cases hf)
    · walk_at "w"
      refine ⟨l3, _, rfl, hs3, by decide, by decide, fun d2 l4 hs4 h20 h21 => ?_⟩
      obtain ⟨c, hc⟩ := Int.eq_ofNat_of_zero_le (show 0 ≤ 1 + d2 by omega)
      walk_at "w"
      rw [hc]
      refine ⟨lt_line (by rw [nsD, List.length_map]; omega), ?_⟩
      exact fin c l4 hs4 (by omega) (fun hf => by omega)
  obtain ⟨cs, hcs, rfl, h4, h1, l3, hs3, rfl⟩ := p
  rw [rangeD_len, show ((m : Nat) - 0 : Int).toNat = m from by omega] at hcs h1
  walk_at "w"
  refine i_sum (ns := cs.map fun n => ((n : Nat) : Int)) (by rw [List.map_map]; rfl) ?_
  rw [sum_int]
  have hsum : cs.sum ≤ 12 := by
    have := sum_le h4
    omega
  walk_at "w"
  refine ⟨l3, cs.sum, rfl, hs3, by omega, fun ns l4 nd hnl hnn hs4 => ?_⟩
  walk_at "w"
  refine lcL_fm (openF os) (le_line (by rw [rangeD_len]; omega)) (fun x hx N hN => ?_) ?_
  · obtain ⟨i, hi⟩ := List.mem_iff_getElem?.mp hx
    obtain ⟨rfl, hlt⟩ := rangeD_get hi
    rw [Int.zero_add] at hlt hN ⊢
    refine ⟨_, rfl, ?_⟩
    walk_at "w"
    refine i_ix rfl (at_map false (by omega)) ?_
    walk_at "w"
    simp only [openF, Int.toNat_natCast] at hN
    refine i_ifB (fun h => ?_) (fun h => ?_)
    · simp only [h, if_true] at hN
      walk_at "w"
      exact hN _ rfl
    · simp only [h, Bool.false_eq_true, if_false] at hN
      walk_at "w"
      exact hN _ rfl
  rw [openF_range]
  walk_at "w"
  refine i_mulL rfl (by omega) (by omega) (le_line (by show 1 * _ ≤ _; omega)) ?_
  walk_at "w"
  have ef : (List.replicate (m : Int).toNat ((fun x => PyData.none :: x) [])).flatten = foundD m fun _ => none := by
    have : m = 1 ∨ m = 2 ∨ m = 3 := by omega
    rcases this with rfl | rfl | rfl <;> rfl
  rw [ef]
  refine ⟨l4, m, rfl, hs4, hm3, fun f l5 fnd hf hs5 => ?_⟩
  walk_at "w"
  have hfl : f.length ≤ m := nodup_len fnd fun k hk => (hf k).mp hk
  refine forL_inv (P := fun i z => ∃ g Rf a l', isStrm l' ∧ AI m os cs ns f i g Rf a ∧ z = zA l' m os cs ns g Rf a [none, none, none, none, none, none, none]) (fun i x z hx p N hN => ?_) (fun z p => ?_) ⟨_, fun _ => none, 0, l5, hs5, ⟨rfl, rfl, by simp, fun _ _ => rfl, fun k hk => ?_, by simp, ?_⟩, rfl⟩
  · obtain ⟨g, Rf, a, l6, hs6, ai, rfl⟩ := p
    rw [nsD, List.getElem?_map] at hx
    obtain ⟨k, hk, rfl⟩ := Option.map_eq_some_iff.mp hx
    have hkm : k < m := (hf k).mp (List.mem_of_getElem? hk)
    refine ⟨_, rfl, ?_⟩
    unfold zA
    walk_at "w"
    refine i_ix rfl (ns_at (by omega)) ?_
    walk_at "w"
    have hc4 : cs.getD k 0 ≤ 4 := by
      rw [List.getD_eq_getElem?_getD, List.getElem?_eq_getElem (show k < cs.length by omega)]
      exact h4 _ (List.getElem_mem _)
    have hc1 := h1 k hkm
    have hac : a + cs.getD k 0 ≤ ns.length := by
      have e1 := sum_part fnd hf hcs (i + 1)
      rw [List.take_add_one, hk, List.map_append, List.sum_append, ← ai.a1] at e1
      simp at e1
      simp only [List.getD_eq_getElem?_getD]
      omega
    generalize hc : cs.getD k 0 = c at hc4 hc1 hac
    refine ⟨l6, _, rfl, hs6, by split <;> omega, by split <;> omega, fun gr l7 hs7 hg0 hg1 => ?_⟩
    obtain ⟨gr, rfl⟩ := Int.eq_ofNat_of_zero_le hg0
    have hgr : 1 ≤ c → gr < c := fun h => by
      by_cases h2 : (c : Int) > 1
      · have hg2 : (gr : Int) < if (c : Int) > 1 then (c : Int) else 1 := hg1
        rw [if_pos h2] at hg2
        omega
      · have hg2 : (gr : Int) < if (c : Int) > 1 then (c : Int) else 1 := hg1
        rw [if_neg h2] at hg2
        omega
    clear hg1
    walk_at "w"
    refine i_ix rfl (ns_at (by omega)) ?_
    rw [hc]
    walk_at "w"
    refine forR_inv (P := fun j z => ∃ rows l', isStrm l' ∧ rows.length = j ∧ rows.map Prod.fst = (ns.drop a).take j ∧ (∀ c ∈ rows, wfCons m c) ∧ (os.getD k false = false → gr < j → ∃ c ∈ rows, ∀ p ∈ c.2, p ∈ g) ∧
      z = zA l' m os cs ns g Rf a [some (.val (.int (k : Nat))), some (.val (.int (gr : Nat))), some (.own none (rows.map consD)), none, none, none, none]) (fun j z hj p N2 hN2 => ?_) (fun z p => ?_) ⟨[], l7, hs7, rfl, rfl, by simp, fun _ h => absurd h (by omega), rfl⟩
    · obtain ⟨rows, l8, hs8, hrl, hfst, hw, hcl, rfl⟩ := p
      rw [Int.zero_add] at hj ⊢
      refine ⟨_, rfl, ?_⟩
      unfold zA
      walk_at "w"
      refine ⟨RgOk.of_le (by omega) (by omega) (by omega) (by omega), ?_⟩
      walk_at "w"
      refine i_ix rfl (at_map (f := PyData.bool) (l := os) (k := k) false (by omega)) ?_
      walk_at "w"
      rw [rangeD_ns]
      have key : ∀ mn : List Nat, (∀ p ∈ mn, p < m) → (os.getD k false = false → j = gr → ∀ p ∈ mn, p ∈ g) → ∀ ps l2, isStrm l2 → ps.length ≤ 2 → (∀ p ∈ ps, p ∈ mn) →
          N2 (zA l2 m os cs ns g Rf a [some (.val (.int (k : Nat))), some (.val (.int (gr : Nat))), some (.own none ((rows ++ [(ns.getD (a + j) "", ps)]).map consD)), none, none, none, none]) := fun mn h1 h2 ps l2 hs2 hp hpm =>
        hN2 _ ⟨rows ++ [(ns.getD (a + j) "", ps)], l2, hs2, by rw [List.length_append, hrl]; rfl, by
          rw [List.map_append, hfst, List.take_add_one, List.getElem?_drop, List.getElem?_eq_getElem (show a + j < ns.length by omega), List.getD_eq_getElem?_getD, List.getElem?_eq_getElem (show a + j < ns.length by omega)]
          rfl, fun c hc => by
          rcases List.mem_append.mp hc with hc | hc
          · exact hw c hc
          · rw [List.mem_singleton] at hc
            subst hc
            refine ⟨hnn _ ?_, hp, fun p hpp => h1 p (hpm p hpp)⟩
            rw [List.getD_eq_getElem?_getD, List.getElem?_eq_getElem (show a + j < ns.length by omega)]
            exact List.getElem_mem _, fun ho hlt => by
          by_cases e : j = gr
          · exact ⟨_, List.mem_append_right _ (List.mem_singleton.mpr rfl), fun p hpp => h2 ho e p (hpm p hpp)⟩
          · obtain ⟨c, hc, hp⟩ := hcl ho (by omega)
            exact ⟨c, List.mem_append_left _ hc, hp⟩, rfl⟩
      have hgm := ai.gd
      have hgl := ai.gl
      have him := lt_of_get hk
      refine i_ifB (fun h => ?_) (fun h => ?_)
      · walk_at "w"
        refine i_ifD (fun e => ?_) (fun e => ?_)
        · refine i_set (i_frz (i_cb (i_cons (i_varO rfl (i_nil (i_f1 (i_list rfl (i_exD ?_))))))))
          exact rest_ok (l' := l8) (m := m) (os := os) (cs := cs) (ns := ns) (g := g) (Rf := Rf) (a := a) (k := k) (gr := gr) (j := j) (rows := rows) (mn := g) hs8 (by omega) (by omega) (by omega) fun ps l2 hs2 hp hpm => key g (fun p hp => (hgm p hp).1) (fun _ _ p hp => hp) ps l2 hs2 hp hpm
        · refine i_next ?_
          exact rest_ok (l' := l8) (m := m) (os := os) (cs := cs) (ns := ns) (g := g) (Rf := Rf) (a := a) (k := k) (gr := gr) (j := j) (rows := rows) (mn := List.range m) hs8 (by omega) (by omega) (by rw [List.length_range]; omega) fun ps l2 hs2 hp hpm => key (List.range m) (fun p hp => List.mem_range.mp hp) (fun _ e2 => absurd e2 (by omega)) ps l2 hs2 hp hpm
      · have ho : os.getD k false = true := by simpa using h
        refine i_ifF rfl (i_next ?_)
        exact rest_ok (l' := l8) (m := m) (os := os) (cs := cs) (ns := ns) (g := g) (Rf := Rf) (a := a) (k := k) (gr := gr) (j := j) (rows := rows) (mn := List.range m) hs8 (by omega) (by omega) (by rw [List.length_range]; omega) fun ps l2 hs2 hp hpm => key (List.range m) (fun p hp => List.mem_range.mp hp) (fun e2 => by rw [ho] at e2; cases e2) ps l2 hs2 hp hpm
    · obtain ⟨rows, l8, hs8, hrl, hfst, hw, hcl, rfl⟩ := p
      rw [show ((c : Nat) - 0 : Int).toNat = c from by omega] at hrl hfst hcl
      unfold zA
      walk_at "w"
      refine i_ix rfl (ns_at (l := cs) (k := k) (by omega)) ?_
      walk_at "w"
      refine i_ix rfl (at_map (f := PyData.bool) (l := os) (k := k) false (by omega)) ?_
      walk_at "w"
      refine i_ifB (fun h => ?_) (fun h => ?_)
      · walk_at "w"
        refine i_putD rfl (ixN_lt (by rw [foundD_len]; exact hkm)) ?_
        walk_at "w"
        refine i_ix rfl (at_map (f := PyData.bool) (l := os) (k := k) false (by omega)) ?_
        rw [h]
        walk_at "w"
        refine hN _ ⟨g, _, _, l8, hs8, ai.next fnd hk hkm (rows := rows) (by rw [hc]; exact hfst) hw (by omega) (.inl ⟨h, rfl⟩), ?_⟩
        have er : PyData.tuple [.str "open", .tuple (rows.map consD)] = rowD (os.getD k false, rows) := by rw [h]; rfl
        rw [zA, ← foundD_put, ← er, hc, show ((a + c : Nat) : Int) = (a : Int) + (c : Int) from by omega]
        rfl
      · walk_at "w"
        refine i_putD rfl (ixN_lt (by rw [foundD_len]; exact hkm)) ?_
        walk_at "w"
        refine i_ix rfl (at_map (f := PyData.bool) (l := os) (k := k) false (by omega)) ?_
        rw [h]
        walk_at "w"
        have hgl := ai.gl
        have him := lt_of_get hk
        refine i_append rfl (lt_line (by rw [nsD_len]; omega)) ?_
        have h5 := hc1 h
        refine hN _ ⟨g ++ [k], _, _, l8, hs8, ai.next fnd hk hkm (rows := rows) (by rw [hc]; exact hfst) hw (by omega) (.inr ⟨h, rfl, hcl h (hgr (hc1 h))⟩), ?_⟩
        have er : PyData.tuple [.str "closed", .tuple (rows.map consD)] = rowD (os.getD k false, rows) := by rw [h]; rfl
        rw [zA, ← foundD_put, ← er, hc, nsD_app, show ((a + c : Nat) : Int) = (a : Int) + (c : Int) from by omega]
        rfl
  · obtain ⟨g, Rf, a, l6, hs6, ai, rfl⟩ := p
    rw [nsD_len] at ai
    obtain ⟨s, e, w1, w2, w3⟩ := ai.done fnd hf nd hm1 hm3
    unfold zA
    walk_at "w"
    rw [e]
    exact q s l6 w1 w2 w3 hs6
  · obtain ⟨h1, h2⟩ := List.mem_filter.mp hk
    exact ⟨List.mem_range.mp h1, .op h2⟩
  · have := List.length_filter_le (fun k => os.getD k false) (List.range m)
    rw [List.length_range] at this
    omega
end L3
/-! The law's own judge of values. -/
namespace L3
open PySem PySem.Spec PyProof.Rows L2 PySem.SeqAt
def p_law_all_have_values : FS := fun as R => ∃ s, as = [.val (sigD s)] ∧ Wf s ∧ ∀ b, (b = true ↔ Whole s) → R (.d (.bool b)) none
theorem m_law_all_have_values : MonoF p_law_all_have_values := fun as R R' h ⟨s, e, a, k⟩ => ⟨s, e, a, fun b x => h _ _ (k b x)⟩
theorem l_law_all_have_values : ∀ as R, p_law_all_have_values as R → as.length = 1 := fun as R ⟨v, e, _⟩ => by rw [e]; rfl
/-- 0 signature, 1 good, 2 turn, 3 kind, 4 name, 5 parts, 6 row, 7 part -/
def w_law_all_have_values : WS :=
(wSeq (wSetO 1 (wLc (wSrc (wVar 0)) (gNm 6) [6] wYes (wBin sEq (wBin sIx (wVar 6) (wC (.int 0))) (wC (.str "open")))))
 (wSeq (wFor (wRng1 (wCons (wC (.int 4)) wNil)) (gNm 2)
 (wKill [2, 3, 4, 5] (wFor (wRng1 (wCons (wFrz (wCB (f1 sLen) (wCons (wVar 0) wNil))) wNil)) (gNm 3)
 (wKill [3, 4, 5] (wFor (wSrc (wBin sIx (wBin sIx (wVar 0) (wVar 3)) (wC (.int 1)))) (gTp [(gNm 4), (gNm 5)])
 (wKill [4, 5] (wIfS (wTest (wFrz (wCB (f1 sAll) (wCons (wFrz (wLc (wSrc (wVar 5)) (gNm 7) [7] wYes (wBin sIx (wVar 1) (wVar 7)))) wNil))))
 (wPut (wC (.bool true)) (wVar 1) (wVar 3))
 wNext)))))))
 (wRet (wFrz (wCB (f1 sAll) (wCons (wVar 1) wNil))))))
local macro_rules | `(tactic| walk_at "w1") => `(tactic| first
  | (with_reducible refine' i_seq ?_) | (with_reducible refine' i_set ?_) | (with_reducible refine' i_ifS ?_) | (with_reducible refine' i_ret ?_) | (with_reducible refine' i_next ?_) | (with_reducible refine' i_kill ?_)
  | (with_reducible refine' i_setO ?_) | (with_reducible refine' i_lcSet ?_) | (with_reducible refine' i_asg ?_) | (with_reducible refine' i_put ?_) | (with_reducible refine' i_drop ?_) | (with_reducible refine' i_retR ?_)
  | ((with_reducible refine' i_retO ?h1 ?_); (case h1 => rfl)) | (with_reducible refine' i_for ?_)
  | (with_reducible refine' i_test ?_) | (with_reducible refine' i_tnot ?_) | (with_reducible refine' i_tand ?_) | (with_reducible refine' i_tor ?_) | (with_reducible refine' i_yes ?_)
  | ((with_reducible refine' i_var ?h1 ?_); (case h1 => rfl)) | ((with_reducible refine' i_varO ?h1 ?_); (case h1 => rfl)) | (with_reducible refine' i_c ?_) | (with_reducible refine' i_dct ?_) | (with_reducible refine' i_frz ?_) | (with_reducible refine' i_bin ?_) | (with_reducible refine' i_binR ?_)
  | (with_reducible refine' i_cb ?_) | (with_reducible refine' i_nil ?_) | (with_reducible refine' i_cons ?_) | (with_reducible refine' i_tup ?_) | (with_reducible refine' i_lst ?_) | (with_reducible refine' i_neg ?_) | (with_reducible refine' i_isa ?_)
  | (with_reducible refine' i_andV ?_) | (with_reducible refine' i_orV ?_) | (with_reducible refine' i_notV ?_) | (with_reducible refine' i_if ?_) | (with_reducible refine' i_chain ?_) | (with_reducible refine' i_sl ?_) | (with_reducible refine' i_noPart ?_) | (with_reducible refine' i_part ?_)
  | (with_reducible refine' i_bm ?_) | (with_reducible refine' i_bm0 ?_) | (with_reducible refine' i_lrg ?_) | (with_reducible refine' i_call ?_) | (with_reducible refine' i_src ?_) | (with_reducible refine' i_rng1 ?_) | (with_reducible refine' i_rng2 ?_) | (with_reducible refine' i_enum ?_)
  | (with_reducible refine' i_lc ?_) | (with_reducible refine' i_lc2 ?_))
local macro_rules | `(tactic| walk_at "w2") => `(tactic| first
  | (with_reducible refine' i_allM ?_) | (with_reducible refine' i_anyM ?_)
  | (with_reducible refine' i_exD ?_) | (with_reducible refine' i_exB ?_) | (with_reducible refine' i_exRB ?_) | (with_reducible refine' i_exI ?_) | (with_reducible refine' i_exN ?_)
  | (with_reducible refine' i_addI ?_) | (with_reducible refine' i_sub ?_) | (with_reducible refine' i_lt ?_) | (with_reducible refine' i_le ?_) | (with_reducible refine' i_gt ?_) | (with_reducible refine' i_ge ?_)
  | (with_reducible refine' i_eqI ?_) | (with_reducible refine' i_neI ?_) | (with_reducible refine' i_eqB ?_) | (with_reducible refine' i_neB ?_) | (with_reducible refine' i_eqS ?_) | (with_reducible refine' i_neS ?_)
  | (with_reducible refine' i_isB ?_) | ((with_reducible refine' i_isN ?h1 ?_); (case h1 => rfl)) | ((with_reducible refine' i_notN ?h1 ?_); (case h1 => rfl))
  | (with_reducible refine' i_f1 ?_) | (with_reducible refine' i_f2 ?_) | ((with_reducible refine' i_len ?h1 ?_); (case h1 => rfl)) | (with_reducible refine' i_abs ?_) | (with_reducible refine' i_int ?_) | (with_reducible refine' i_max ?_) | (with_reducible refine' i_min ?_)
  | (with_reducible refine' i_listScr ?_) | ((with_reducible refine' i_list ?h1 ?_); (case h1 => rfl)) | ((with_reducible refine' i_tuple ?h1 ?_); (case h1 => rfl))
  | ((with_reducible refine' i_tyL ?h1 ?_); (case h1 => rfl)) | (with_reducible refine' i_tyS ?_)
  | (with_reducible refine' i_slT ?_) | ((with_reducible refine' i_slL ?h1 ?_); (case h1 => rfl)))
local macro_rules | `(tactic| walk_at "w3") => `(tactic| first
  | ((with_reducible refine' i_ix ?h1 ?h2 ?_); (case h1 => rfl); (case h2 => rfl)) | ((with_reducible refine' i_allD ?h1 ?h2 ?_); (case h1 => rfl); (case h2 => (simp [sizeLine_eq]; done)))
  | ((with_reducible refine' i_args ?h1 ?_); (case h1 => rfl)) | ((with_reducible refine' i_out ?h1 ?_); (case h1 => rfl)) | ((with_reducible refine' i_rt ?h1 ?_); (case h1 => rfl))
  | ((with_reducible refine' i_srcOf ?h1 ?_); (case h1 => rfl)) | ((with_reducible refine' i_evD ?h1 ?h2 ?_); (case h1 => rfl); (case h2 => (intro l e; cases e; done)))
  | ((with_reducible refine' i_rngD ?h1 ?h2 ?_); (case h1 => (first | decide | omega)); (case h2 => (first | decide | omega))) | ((with_reducible refine' i_rngD2 ?h1 ?_); (case h1 => (first | decide | omega)))
  | ((with_reducible refine' i_lrgD ?h1 ?_); (case h1 => (apply RgOk.of_le <;> omega))) | ((with_reducible refine' i_enumE ?h1 ?_); (case h1 => rfl))
  | ((with_reducible refine' i_putD ?h1 ?h2 ?_); (case h1 => rfl); (case h2 => rfl)) | ((with_reducible refine' i_asgD ?h1 ?_); (case h1 => rfl))
  | ((with_reducible refine' i_mul ?h1 ?_); (case h1 => (first | exact .inr (by decide) | exact .inl (by decide)))) | ((with_reducible refine' i_mod ?h1 ?_); (case h1 => (first | decide | omega)))
  | ((with_reducible refine' i_fdiv ?h1 ?_); (case h1 => (first | exact ⟨by decide, by decide⟩ | exact ⟨by omega, by omega⟩))) | ((with_reducible refine' i_pow ?h1 ?_); (case h1 => exact pow_ok (by decide)))
  | ((with_reducible refine' i_ifT ?h1 ?_); (case h1 => (first | rfl | assumption | (simp [isA]; done)))) | ((with_reducible refine' i_ifF ?h1 ?_); (case h1 => (first | rfl | assumption | (simp [isA]; done))))
  | ((with_reducible refine' i_pop ?h1 ?h2 ?_); (case h1 => rfl); (case h2 => rfl))
  | ((with_reducible refine' i_isD ?h1 ?_); (case h1 => assumption))
  | ((with_reducible refine' i_append ?h1 ?h2 ?_); (case h1 => rfl); (case h2 => (first | (simp [sizeLine_eq]; done) | (apply lt_line; omega)))))
local macro_rules | `(tactic| walk_at "w") => `(tactic| repeat' (first | walk_at "w1" | walk_at "w2" | walk_at "w3" | fail "open"))
local macro_rules | `(tactic| walk_at "w0") => `(tactic| simp only [startS, hasOwn, List.map_cons, List.map_nil, List.length_cons, List.length_nil, List.cons_append, List.nil_append, List.replicate, Nat.reduceAdd, Nat.reduceSub, Nat.zero_add])



def goodD (n : Nat) (F : List Nat) : List D := (List.range n).map fun k => .bool (decide (k ∈ F))
theorem goodD_len (n : Nat) (F : List Nat) : (goodD n F).length = n := by simp [goodD]
theorem goodD_at {n : Nat} {F : List Nat} {k : Nat} (h : k < n) : atI (goodD n F) (k : Nat) = some (.bool (decide (k ∈ F))) := by
  refine atI_nat ?_
  simp [goodD, h]
theorem goodD_set {n : Nat} {F : List Nat} {k : Nat} : (goodD n F).set k (.bool true) = goodD n (F ++ [k]) := by
  refine List.ext_getElem? fun j => ?_
  rw [List.getElem?_set]
  unfold goodD
  rw [List.getElem?_map, List.getElem?_map, List.length_map, List.length_range]
  by_cases hj : k = j
  · subst hj
    rw [if_pos rfl]
    by_cases hk : k < n
    · simp [hk]
    · simp [hk]
  · rw [if_neg hj]
    by_cases hk : j < n
    · have hj2 : ¬ j = k := fun e => hj e.symm
      simp [hk, hj2]
    · simp [hk]
theorem goodD_mem {n : Nat} {F : List Nat} {k : Nat} (h : k ∈ F) : goodD n (F ++ [k]) = goodD n F := by
  unfold goodD
  refine List.map_congr_left fun j _ => ?_
  have : (j ∈ F ++ [k]) ↔ j ∈ F := by
    rw [List.mem_append, List.mem_singleton]
    exact ⟨fun h2 => h2.elim id fun e => e ▸ h, .inl⟩
  rw [decide_eq_decide.mpr this]
theorem ixN_lt' {n k : Nat} (h : k < n) : ixN n (k : Nat) = some k := by
  unfold ixN
  rw [if_pos (by omega), if_pos (by omega), Int.toNat_natCast]
def opD (x : D) : Bool := match x with
  | .tuple [.str h, _] => decide (h = ("open" : Str))
  | _ => false
theorem opD_row (r : Rw) : opD (rowD r) = r.1 := by
  unfold rowD opD
  cases r.1 with
  | true => simp
  | false => simp [open_ne]
theorem good_opens (s : Sg) : (s.map rowD).map (fun x => PyData.bool (opD x)) = goodD s.length (opens s) := by
  refine List.ext_getElem? fun j => ?_
  unfold goodD
  rw [List.map_map, List.getElem?_map, List.getElem?_map]
  by_cases hj : j < s.length
  · rw [List.getElem?_eq_getElem hj, List.getElem?_range hj]
    simp only [Option.map_some, Function.comp, opD_row]
    congr 2
    rw [Bool.eq_iff_iff, decide_eq_true_eq, mem_opens]
    constructor
    · intro h
      exact ⟨_, List.getElem?_eq_getElem hj, h⟩
    · rintro ⟨r, e, h⟩
      rw [List.getElem?_eq_getElem hj] at e
      cases e
      exact h
  · simp [hj]
def goodP (F : List Nat) (x : D) : Bool := match x with
  | .int k => decide (k.toNat ∈ F)
  | _ => false
def hvZ (s : Sg) (F : List Nat) (t : SS) : SS := [some (.val (sigD s)), some (.own none (goodD s.length F))] ++ t
theorem v_law_all_have_values : ∀ as R, p_law_all_have_values as R → w_law_all_have_values (retEn (hasOwn as) R) (startS 8 as) := by
  rintro as R ⟨s, rfl, hs, q⟩
  unfold w_law_all_have_values
  have hs3 := hs.2.1
  walk_at "w0"
  unfold sigD
  walk_at "w"
  refine lcL_map (fun x => .bool (opD x)) (by rw [List.length_map]; exact le_line (by omega)) (fun x hx N hN => ?_) ?_
  · obtain ⟨r, hr, rfl⟩ := List.mem_map.mp hx
    refine ⟨_, rfl, ?_⟩
    unfold rowD
    walk_at "w"
    exact hN _ rfl
  rw [good_opens]
  walk_at "w"
  refine forR_inv (P := fun i z => ∃ F, z = hvZ s F [none, none, none, none, none, none] ∧ FI s F ∧ ((∀ k, can s F k → k ∈ F) ∨ i ≤ F.length)) (fun i z hi p N hN => ?_) (fun z p => ?_) ⟨opens s, rfl, ⟨opens_nodup s, fun k hk => ?_, fun k hk => hk⟩, .inr (Nat.zero_le _)⟩
  · obtain ⟨F, rfl, hF, hc⟩ := p
    refine ⟨_, rfl, ?_⟩
    unfold hvZ sigD
    walk_at "w"
    rw [List.length_map]
    walk_at "w"
    refine forR_inv (P := fun j z => ∃ F', z = hvZ s F' [some (.val (.int (0 + (i : Nat)))), none, none, none, none, none] ∧ FI s F' ∧ (∀ k, k ∈ F → k ∈ F') ∧ ((F' = F ∧ ∀ k, k < j → can s F k → k ∈ F) ∨ F.length < F'.length)) (fun j z hj p N2 hN2 => ?_) (fun z p => ?_) ⟨F, rfl, hF, fun _ h => h, .inl ⟨rfl, fun k hk => absurd hk (by omega)⟩⟩
    · obtain ⟨F', rfl, hF', hsub, hc'⟩ := p
      rw [Int.zero_add] at hj ⊢
      refine ⟨_, rfl, ?_⟩
      have hjs : j < s.length := by omega
      obtain ⟨r, hr⟩ : ∃ r, s[j]? = some r := ⟨_, List.getElem?_eq_getElem hjs⟩
      have hwr := hs.2.2 r (List.mem_of_getElem? hr)
      unfold hvZ sigD
      walk_at "w"
      refine i_ix rfl (d := rowD r) (atI_nat (by rw [List.getElem?_map, hr]; rfl)) ?_
      unfold rowD
      walk_at "w"
      refine forL_inv (P := fun t z => ∃ G, z = hvZ s G [some (.val (.int (0 + (i : Nat)))), some (.val (.int (j : Nat))), none, none, none, none] ∧ FI s G ∧ (∀ k, k ∈ F → k ∈ G) ∧ ((G = F ∧ (∀ k, k < j → can s F k → k ∈ F) ∧ ∀ u c, u < t → r.2[u]? = some c → (∀ p ∈ c.2, p ∈ F) → j ∈ F) ∨ F.length < G.length)) (fun t x z hx p N3 hN3 => ?_) (fun z p => ?_) ⟨F', rfl, hF', hsub, ?_⟩
      · obtain ⟨G, rfl, hG, hsubG, hcG⟩ := p
        rw [List.getElem?_map] at hx
        obtain ⟨c, hcx, rfl⟩ := Option.map_eq_some_iff.mp hx
        have hwc := hwr.2 c (List.mem_of_getElem? hcx)
        unfold consD
        refine ⟨_, rfl, ?_⟩
        unfold hvZ sigD
        walk_at "w"
        refine lcL_map (fun x => .bool (goodP G x)) (by rw [nsD, List.length_map]; exact le_line (by have := hwc.2.1; omega)) (fun y hy N4 hN4 => ?_) ?_
        · obtain ⟨n, hn, rfl⟩ := List.mem_map.mp hy
          refine ⟨_, rfl, ?_⟩
          walk_at "w"
          refine i_ix rfl (goodD_at (hwc.2.2 n hn)) ?_
          walk_at "w"
          exact hN4 _ rfl
        walk_at "w"
        have eall : ((nsD c.2).all (goodP G)) = true ↔ ∀ p ∈ c.2, p ∈ G := by
          rw [nsD, List.all_map, List.all_eq_true]
          constructor
          · intro h p hp
            have := h p hp
            simpa [goodP] using this
          · intro h p hp
            simpa [goodP] using h p hp
        refine i_ifB (fun hb => ?_) (fun hb => ?_)
        · have hp := eall.mp hb
          walk_at "w"
          refine i_putD rfl (ixN_lt' (by rw [goodD_len]; exact hjs)) ?_
          by_cases hm : j ∈ G
          · refine hN3 _ ⟨G, ?_, hG, hsubG, ?_⟩
            · rw [goodD_set, goodD_mem hm]
              rfl
            · rcases hcG with ⟨rfl, h1, h2⟩ | h
              · exact .inl ⟨rfl, h1, fun u c' hu _ _ => hm⟩
              · exact .inr h
          · refine hN3 _ ⟨G ++ [j], ?_, hG.add hm ⟨r, hr, c, List.mem_of_getElem? hcx, hp⟩, fun k hk => List.mem_append_left _ (hsubG k hk), .inr ?_⟩
            · rw [goodD_set]
              rfl
            · rw [List.length_append, List.length_singleton]
              rcases hcG with ⟨rfl, _⟩ | h
              · omega
              · omega
        · walk_at "w"
          refine hN3 _ ⟨G, rfl, hG, hsubG, ?_⟩
          rcases hcG with ⟨rfl, h1, h2⟩ | h
          · refine .inl ⟨rfl, h1, fun u c' hu hc' hp => ?_⟩
            by_cases e : u = t
            · subst e
              rw [hcx] at hc'
              cases hc'
              rw [eall.mpr hp] at hb
              cases hb
            · exact h2 u c' (by omega) hc' hp
          · exact .inr h
      · obtain ⟨G, rfl, hG, hsubG, hcG⟩ := p
        refine hN2 _ ⟨G, rfl, hG, hsubG, ?_⟩
        rcases hcG with ⟨rfl, h1, h2⟩ | h
        · refine .inl ⟨rfl, fun k hk hcan => ?_⟩
          by_cases e : k = j
          · subst e
            obtain ⟨r2, e2, c, hc1, hp⟩ := hcan
            rw [hr] at e2
            cases e2
            obtain ⟨u, hu⟩ := List.mem_iff_getElem?.mp hc1
            exact h2 u c (by rw [List.length_map]; exact lt_of_get hu) hu hp
          · exact h1 k (by omega) hcan
        · exact .inr h
      · rcases hc' with ⟨rfl, h1⟩ | h
        · exact .inl ⟨rfl, h1, fun u c hu => absurd hu (by omega)⟩
        · exact .inr h
    · obtain ⟨F', rfl, hF', hsub, hc'⟩ := p
      refine hN _ ⟨F', rfl, hF', ?_⟩
      rcases hc' with ⟨rfl, h⟩ | h
      · refine .inl fun k hk => ?_
        obtain ⟨r, hr, _⟩ := id hk
        exact h k (by have := lt_of_get hr; omega) hk
      · rcases hc with hc | hc
        · refine .inl fun k hk => ?_
          obtain ⟨r, hr, c, hc1, hp⟩ := hk
          exact hsub k (hc k ⟨r, hr, c, hc1, fun p h => (hF.all hc p).mpr (hF'.fl p (hp p h))⟩)
        · exact .inr (by omega)
  · obtain ⟨F, rfl, hF, hc⟩ := p
    have hF3 := hF.len
    have cl : ∀ k, can s F k → k ∈ F := by
      rcases hc with hc | hc
      · exact hc
      · have : (4 : Int).toNat = 4 := rfl
        exact absurd hc (by omega)
    have ha := hF.all cl
    unfold hvZ sigD
    walk_at "w"
    refine i_all (bs := (List.range s.length).map fun k => decide (k ∈ F)) (by rw [List.map_map]; rfl) ?_
    walk_at "w"
    refine q _ ?_
    rw [List.all_map, List.all_eq_true]
    constructor
    · intro h k hk
      exact ((ha k).mp (of_decide_eq_true (h k (List.mem_range.mpr hk)))).2
    · intro h k hk
      exact decide_eq_true ((ha k).mpr ⟨List.mem_range.mp hk, h k (List.mem_range.mp hk)⟩)
  · obtain ⟨r, hr, ho⟩ := mem_opens.mp hk
    exact ⟨lt_of_get hr, .op hr ho⟩
end L3
/-! A loose signature: formed well, with or without values. -/
namespace L3
open PySem PySem.Spec PyProof.Rows L2 PySem.SeqAt
def p_law_loose_signature : FS := fun as R => ∃ l, as = [.own l] ∧ isStrm l ∧ ∀ s l', Wf s → (namesOf s).Nodup → isStrm l' → R (.d (sigD s)) (some l')
theorem m_law_loose_signature : MonoF p_law_loose_signature := fun as R R' h ⟨a, b, c, k⟩ => ⟨a, b, c, fun x y u v w => h _ _ (k x y u v w)⟩
theorem l_law_loose_signature : ∀ as R, p_law_loose_signature as R → as.length = 1 := fun as R ⟨a, e, _⟩ => by rw [e]; rfl
/-- 0 stream, 1 many, 2 counts, 3 names, 4 found, 5 kind, 6 rows, 7 place, 8 parts, 9 turn -/
def w_law_loose_signature : WS :=
(wSeq (wSet 1 (wBin sAdd (wC (.int 1)) (wFrz (wCall p_law_next (wCons (wVar 0) (wCons (wC (.int 3)) wNil))))))
 (wSeq (wLcSet 2 (wLc (wRng1 (wCons (wVar 1) wNil)) (gNm 5) [5] wYes (wFrz (wCall p_law_next (wCons (wVar 0) (wCons (wC (.int 5)) wNil))))))
 (wSeq (wSetO 3 (wCall p_law_names (wCons (wVar 0) (wCons (wFrz (wCB (f1 sSum) (wCons (wVar 2) wNil))) (wCons (wC (.int 2)) wNil)))))
 (wSeq (wSet 4 (wTup wNil))
 (wSeq (wFor (wRng1 (wCons (wVar 1) wNil)) (gNm 5)
 (wKill [5, 6, 7, 8] (wSeq (wSet 6 (wTup wNil))
 (wSeq (wFor (wRng1 (wCons (wBin sIx (wVar 2) (wVar 5)) wNil)) (gNm 7)
 (wKill [7, 8] (wSeq (wSet 8 (wFrz (wCB (f1 sTupOf) (wCons (wFrz (wLc (wRng1 (wCons (wFrz (wCall p_law_next (wCons (wVar 0) (wCons (wC (.int 3)) wNil)))) wNil)) (gNm 9) [9] wYes (wFrz (wCall p_law_next (wCons (wVar 0) (wCons (wVar 1) wNil)))))) wNil))))
 (wSet 6 (wBin sAdd (wVar 6) (wTup (wCons (wTup (wCons (wFrz (wBM0 "list" mPop (wVar 3))) (wCons (wVar 8) wNil))) wNil)))))))
 (wSet 4 (wBin sAdd (wVar 4) (wTup (wCons (wTup (wCons (wBin sIx (wTup (wCons (wC (.str "open")) (wCons (wC (.str "closed")) (wCons (wC (.str "closed")) wNil)))) (wFrz (wCall p_law_next (wCons (wVar 0) (wCons (wC (.int 3)) wNil))))) (wCons (wVar 6) wNil))) wNil))))))))
 (wRet (wVar 4)))))))
local macro_rules | `(tactic| walk_at "w1") => `(tactic| first
  | (with_reducible refine' i_seq ?_) | (with_reducible refine' i_set ?_) | (with_reducible refine' i_ifS ?_) | (with_reducible refine' i_ret ?_) | (with_reducible refine' i_next ?_) | (with_reducible refine' i_kill ?_)
  | (with_reducible refine' i_setO ?_) | (with_reducible refine' i_lcSet ?_) | (with_reducible refine' i_asg ?_) | (with_reducible refine' i_put ?_) | (with_reducible refine' i_drop ?_) | (with_reducible refine' i_retR ?_)
  | ((with_reducible refine' i_retO ?h1 ?_); (case h1 => rfl)) | (with_reducible refine' i_for ?_)
  | (with_reducible refine' i_test ?_) | (with_reducible refine' i_tnot ?_) | (with_reducible refine' i_tand ?_) | (with_reducible refine' i_tor ?_) | (with_reducible refine' i_yes ?_)
  | ((with_reducible refine' i_var ?h1 ?_); (case h1 => rfl)) | ((with_reducible refine' i_varO ?h1 ?_); (case h1 => rfl)) | (with_reducible refine' i_c ?_) | (with_reducible refine' i_dct ?_) | (with_reducible refine' i_frz ?_) | (with_reducible refine' i_bin ?_) | (with_reducible refine' i_binR ?_)
  | (with_reducible refine' i_cb ?_) | (with_reducible refine' i_nil ?_) | (with_reducible refine' i_cons ?_) | (with_reducible refine' i_tup ?_) | (with_reducible refine' i_lst ?_) | (with_reducible refine' i_neg ?_) | (with_reducible refine' i_isa ?_)
  | (with_reducible refine' i_andV ?_) | (with_reducible refine' i_orV ?_) | (with_reducible refine' i_notV ?_) | (with_reducible refine' i_if ?_) | (with_reducible refine' i_chain ?_) | (with_reducible refine' i_sl ?_) | (with_reducible refine' i_noPart ?_) | (with_reducible refine' i_part ?_)
  | (with_reducible refine' i_bm ?_) | (with_reducible refine' i_bm0 ?_) | (with_reducible refine' i_lrg ?_) | (with_reducible refine' i_call ?_) | (with_reducible refine' i_src ?_) | (with_reducible refine' i_rng1 ?_) | (with_reducible refine' i_rng2 ?_) | (with_reducible refine' i_enum ?_)
  | (with_reducible refine' i_lc ?_) | (with_reducible refine' i_lc2 ?_))
local macro_rules | `(tactic| walk_at "w2") => `(tactic| first
  | (with_reducible refine' i_allM ?_) | (with_reducible refine' i_anyM ?_)
  | (with_reducible refine' i_exD ?_) | (with_reducible refine' i_exB ?_) | (with_reducible refine' i_exRB ?_) | (with_reducible refine' i_exI ?_) | (with_reducible refine' i_exN ?_)
  | (with_reducible refine' i_addI ?_) | (with_reducible refine' i_sub ?_) | (with_reducible refine' i_lt ?_) | (with_reducible refine' i_le ?_) | (with_reducible refine' i_gt ?_) | (with_reducible refine' i_ge ?_)
  | (with_reducible refine' i_eqI ?_) | (with_reducible refine' i_neI ?_) | (with_reducible refine' i_eqB ?_) | (with_reducible refine' i_neB ?_) | (with_reducible refine' i_eqS ?_) | (with_reducible refine' i_neS ?_)
  | (with_reducible refine' i_isB ?_) | ((with_reducible refine' i_isN ?h1 ?_); (case h1 => rfl)) | ((with_reducible refine' i_notN ?h1 ?_); (case h1 => rfl))
  | (with_reducible refine' i_f1 ?_) | (with_reducible refine' i_f2 ?_) | ((with_reducible refine' i_len ?h1 ?_); (case h1 => rfl)) | (with_reducible refine' i_abs ?_) | (with_reducible refine' i_int ?_) | (with_reducible refine' i_max ?_) | (with_reducible refine' i_min ?_)
  | (with_reducible refine' i_listScr ?_) | ((with_reducible refine' i_list ?h1 ?_); (case h1 => rfl)) | ((with_reducible refine' i_tuple ?h1 ?_); (case h1 => rfl))
  | ((with_reducible refine' i_tyL ?h1 ?_); (case h1 => rfl)) | (with_reducible refine' i_tyS ?_)
  | (with_reducible refine' i_slT ?_) | ((with_reducible refine' i_slL ?h1 ?_); (case h1 => rfl)))
local macro_rules | `(tactic| walk_at "w3") => `(tactic| first
  | ((with_reducible refine' i_ix ?h1 ?h2 ?_); (case h1 => rfl); (case h2 => rfl)) | ((with_reducible refine' i_allD ?h1 ?h2 ?_); (case h1 => rfl); (case h2 => (simp [sizeLine_eq]; done)))
  | ((with_reducible refine' i_args ?h1 ?_); (case h1 => rfl)) | ((with_reducible refine' i_out ?h1 ?_); (case h1 => rfl)) | ((with_reducible refine' i_rt ?h1 ?_); (case h1 => rfl))
  | ((with_reducible refine' i_srcOf ?h1 ?_); (case h1 => rfl)) | ((with_reducible refine' i_evD ?h1 ?h2 ?_); (case h1 => rfl); (case h2 => (intro l e; cases e; done)))
  | ((with_reducible refine' i_rngD ?h1 ?h2 ?_); (case h1 => (first | decide | omega)); (case h2 => (first | decide | omega))) | ((with_reducible refine' i_rngD2 ?h1 ?_); (case h1 => (first | decide | omega)))
  | ((with_reducible refine' i_lrgD ?h1 ?_); (case h1 => (apply RgOk.of_le <;> omega))) | ((with_reducible refine' i_enumE ?h1 ?_); (case h1 => rfl))
  | ((with_reducible refine' i_putD ?h1 ?h2 ?_); (case h1 => rfl); (case h2 => rfl)) | ((with_reducible refine' i_asgD ?h1 ?_); (case h1 => rfl))
  | ((with_reducible refine' i_mul ?h1 ?_); (case h1 => (first | exact .inr (by decide) | exact .inl (by decide)))) | ((with_reducible refine' i_mod ?h1 ?_); (case h1 => (first | decide | omega)))
  | ((with_reducible refine' i_fdiv ?h1 ?_); (case h1 => (first | exact ⟨by decide, by decide⟩ | exact ⟨by omega, by omega⟩))) | ((with_reducible refine' i_pow ?h1 ?_); (case h1 => exact pow_ok (by decide)))
  | ((with_reducible refine' i_ifT ?h1 ?_); (case h1 => (first | rfl | assumption | (simp [isA]; done)))) | ((with_reducible refine' i_ifF ?h1 ?_); (case h1 => (first | rfl | assumption | (simp [isA]; done))))
  | ((with_reducible refine' i_pop ?h1 ?h2 ?_); (case h1 => rfl); (case h2 => rfl))
  | ((with_reducible refine' i_isD ?h1 ?_); (case h1 => assumption))
  | ((with_reducible refine' i_append ?h1 ?h2 ?_); (case h1 => rfl); (case h2 => (first | (simp [sizeLine_eq]; done) | (apply lt_line; omega)))))
local macro_rules | `(tactic| walk_at "w") => `(tactic| repeat' (first | walk_at "w1" | walk_at "w2" | walk_at "w3" | fail "open"))
local macro_rules | `(tactic| walk_at "w0") => `(tactic| simp only [startS, hasOwn, List.map_cons, List.map_nil, List.length_cons, List.length_nil, List.cons_append, List.nil_append, List.replicate, Nat.reduceAdd, Nat.reduceSub, Nat.zero_add])



theorem sumL {n : Nat} : ∀ {l : List Nat}, (∀ c ∈ l, c ≤ n) → l.sum ≤ n * l.length
  | [], _ => Nat.zero_le _
  | c :: l, h => by
    have := sumL (l := l) fun x hx => h x (by simp [hx])
    have := h c (by simp)
    rw [List.sum_cons, List.length_cons, Nat.mul_succ]
    omega
theorem sumI : ∀ l : List Nat, (l.map fun n => ((n : Nat) : Int)).sum = ((l.sum : Nat) : Int)
  | [] => rfl
  | c :: l => by
    rw [List.map_cons, List.sum_cons, sumI l, List.sum_cons]
    omega
theorem ns_at' {l : List Nat} {k : Nat} {c : Nat} (h : l[k]? = some c) : atI (nsD l) (k : Nat) = some (.int (c : Nat)) :=
  atI_nat (by rw [nsD, List.getElem?_map, h]; rfl)
theorem open3 {d : Int} (h0 : 0 ≤ d) (h1 : d < 3) : ∃ o : Bool, atI [PyData.str "open", .str "closed", .str "closed"] d = some (.str (if o then "open" else "closed")) := by
  have : d = 0 ∨ d = 1 ∨ d = 2 := by omega
  rcases this with rfl | rfl | rfl
  · exact ⟨true, rfl⟩
  · exact ⟨false, rfl⟩
  · exact ⟨false, rfl⟩
theorem names_one (s : Sg) (r : Rw) : namesOf (s ++ [r]) = namesOf s ++ r.2.map Prod.fst := by simp [namesOf]
def zL (l' : List D) (m : Nat) (cs : List Nat) (rem : List Str) (s : Sg) (t : SS) : SS :=
  [some (.own (some 0) l'), some (.val (.int (m : Nat))), some (.val (.list (nsD cs))), some (.own none (txs rem)), some (.val (.tuple (s.map rowD)))] ++ t
theorem v_law_loose_signature : ∀ as R, p_law_loose_signature as R → w_law_loose_signature (retEn (hasOwn as) R) (startS 10 as) := by
  rintro as R ⟨l, rfl, hs, q⟩
  unfold w_law_loose_signature
  walk_at "w0"
  walk_at "w"
  refine ⟨l, _, rfl, hs, by decide, by decide, fun d l1 hs1 hd0 hd1 => ?_⟩
  walk_at "w"
  obtain ⟨m, hm⟩ := Int.eq_ofNat_of_zero_le (show 0 ≤ 1 + d by omega)
  rw [hm]
  have hm1 : 1 ≤ m := by omega
  have hm3 : m ≤ 3 := by omega
  clear hd0 hd1 hm
  refine lcL_inv (P := fun i acc z => ∃ cs : List Nat, cs.length = i ∧ acc = nsD cs ∧ (∀ c ∈ cs, c ≤ 4) ∧ ∃ l', isStrm l' ∧ z = [some (.own (some 0) l'), some (.val (.int (m : Nat))), none, none, none, none, none, none, none, none]) (fun i x acc z hx p N hN => ?_) (fun acc z p => ?_) ⟨[], rfl, rfl, by simp, l1, hs1, rfl⟩
  · obtain ⟨cs, hcs, rfl, h4, l2, hs2, rfl⟩ := p
    refine ⟨_, rfl, ?_⟩
    have := lt_of_get hx
    rw [rangeD_len] at this
    walk_at "w"
    refine ⟨l2, _, rfl, hs2, by decide, by decide, fun d2 l3 hs3 h20 h21 => ?_⟩
    obtain ⟨c, rfl⟩ := Int.eq_ofNat_of_zero_le h20
    walk_at "w"
    refine ⟨lt_line (by rw [nsD, List.length_map]; omega), ?_⟩
    exact hN _ _ ⟨cs ++ [c], by rw [List.length_append, hcs]; rfl, (nsD_app cs c).symm, fun x hx => by
      rcases List.mem_append.mp hx with hx | hx
      · exact h4 x hx
      · rw [List.mem_singleton] at hx
        rw [hx]
        omega, l3, hs3, rfl⟩
  obtain ⟨cs, hcs, rfl, h4, l2, hs2, rfl⟩ := p
  rw [rangeD_len, show ((m : Nat) - 0 : Int).toNat = m from by omega] at hcs
  walk_at "w"
  refine i_sum (ns := cs.map fun n => ((n : Nat) : Int)) (by rw [List.map_map]; rfl) ?_
  rw [sumI]
  have hsum : cs.sum ≤ 12 := by
    have := sumL h4
    omega
  walk_at "w"
  refine ⟨l2, cs.sum, rfl, hs2, by omega, fun ns l3 nd hnl hnn hs3 => ?_⟩
  walk_at "w"
  refine forR_inv (P := fun k z => ∃ s rem l', isStrm l' ∧ s.length = k ∧ (∀ r ∈ s, wfRow m r) ∧ (namesOf s ++ rem).Nodup ∧ (∀ n ∈ rem, isName (.str n) = true) ∧ rem.length = (cs.drop k).sum ∧ z = zL l' m cs rem s [none, none, none, none, none]) (fun k z hk p N hN => ?_) (fun z p => ?_) ⟨[], ns, l3, hs3, rfl, by simp, nd, hnn, hnl, rfl⟩
  · obtain ⟨s, rem, l4, hs4, hsl, hw, hnd, hrn, hrl, rfl⟩ := p
    rw [Int.zero_add] at hk ⊢
    obtain ⟨c, hc⟩ : ∃ c, cs[k]? = some c := ⟨_, List.getElem?_eq_getElem (by omega)⟩
    have hc4 := h4 c (List.mem_of_getElem? hc)
    have hkl := lt_of_get hc
    rw [List.drop_eq_getElem_cons hkl, List.sum_cons, show cs[k] = c from Option.some.inj ((List.getElem?_eq_getElem hkl).symm.trans hc)] at hrl
    refine ⟨_, rfl, ?_⟩
    unfold zL
    walk_at "w"
    refine i_ix rfl (ns_at' hc) ?_
    walk_at "w"
    refine forR_inv (P := fun j z => ∃ rows rem l', isStrm l' ∧ rows.length = j ∧ (∀ c ∈ rows, wfCons m c) ∧ (namesOf s ++ rows.map Prod.fst ++ rem).Nodup ∧ (∀ n ∈ rem, isName (.str n) = true) ∧ rem.length + j = c + (cs.drop (k + 1)).sum ∧
      z = zL l' m cs rem s [some (.val (.int (k : Nat))), some (.val (.tuple (rows.map consD))), none, none, none]) (fun j z hj p N2 hN2 => ?_) (fun z p => ?_) ⟨[], rem, l4, hs4, rfl, by simp, by simpa using hnd, hrn, by omega, rfl⟩
    · obtain ⟨rows, rem2, l5, hs5, hrwl, hw2, hnd2, hrn2, hrl2, rfl⟩ := p
      rw [Int.zero_add] at hj ⊢
      refine ⟨_, rfl, ?_⟩
      unfold zL
      walk_at "w"
      refine ⟨l5, _, rfl, hs5, by decide, by decide, fun d5 l6 hs6 h50 h51 => ?_⟩
      walk_at "w"
      refine lcL_inv (P := fun i acc z => ∃ ps : List Nat, ps.length = i ∧ acc = nsD ps ∧ (∀ p ∈ ps, p < m) ∧ ∃ l', isStrm l' ∧ z = zL l' m cs rem2 s [some (.val (.int (k : Nat))), some (.val (.tuple (rows.map consD))), some (.val (.int (j : Nat))), none, none]) (fun i x acc z hx p N3 hN3 => ?_) (fun acc z p => ?_) ⟨[], rfl, rfl, by simp, l6, hs6, rfl⟩
      · obtain ⟨ps, hps, rfl, hpm, l7, hs7, rfl⟩ := p
        refine ⟨_, rfl, ?_⟩
        have := lt_of_get hx
        rw [rangeD_len] at this
        unfold zL
        walk_at "w"
        refine ⟨l7, _, rfl, hs7, by omega, by omega, fun d7 l8 hs8 h70 h71 => ?_⟩
        obtain ⟨p, rfl⟩ := Int.eq_ofNat_of_zero_le h70
        walk_at "w"
        refine ⟨lt_line (by rw [nsD, List.length_map]; omega), ?_⟩
        exact hN3 _ _ ⟨ps ++ [p], by rw [List.length_append, hps]; rfl, (nsD_app ps p).symm, fun x hx => by
          rcases List.mem_append.mp hx with hx | hx
          · exact hpm x hx
          · rw [List.mem_singleton] at hx
            rw [hx]
            omega, l8, hs8, rfl⟩
      obtain ⟨ps, hps, rfl, hpm, l7, hs7, rfl⟩ := p
      rw [rangeD_len] at hps
      have hps2 : ps.length ≤ 2 := by omega
      obtain ⟨r', x, rfl⟩ : ∃ r' x, rem2 = r' ++ [x] := by
        rcases List.eq_nil_or_concat rem2 with rfl | ⟨r', x, e⟩
        · rw [List.length_nil] at hrl2
          omega
        · exact ⟨r', x, by simpa using e⟩
      unfold zL
      walk_at "w"
      refine i_pop rfl (d := .str x) (by simp [txs]) ?_
      walk_at "w"
      refine i_addT (le_line (by rw [List.length_map]; show rows.length + 1 ≤ _; omega)) ?_
      walk_at "w"
      refine hN2 _ ⟨rows ++ [(x, ps)], r', l7, hs7, by rw [List.length_append, hrwl]; rfl, fun c hc => ?_, ?_, fun n hn => hrn2 n (List.mem_append_left _ hn), by rw [List.length_append, List.length_singleton] at hrl2; omega, ?_⟩
      · rcases List.mem_append.mp hc with hc | hc
        · exact hw2 c hc
        · rw [List.mem_singleton] at hc
          subst hc
          exact ⟨hrn2 x (by simp), hps2, hpm⟩
      · have hp : (namesOf s ++ (rows ++ [(x, ps)]).map Prod.fst ++ r').Perm (namesOf s ++ rows.map Prod.fst ++ (r' ++ [x])) := by
          refine List.perm_iff_count.mpr fun n => ?_
          simp only [List.map_append, List.map_cons, List.map_nil, List.count_append]
          omega
        rw [hp.nodup_iff]
        exact hnd2
      · have e1 : (txs (r' ++ [x])).dropLast = txs r' := by simp [txs]
        rw [zL, List.map_append, ← e1]
        rfl
    · obtain ⟨rows, rem2, l5, hs5, hrwl, hw2, hnd2, hrn2, hrl2, rfl⟩ := p
      rw [show ((c : Nat) - 0 : Int).toNat = c from by omega] at hrwl hrl2
      unfold zL
      walk_at "w"
      refine ⟨l5, _, rfl, hs5, by decide, by decide, fun d5 l6 hs6 h50 h51 => ?_⟩
      obtain ⟨o, ho⟩ := open3 h50 h51
      walk_at "w"
      refine i_ix rfl ho ?_
      walk_at "w"
      refine i_addT (le_line (by rw [List.length_map]; show s.length + 1 ≤ _; omega)) ?_
      walk_at "w"
      refine hN _ ⟨s ++ [(o, rows)], rem2, l6, hs6, by rw [List.length_append, hsl]; rfl, fun r hr => ?_, by rw [names_one]; exact hnd2, hrn2, by omega, ?_⟩
      · rcases List.mem_append.mp hr with hr | hr
        · exact hw r hr
        · rw [List.mem_singleton] at hr
          subst hr
          exact ⟨by show rows.length ≤ 4; omega, hw2⟩
      · rw [zL, List.map_append]
        rfl
  · obtain ⟨s, rem, l4, hs4, hsl, hw, hnd, hrn, hrl, rfl⟩ := p
    rw [show ((m : Nat) - 0 : Int).toNat = m from by omega] at hsl
    unfold zL
    walk_at "w"
    exact q s l4 ⟨by omega, by omega, by rw [hsl]; exact hw⟩ (List.nodup_append.mp hnd).1 hs4
end L3
/-! A rich signature; a signature. -/
namespace L3
open PySem PySem.Spec PyProof.Rows L2 PySem.SeqAt
def p_law_rich_signature : FS := pValid
theorem m_law_rich_signature : MonoF p_law_rich_signature := m_valid
theorem l_law_rich_signature : ∀ as R, p_law_rich_signature as R → as.length = 1 := l_valid
def p_law_signature : FS := pValid
theorem m_law_signature : MonoF p_law_signature := m_valid
theorem l_law_signature : ∀ as R, p_law_signature as R → as.length = 1 := l_valid
/-- 0 stream, 1 step, 2 flag, 3 other, 4 names, 5 flags, 6 steps, 7 types, 8 found -/
def w_law_rich_signature : WS :=
(wSeq (wAsg (wFrz (wCall p_law_order (wCons (wVar 0) (wCons (wC (.int 3)) wNil)))) (gTp [(gNm 1), (gNm 2), (gNm 3)]))
 (wSeq (wSet 4 (wFrz (wCall p_law_names (wCons (wVar 0) (wCons (wC (.int 11)) (wCons (wC (.int 2)) wNil))))))
 (wSeq (wSet 5 (wFrz (wSl (wFrz (wLst (wCons (wTup (wCons (wBin sIx (wVar 4) (wC (.int 3))) (wCons (wTup wNil) wNil))) (wCons (wTup (wCons (wBin sIx (wVar 4) (wC (.int 4))) (wCons (wTup wNil) wNil))) (wCons (wTup (wCons (wBin sIx (wVar 4) (wC (.int 5))) (wCons (wTup wNil) wNil))) (wCons (wTup (wCons (wBin sIx (wVar 4) (wC (.int 6))) (wCons (wTup wNil) wNil))) wNil)))))) wNoPart (wPart (wBin sAdd (wC (.int 1)) (wFrz (wCall p_law_next (wCons (wVar 0) (wCons (wC (.int 4)) wNil)))))))))
 (wSeq (wSetO 6 (wLst (wCons (wTup (wCons (wBin sIx (wVar 4) (wC (.int 0))) (wCons (wTup wNil) wNil))) (wCons (wTup (wCons (wBin sIx (wVar 4) (wC (.int 1))) (wCons (wTup (wCons (wVar 1) wNil)) wNil))) wNil))))
 (wSeq (wIfS (wTest (wBin sEq (wFrz (wCall p_law_next (wCons (wVar 0) (wCons (wC (.int 2)) wNil)))) (wC (.int 0))))
 (wDrop (wFrz (wBM "list" mAppend (wVar 6) (wCons (wTup (wCons (wBin sIx (wVar 4) (wC (.int 2))) (wCons (wFrz (wCall p_law_pick (wCons (wVar 0) (wCons (wFrz (wLst (wCons (wTup (wCons (wVar 1) (wCons (wVar 1) wNil))) (wCons (wTup (wCons (wVar 2) wNil)) (wCons (wTup (wCons (wVar 3) wNil)) (wCons (wTup (wCons (wVar 2) (wCons (wVar 1) wNil))) wNil)))))) wNil)))) wNil))) wNil))))
 wNext)
 (wSeq (wSetO 7 (wLst (wCons (wTup (wCons (wBin sIx (wVar 4) (wC (.int 7))) (wCons (wTup wNil) wNil))) (wCons (wTup (wCons (wBin sIx (wVar 4) (wC (.int 8))) (wCons (wTup (wCons (wVar 3) wNil)) wNil))) (wCons (wTup (wCons (wBin sIx (wVar 4) (wC (.int 9))) (wCons (wFrz (wCall p_law_pick (wCons (wVar 0) (wCons (wFrz (wLst (wCons (wTup (wCons (wVar 3) (wCons (wVar 3) wNil))) (wCons (wTup (wCons (wVar 2) (wCons (wVar 3) wNil))) wNil)))) wNil)))) wNil))) wNil)))))
 (wSeq (wDrop (wFrz (wBM "list" mAppend (wVar 7) (wCons (wTup (wCons (wBin sIx (wVar 4) (wC (.int 10))) (wCons (wFrz (wCall p_law_pick (wCons (wVar 0) (wCons (wFrz (wLst (wCons (wTup (wCons (wVar 1) wNil)) (wCons (wTup (wCons (wVar 2) wNil)) (wCons (wTup (wCons (wVar 1) (wCons (wVar 3) wNil))) (wCons (wTup (wCons (wVar 2) (wCons (wVar 2) wNil))) wNil)))))) wNil)))) wNil))) wNil))))
 (wSeq (wSetO 8 (wLst (wCons (wC .none) (wCons (wC .none) (wCons (wC .none) wNil)))))
 (wSeq (wPut (wTup (wCons (wC (.str "closed")) (wCons (wFrz (wCB (f1 sTupOf) (wCons (wVar 6) wNil))) wNil))) (wVar 8) (wVar 1))
 (wSeq (wPut (wTup (wCons (wC (.str "closed")) (wCons (wFrz (wCB (f1 sTupOf) (wCons (wVar 5) wNil))) wNil))) (wVar 8) (wVar 2))
 (wSeq (wPut (wTup (wCons (wC (.str "open")) (wCons (wFrz (wCB (f1 sTupOf) (wCons (wFrz (wSl (wVar 7) wNoPart (wPart (wBin sAdd (wC (.int 1)) (wFrz (wCall p_law_next (wCons (wVar 0) (wCons (wC (.int 4)) wNil)))))))) wNil))) wNil))) (wVar 8) (wVar 3))
 (wRet (wFrz (wCB (f1 sTupOf) (wCons (wVar 8) wNil)))))))))))))))
/-- 0 stream -/
def w_law_signature : WS :=
(wRet (wIf (wTest (wBin sEq (wFrz (wCall p_law_next (wCons (wVar 0) (wCons (wC (.int 2)) wNil)))) (wC (.int 0)))) (wFrz (wCall p_law_any_signature (wCons (wVar 0) wNil))) (wFrz (wCall p_law_rich_signature (wCons (wVar 0) wNil)))))
local macro_rules | `(tactic| walk_at "w1") => `(tactic| first
  | (with_reducible refine' i_seq ?_) | (with_reducible refine' i_set ?_) | (with_reducible refine' i_ifS ?_) | (with_reducible refine' i_ret ?_) | (with_reducible refine' i_next ?_) | (with_reducible refine' i_kill ?_)
  | (with_reducible refine' i_setO ?_) | (with_reducible refine' i_lcSet ?_) | (with_reducible refine' i_asg ?_) | (with_reducible refine' i_put ?_) | (with_reducible refine' i_drop ?_) | (with_reducible refine' i_retR ?_)
  | ((with_reducible refine' i_retO ?h1 ?_); (case h1 => rfl)) | (with_reducible refine' i_for ?_)
  | (with_reducible refine' i_test ?_) | (with_reducible refine' i_tnot ?_) | (with_reducible refine' i_tand ?_) | (with_reducible refine' i_tor ?_) | (with_reducible refine' i_yes ?_)
  | ((with_reducible refine' i_var ?h1 ?_); (case h1 => rfl)) | ((with_reducible refine' i_varO ?h1 ?_); (case h1 => rfl)) | (with_reducible refine' i_c ?_) | (with_reducible refine' i_dct ?_) | (with_reducible refine' i_frz ?_) | (with_reducible refine' i_bin ?_) | (with_reducible refine' i_binR ?_)
  | (with_reducible refine' i_cb ?_) | (with_reducible refine' i_nil ?_) | (with_reducible refine' i_cons ?_) | (with_reducible refine' i_tup ?_) | (with_reducible refine' i_lst ?_) | (with_reducible refine' i_neg ?_) | (with_reducible refine' i_isa ?_)
  | (with_reducible refine' i_andV ?_) | (with_reducible refine' i_orV ?_) | (with_reducible refine' i_notV ?_) | (with_reducible refine' i_if ?_) | (with_reducible refine' i_chain ?_) | (with_reducible refine' i_sl ?_) | (with_reducible refine' i_noPart ?_) | (with_reducible refine' i_part ?_)
  | (with_reducible refine' i_bm ?_) | (with_reducible refine' i_bm0 ?_) | (with_reducible refine' i_lrg ?_) | (with_reducible refine' i_call ?_) | (with_reducible refine' i_src ?_) | (with_reducible refine' i_rng1 ?_) | (with_reducible refine' i_rng2 ?_) | (with_reducible refine' i_enum ?_)
  | (with_reducible refine' i_lc ?_) | (with_reducible refine' i_lc2 ?_))
local macro_rules | `(tactic| walk_at "w2") => `(tactic| first
  | (with_reducible refine' i_allM ?_) | (with_reducible refine' i_anyM ?_)
  | (with_reducible refine' i_exD ?_) | (with_reducible refine' i_exB ?_) | (with_reducible refine' i_exRB ?_) | (with_reducible refine' i_exI ?_) | (with_reducible refine' i_exN ?_)
  | (with_reducible refine' i_addI ?_) | (with_reducible refine' i_sub ?_) | (with_reducible refine' i_lt ?_) | (with_reducible refine' i_le ?_) | (with_reducible refine' i_gt ?_) | (with_reducible refine' i_ge ?_)
  | (with_reducible refine' i_eqI ?_) | (with_reducible refine' i_neI ?_) | (with_reducible refine' i_eqB ?_) | (with_reducible refine' i_neB ?_) | (with_reducible refine' i_eqS ?_) | (with_reducible refine' i_neS ?_)
  | (with_reducible refine' i_isB ?_) | ((with_reducible refine' i_isN ?h1 ?_); (case h1 => rfl)) | ((with_reducible refine' i_notN ?h1 ?_); (case h1 => rfl))
  | (with_reducible refine' i_f1 ?_) | (with_reducible refine' i_f2 ?_) | ((with_reducible refine' i_len ?h1 ?_); (case h1 => rfl)) | (with_reducible refine' i_abs ?_) | (with_reducible refine' i_int ?_) | (with_reducible refine' i_max ?_) | (with_reducible refine' i_min ?_)
  | (with_reducible refine' i_listScr ?_) | ((with_reducible refine' i_list ?h1 ?_); (case h1 => rfl)) | ((with_reducible refine' i_tuple ?h1 ?_); (case h1 => rfl))
  | ((with_reducible refine' i_tyL ?h1 ?_); (case h1 => rfl)) | (with_reducible refine' i_tyS ?_)
  | (with_reducible refine' i_slT ?_) | ((with_reducible refine' i_slL ?h1 ?_); (case h1 => rfl)))
local macro_rules | `(tactic| walk_at "w3") => `(tactic| first
  | ((with_reducible refine' i_ix ?h1 ?h2 ?_); (case h1 => rfl); (case h2 => rfl)) | ((with_reducible refine' i_allD ?h1 ?h2 ?_); (case h1 => rfl); (case h2 => (simp [sizeLine_eq]; done)))
  | ((with_reducible refine' i_args ?h1 ?_); (case h1 => rfl)) | ((with_reducible refine' i_out ?h1 ?_); (case h1 => rfl)) | ((with_reducible refine' i_rt ?h1 ?_); (case h1 => rfl))
  | ((with_reducible refine' i_srcOf ?h1 ?_); (case h1 => rfl)) | ((with_reducible refine' i_evD ?h1 ?h2 ?_); (case h1 => rfl); (case h2 => (intro l e; cases e; done)))
  | ((with_reducible refine' i_rngD ?h1 ?h2 ?_); (case h1 => (first | decide | omega)); (case h2 => (first | decide | omega))) | ((with_reducible refine' i_rngD2 ?h1 ?_); (case h1 => (first | decide | omega)))
  | ((with_reducible refine' i_lrgD ?h1 ?_); (case h1 => (apply RgOk.of_le <;> omega))) | ((with_reducible refine' i_enumE ?h1 ?_); (case h1 => rfl))
  | ((with_reducible refine' i_putD ?h1 ?h2 ?_); (case h1 => rfl); (case h2 => rfl)) | ((with_reducible refine' i_asgD ?h1 ?_); (case h1 => rfl))
  | ((with_reducible refine' i_mul ?h1 ?_); (case h1 => (first | exact .inr (by decide) | exact .inl (by decide)))) | ((with_reducible refine' i_mod ?h1 ?_); (case h1 => (first | decide | omega)))
  | ((with_reducible refine' i_fdiv ?h1 ?_); (case h1 => (first | exact ⟨by decide, by decide⟩ | exact ⟨by omega, by omega⟩))) | ((with_reducible refine' i_pow ?h1 ?_); (case h1 => exact pow_ok (by decide)))
  | ((with_reducible refine' i_ifT ?h1 ?_); (case h1 => (first | rfl | assumption | (simp [isA]; done)))) | ((with_reducible refine' i_ifF ?h1 ?_); (case h1 => (first | rfl | assumption | (simp [isA]; done))))
  | ((with_reducible refine' i_pop ?h1 ?h2 ?_); (case h1 => rfl); (case h2 => rfl))
  | ((with_reducible refine' i_isD ?h1 ?_); (case h1 => assumption))
  | ((with_reducible refine' i_append ?h1 ?h2 ?_); (case h1 => rfl); (case h2 => (first | (simp [sizeLine_eq]; done) | (apply lt_line; omega)))))
local macro_rules | `(tactic| walk_at "w") => `(tactic| repeat' (first | walk_at "w1" | walk_at "w2" | walk_at "w3" | fail "open"))
local macro_rules | `(tactic| walk_at "w0") => `(tactic| simp only [startS, hasOwn, List.map_cons, List.map_nil, List.length_cons, List.length_nil, List.cons_append, List.nil_append, List.replicate, Nat.reduceAdd, Nat.reduceSub, Nat.zero_add])



local macro_rules | `(tactic| walk_at "n") => `(tactic| ((try dsimp only [List.set_cons_succ, List.set_cons_zero, RV.toD]); walk_at "w"))

theorem v_law_signature : ∀ as R, p_law_signature as R → w_law_signature (retEn (hasOwn as) R) (startS 1 as) := by
  rintro as R ⟨l, rfl, hs, q⟩
  unfold w_law_signature
  walk_at "w0"
  walk_at "w"
  refine ⟨l, _, rfl, hs, by decide, by decide, fun d l1 hs1 hd0 hd1 => ?_⟩
  walk_at "w"
  refine i_ifD (fun h => ?_) (fun h => ?_)
  · walk_at "w"
    refine ⟨l1, rfl, hs1, fun s l2 h1 h2 h3 hs2 => ?_⟩
    walk_at "w"
    exact q s l2 h1 h2 h3 hs2
  · walk_at "w"
    refine ⟨l1, rfl, hs1, fun s l2 h1 h2 h3 hs2 => ?_⟩
    walk_at "w"
    exact q s l2 h1 h2 h3 hs2
theorem len3 {f : List Nat} (fnd : f.Nodup) (hf : ∀ k, k ∈ f ↔ k < 3) : ∃ a b c, f = [a, b, c] ∧ a < 3 ∧ b < 3 ∧ c < 3 ∧ a ≠ b ∧ a ≠ c ∧ b ≠ c := by
  have h1 : f.length ≤ 3 := nodup_len fnd fun k hk => (hf k).mp hk
  have h2 := nodup_sub (a := List.range 3) (b := f) List.nodup_range fun k hk => (hf k).mpr (List.mem_range.mp hk)
  rw [List.length_range] at h2
  match f, (show f.length = 3 by omega) with
  | [a, b, c], _ =>
    simp only [List.nodup_cons, List.mem_cons, List.not_mem_nil, or_false, not_or] at fnd
    exact ⟨a, b, c, rfl, (hf a).mp (by simp), (hf b).mp (by simp), (hf c).mp (by simp), fnd.1.1, fnd.1.2, fnd.2.1⟩
theorem len11 {l : List Str} (h : l.length = 11) : ∃ n0 n1 n2 n3 n4 n5 n6 n7 n8 n9 n10, l = [n0, n1, n2, n3, n4, n5, n6, n7, n8, n9, n10] := by
  match l, h with
  | [n0, n1, n2, n3, n4, n5, n6, n7, n8, n9, n10], _ => exact ⟨n0, n1, n2, n3, n4, n5, n6, n7, n8, n9, n10, rfl⟩
theorem rich_fin {a b c : Nat} (ha : a < 3) (hb : b < 3) (hc : c < 3) (hab : a ≠ b) (hac : a ≠ c) (hbc : b ≠ c) (A B C : Rw) : ∃ s : Sg, ((([PyData.none, .none, .none].set a (rowD A)).set b (rowD B)).set c (rowD C)) = s.map rowD ∧ s.length = 3 ∧
    s[a]? = some A ∧ s[b]? = some B ∧ s[c]? = some C ∧ (∀ r ∈ s, r = A ∨ r = B ∨ r = C) ∧ (namesOf s).Perm (nmR A ++ nmR B ++ nmR C) := by
  have hp : ∀ X Y Z : Rw, (∀ n, (nmR X ++ nmR Y ++ nmR Z).count n = (nmR A ++ nmR B ++ nmR C).count n) → (namesOf [X, Y, Z]).Perm (nmR A ++ nmR B ++ nmR C) := fun X Y Z h => by
    refine List.perm_iff_count.mpr fun n => ?_
    rw [← h n]
    simp [namesOf, nmR, List.count_append, Nat.add_assoc]
  have : (a = 0 ∧ b = 1 ∧ c = 2) ∨ (a = 0 ∧ b = 2 ∧ c = 1) ∨ (a = 1 ∧ b = 0 ∧ c = 2) ∨ (a = 1 ∧ b = 2 ∧ c = 0) ∨ (a = 2 ∧ b = 0 ∧ c = 1) ∨ (a = 2 ∧ b = 1 ∧ c = 0) := by omega
  rcases this with ⟨rfl, rfl, rfl⟩ | ⟨rfl, rfl, rfl⟩ | ⟨rfl, rfl, rfl⟩ | ⟨rfl, rfl, rfl⟩ | ⟨rfl, rfl, rfl⟩ | ⟨rfl, rfl, rfl⟩
  · exact ⟨[A, B, C], rfl, rfl, rfl, rfl, rfl, by simp, hp _ _ _ fun n => rfl⟩
  · exact ⟨[A, C, B], rfl, rfl, rfl, rfl, rfl, by simp, hp _ _ _ fun n => by simp only [List.count_append]; omega⟩
  · exact ⟨[B, A, C], rfl, rfl, rfl, rfl, rfl, by simp, hp _ _ _ fun n => by simp only [List.count_append]; omega⟩
  · exact ⟨[C, A, B], rfl, rfl, rfl, rfl, rfl, by simp, hp _ _ _ fun n => by simp only [List.count_append]; omega⟩
  · exact ⟨[B, C, A], rfl, rfl, rfl, rfl, rfl, by simp, hp _ _ _ fun n => by simp only [List.count_append]; omega⟩
  · exact ⟨[C, B, A], rfl, rfl, rfl, rfl, rfl, by simp, hp _ _ _ fun n => by simp only [List.count_append]; omega⟩
theorem v_law_rich_signature : ∀ as R, p_law_rich_signature as R → w_law_rich_signature (retEn (hasOwn as) R) (startS 9 as) := by
  rintro as R ⟨l, rfl, hs, q⟩
  unfold w_law_rich_signature
  walk_at "w0"
  walk_at "n"
  refine ⟨l, 3, rfl, hs, by decide, fun f l1 fnd hf hs1 => ?_⟩
  obtain ⟨a, b, c, rfl, ha, hb, hc, hab, hac, hbc⟩ := len3 fnd hf
  walk_at "n"
  refine ⟨l1, 11, rfl, hs1, by decide, fun ns l2 nd hnl hnn hs2 => ?_⟩
  obtain ⟨n0, n1, n2, n3, n4, n5, n6, n7, n8, n9, n10, rfl⟩ := len11 hnl
  have fin : ∀ (sr fr tr : List Cn) (l' : List D), isStrm l' → (∀ x ∈ sr, wfCons 3 x) → (∀ x ∈ fr, wfCons 3 x) → (∀ x ∈ tr, wfCons 3 x) → sr.length ≤ 4 → fr.length ≤ 4 → tr.length ≤ 4 →
      (sr.map Prod.fst).Sublist [n0, n1, n2] → (fr.map Prod.fst).Sublist [n3, n4, n5, n6] → (tr.map Prod.fst).Sublist [n7, n8, n9, n10] → (∃ n, (n, []) ∈ sr) → (∃ n, (n, []) ∈ fr) →
      R (.d (.tuple ((([PyData.none, .none, .none].set a (rowD (false, sr))).set b (rowD (false, fr))).set c (rowD (true, tr))))) (some l') := fun sr fr tr l' hs' w1 w2 w3 g1 g2 g3 s1 s2 s3 ⟨x, e1⟩ ⟨y, e2⟩ => by
    obtain ⟨s, es, hl, sa, sb, sc, hm, hp⟩ := rich_fin ha hb hc hab hac hbc (false, sr) (false, fr) (true, tr)
    rw [es]
    refine q s l' ⟨by omega, by omega, fun r hr => ?_⟩ ?_ (fun k hk => ?_) hs'
    · rw [hl]
      rcases hm r hr with rfl | rfl | rfl
      · exact ⟨g1, w1⟩
      · exact ⟨g2, w2⟩
      · exact ⟨g3, w3⟩
    · rw [hp.nodup_iff]
      exact List.Nodup.sublist ((s1.append s2).append s3) nd
    · rw [hl] at hk
      have : k = a ∨ k = b ∨ k = c := by omega
      rcases this with rfl | rfl | rfl
      · exact .co sa e1 (by simp)
      · exact .co sb e2 (by simp)
      · exact .op sc rfl
  have nm : ∀ n ∈ [n0, n1, n2, n3, n4, n5, n6, n7, n8, n9, n10], ∀ ps : List Nat, ps.length ≤ 2 → (∀ p ∈ ps, p < 3) → wfCons 3 (n, ps) := fun n hn ps h1 h2 => ⟨hnn n hn, h1, h2⟩
  walk_at "n"
  refine ⟨l2, _, rfl, hs2, by decide, by decide, fun d3 l3 hs3 h30 h31 => ?_⟩
  walk_at "n"
  refine ⟨l3, _, rfl, hs3, by decide, by decide, fun d4 l4 hs4 h40 h41 => ?_⟩
  walk_at "n"
  refine i_ifD (fun h => ?_) (fun h => ?_)
  · walk_at "n"
    refine ⟨l4, ([[a, a], [b], [c], [b, a]] : List (List Nat)).map (fun ps => PyData.tuple (nsD ps)), rfl, hs4, by simp, by show 4 ≤ 1000; omega, fun dp4 l5 hd4 hs5 => ?_⟩
    obtain ⟨ps, hps, rfl⟩ := List.mem_map.mp hd4
    have hbps : ps.length ≤ 2 ∧ ∀ p ∈ ps, p < 3 := by
      simp only [List.mem_cons, List.not_mem_nil, or_false] at hps
      rcases hps with rfl | rfl | rfl | rfl <;> refine ⟨by simp, fun p hp => ?_⟩ <;> simp at hp <;> omega
    walk_at "n"
    refine ⟨l5, ([[c, c], [b, c]] : List (List Nat)).map (fun ps => PyData.tuple (nsD ps)), rfl, hs5, by simp, by show 2 ≤ 1000; omega, fun dp5 l6 hd5 hs6 => ?_⟩
    obtain ⟨qs, hqs, rfl⟩ := List.mem_map.mp hd5
    have hbqs : qs.length ≤ 2 ∧ ∀ p ∈ qs, p < 3 := by
      simp only [List.mem_cons, List.not_mem_nil, or_false] at hqs
      rcases hqs with rfl | rfl <;> refine ⟨by simp, fun p hp => ?_⟩ <;> simp at hp <;> omega
    walk_at "n"
    refine ⟨l6, ([[a], [b], [a, c], [b, b]] : List (List Nat)).map (fun ps => PyData.tuple (nsD ps)), rfl, hs6, by simp, by show 4 ≤ 1000; omega, fun dp6 l7 hd6 hs7 => ?_⟩
    obtain ⟨us, hus, rfl⟩ := List.mem_map.mp hd6
    have hbus : us.length ≤ 2 ∧ ∀ p ∈ us, p < 3 := by
      simp only [List.mem_cons, List.not_mem_nil, or_false] at hus
      rcases hus with rfl | rfl | rfl | rfl <;> refine ⟨by simp, fun p hp => ?_⟩ <;> simp at hp <;> omega
    walk_at "n"
    refine i_putD rfl (ixN_lt ha) ?_
    walk_at "n"
    refine i_putD rfl (ixN_lt (by rw [List.length_set]; exact hb)) ?_
    walk_at "n"
    refine ⟨l7, _, rfl, hs7, by decide, by decide, fun d9 l9 hs9 h90 h91 => ?_⟩
    walk_at "n"
    refine i_putD rfl (ixN_lt (by rw [List.length_set, List.length_set]; exact hc)) ?_
    walk_at "n"
    let fr : List Cn := [(n3, []), (n4, []), (n5, []), (n6, [])]
    let tr : List Cn := [(n7, []), (n8, [c]), (n9, qs), (n10, us)]
    have e1 : cutD (fr.map consD) none (some (1 + d3)) = (fr.take (1 + d3).toNat).map consD := by rw [cutD_to (by omega), List.map_take]
    have e2 : cutD (tr.map consD) none (some (1 + d9)) = (tr.take (1 + d9).toNat).map consD := by rw [cutD_to (by omega), List.map_take]
    have h9 := fin [(n0, []), (n1, [a]), (n2, ps)] (fr.take (1 + d3).toNat) (tr.take (1 + d9).toNat) l9 hs9 ?_ ?_ ?_ (by simp) (by rw [List.length_take]; exact Nat.min_le_right _ _) (by rw [List.length_take]; exact Nat.min_le_right _ _) ?_ ((List.take_sublist _ fr).map Prod.fst) ((List.take_sublist _ tr).map Prod.fst) ⟨n0, by simp⟩ ⟨n3, ?_⟩
    · unfold rowD at h9
      rw [← e1, ← e2] at h9
      exact h9
    · intro x hx
      simp only [List.mem_cons, List.not_mem_nil, or_false] at hx
      rcases hx with rfl | rfl | rfl
      · exact nm _ (by simp) _ (by simp) (by simp)
      · exact nm _ (by simp) _ (by simp) (by simpa using ha)
      · exact nm _ (by simp) _ hbps.1 hbps.2
    · intro x hx
      have hx := List.mem_of_mem_take hx
      simp only [fr, List.mem_cons, List.not_mem_nil, or_false] at hx
      rcases hx with rfl | rfl | rfl | rfl
      · exact nm _ (by simp) _ (by simp) (by simp)
      · exact nm _ (by simp) _ (by simp) (by simp)
      · exact nm _ (by simp) _ (by simp) (by simp)
      · exact nm _ (by simp) _ (by simp) (by simp)
    · intro x hx
      have hx := List.mem_of_mem_take hx
      simp only [tr, List.mem_cons, List.not_mem_nil, or_false] at hx
      rcases hx with rfl | rfl | rfl | rfl
      · exact nm _ (by simp) _ (by simp) (by simp)
      · exact nm _ (by simp) _ (by simp) (by simpa using hc)
      · exact nm _ (by simp) _ hbqs.1 hbqs.2
      · exact nm _ (by simp) _ hbus.1 hbus.2
    · exact List.Sublist.refl _
    · obtain ⟨m, hm⟩ : ∃ m, (1 + d3).toNat = m + 1 := ⟨d3.toNat, by omega⟩
      rw [hm]
      simp [fr]
  · walk_at "n"
    refine ⟨l4, ([[c, c], [b, c]] : List (List Nat)).map (fun ps => PyData.tuple (nsD ps)), rfl, hs4, by simp, by show 2 ≤ 1000; omega, fun dp4 l5 hd4 hs5 => ?_⟩
    obtain ⟨qs, hqs, rfl⟩ := List.mem_map.mp hd4
    have hbqs : qs.length ≤ 2 ∧ ∀ p ∈ qs, p < 3 := by
      simp only [List.mem_cons, List.not_mem_nil, or_false] at hqs
      rcases hqs with rfl | rfl <;> refine ⟨by simp, fun p hp => ?_⟩ <;> simp at hp <;> omega
    walk_at "n"
    refine ⟨l5, ([[a], [b], [a, c], [b, b]] : List (List Nat)).map (fun ps => PyData.tuple (nsD ps)), rfl, hs5, by simp, by show 4 ≤ 1000; omega, fun dp5 l6 hd5 hs6 => ?_⟩
    obtain ⟨us, hus, rfl⟩ := List.mem_map.mp hd5
    have hbus : us.length ≤ 2 ∧ ∀ p ∈ us, p < 3 := by
      simp only [List.mem_cons, List.not_mem_nil, or_false] at hus
      rcases hus with rfl | rfl | rfl | rfl <;> refine ⟨by simp, fun p hp => ?_⟩ <;> simp at hp <;> omega
    walk_at "n"
    refine i_putD rfl (ixN_lt ha) ?_
    walk_at "n"
    refine i_putD rfl (ixN_lt (by rw [List.length_set]; exact hb)) ?_
    walk_at "n"
    refine ⟨l6, _, rfl, hs6, by decide, by decide, fun d9 l9 hs9 h90 h91 => ?_⟩
    walk_at "n"
    refine i_putD rfl (ixN_lt (by rw [List.length_set, List.length_set]; exact hc)) ?_
    walk_at "n"
    let fr : List Cn := [(n3, []), (n4, []), (n5, []), (n6, [])]
    let tr : List Cn := [(n7, []), (n8, [c]), (n9, qs), (n10, us)]
    have e1 : cutD (fr.map consD) none (some (1 + d3)) = (fr.take (1 + d3).toNat).map consD := by rw [cutD_to (by omega), List.map_take]
    have e2 : cutD (tr.map consD) none (some (1 + d9)) = (tr.take (1 + d9).toNat).map consD := by rw [cutD_to (by omega), List.map_take]
    have h9 := fin [(n0, []), (n1, [a])] (fr.take (1 + d3).toNat) (tr.take (1 + d9).toNat) l9 hs9 ?_ ?_ ?_ (by simp) (by rw [List.length_take]; exact Nat.min_le_right _ _) (by rw [List.length_take]; exact Nat.min_le_right _ _) ?_ ((List.take_sublist _ fr).map Prod.fst) ((List.take_sublist _ tr).map Prod.fst) ⟨n0, by simp⟩ ⟨n3, ?_⟩
    · unfold rowD at h9
      rw [← e1, ← e2] at h9
      exact h9
    · intro x hx
      simp only [List.mem_cons, List.not_mem_nil, or_false] at hx
      rcases hx with rfl | rfl
      · exact nm _ (by simp) _ (by simp) (by simp)
      · exact nm _ (by simp) _ (by simp) (by simpa using ha)
    · intro x hx
      have hx := List.mem_of_mem_take hx
      simp only [fr, List.mem_cons, List.not_mem_nil, or_false] at hx
      rcases hx with rfl | rfl | rfl | rfl
      · exact nm _ (by simp) _ (by simp) (by simp)
      · exact nm _ (by simp) _ (by simp) (by simp)
      · exact nm _ (by simp) _ (by simp) (by simp)
      · exact nm _ (by simp) _ (by simp) (by simp)
    · intro x hx
      have hx := List.mem_of_mem_take hx
      simp only [tr, List.mem_cons, List.not_mem_nil, or_false] at hx
      rcases hx with rfl | rfl | rfl | rfl
      · exact nm _ (by simp) _ (by simp) (by simp)
      · exact nm _ (by simp) _ (by simp) (by simpa using hc)
      · exact nm _ (by simp) _ hbqs.1 hbqs.2
      · exact nm _ (by simp) _ hbus.1 hbus.2
    · exact List.take_sublist 2 [n0, n1, n2]
    · obtain ⟨m, hm⟩ : ∃ m, (1 + d3).toNat = m + 1 := ⟨d3.toNat, by omega⟩
      rw [hm]
      simp [fr]
end L3
/-! What spoils a signature: the pieces. -/
namespace L3
open PySem PySem.Spec PyProof.Rows L2 PySem.SeqAt
def p_law_fresh : FS := fun as R => ∃ s, as = [.val (sigD s)] ∧ Wf s ∧ ∀ fs : List Str, 5 ≤ fs.length → (∀ x ∈ fs, x.length ≤ 1000) → R (.n (txs fs)) none
theorem m_law_fresh : MonoF p_law_fresh := fun as R R' h ⟨s, e, a, k⟩ => ⟨s, e, a, fun b x y => h _ _ (k b x y)⟩
theorem l_law_fresh : ∀ as R, p_law_fresh as R → as.length = 1 := fun as R ⟨v, e, _⟩ => by rw [e]; rfl
def p_law_with_kind : FS := fun as R => ∃ s : Sg, ∃ k : Nat, ∃ x, as = [.val (sigD s), .val (.int (k : Nat)), .val x] ∧ s.length ≤ 3 ∧ R (.d (.tuple ((s.map rowD).take k ++ [x] ++ (s.map rowD).drop (k + 1)))) none
theorem m_law_with_kind : MonoF p_law_with_kind := fun as R R' h ⟨s, k, x, e, a, q⟩ => ⟨s, k, x, e, a, h _ _ q⟩
theorem l_law_with_kind : ∀ as R, p_law_with_kind as R → as.length = 3 := fun as R ⟨v, k, x, e, _⟩ => by rw [e]; rfl
def p_law_put_in : FS := fun as R => ∃ l rows x, as = [.own l, .val (.tuple rows), .val x] ∧ isStrm l ∧ rows.length ≤ 10 ∧ ∀ i l', isStrm l' → R (.d (.tuple (rows.take i ++ [x] ++ rows.drop i))) (some l')
theorem m_law_put_in : MonoF p_law_put_in := fun as R R' h ⟨s, k, x, e, a, b, q⟩ => ⟨s, k, x, e, a, b, fun i l' y => h _ _ (q i l' y)⟩
theorem l_law_put_in : ∀ as R, p_law_put_in as R → as.length = 3 := fun as R ⟨v, k, x, e, _⟩ => by rw [e]; rfl
/-- 0 signature, 1 used, 2 how, 3 rows, 4 name, 5 row, 6 letter -/
def w_law_fresh : WS :=
(wSeq (wSetO 1 (wLst wNil))
 (wSeq (wFor (wSrc (wVar 0)) (gTp [(gNm 2), (gNm 3)])
 (wKill [2, 3] (wDrop (wFrz (wBM "list" mExtend (wVar 1) (wCons (wFrz (wLc (wSrc (wVar 3)) (gNm 5) [5] wYes (wBin sIx (wVar 5) (wC (.int 0))))) wNil))))))
 (wRetR (wLc (wSrc (wFrz (wLc (wSrc (wC (.str "abcdefghijklmnopqrstuvwxyz"))) (gNm 6) [6] wYes (wBin sAdd (wC (.str "q")) (wVar 6))))) (gNm 4) [4] (wTest (wBin sNotIn (wVar 4) (wVar 1))) (wVar 4)))))
/-- 0 signature, 1 kind, 2 row -/
def w_law_with_kind : WS :=
(wRetR (wBinR sAdd (wBin sAdd (wFrz (wSl (wVar 0) wNoPart (wPart (wVar 1)))) (wTup (wCons (wVar 2) wNil))) (wFrz (wSl (wVar 0) (wPart (wBin sAdd (wVar 1) (wC (.int 1)))) wNoPart))))
/-- 0 stream, 1 rows, 2 row, 3 at -/
def w_law_put_in : WS :=
(wSeq (wSet 3 (wFrz (wCall p_law_next (wCons (wVar 0) (wCons (wBin sAdd (wFrz (wCB (f1 sLen) (wCons (wVar 1) wNil))) (wC (.int 1))) wNil)))))
 (wRetR (wBinR sAdd (wBin sAdd (wFrz (wSl (wVar 1) wNoPart (wPart (wVar 3)))) (wTup (wCons (wVar 2) wNil))) (wFrz (wSl (wVar 1) (wPart (wVar 3)) wNoPart)))))
local macro_rules | `(tactic| walk_at "w1") => `(tactic| first
  | (with_reducible refine' i_seq ?_) | (with_reducible refine' i_set ?_) | (with_reducible refine' i_ifS ?_) | (with_reducible refine' i_ret ?_) | (with_reducible refine' i_next ?_) | (with_reducible refine' i_kill ?_)
  | (with_reducible refine' i_setO ?_) | (with_reducible refine' i_lcSet ?_) | (with_reducible refine' i_asg ?_) | (with_reducible refine' i_put ?_) | (with_reducible refine' i_drop ?_) | (with_reducible refine' i_retR ?_)
  | ((with_reducible refine' i_retO ?h1 ?_); (case h1 => rfl)) | (with_reducible refine' i_for ?_)
  | (with_reducible refine' i_test ?_) | (with_reducible refine' i_tnot ?_) | (with_reducible refine' i_tand ?_) | (with_reducible refine' i_tor ?_) | (with_reducible refine' i_yes ?_)
  | ((with_reducible refine' i_var ?h1 ?_); (case h1 => rfl)) | ((with_reducible refine' i_varO ?h1 ?_); (case h1 => rfl)) | (with_reducible refine' i_c ?_) | (with_reducible refine' i_dct ?_) | (with_reducible refine' i_frz ?_) | (with_reducible refine' i_bin ?_) | (with_reducible refine' i_binR ?_)
  | (with_reducible refine' i_cb ?_) | (with_reducible refine' i_nil ?_) | (with_reducible refine' i_cons ?_) | (with_reducible refine' i_tup ?_) | (with_reducible refine' i_lst ?_) | (with_reducible refine' i_neg ?_) | (with_reducible refine' i_isa ?_)
  | (with_reducible refine' i_andV ?_) | (with_reducible refine' i_orV ?_) | (with_reducible refine' i_notV ?_) | (with_reducible refine' i_if ?_) | (with_reducible refine' i_chain ?_) | (with_reducible refine' i_sl ?_) | (with_reducible refine' i_noPart ?_) | (with_reducible refine' i_part ?_)
  | (with_reducible refine' i_bm ?_) | (with_reducible refine' i_bm0 ?_) | (with_reducible refine' i_lrg ?_) | (with_reducible refine' i_call ?_) | (with_reducible refine' i_src ?_) | (with_reducible refine' i_rng1 ?_) | (with_reducible refine' i_rng2 ?_) | (with_reducible refine' i_enum ?_)
  | (with_reducible refine' i_lc ?_) | (with_reducible refine' i_lc2 ?_))
local macro_rules | `(tactic| walk_at "w2") => `(tactic| first
  | (with_reducible refine' i_allM ?_) | (with_reducible refine' i_anyM ?_)
  | (with_reducible refine' i_exD ?_) | (with_reducible refine' i_exB ?_) | (with_reducible refine' i_exRB ?_) | (with_reducible refine' i_exI ?_) | (with_reducible refine' i_exN ?_)
  | (with_reducible refine' i_addI ?_) | (with_reducible refine' i_sub ?_) | (with_reducible refine' i_lt ?_) | (with_reducible refine' i_le ?_) | (with_reducible refine' i_gt ?_) | (with_reducible refine' i_ge ?_)
  | (with_reducible refine' i_eqI ?_) | (with_reducible refine' i_neI ?_) | (with_reducible refine' i_eqB ?_) | (with_reducible refine' i_neB ?_) | (with_reducible refine' i_eqS ?_) | (with_reducible refine' i_neS ?_)
  | (with_reducible refine' i_isB ?_) | ((with_reducible refine' i_isN ?h1 ?_); (case h1 => rfl)) | ((with_reducible refine' i_notN ?h1 ?_); (case h1 => rfl))
  | (with_reducible refine' i_f1 ?_) | (with_reducible refine' i_f2 ?_) | ((with_reducible refine' i_len ?h1 ?_); (case h1 => rfl)) | (with_reducible refine' i_abs ?_) | (with_reducible refine' i_int ?_) | (with_reducible refine' i_max ?_) | (with_reducible refine' i_min ?_)
  | (with_reducible refine' i_listScr ?_) | ((with_reducible refine' i_list ?h1 ?_); (case h1 => rfl)) | ((with_reducible refine' i_tuple ?h1 ?_); (case h1 => rfl))
  | ((with_reducible refine' i_tyL ?h1 ?_); (case h1 => rfl)) | (with_reducible refine' i_tyS ?_)
  | (with_reducible refine' i_slT ?_) | ((with_reducible refine' i_slL ?h1 ?_); (case h1 => rfl)))
local macro_rules | `(tactic| walk_at "w3") => `(tactic| first
  | ((with_reducible refine' i_ix ?h1 ?h2 ?_); (case h1 => rfl); (case h2 => rfl)) | ((with_reducible refine' i_allD ?h1 ?h2 ?_); (case h1 => rfl); (case h2 => (simp [sizeLine_eq]; done)))
  | ((with_reducible refine' i_args ?h1 ?_); (case h1 => rfl)) | ((with_reducible refine' i_out ?h1 ?_); (case h1 => rfl)) | ((with_reducible refine' i_rt ?h1 ?_); (case h1 => rfl))
  | ((with_reducible refine' i_srcOf ?h1 ?_); (case h1 => rfl)) | ((with_reducible refine' i_evD ?h1 ?h2 ?_); (case h1 => rfl); (case h2 => (intro l e; cases e; done)))
  | ((with_reducible refine' i_rngD ?h1 ?h2 ?_); (case h1 => (first | decide | omega)); (case h2 => (first | decide | omega))) | ((with_reducible refine' i_rngD2 ?h1 ?_); (case h1 => (first | decide | omega)))
  | ((with_reducible refine' i_lrgD ?h1 ?_); (case h1 => (apply RgOk.of_le <;> omega))) | ((with_reducible refine' i_enumE ?h1 ?_); (case h1 => rfl))
  | ((with_reducible refine' i_putD ?h1 ?h2 ?_); (case h1 => rfl); (case h2 => rfl)) | ((with_reducible refine' i_asgD ?h1 ?_); (case h1 => rfl))
  | ((with_reducible refine' i_mul ?h1 ?_); (case h1 => (first | exact .inr (by decide) | exact .inl (by decide)))) | ((with_reducible refine' i_mod ?h1 ?_); (case h1 => (first | decide | omega)))
  | ((with_reducible refine' i_fdiv ?h1 ?_); (case h1 => (first | exact ⟨by decide, by decide⟩ | exact ⟨by omega, by omega⟩))) | ((with_reducible refine' i_pow ?h1 ?_); (case h1 => exact pow_ok (by decide)))
  | ((with_reducible refine' i_ifT ?h1 ?_); (case h1 => (first | rfl | assumption | (simp [isA]; done)))) | ((with_reducible refine' i_ifF ?h1 ?_); (case h1 => (first | rfl | assumption | (simp [isA]; done))))
  | ((with_reducible refine' i_pop ?h1 ?h2 ?_); (case h1 => rfl); (case h2 => rfl))
  | ((with_reducible refine' i_isD ?h1 ?_); (case h1 => assumption))
  | ((with_reducible refine' i_append ?h1 ?h2 ?_); (case h1 => rfl); (case h2 => (first | (simp [sizeLine_eq]; done) | (apply lt_line; omega)))))
local macro_rules | `(tactic| walk_at "w") => `(tactic| repeat' (first | walk_at "w1" | walk_at "w2" | walk_at "w3" | fail "open"))
local macro_rules | `(tactic| walk_at "w0") => `(tactic| simp only [startS, hasOwn, List.map_cons, List.map_nil, List.length_cons, List.length_nil, List.cons_append, List.nil_append, List.replicate, Nat.reduceAdd, Nat.reduceSub, Nat.zero_add])



local macro_rules | `(tactic| walk_at "n") => `(tactic| ((try dsimp only [List.set_cons_succ, List.set_cons_zero, RV.toD]); walk_at "w"))

theorem v_law_with_kind : ∀ as R, p_law_with_kind as R → w_law_with_kind (retEn (hasOwn as) R) (startS 3 as) := by
  rintro as R ⟨s, k, x, rfl, hs, q⟩
  unfold w_law_with_kind
  walk_at "w0"
  unfold sigD
  walk_at "n"
  rw [cutD_to (by omega), Int.toNat_natCast]
  refine i_addT (le_line (by rw [List.length_take, List.length_map]; show _ + 1 ≤ _; omega)) ?_
  walk_at "n"
  rw [cutD_from (by omega), show ((k : Nat) + 1 : Int).toNat = k + 1 from by omega]
  refine i_addT (le_line (by rw [List.length_append, List.length_take, List.length_drop, List.length_map]; show _ + 1 + _ ≤ _; omega)) ?_
  walk_at "n"
  exact q
theorem v_law_put_in : ∀ as R, p_law_put_in as R → w_law_put_in (retEn (hasOwn as) R) (startS 4 as) := by
  rintro as R ⟨l, rows, x, rfl, hs, hl, q⟩
  unfold w_law_put_in
  walk_at "w0"
  walk_at "n"
  refine ⟨l, _, rfl, hs, by omega, by omega, fun d l1 hs1 h0 h1 => ?_⟩
  walk_at "n"
  rw [cutD_to h0]
  refine i_addT (le_line (by rw [List.length_take]; show _ + 1 ≤ _; omega)) ?_
  walk_at "n"
  rw [cutD_from h0]
  refine i_addT (le_line (by rw [List.length_append, List.length_take, List.length_drop]; show _ + 1 + _ ≤ _; omega)) ?_
  walk_at "n"
  exact q _ _ hs1
def qL : List Str := (List.range 26).map fun n => ofL [113, 97 + n]
theorem qL_nodup : qL.Nodup := by
  unfold qL
  rw [List.nodup_iff_pairwise_ne, List.pairwise_map]
  refine List.Pairwise.imp ?_ (List.nodup_iff_pairwise_ne.mp (List.nodup_range (n := 26)))
  intro x y hxy h
  have := ofL_inj h
  simp at this
  exact hxy this
theorem q_eq : ("q" : Str) = ofL [113] := rfl
theorem filt_len {α : Type} (p : α → Bool) : ∀ l : List α, (l.filter p).length + (l.filter fun x => !p x).length = l.length
  | [] => rfl
  | x :: l => by
    have := filt_len p l
    rw [List.filter_cons, List.filter_cons]
    cases h : p x with
    | true =>
      simp
      omega
    | false =>
      simp
      omega
theorem v_law_fresh : ∀ as R, p_law_fresh as R → w_law_fresh (retEn (hasOwn as) R) (startS 7 as) := by
  rintro as R ⟨s, rfl, hs, q⟩
  have hs3 := hs.2.1
  unfold w_law_fresh
  walk_at "w0"
  unfold sigD
  walk_at "n"
  refine forL_inv (P := fun i z => z = [some (.val (sigD s)), some (.own none (txs (namesOf (s.take i)))), none, none, none, none, none]) (fun i x z hx p N hN => ?_) (fun z p => ?_) rfl
  · subst p
    rw [List.getElem?_map] at hx
    obtain ⟨r, er, rfl⟩ := Option.map_eq_some_iff.mp hx
    have hr4 := (hs.2.2 r (List.mem_of_getElem? er)).1
    have hi := lt_of_get er
    have hn := len_names hs i
    refine ⟨_, rfl, ?_⟩
    walk_at "n"
    refine lcL_map (fun x => match x with | .tuple [n, _] => n | _ => .none) (by rw [List.length_map]; exact le_line (by omega)) (fun c hc N3 hN3 => ?_) ?_
    · obtain ⟨c, hc, rfl⟩ := List.mem_map.mp hc
      refine ⟨_, rfl, ?_⟩
      walk_at "n"
      exact hN3 _ rfl
    walk_at "n"
    refine i_extend rfl rfl (le_line (by rw [txs, List.length_map, List.length_map, List.length_map]; omega)) ?_
    refine hN _ ?_
    rw [names_step er, strs_app]
    have : (r.2.map consD).map (fun x => match x with | .tuple [n, _] => n | _ => PyData.none) = txs (r.2.map Prod.fst) := by
      rw [List.map_map, txs, List.map_map]
      rfl
    rw [this]
    rfl
  subst p
  rw [List.length_map, List.take_length]
  have hn12 : (namesOf s).length ≤ 12 := by
    have := len_names hs s.length
    rw [List.take_length] at this
    omega
  walk_at "n"
  refine lcL_map (fun x => match x with | .str c => .str ("q" ++ c) | _ => .none) (le_line (by rw [signs_letters, List.length_map, List.length_range]; decide)) (fun x hx N1 hN1 => ?_) ?_
  · rw [signs_letters] at hx
    obtain ⟨n, hn, rfl⟩ := List.mem_map.mp hx
    refine ⟨_, rfl, ?_⟩
    walk_at "n"
    refine i_addS (le_line (by rw [ofL_len]; show 1 + 1 ≤ 100000; omega)) ?_
    walk_at "n"
    exact hN1 _ rfl
  have eq : (signs "abcdefghijklmnopqrstuvwxyz").map (fun x => match x with | .str c => PyData.str ("q" ++ c) | _ => .none) = txs qL := by
    rw [signs_letters, List.map_map, txs, qL, List.map_map]
    refine List.map_congr_left fun n _ => ?_
    simp only [Function.comp, q_eq, ofL_app]
    rfl
  rw [eq]
  have hq26 : qL.length = 26 := by simp [qL]
  walk_at "n"
  refine lcL_fm (newF (namesOf s)) (le_line (by rw [txs, List.length_map]; omega)) (fun x hx N1 hN1 => ?_) ?_
  · obtain ⟨y, hy, rfl⟩ := List.mem_map.mp hx
    refine ⟨_, rfl, ?_⟩
    walk_at "n"
    refine i_notinTx rfl rfl ?_
    walk_at "n"
    by_cases hm : y ∈ namesOf s
    · rw [decide_eq_true hm]
      simp only [newF, if_pos hm] at hN1
      walk_at "n"
      exact hN1 _ rfl
    · rw [decide_eq_false hm]
      simp only [newF, if_neg hm] at hN1
      walk_at "n"
      exact hN1 _ rfl
  rw [newF_txs]
  walk_at "n"
  refine q _ ?_ fun x hx => ?_
  · have h1 : (qL.filter fun x => decide (x ∈ namesOf s)).length ≤ (namesOf s).length := nodup_sub (List.Nodup.sublist List.filter_sublist qL_nodup) fun x hx => by
      have := (List.mem_filter.mp hx).2
      simpa using this
    have h2 : (qL.filter fun x => decide (x ∈ namesOf s)).length + (qL.filter fun x => decide (x ∉ namesOf s)).length = qL.length := by
      rw [← filt_len (fun x => decide (x ∈ namesOf s)) qL]
      congr 2
      refine List.filter_congr fun x _ => ?_
      simp
    omega
  · have := (List.mem_filter.mp hx).1
    obtain ⟨n, _, rfl⟩ := List.mem_map.mp this
    rw [ofL_len]
    show 2 ≤ 1000
    omega
end L3
/-! What spoils a signature: a kind's row. -/
namespace L3
open PySem PySem.Spec PyProof.Rows L2 PySem.SeqAt
def pBad : FS := fun as R => ∃ l s, as = [.own l, .val (sigD s)] ∧ isStrm l ∧ Wf s ∧ ∀ d l', okD d = true → ¬ IsSig d → isStrm l' → R (.d d) (some l')
theorem m_bad : MonoF pBad := fun as R R' h ⟨a, b, c, d, e, k⟩ => ⟨a, b, c, d, e, fun x y u v w => h _ _ (k x y u v w)⟩
theorem l_bad : ∀ as R, pBad as R → as.length = 2 := fun as R ⟨a, b, e, _⟩ => by rw [e]; rfl
def p_law_spoilt_kind : FS := pBad
theorem m_law_spoilt_kind : MonoF p_law_spoilt_kind := m_bad
theorem l_law_spoilt_kind : ∀ as R, p_law_spoilt_kind as R → as.length = 2 := l_bad
/-- 0 stream, 1 signature, 2 kind, 3 how, 4 rows, 5 names, 6 more, 7 options, 8 at -/
def w_law_spoilt_kind : WS :=
(wSeq (wSet 2 (wFrz (wCall p_law_next (wCons (wVar 0) (wCons (wFrz (wCB (f1 sLen) (wCons (wVar 1) wNil))) wNil)))))
 (wSeq (wAsg (wBin sIx (wVar 1) (wVar 2)) (gTp [(gNm 3), (gNm 4)]))
 (wSeq (wSet 5 (wFrz (wCall p_law_fresh (wCons (wVar 1) wNil))))
 (wSeq (wSet 6 (wBin sAdd (wVar 4) (wFrz (wCB (f1 sTupOf) (wCons (wFrz (wLc (wRng1 (wCons (wBin sSub (wC (.int 5)) (wFrz (wCB (f1 sLen) (wCons (wVar 4) wNil)))) wNil)) (gNm 8) [8] wYes (wTup (wCons (wBin sIx (wVar 5) (wVar 8)) (wCons (wTup wNil) wNil))))) wNil)))))
 (wSeq (wSet 7 (wFrz (wLst (wCons (wFrz (wLst (wCons (wVar 3) (wCons (wVar 4) wNil)))) (wCons (wTup (wCons (wVar 3) wNil)) (wCons (wTup (wCons (wVar 3) (wCons (wVar 4) (wCons (wTup wNil) wNil)))) (wCons (wTup (wCons (wFrz (wCall p_law_pick (wCons (wVar 0) (wCons (wFrz (wLst (wCons (wC (.str "Open")) (wCons (wC (.str "close")) (wCons (wC (.str "")) (wCons (wC .none) (wCons (wC (.bool true)) (wCons (wC (.int 0)) (wCons (wTup wNil) (wCons (wFrz (wLst wNil)) (wCons wDct wNil))))))))))) wNil)))) (wCons (wVar 4) wNil))) wNil)))))))
 (wSeq (wSet 7 (wBin sAdd (wVar 7) (wFrz (wLst (wCons (wTup (wCons (wVar 3) (wCons (wFrz (wCB (f1 sListOf) (wCons (wVar 4) wNil))) wNil))) (wCons (wTup (wCons (wVar 3) (wCons (wC .none) wNil))) (wCons (wTup (wCons (wVar 3) (wCons wDct wNil))) (wCons (wTup (wCons (wVar 3) (wCons (wVar 6) wNil))) (wCons (wTup (wCons (wC (.str "closed")) (wCons (wTup wNil) wNil))) (wCons (wC .none) (wCons (wVar 3) wNil)))))))))))
 (wSeq (wSet 7 (wBin sAdd (wVar 7) (wFrz (wLst (wCons (wTup (wCons (wC (.str "closed")) (wCons (wTup (wCons (wTup (wCons (wBin sIx (wVar 5) (wC (.int 0))) (wCons (wTup (wCons (wVar 2) wNil)) wNil))) wNil)) wNil))) (wCons (wTup (wCons (wC (.str "closed")) (wCons (wTup (wCons (wTup (wCons (wBin sIx (wVar 5) (wC (.int 0))) (wCons (wTup (wCons (wVar 2) (wCons (wVar 2) wNil))) wNil))) (wCons (wTup (wCons (wBin sIx (wVar 5) (wC (.int 1))) (wCons (wTup (wCons (wVar 2) wNil)) wNil))) wNil))) wNil))) wNil))))))
 (wRetR (wCall p_law_with_kind (wCons (wVar 1) (wCons (wVar 2) (wCons (wFrz (wCall p_law_pick (wCons (wVar 0) (wCons (wBin sAdd (wVar 7) (wFrz (wLst (wCons (wTup (wCons (wVar 3) (wCons (wBin sIx (wVar 5) (wC (.int 0))) wNil))) (wCons (wTup (wCons (wVar 3) (wCons (wTup (wCons (wBin sIx (wVar 5) (wC (.int 0))) wNil)) wNil))) wNil))))) wNil)))) wNil))))))))))))
local macro_rules | `(tactic| walk_at "w1") => `(tactic| first
  | (with_reducible refine' i_seq ?_) | (with_reducible refine' i_set ?_) | (with_reducible refine' i_ifS ?_) | (with_reducible refine' i_ret ?_) | (with_reducible refine' i_next ?_) | (with_reducible refine' i_kill ?_)
  | (with_reducible refine' i_setO ?_) | (with_reducible refine' i_lcSet ?_) | (with_reducible refine' i_asg ?_) | (with_reducible refine' i_put ?_) | (with_reducible refine' i_drop ?_) | (with_reducible refine' i_retR ?_)
  | ((with_reducible refine' i_retO ?h1 ?_); (case h1 => rfl)) | (with_reducible refine' i_for ?_)
  | (with_reducible refine' i_test ?_) | (with_reducible refine' i_tnot ?_) | (with_reducible refine' i_tand ?_) | (with_reducible refine' i_tor ?_) | (with_reducible refine' i_yes ?_)
  | ((with_reducible refine' i_var ?h1 ?_); (case h1 => rfl)) | ((with_reducible refine' i_varO ?h1 ?_); (case h1 => rfl)) | (with_reducible refine' i_c ?_) | (with_reducible refine' i_dct ?_) | (with_reducible refine' i_frz ?_) | (with_reducible refine' i_bin ?_) | (with_reducible refine' i_binR ?_)
  | (with_reducible refine' i_cb ?_) | (with_reducible refine' i_nil ?_) | (with_reducible refine' i_cons ?_) | (with_reducible refine' i_tup ?_) | (with_reducible refine' i_lst ?_) | (with_reducible refine' i_neg ?_) | (with_reducible refine' i_isa ?_)
  | (with_reducible refine' i_andV ?_) | (with_reducible refine' i_orV ?_) | (with_reducible refine' i_notV ?_) | (with_reducible refine' i_if ?_) | (with_reducible refine' i_chain ?_) | (with_reducible refine' i_sl ?_) | (with_reducible refine' i_noPart ?_) | (with_reducible refine' i_part ?_)
  | (with_reducible refine' i_bm ?_) | (with_reducible refine' i_bm0 ?_) | (with_reducible refine' i_lrg ?_) | (with_reducible refine' i_call ?_) | (with_reducible refine' i_src ?_) | (with_reducible refine' i_rng1 ?_) | (with_reducible refine' i_rng2 ?_) | (with_reducible refine' i_enum ?_)
  | (with_reducible refine' i_lc ?_) | (with_reducible refine' i_lc2 ?_))
local macro_rules | `(tactic| walk_at "w2") => `(tactic| first
  | (with_reducible refine' i_allM ?_) | (with_reducible refine' i_anyM ?_)
  | (with_reducible refine' i_exD ?_) | (with_reducible refine' i_exB ?_) | (with_reducible refine' i_exRB ?_) | (with_reducible refine' i_exI ?_) | (with_reducible refine' i_exN ?_)
  | (with_reducible refine' i_addI ?_) | (with_reducible refine' i_sub ?_) | (with_reducible refine' i_lt ?_) | (with_reducible refine' i_le ?_) | (with_reducible refine' i_gt ?_) | (with_reducible refine' i_ge ?_)
  | (with_reducible refine' i_eqI ?_) | (with_reducible refine' i_neI ?_) | (with_reducible refine' i_eqB ?_) | (with_reducible refine' i_neB ?_) | (with_reducible refine' i_eqS ?_) | (with_reducible refine' i_neS ?_)
  | (with_reducible refine' i_isB ?_) | ((with_reducible refine' i_isN ?h1 ?_); (case h1 => rfl)) | ((with_reducible refine' i_notN ?h1 ?_); (case h1 => rfl))
  | (with_reducible refine' i_f1 ?_) | (with_reducible refine' i_f2 ?_) | ((with_reducible refine' i_len ?h1 ?_); (case h1 => rfl)) | (with_reducible refine' i_abs ?_) | (with_reducible refine' i_int ?_) | (with_reducible refine' i_max ?_) | (with_reducible refine' i_min ?_)
  | (with_reducible refine' i_listScr ?_) | ((with_reducible refine' i_list ?h1 ?_); (case h1 => rfl)) | ((with_reducible refine' i_tuple ?h1 ?_); (case h1 => rfl))
  | ((with_reducible refine' i_tyL ?h1 ?_); (case h1 => rfl)) | (with_reducible refine' i_tyS ?_)
  | (with_reducible refine' i_slT ?_) | ((with_reducible refine' i_slL ?h1 ?_); (case h1 => rfl)))
local macro_rules | `(tactic| walk_at "w3") => `(tactic| first
  | ((with_reducible refine' i_ix ?h1 ?h2 ?_); (case h1 => rfl); (case h2 => rfl)) | ((with_reducible refine' i_allD ?h1 ?h2 ?_); (case h1 => rfl); (case h2 => (simp [sizeLine_eq]; done)))
  | ((with_reducible refine' i_args ?h1 ?_); (case h1 => rfl)) | ((with_reducible refine' i_out ?h1 ?_); (case h1 => rfl)) | ((with_reducible refine' i_rt ?h1 ?_); (case h1 => rfl))
  | ((with_reducible refine' i_srcOf ?h1 ?_); (case h1 => rfl)) | ((with_reducible refine' i_evD ?h1 ?h2 ?_); (case h1 => rfl); (case h2 => (intro l e; cases e; done)))
  | ((with_reducible refine' i_rngD ?h1 ?h2 ?_); (case h1 => (first | decide | omega)); (case h2 => (first | decide | omega))) | ((with_reducible refine' i_rngD2 ?h1 ?_); (case h1 => (first | decide | omega)))
  | ((with_reducible refine' i_lrgD ?h1 ?_); (case h1 => (apply RgOk.of_le <;> omega))) | ((with_reducible refine' i_enumE ?h1 ?_); (case h1 => rfl))
  | ((with_reducible refine' i_putD ?h1 ?h2 ?_); (case h1 => rfl); (case h2 => rfl)) | ((with_reducible refine' i_asgD ?h1 ?_); (case h1 => rfl))
  | ((with_reducible refine' i_mul ?h1 ?_); (case h1 => (first | exact .inr (by decide) | exact .inl (by decide)))) | ((with_reducible refine' i_mod ?h1 ?_); (case h1 => (first | decide | omega)))
  | ((with_reducible refine' i_fdiv ?h1 ?_); (case h1 => (first | exact ⟨by decide, by decide⟩ | exact ⟨by omega, by omega⟩))) | ((with_reducible refine' i_pow ?h1 ?_); (case h1 => exact pow_ok (by decide)))
  | ((with_reducible refine' i_ifT ?h1 ?_); (case h1 => (first | rfl | assumption | (simp [isA]; done)))) | ((with_reducible refine' i_ifF ?h1 ?_); (case h1 => (first | rfl | assumption | (simp [isA]; done))))
  | ((with_reducible refine' i_pop ?h1 ?h2 ?_); (case h1 => rfl); (case h2 => rfl))
  | ((with_reducible refine' i_isD ?h1 ?_); (case h1 => assumption))
  | ((with_reducible refine' i_append ?h1 ?h2 ?_); (case h1 => rfl); (case h2 => (first | (simp [sizeLine_eq]; done) | (apply lt_line; omega)))))
local macro_rules | `(tactic| walk_at "w") => `(tactic| repeat' (first | walk_at "w1" | walk_at "w2" | walk_at "w3" | fail "open"))
local macro_rules | `(tactic| walk_at "w0") => `(tactic| simp only [startS, hasOwn, List.map_cons, List.map_nil, List.length_cons, List.length_nil, List.cons_append, List.nil_append, List.replicate, Nat.reduceAdd, Nat.reduceSub, Nat.zero_add])



local macro_rules | `(tactic| walk_at "n") => `(tactic| ((try dsimp only [List.set_cons_succ, List.set_cons_zero, RV.toD]); walk_at "w"))

theorem okA_of : ∀ {l : List D}, (∀ d ∈ l, okD d = true) → okA l = true
  | [], _ => by simp [okA]
  | x :: l, h => by
    simp only [okA, Bool.and_eq_true]
    exact ⟨h x (by simp), okA_of fun d hd => h d (by simp [hd])⟩
theorem okD_tup {l : List D} (h : ∀ d ∈ l, okD d = true) : okD (.tuple l) = true := okA_of h
theorem okD_lst {l : List D} (h : ∀ d ∈ l, okD d = true) : okD (.list l) = true := okA_of h
theorem okD_str {s : Str} (h : s.length ≤ 1000) : okD (.str s) = true := decide_eq_true h
theorem ok_ns (l : List Nat) : okD (.tuple (nsD l)) = true := okD_tup fun d hd => by
  obtain ⟨n, _, rfl⟩ := List.mem_map.mp hd
  rfl
theorem name_len {s : Str} (h : isName (.str s) = true) : s.length ≤ 1000 := by
  simp only [isName, Bool.and_eq_true, decide_eq_true_eq] at h
  omega
theorem ok_cons {n : Nat} {c : Cn} (h : wfCons n c) : okD (consD c) = true := okD_tup fun d hd => by
  rcases List.mem_cons.mp hd with rfl | hd
  · exact okD_str (name_len h.1)
  · rw [List.mem_singleton] at hd
    rw [hd]
    exact ok_ns _
theorem ok_conss {n : Nat} {cs : List Cn} (h : ∀ c ∈ cs, wfCons n c) : ∀ d ∈ cs.map consD, okD d = true := fun d hd => by
  obtain ⟨c, hc, rfl⟩ := List.mem_map.mp hd
  exact ok_cons (h c hc)
theorem how_len (o : Bool) : (if o = true then ("open" : Str) else "closed").length ≤ 1000 := by
  cases o
  · show (6 : Nat) ≤ 1000
    omega
  · show (4 : Nat) ≤ 1000
    omega
theorem ok_row {n : Nat} {r : Rw} (h : wfRow n r) : okD (rowD r) = true := okD_tup fun d hd => by
  rcases List.mem_cons.mp hd with rfl | hd
  · exact okD_str (how_len _)
  · rw [List.mem_singleton] at hd
    rw [hd]
    exact okD_tup (ok_conss h.2)
theorem ok_rows {s : Sg} (h : Wf s) : ∀ d ∈ s.map rowD, okD d = true := fun d hd => by
  obtain ⟨r, hr, rfl⟩ := List.mem_map.mp hd
  exact ok_row (h.2.2 r hr)
theorem ok_sig {s : Sg} (h : Wf s) : okD (sigD s) = true := okD_tup (ok_rows h)
theorem ok_repl {s : Sg} (h : Wf s) {k : Nat} {x : D} (hx : okD x = true) : okD (.tuple ((s.map rowD).take k ++ [x] ++ (s.map rowD).drop (k + 1))) = true := okD_tup fun d hd => by
  rcases List.mem_append.mp hd with hd | hd
  · rcases List.mem_append.mp hd with hd | hd
    · exact ok_rows h d (List.mem_of_mem_take hd)
    · rw [List.mem_singleton] at hd
      rw [hd]
      exact hx
  · exact ok_rows h d (List.mem_of_mem_drop hd)
theorem repl_len {s : Sg} {k : Nat} (hk : k < s.length) (x : D) : ((s.map rowD).take k ++ [x] ++ (s.map rowD).drop (k + 1)).length = s.length := by
  rw [List.length_append, List.length_append, List.length_take, List.length_drop, List.length_map, List.length_singleton]
  omega
theorem bad_row {s : Sg} {k : Nat} (hk : k < s.length) {x : D} (hx : isRow s.length x = false) : ¬ IsSig (.tuple ((s.map rowD).take k ++ [x] ++ (s.map rowD).drop (k + 1))) := by
  rintro ⟨s', e, w, _⟩
  injection e with e
  have hl := repl_len hk x
  rw [e, List.length_map] at hl
  have hm : x ∈ s'.map rowD := by rw [← e]; simp
  have := List.all_eq_true.mp (wf_all w) x hm
  rw [hl, hx] at this
  cases this
theorem stuck {s : Sg} {k : Nat} {cs : List Cn} (e : s[k]? = some (false, cs)) (h : ∀ c ∈ cs, k ∈ c.2) : ∀ j, Filled s j → j ≠ k := fun j f => by
  induction f with
  | op e2 o =>
    rintro rfl
    rw [e] at e2
    cases e2
    cases o
  | co e2 hc _ ih =>
    rintro rfl
    rw [e] at e2
    cases e2
    exact ih _ (h _ hc) rfl
theorem bad_stuck {s : Sg} {k : Nat} (hk : k < s.length) {cs : List Cn} (h : ∀ c ∈ cs, k ∈ c.2) : ¬ IsSig (.tuple ((s.map rowD).take k ++ [rowD (false, cs)] ++ (s.map rowD).drop (k + 1))) := by
  rintro ⟨s', e, w, _, wh⟩
  injection e with e
  have hl := repl_len hk (rowD (false, cs))
  rw [e, List.length_map] at hl
  have hg : (s'.map rowD)[k]? = some (rowD (false, cs)) := by
    rw [← e, List.append_assoc, List.getElem?_append_right (by rw [List.length_take]; omega), List.length_take, List.length_map, Nat.min_eq_left (by omega), Nat.sub_self]
    rfl
  rw [List.getElem?_map] at hg
  obtain ⟨r, er, e2⟩ := Option.map_eq_some_iff.mp hg
  have := rowD_inj e2
  subst this
  exact stuck er h k (wh k (by omega)) rfl
def BadR (n k : Nat) (x : D) : Prop := isRow n x = false ∨ ∃ cs : List Cn, x = rowD (false, cs) ∧ ∀ c ∈ cs, k ∈ c.2
theorem BadR.no {s : Sg} {k : Nat} (hk : k < s.length) {x : D} (h : BadR s.length k x) : ¬ IsSig (.tuple ((s.map rowD).take k ++ [x] ++ (s.map rowD).drop (k + 1))) := by
  rcases h with h | ⟨cs, rfl, h⟩
  · exact bad_row hk h
  · exact bad_stuck hk h
theorem isRow_long {n : Int} {h : Str} {l : List D} (hl : 4 < l.length) : isRow n (.tuple [.str h, .tuple l]) = false := by
  simp only [isRow, decide_eq_false (show ¬ l.length ≤ 4 by omega), Bool.and_false, Bool.false_and]
theorem isRow_how {n : Int} {x : D} {l : List D} (h : x ∈ ([.str "Open", .str "close", .str "", .none, .bool true, .int 0, .tuple [], .list [], .dict []] : List D)) : isRow n (.tuple [x, .tuple l]) = false := by
  simp only [List.mem_cons, List.not_mem_nil, or_false] at h
  rcases h with rfl | rfl | rfl | rfl | rfl | rfl | rfl | rfl | rfl
  · have : (decide (("Open" : Str) = ("closed" : Str)) || decide (("Open" : Str) = ("open" : Str))) = false := by decide
    simp only [isRow, this, Bool.false_and]
  · have : (decide (("close" : Str) = ("closed" : Str)) || decide (("close" : Str) = ("open" : Str))) = false := by decide
    simp only [isRow, this, Bool.false_and]
  · have : (decide (("" : Str) = ("closed" : Str)) || decide (("" : Str) = ("open" : Str))) = false := by decide
    simp only [isRow, this, Bool.false_and]
  all_goals rfl
theorem ok_how {x : D} (h : x ∈ ([.str "Open", .str "close", .str "", .none, .bool true, .int 0, .tuple [], .list [], .dict []] : List D)) : okD x = true := by
  simp only [List.mem_cons, List.not_mem_nil, or_false] at h
  rcases h with rfl | rfl | rfl | rfl | rfl | rfl | rfl | rfl | rfl <;> rfl
theorem ok2 {a b : D} (ha : okD a = true) (hb : okD b = true) : okD (.tuple [a, b]) = true := okD_tup fun d hd => by
  simp only [List.mem_cons, List.not_mem_nil, or_false] at hd
  rcases hd with rfl | rfl
  · exact ha
  · exact hb
theorem row_at {s : Sg} {k : Nat} {r : Rw} (h : s[k]? = some r) : atI (s.map rowD) (k : Nat) = some (rowD r) := atI_nat (by rw [List.getElem?_map, h]; rfl)
theorem fresh5 {fs : List Str} (h : 5 ≤ fs.length) : ∃ f0 f1 f2 f3 f4 fr, fs = f0 :: f1 :: f2 :: f3 :: f4 :: fr := by
  match fs, h with
  | f0 :: f1 :: f2 :: f3 :: f4 :: fr, _ => exact ⟨f0, f1, f2, f3, f4, fr, rfl⟩
  | [], h => simp at h
  | [_], h => simp at h
  | [_, _], h => simp at h
  | [_, _, _], h => simp at h
  | [_, _, _, _], h => simp at h
theorem v_law_spoilt_kind : ∀ as R, p_law_spoilt_kind as R → w_law_spoilt_kind (retEn (hasOwn as) R) (startS 9 as) := by
  rintro as R ⟨l, s, rfl, hs, hw, q⟩
  have hs1 := hw.1
  have hs3 := hw.2.1
  unfold w_law_spoilt_kind
  walk_at "w0"
  unfold sigD
  walk_at "n"
  rw [List.length_map]
  refine ⟨l, _, rfl, hs, by omega, by omega, fun d l1 hl1 h0 h1 => ?_⟩
  obtain ⟨k, rfl⟩ := Int.eq_ofNat_of_zero_le h0
  have hk : k < s.length := by omega
  obtain ⟨r, hr⟩ : ∃ r, s[k]? = some r := ⟨_, List.getElem?_eq_getElem hk⟩
  have hwr := hw.2.2 r (List.mem_of_getElem? hr)
  have hr4 := hwr.1
  have hok := ok_conss hwr.2
  walk_at "n"
  refine i_ix rfl (row_at hr) ?_
  unfold rowD
  have hh := how_len r.1
  generalize (if r.1 = true then ("open" : Str) else "closed") = h at hh
  walk_at "n"
  refine ⟨s, rfl, hw, fun fs hf5 hfl => ?_⟩
  obtain ⟨f0, f1, f2, f3, f4, fr, rfl⟩ := fresh5 hf5
  have hf0 : okD (.str f0) = true := okD_str (hfl f0 (by simp))
  have hf1 : okD (.str f1) = true := okD_str (hfl f1 (by simp))
  walk_at "n"
  rw [List.length_map]
  walk_at "n"
  refine lcL_map (fun x => match x with | .int a => .tuple [.str ((f0 :: f1 :: f2 :: f3 :: f4 :: fr).getD a.toNat ""), .tuple []] | _ => .none) (le_line (by rw [rangeD_len]; omega)) (fun x hx N hN => ?_) ?_
  · obtain ⟨i, hi⟩ := List.mem_iff_getElem?.mp hx
    obtain ⟨rfl, hlt⟩ := rangeD_get hi
    rw [Int.zero_add] at hlt hN ⊢
    refine ⟨_, rfl, ?_⟩
    walk_at "n"
    refine i_ix rfl (at_map (f := PyData.str) (l := f0 :: f1 :: f2 :: f3 :: f4 :: fr) (k := i) "" (by simp only [List.length_cons]; omega)) ?_
    walk_at "n"
    exact hN _ rfl
  have hmore : ∀ x ∈ (rangeD 0 (5 - (r.2.length : Nat))).map (fun x => match x with | .int a => PyData.tuple [.str ((f0 :: f1 :: f2 :: f3 :: f4 :: fr).getD a.toNat ""), .tuple []] | _ => .none), okD x = true := fun x hx => by
    obtain ⟨y, hy, rfl⟩ := List.mem_map.mp hx
    obtain ⟨i, hi⟩ := List.mem_iff_getElem?.mp hy
    obtain ⟨rfl, hlt⟩ := rangeD_get hi
    refine ok2 (okD_str ?_) rfl
    have : ((0 : Int) + (i : Nat)).toNat < (f0 :: f1 :: f2 :: f3 :: f4 :: fr).length := by simp only [List.length_cons]; omega
    rw [List.getD_eq_getElem?_getD, List.getElem?_eq_getElem this]
    exact hfl _ (List.getElem_mem _)
  have hmlen : ((rangeD 0 (5 - (r.2.length : Nat))).map (fun x => match x with | .int a => PyData.tuple [.str ((f0 :: f1 :: f2 :: f3 :: f4 :: fr).getD a.toNat ""), .tuple []] | _ => .none)).length = 5 - r.2.length := by
    rw [List.length_map, rangeD_len]
    omega
  generalize (rangeD 0 (5 - (r.2.length : Nat))).map (fun x => match x with | .int a => PyData.tuple [.str ((f0 :: f1 :: f2 :: f3 :: f4 :: fr).getD a.toNat ""), .tuple []] | _ => .none) = more at hmore hmlen
  walk_at "n"
  refine i_addT (le_line (by rw [List.length_map, hmlen]; omega)) ?_
  walk_at "n"
  have a0 : atI (txs (f0 :: f1 :: f2 :: f3 :: f4 :: fr)) 0 = some (.str f0) := atI_nat (j := 0) rfl
  have a1 : atI (txs (f0 :: f1 :: f2 :: f3 :: f4 :: fr)) 1 = some (.str f1) := atI_nat (j := 1) rfl
  refine ⟨l1, _, rfl, hl1, by simp, by show 9 ≤ 1000; omega, fun h9 l2 hh9 hl2 => ?_⟩
  have e1 := isRow_how (n := (s.length : Nat)) (l := r.2.map consD) hh9
  have e2 := ok_how hh9
  walk_at "n"
  refine i_addL rfl rfl (le_line (by show 4 + 7 ≤ _; omega)) ?_
  walk_at "n"
  refine i_ix rfl a0 ?_
  walk_at "n"
  refine i_ix rfl a0 ?_
  walk_at "n"
  refine i_ix rfl a1 ?_
  walk_at "n"
  refine i_addL rfl rfl (le_line (by show 11 + 2 ≤ _; omega)) ?_
  walk_at "n"
  refine i_ix rfl a0 ?_
  walk_at "n"
  refine i_ix rfl a0 ?_
  walk_at "n"
  refine i_addL rfl rfl (le_line (by show 13 + 2 ≤ _; omega)) ?_
  walk_at "n"
  have H : okD (.str h) = true := okD_str hh
  have T : okD (.tuple (r.2.map consD)) = true := okD_tup hok
  have L : okD (.list (r.2.map consD)) = true := okD_lst hok
  refine ⟨l2, ([.list [.str h, .tuple (r.2.map consD)], .tuple [.str h], .tuple [.str h, .tuple (r.2.map consD), .tuple []], .tuple [h9, .tuple (r.2.map consD)],
    .tuple [.str h, .list (r.2.map consD)], .tuple [.str h, .none], .tuple [.str h, .dict []], .tuple [.str h, .tuple (r.2.map consD ++ more)], rowD (false, []), .none, .str h,
    rowD (false, [(f0, [k])]), rowD (false, [(f0, [k, k]), (f1, [k])]), .tuple [.str h, .str f0], .tuple [.str h, .tuple [.str f0]]] : List D), rfl, hl2, by simp, by show 15 ≤ 1000; omega, fun x l3 hx hl3 => ?_⟩
  have good : okD x = true ∧ BadR s.length k x := by
    simp only [List.mem_cons, List.not_mem_nil, or_false] at hx
    rcases hx with rfl | rfl | rfl | rfl | rfl | rfl | rfl | rfl | rfl | rfl | rfl | rfl | rfl | rfl | rfl
    · exact ⟨okD_lst (by simp [H, T]), .inl rfl⟩
    · exact ⟨okD_tup (by simp [H]), .inl (by simp [isRow])⟩
    · exact ⟨okD_tup (by simp [H, T]; rfl), .inl (by simp [isRow])⟩
    · exact ⟨ok2 e2 T, .inl e1⟩
    · exact ⟨ok2 H L, .inl rfl⟩
    · exact ⟨ok2 H rfl, .inl rfl⟩
    · exact ⟨ok2 H rfl, .inl rfl⟩
    · refine ⟨ok2 H (okD_tup fun d hd => (List.mem_append.mp hd).elim (hok d) (hmore d)), .inl (isRow_long ?_)⟩
      rw [List.length_append, List.length_map, hmlen]
      omega
    · exact ⟨ok2 rfl rfl, .inr ⟨[], rfl, by simp⟩⟩
    · exact ⟨rfl, .inl rfl⟩
    · exact ⟨H, .inl rfl⟩
    · exact ⟨ok2 rfl (okD_tup (by simp [consD]; exact ok2 hf0 (ok_ns _))), .inr ⟨_, rfl, by simp⟩⟩
    · exact ⟨ok2 rfl (okD_tup (by simp [consD]; exact ⟨ok2 hf0 (ok_ns _), ok2 hf1 (ok_ns _)⟩)), .inr ⟨_, rfl, by simp⟩⟩
    · exact ⟨ok2 H hf0, .inl rfl⟩
    · exact ⟨ok2 H (okD_tup (by simp [hf0])), .inl (by simp [isRow, isCons])⟩
  walk_at "n"
  refine ⟨s, k, x, rfl, hs3, ?_⟩
  walk_at "n"
  exact q _ _ (ok_repl hw good.1) (good.2.no hk) hl3
end L3
/-! What spoils a signature: a constructor; the whole. -/
namespace L3
open PySem PySem.Spec PyProof.Rows L2 PySem.SeqAt
def p_law_spoilt_constructor : FS := pBad
theorem m_law_spoilt_constructor : MonoF p_law_spoilt_constructor := m_bad
theorem l_law_spoilt_constructor : ∀ as R, p_law_spoilt_constructor as R → as.length = 2 := l_bad
def p_law_spoilt : FS := pBad
theorem m_law_spoilt : MonoF p_law_spoilt := m_bad
theorem l_law_spoilt : ∀ as R, p_law_spoilt as R → as.length = 2 := l_bad
/-- 0 stream, 1 signature, 2 kind, 3 how, 4 rows, 5 name, 6 wrong, 7 parts, 8 options, 9 used, 10 other, 11 row, 12 one -/
def w_law_spoilt_constructor : WS :=
(wSeq (wSet 2 (wFrz (wCall p_law_next (wCons (wVar 0) (wCons (wFrz (wCB (f1 sLen) (wCons (wVar 1) wNil))) wNil)))))
 (wSeq (wAsg (wBin sIx (wVar 1) (wVar 2)) (gTp [(gNm 3), (gNm 4)]))
 (wSeq (wSet 5 (wBin sIx (wFrz (wCall p_law_fresh (wCons (wVar 1) wNil))) (wC (.int 0))))
 (wSeq (wSet 6 (wFrz (wLst (wCons (wC (.str "q")) (wCons (wC (.str "")) (wCons (wC (.str "qqqqqqqqq")) (wCons (wC (.str "Qq")) (wCons (wC (.str "q1")) (wCons (wC (.str "q q")) (wCons (wC (.str "#q")) (wCons (wC (.str "qQ")) (wCons (wC (.str "qa\n")) (wCons (wC .none) (wCons (wC (.int 5)) (wCons (wC (.bool true)) (wCons (wTup (wCons (wVar 5) wNil)) (wCons (wFrz (wLst wNil)) wNil)))))))))))))))))
 (wSeq (wSet 7 (wFrz (wLst (wCons (wTup (wCons (wVar 2) (wCons (wVar 2) (wCons (wVar 2) wNil)))) (wCons (wTup (wCons (wFrz (wCB (f1 sLen) (wCons (wVar 1) wNil))) wNil)) (wCons (wTup (wCons (wNeg (wC (.int 1))) wNil)) (wCons (wTup (wCons (wC (.int 0)) (wCons (wFrz (wCB (f1 sLen) (wCons (wVar 1) wNil))) wNil))) (wCons (wTup (wCons (wC (.bool true)) wNil)) (wCons (wTup (wCons (wC (.bool false)) wNil)) (wCons (wTup (wCons (wC (.str "0")) wNil)) (wCons (wTup (wCons (wC .none) wNil)) (wCons (wTup (wCons (wTup (wCons (wC (.int 0)) wNil)) wNil)) wNil))))))))))))
 (wSeq (wSet 8 (wBin sAdd (wFrz (wLc (wSrc (wVar 6)) (gNm 12) [12] wYes (wTup (wCons (wVar 12) (wCons (wTup wNil) wNil))))) (wFrz (wLc (wSrc (wVar 7)) (gNm 12) [12] wYes (wTup (wCons (wVar 5) (wCons (wVar 12) wNil)))))))
 (wSeq (wSet 8 (wBin sAdd (wVar 8) (wFrz (wLst (wCons (wFrz (wLst (wCons (wVar 5) (wCons (wTup wNil) wNil)))) (wCons (wTup (wCons (wVar 5) wNil)) (wCons (wTup (wCons (wVar 5) (wCons (wTup wNil) (wCons (wTup wNil) wNil)))) (wCons (wTup (wCons (wVar 5) (wCons (wFrz (wLst wNil)) wNil))) (wCons (wTup (wCons (wVar 5) (wCons (wC .none) wNil))) (wCons (wTup (wCons (wVar 5) (wCons (wC (.int 0)) wNil))) (wCons (wTup (wCons (wVar 5) (wCons (wFrz (wLst (wCons (wVar 2) wNil))) wNil))) (wCons (wVar 5) wNil))))))))))))
 (wSeq (wLcSet 9 (wLc (wSrc (wFrz (wSl (wVar 4) wNoPart (wPart (wC (.int 3)))))) (gNm 11) [11] wYes (wBin sIx (wVar 11) (wC (.int 0)))))
 (wSeq (wFor (wRng1 (wCons (wFrz (wCB (f1 sLen) (wCons (wVar 1) wNil))) wNil)) (gNm 10)
 (wKill [10] (wIfS (wTest (wBin sNe (wVar 10) (wVar 2)))
 (wSet 9 (wBin sAdd (wVar 9) (wFrz (wLc (wSrc (wBin sIx (wBin sIx (wVar 1) (wVar 10)) (wC (.int 1)))) (gNm 11) [11] wYes (wBin sIx (wVar 11) (wC (.int 0)))))))
 wNext)))
 (wSeq (wIfS (wAnd (wTest (wBin sNe (wVar 9) (wFrz (wLst wNil)))) (wTest (wBin sEq (wFrz (wCall p_law_next (wCons (wVar 0) (wCons (wC (.int 3)) wNil)))) (wC (.int 0)))))
 (wSet 8 (wFrz (wLst (wCons (wTup (wCons (wFrz (wCall p_law_pick (wCons (wVar 0) (wCons (wVar 9) wNil)))) (wCons (wTup wNil) wNil))) wNil))))
 wNext)
 (wRetR (wCall p_law_with_kind (wCons (wVar 1) (wCons (wVar 2) (wCons (wTup (wCons (wVar 3) (wCons (wFrz (wCall p_law_put_in (wCons (wVar 0) (wCons (wFrz (wSl (wVar 4) wNoPart (wPart (wC (.int 3))))) (wCons (wFrz (wCall p_law_pick (wCons (wVar 0) (wCons (wVar 8) wNil)))) wNil))))) wNil))) wNil)))))))))))))))
/-- 0 stream, 1 signature, 2 deed, 3 more -/
def w_law_spoilt : WS :=
(wSeq (wSet 2 (wFrz (wCall p_law_next (wCons (wVar 0) (wCons (wC (.int 8)) wNil)))))
 (wSeq (wIfS (wTest (wBin sEq (wVar 2) (wC (.int 0))))
 (wSeq (wSet 3 (wBin sAdd (wVar 1) (wBin sMulT (wTup (wCons (wTup (wCons (wC (.str "open")) (wCons (wTup wNil) wNil))) wNil)) (wBin sSub (wC (.int 4)) (wFrz (wCB (f1 sLen) (wCons (wVar 1) wNil)))))))
 (wRetR (wCall p_law_pick (wCons (wVar 0) (wCons (wFrz (wLst (wCons (wFrz (wCB (f1 sListOf) (wCons (wVar 1) wNil))) (wCons (wTup wNil) (wCons (wVar 3) (wCons (wBin sIx (wVar 1) (wC (.int 0))) (wCons (wTup (wCons (wVar 1) wNil)) (wCons (wC .none) (wCons (wC (.int 0)) (wCons (wC (.bool true)) (wCons (wC (.str "open")) (wCons wDct wNil)))))))))))) wNil)))))
 wNext)
 (wRet (wIf (wTest (wBin sLt (wVar 2) (wC (.int 4)))) (wFrz (wCall p_law_spoilt_kind (wCons (wVar 0) (wCons (wVar 1) wNil)))) (wFrz (wCall p_law_spoilt_constructor (wCons (wVar 0) (wCons (wVar 1) wNil))))))))
local macro_rules | `(tactic| walk_at "w1") => `(tactic| first
  | (with_reducible refine' i_seq ?_) | (with_reducible refine' i_set ?_) | (with_reducible refine' i_ifS ?_) | (with_reducible refine' i_ret ?_) | (with_reducible refine' i_next ?_) | (with_reducible refine' i_kill ?_)
  | (with_reducible refine' i_setO ?_) | (with_reducible refine' i_lcSet ?_) | (with_reducible refine' i_asg ?_) | (with_reducible refine' i_put ?_) | (with_reducible refine' i_drop ?_) | (with_reducible refine' i_retR ?_)
  | ((with_reducible refine' i_retO ?h1 ?_); (case h1 => rfl)) | (with_reducible refine' i_for ?_)
  | (with_reducible refine' i_test ?_) | (with_reducible refine' i_tnot ?_) | (with_reducible refine' i_tand ?_) | (with_reducible refine' i_tor ?_) | (with_reducible refine' i_yes ?_)
  | ((with_reducible refine' i_var ?h1 ?_); (case h1 => rfl)) | ((with_reducible refine' i_varO ?h1 ?_); (case h1 => rfl)) | (with_reducible refine' i_c ?_) | (with_reducible refine' i_dct ?_) | (with_reducible refine' i_frz ?_) | (with_reducible refine' i_bin ?_) | (with_reducible refine' i_binR ?_)
  | (with_reducible refine' i_cb ?_) | (with_reducible refine' i_nil ?_) | (with_reducible refine' i_cons ?_) | (with_reducible refine' i_tup ?_) | (with_reducible refine' i_lst ?_) | (with_reducible refine' i_neg ?_) | (with_reducible refine' i_isa ?_)
  | (with_reducible refine' i_andV ?_) | (with_reducible refine' i_orV ?_) | (with_reducible refine' i_notV ?_) | (with_reducible refine' i_if ?_) | (with_reducible refine' i_chain ?_) | (with_reducible refine' i_sl ?_) | (with_reducible refine' i_noPart ?_) | (with_reducible refine' i_part ?_)
  | (with_reducible refine' i_bm ?_) | (with_reducible refine' i_bm0 ?_) | (with_reducible refine' i_lrg ?_) | (with_reducible refine' i_call ?_) | (with_reducible refine' i_src ?_) | (with_reducible refine' i_rng1 ?_) | (with_reducible refine' i_rng2 ?_) | (with_reducible refine' i_enum ?_)
  | (with_reducible refine' i_lc ?_) | (with_reducible refine' i_lc2 ?_))
local macro_rules | `(tactic| walk_at "w2") => `(tactic| first
  | (with_reducible refine' i_allM ?_) | (with_reducible refine' i_anyM ?_)
  | (with_reducible refine' i_exD ?_) | (with_reducible refine' i_exB ?_) | (with_reducible refine' i_exRB ?_) | (with_reducible refine' i_exI ?_) | (with_reducible refine' i_exN ?_)
  | (with_reducible refine' i_addI ?_) | (with_reducible refine' i_sub ?_) | (with_reducible refine' i_lt ?_) | (with_reducible refine' i_le ?_) | (with_reducible refine' i_gt ?_) | (with_reducible refine' i_ge ?_)
  | (with_reducible refine' i_eqI ?_) | (with_reducible refine' i_neI ?_) | (with_reducible refine' i_eqB ?_) | (with_reducible refine' i_neB ?_) | (with_reducible refine' i_eqS ?_) | (with_reducible refine' i_neS ?_)
  | (with_reducible refine' i_isB ?_) | ((with_reducible refine' i_isN ?h1 ?_); (case h1 => rfl)) | ((with_reducible refine' i_notN ?h1 ?_); (case h1 => rfl))
  | (with_reducible refine' i_f1 ?_) | (with_reducible refine' i_f2 ?_) | ((with_reducible refine' i_len ?h1 ?_); (case h1 => rfl)) | (with_reducible refine' i_abs ?_) | (with_reducible refine' i_int ?_) | (with_reducible refine' i_max ?_) | (with_reducible refine' i_min ?_)
  | (with_reducible refine' i_listScr ?_) | ((with_reducible refine' i_list ?h1 ?_); (case h1 => rfl)) | ((with_reducible refine' i_tuple ?h1 ?_); (case h1 => rfl))
  | ((with_reducible refine' i_tyL ?h1 ?_); (case h1 => rfl)) | (with_reducible refine' i_tyS ?_)
  | (with_reducible refine' i_slT ?_) | ((with_reducible refine' i_slL ?h1 ?_); (case h1 => rfl)))
local macro_rules | `(tactic| walk_at "w3") => `(tactic| first
  | ((with_reducible refine' i_ix ?h1 ?h2 ?_); (case h1 => rfl); (case h2 => rfl)) | ((with_reducible refine' i_allD ?h1 ?h2 ?_); (case h1 => rfl); (case h2 => (simp [sizeLine_eq]; done)))
  | ((with_reducible refine' i_args ?h1 ?_); (case h1 => rfl)) | ((with_reducible refine' i_out ?h1 ?_); (case h1 => rfl)) | ((with_reducible refine' i_rt ?h1 ?_); (case h1 => rfl))
  | ((with_reducible refine' i_srcOf ?h1 ?_); (case h1 => rfl)) | ((with_reducible refine' i_evD ?h1 ?h2 ?_); (case h1 => rfl); (case h2 => (intro l e; cases e; done)))
  | ((with_reducible refine' i_rngD ?h1 ?h2 ?_); (case h1 => (first | decide | omega)); (case h2 => (first | decide | omega))) | ((with_reducible refine' i_rngD2 ?h1 ?_); (case h1 => (first | decide | omega)))
  | ((with_reducible refine' i_lrgD ?h1 ?_); (case h1 => (apply RgOk.of_le <;> omega))) | ((with_reducible refine' i_enumE ?h1 ?_); (case h1 => rfl))
  | ((with_reducible refine' i_putD ?h1 ?h2 ?_); (case h1 => rfl); (case h2 => rfl)) | ((with_reducible refine' i_asgD ?h1 ?_); (case h1 => rfl))
  | ((with_reducible refine' i_mul ?h1 ?_); (case h1 => (first | exact .inr (by decide) | exact .inl (by decide)))) | ((with_reducible refine' i_mod ?h1 ?_); (case h1 => (first | decide | omega)))
  | ((with_reducible refine' i_fdiv ?h1 ?_); (case h1 => (first | exact ⟨by decide, by decide⟩ | exact ⟨by omega, by omega⟩))) | ((with_reducible refine' i_pow ?h1 ?_); (case h1 => exact pow_ok (by decide)))
  | ((with_reducible refine' i_ifT ?h1 ?_); (case h1 => (first | rfl | assumption | (simp [isA]; done)))) | ((with_reducible refine' i_ifF ?h1 ?_); (case h1 => (first | rfl | assumption | (simp [isA]; done))))
  | ((with_reducible refine' i_pop ?h1 ?h2 ?_); (case h1 => rfl); (case h2 => rfl))
  | ((with_reducible refine' i_isD ?h1 ?_); (case h1 => assumption))
  | ((with_reducible refine' i_append ?h1 ?h2 ?_); (case h1 => rfl); (case h2 => (first | (simp [sizeLine_eq]; done) | (apply lt_line; omega)))))
local macro_rules | `(tactic| walk_at "w") => `(tactic| repeat' (first | walk_at "w1" | walk_at "w2" | walk_at "w3" | fail "open"))
local macro_rules | `(tactic| walk_at "w0") => `(tactic| simp only [startS, hasOwn, List.map_cons, List.map_nil, List.length_cons, List.length_nil, List.cons_append, List.nil_append, List.replicate, Nat.reduceAdd, Nat.reduceSub, Nat.zero_add])



local macro_rules | `(tactic| walk_at "n") => `(tactic| ((try dsimp only [List.set_cons_succ, List.set_cons_zero, RV.toD]); walk_at "w"))

def wrongL (f0 : Str) : List D := [.str "q", .str "", .str "qqqqqqqqq", .str "Qq", .str "q1", .str "q q", .str "#q", .str "qQ", .str "qa\n", .none, .int 5, .bool true, .tuple [.str f0], .list []]
def partsL (k n : Nat) : List D := [.tuple [.int (k : Nat), .int (k : Nat), .int (k : Nat)], .tuple [.int (n : Nat)], .tuple [.int (-1)], .tuple [.int 0, .int (n : Nat)], .tuple [.bool true], .tuple [.bool false], .tuple [.str "0"], .tuple [.none], .tuple [.tuple [.int 0]]]
def formsL (f0 : Str) (k : Nat) : List D := [.list [.str f0, .tuple []], .tuple [.str f0], .tuple [.str f0, .tuple [], .tuple []], .tuple [.str f0, .list []], .tuple [.str f0, .none], .tuple [.str f0, .int 0], .tuple [.str f0, .list [.int (k : Nat)]], .str f0]
def optsL (f0 : Str) (k n : Nat) : List D := ((wrongL f0).map fun x => PyData.tuple [x, .tuple []]) ++ ((partsL k n).map fun x => PyData.tuple [.str f0, x]) ++ formsL f0 k
theorem opts_len (f0 : Str) (k n : Nat) : (optsL f0 k n).length = 31 := by simp [optsL, wrongL, partsL, formsL]
theorem isCons_l {n : Int} {a b : D} (h : isName a = false) : isCons n (.tuple [a, b]) = false := by
  simp only [isCons, h, Bool.false_and]
theorem isCons_r {n : Int} {a b : D} (h : areKinds n b 0 2 = false) : isCons n (.tuple [a, b]) = false := by
  simp only [isCons, h, Bool.and_false]
theorem wrong_good {f0 : Str} (hf : okD (.str f0) = true) {x : D} (h : x ∈ wrongL f0) : okD x = true ∧ isName x = false := by
  simp only [wrongL, List.mem_cons, List.not_mem_nil, or_false] at h
  rcases h with rfl | rfl | rfl | rfl | rfl | rfl | rfl | rfl | rfl | rfl | rfl | rfl | rfl | rfl
  case inr.inr.inr.inr.inr.inr.inr.inr.inr.inr.inr.inr.inl => exact ⟨okD_tup (by simp [hf]), rfl⟩
  all_goals exact ⟨by decide, by decide⟩
theorem parts_good {k n : Nat} {x : D} (h : x ∈ partsL k n) : okD x = true ∧ areKinds (n : Nat) x 0 2 = false := by
  simp only [partsL, List.mem_cons, List.not_mem_nil, or_false] at h
  rcases h with rfl | rfl | rfl | rfl | rfl | rfl | rfl | rfl | rfl
  · exact ⟨ok_ns [k, k, k], by simp [areKinds]⟩
  · exact ⟨ok_ns [n], by simp [areKinds, isWithin]; omega⟩
  · exact ⟨rfl, by simp [areKinds, isWithin]⟩
  · exact ⟨ok_ns [0, n], by simp [areKinds, isWithin]; omega⟩
  · exact ⟨rfl, by simp [areKinds, isWithin]⟩
  · exact ⟨rfl, by simp [areKinds, isWithin]⟩
  · exact ⟨by decide, by simp [areKinds, isWithin]⟩
  · exact ⟨rfl, by simp [areKinds, isWithin]⟩
  · exact ⟨rfl, by simp [areKinds, isWithin]⟩
theorem forms_good {f0 : Str} {k : Nat} {n : Int} (hf : okD (.str f0) = true) {x : D} (h : x ∈ formsL f0 k) : okD x = true ∧ isCons n x = false := by
  simp only [formsL, List.mem_cons, List.not_mem_nil, or_false] at h
  rcases h with rfl | rfl | rfl | rfl | rfl | rfl | rfl | rfl
  · exact ⟨okD_lst (by simp [hf]; rfl), rfl⟩
  · exact ⟨okD_tup (by simp [hf]), by simp [isCons]⟩
  · exact ⟨okD_tup (by simp [hf]; rfl), by simp [isCons]⟩
  · exact ⟨ok2 hf rfl, isCons_r rfl⟩
  · exact ⟨ok2 hf rfl, isCons_r rfl⟩
  · exact ⟨ok2 hf rfl, isCons_r rfl⟩
  · exact ⟨ok2 hf rfl, isCons_r rfl⟩
  · exact ⟨hf, rfl⟩
theorem opts_good {f0 : Str} {k n : Nat} (hf : okD (.str f0) = true) {x : D} (h : x ∈ optsL f0 k n) : okD x = true ∧ isCons (n : Nat) x = false := by
  unfold optsL at h
  rcases List.mem_append.mp h with h | h
  · rcases List.mem_append.mp h with h | h
    · obtain ⟨y, hy, rfl⟩ := List.mem_map.mp h
      have := wrong_good hf hy
      exact ⟨ok2 this.1 rfl, isCons_l this.2⟩
    · obtain ⟨y, hy, rfl⟩ := List.mem_map.mp h
      have := parts_good hy
      exact ⟨ok2 hf this.1, isCons_r this.2⟩
  · exact forms_good hf h
def Used (s : Sg) (k : Nat) (r : Rw) (u : Str) : Prop := u ∈ (r.2.take 3).map Prod.fst ∨ ∃ j r', j ≠ k ∧ s[j]? = some r' ∧ u ∈ nmR r'
theorem isRow_c {n : Int} {h : Str} {l : List D} {c : D} (hc : c ∈ l) (hb : isCons n c = false) : isRow n (.tuple [.str h, .tuple l]) = false := by
  have : l.all (isCons n) = false := by
    cases e : l.all (isCons n) with
    | false => rfl
    | true =>
      have := List.all_eq_true.mp e c hc
      rw [hb] at this
      cases this
  simp only [isRow, this, Bool.and_false]
theorem bad_dup {s : Sg} {k i : Nat} {r : Rw} {u : Str} (hu : Used s k r u) :
    ¬ IsSig (.tuple ((s.map rowD).take k ++ [rowD (r.1, (r.2.take 3).take i ++ [(u, [])] ++ (r.2.take 3).drop i)] ++ (s.map rowD).drop (k + 1))) := by
  rintro ⟨s', e, _, nd, _⟩
  have e2 : sigD (s.take k ++ [(r.1, (r.2.take 3).take i ++ [(u, [])] ++ (r.2.take 3).drop i)] ++ s.drop (k + 1)) = sigD s' := by
    rw [← e, sigD, List.map_append, List.map_append, List.map_take, List.map_drop]
    rfl
  have := sigD_inj e2
  subst this
  have hc := List.nodup_iff_count.mp nd u
  have e3 : (r.2.take 3).map Prod.fst = ((r.2.take 3).take i).map Prod.fst ++ ((r.2.take 3).drop i).map Prod.fst := by rw [← List.map_append, List.take_append_drop]
  simp only [namesOf, List.flatMap_append, List.flatMap_cons, List.flatMap_nil, List.append_nil, List.map_append, List.map_cons, List.map_nil, List.count_append, List.count_cons_self, List.count_nil] at hc
  rcases hu with hu | ⟨j, r', hj, hr', hu⟩
  · have := List.count_pos_iff.mpr hu
    rw [e3, List.count_append] at this
    omega
  · by_cases hlt : j < k
    · have hm : r' ∈ s.take k := List.mem_of_getElem? (i := j) (by rw [List.getElem?_take_of_lt hlt]; exact hr')
      have : 0 < List.count u (List.flatMap (fun r : Rw => r.2.map Prod.fst) _) := List.count_pos_iff.mpr (List.mem_flatMap.mpr ⟨r', hm, hu⟩)
      omega
    · have hm : r' ∈ s.drop (k + 1) := List.mem_of_getElem? (i := j - (k + 1)) (by rw [List.getElem?_drop, show k + 1 + (j - (k + 1)) = j from by omega]; exact hr')
      have : 0 < List.count u (List.flatMap (fun r : Rw => r.2.map Prod.fst) _) := List.count_pos_iff.mpr (List.mem_flatMap.mpr ⟨r', hm, hu⟩)
      omega
theorem txs_ne (us : List Str) : PyData.eqv (.list (txs us)) (.list []) = decide (us = []) := by
  cases us with
  | nil => rfl
  | cons x l => rfl
def fstD (x : D) : D := match x with
  | .tuple [n, _] => n
  | _ => .none
theorem fst_cs (cs : List Cn) : (cs.map consD).map fstD = txs (cs.map Prod.fst) := by
  rw [List.map_map, txs, List.map_map]
  rfl
theorem v_law_spoilt_constructor : ∀ as R, p_law_spoilt_constructor as R → w_law_spoilt_constructor (retEn (hasOwn as) R) (startS 13 as) := by
  rintro as R ⟨l, s, rfl, hs, hw, q⟩
  have hs1 := hw.1
  have hs3 := hw.2.1
  unfold w_law_spoilt_constructor
  walk_at "w0"
  unfold sigD
  walk_at "n"
  rw [List.length_map]
  refine ⟨l, _, rfl, hs, by omega, by omega, fun d l1 hl1 h0 h1 => ?_⟩
  obtain ⟨k, rfl⟩ := Int.eq_ofNat_of_zero_le h0
  have hk : k < s.length := by omega
  obtain ⟨r, hr⟩ : ∃ r, s[k]? = some r := ⟨_, List.getElem?_eq_getElem hk⟩
  have hwr := hw.2.2 r (List.mem_of_getElem? hr)
  have hr4 := hwr.1
  have hok := ok_conss hwr.2
  have cut3 : cutD (r.2.map consD) none (some 3) = (r.2.take 3).map consD := by rw [cutD_to (by omega), List.map_take]; rfl
  have fin : ∀ (c : D) (i : Nat) l', okD c = true → (isCons (s.length : Nat) c = false ∨ ∃ u, c = consD (u, []) ∧ Used s k r u) → isStrm l' →
      R (.d (.tuple ((s.map rowD).take k ++ [.tuple [.str (if r.1 = true then "open" else "closed"), .tuple (((r.2.take 3).map consD).take i ++ [c] ++ ((r.2.take 3).map consD).drop i)]] ++ (s.map rowD).drop (k + 1)))) (some l') := fun c i l' okc bad hl' => by
    refine q _ l' (ok_repl hw (ok2 (okD_str (how_len _)) (okD_tup fun d hd => ?_))) ?_ hl'
    · have h3 : ∀ d ∈ (r.2.take 3).map consD, okD d = true := fun d hd => by
        rw [List.map_take] at hd
        exact hok d (List.mem_of_mem_take hd)
      rcases List.mem_append.mp hd with hd | hd
      · rcases List.mem_append.mp hd with hd | hd
        · exact h3 d (List.mem_of_mem_take hd)
        · rw [List.mem_singleton] at hd
          rw [hd]
          exact okc
      · exact h3 d (List.mem_of_mem_drop hd)
    · rcases bad with bad | ⟨u, rfl, hu⟩
      · exact bad_row hk (isRow_c (by simp) bad)
      · have := bad_dup (i := i) hu
        simp only [rowD, List.map_append, List.map_take, List.map_drop, List.map_cons, List.map_nil] at this ⊢
        exact this
  walk_at "n"
  refine i_ix rfl (row_at hr) ?_
  unfold rowD
  walk_at "n"
  refine ⟨s, rfl, hw, fun fs hf5 hfl => ?_⟩
  obtain ⟨f0, f1, f2, f3, f4, fr, rfl⟩ := fresh5 hf5
  have hf0 : okD (.str f0) = true := okD_str (hfl f0 (by simp))
  have a0 : atI (txs (f0 :: f1 :: f2 :: f3 :: f4 :: fr)) 0 = some (.str f0) := atI_nat (j := 0) rfl
  walk_at "n"
  refine i_ix rfl a0 ?_
  walk_at "n"
  rw [List.length_map]
  refine lcL_map (items := wrongL f0) (fun x => .tuple [x, .tuple []]) (le_line (by show 14 ≤ _; omega)) (fun x hx N hN => ?_) ?_
  · refine ⟨_, rfl, ?_⟩
    walk_at "n"
    exact hN _ rfl
  walk_at "n"
  refine lcL_map (items := partsL k s.length) (fun x => .tuple [.str f0, x]) (le_line (by show 9 ≤ _; omega)) (fun x hx N hN => ?_) ?_
  · refine ⟨_, rfl, ?_⟩
    walk_at "n"
    exact hN _ rfl
  walk_at "n"
  refine i_addL rfl rfl (le_line (by rw [List.length_map, List.length_map]; show 14 + 9 ≤ _; omega)) ?_
  walk_at "n"
  refine i_addL rfl rfl (le_line (by rw [List.length_append, List.length_map, List.length_map]; show 14 + 9 + 8 ≤ _; omega)) ?_
  walk_at "n"
  rw [cut3]
  refine lcL_map fstD (le_line (by rw [List.length_map, List.length_take]; omega)) (fun x hx N hN => ?_) ?_
  · obtain ⟨c, hc, rfl⟩ := List.mem_map.mp hx
    refine ⟨_, rfl, ?_⟩
    unfold consD
    walk_at "n"
    exact hN _ rfl
  rw [fst_cs]
  walk_at "n"
  rw [List.length_map]
  walk_at "n"
  refine forR_inv (P := fun i z => ∃ us, (∀ u ∈ us, Used s k r u) ∧ us.length ≤ 3 + 4 * i ∧ z = [some (.own (some 0) l1), some (.val (sigD s)), some (.val (.int (k : Nat))), some (.val (.str (if r.1 = true then "open" else "closed"))), some (.val (.tuple (r.2.map consD))), some (.val (.str f0)), some (.val (.list (wrongL f0))), some (.val (.list (partsL k s.length))), some (.val (.list (optsL f0 k s.length))), some (.val (.list (txs us))), none, none, none]) (fun i z hi p N hN => ?_) (fun z p => ?_) ⟨(r.2.take 3).map Prod.fst, fun u hu => .inl hu, by rw [List.length_map, List.length_take]; omega, rfl⟩
  · obtain ⟨us, hus, hul, rfl⟩ := p
    rw [Int.zero_add] at hi ⊢
    refine ⟨_, rfl, ?_⟩
    obtain ⟨r', hr'⟩ : ∃ r', s[i]? = some r' := ⟨_, List.getElem?_eq_getElem (by omega)⟩
    have hr4' := (hw.2.2 r' (List.mem_of_getElem? hr')).1
    unfold sigD
    walk_at "n"
    refine i_ifB (fun hb => ?_) (fun hb => ?_)
    · have hne : i ≠ k := by
        rintro rfl
        simp at hb
      walk_at "n"
      refine i_ix rfl (row_at hr') ?_
      unfold rowD
      walk_at "n"
      refine lcL_map fstD (le_line (by rw [List.length_map]; omega)) (fun x hx N2 hN2 => ?_) ?_
      · obtain ⟨c, hc, rfl⟩ := List.mem_map.mp hx
        refine ⟨_, rfl, ?_⟩
        unfold consD
        walk_at "n"
        exact hN2 _ rfl
      rw [fst_cs]
      walk_at "n"
      refine i_addL rfl rfl (le_line (by rw [txs, txs, List.length_map, List.length_map, List.length_map]; omega)) ?_
      walk_at "n"
      refine hN _ ⟨us ++ r'.2.map Prod.fst, fun u hu => ?_, by rw [List.length_append, List.length_map]; omega, by rw [strs_app]; rfl⟩
      rcases List.mem_append.mp hu with hu | hu
      · exact hus u hu
      · exact .inr ⟨i, r', hne, hr', hu⟩
    · walk_at "n"
      exact hN _ ⟨us, hus, by omega, rfl⟩
  obtain ⟨us, hus, hul, rfl⟩ := p
  unfold sigD
  walk_at "n"
  refine ⟨_, _, rfl, rfl, plain_strs us, rfl, by simp [PyData.depth, PyData.depthAll], ?_⟩
  walk_at "n"
  refine i_ifB (fun hb => ?_) (fun hb => ?_)
  · have hne : us ≠ [] := by
      rintro rfl
      cases hb
    walk_at "n"
    refine ⟨l1, _, rfl, hl1, by decide, by decide, fun d2 l2 hl2 h20 h21 => ?_⟩
    walk_at "n"
    refine i_ifD (fun he => ?_) (fun he => ?_)
    · walk_at "n"
      refine ⟨l2, txs us, rfl, hl2, by simpa [txs] using hne, by rw [txs, List.length_map]; omega, fun ud l3 hud hl3 => ?_⟩
      obtain ⟨u, hu, rfl⟩ := List.mem_map.mp hud
      walk_at "n"
      refine ⟨l3, [consD (u, [])], rfl, hl3, by simp, by show 1 ≤ 1000; omega, fun c l8 hc hl8 => ?_⟩
      rw [List.mem_singleton] at hc
      subst hc
      have hul : u.length ≤ 1000 := by
        rcases hus u hu with h | ⟨j, r', _, h, hu2⟩
        · obtain ⟨c, hc, rfl⟩ := List.mem_map.mp h
          exact name_len (hwr.2 c (List.mem_of_mem_take hc)).1
        · obtain ⟨c, hc, rfl⟩ := List.mem_map.mp hu2
          exact name_len ((hw.2.2 r' (List.mem_of_getElem? h)).2 c hc).1
      walk_at "n"
      rw [cut3]
      refine ⟨l8, _, consD (u, []), rfl, hl8, by rw [List.length_map, List.length_take]; omega, fun i l9 hl9 => ?_⟩
      walk_at "n"
      refine ⟨s, k, _, rfl, hs3, ?_⟩
      walk_at "n"
      exact fin (consD (u, [])) i l9 (ok2 (okD_str hul) rfl) (.inr ⟨u, rfl, hus u hu⟩) hl9
    walk_at "n"
    refine ⟨l2, optsL f0 k s.length, rfl, hl2, by simp [optsL, wrongL], by rw [opts_len]; omega, fun c l8 hc hl8 => ?_⟩
    obtain ⟨okc, badc⟩ := opts_good hf0 hc
    walk_at "n"
    rw [cut3]
    refine ⟨l8, _, c, rfl, hl8, by rw [List.length_map, List.length_take]; omega, fun i l9 hl9 => ?_⟩
    walk_at "n"
    refine ⟨s, k, _, rfl, hs3, ?_⟩
    walk_at "n"
    exact fin c i l9 okc (.inl badc) hl9
  · walk_at "n"
    refine ⟨l1, optsL f0 k s.length, rfl, hl1, by simp [optsL, wrongL], by rw [opts_len]; omega, fun c l8 hc hl8 => ?_⟩
    obtain ⟨okc, badc⟩ := opts_good hf0 hc
    walk_at "n"
    rw [cut3]
    refine ⟨l8, _, c, rfl, hl8, by rw [List.length_map, List.length_take]; omega, fun i l9 hl9 => ?_⟩
    walk_at "n"
    refine ⟨s, k, _, rfl, hs3, ?_⟩
    walk_at "n"
    exact fin c i l9 okc (.inl badc) hl9

theorem no_row {l : List D} {x : D} (h : x ∈ l) (hx : ∀ r, x ≠ rowD r) : ¬ IsSig (.tuple l) := by
  rintro ⟨s, e, _⟩
  injection e with e
  rw [e] at h
  obtain ⟨r, _, rfl⟩ := List.mem_map.mp h
  exact hx r rfl
theorem v_law_spoilt : ∀ as R, p_law_spoilt as R → w_law_spoilt (retEn (hasOwn as) R) (startS 4 as) := by
  rintro as R ⟨l, s, rfl, hs, hw, q⟩
  have hs1 := hw.1
  have hs3 := hw.2.1
  unfold w_law_spoilt
  walk_at "w0"
  walk_at "n"
  refine ⟨l, _, rfl, hs, by decide, by decide, fun d l1 hl1 h0 h1 => ?_⟩
  walk_at "n"
  refine i_ifD (fun he => ?_) (fun he => ?_)
  · unfold sigD
    walk_at "n"
    rw [List.length_map]
    refine i_mulT (by simp) (by omega) (by omega) (by show 1 ≤ 1000; omega) ?_
    walk_at "n"
    have hml : ((List.replicate (4 - (s.length : Nat) : Int).toNat [PyData.tuple [.str "open", .tuple []]]).flatten).length = 4 - s.length := by
      rw [List.length_flatten, List.map_replicate, List.sum_replicate_nat]
      show _ * 1 = _
      omega
    have hmo : ∀ x ∈ (List.replicate (4 - (s.length : Nat) : Int).toNat [PyData.tuple [.str "open", .tuple []]]).flatten, okD x = true := fun x hx => by
      obtain ⟨y, hy, hx⟩ := List.mem_flatten.mp hx
      rw [List.eq_of_mem_replicate hy, List.mem_singleton] at hx
      rw [hx]
      rfl
    refine i_addT (le_line (by rw [List.length_map]; have := hml; omega)) ?_
    walk_at "n"
    obtain ⟨r, hr⟩ : ∃ r, s[0]? = some r := ⟨_, List.getElem?_eq_getElem (by omega)⟩
    have r0 : atI (s.map rowD) 0 = some (rowD r) := row_at (k := 0) hr
    have hr0 : r ∈ s := List.mem_of_getElem? hr
    refine i_ix rfl r0 ?_
    walk_at "n"
    refine ⟨l1, ([.list (s.map rowD), .tuple [], .tuple (s.map rowD ++ (List.replicate (4 - (s.length : Nat) : Int).toNat [PyData.tuple [.str "open", .tuple []]]).flatten), rowD r, .tuple [sigD s], .none, .int 0, .bool true, .str "open", .dict []] : List D), rfl, hl1, by simp, by show 10 ≤ 1000; omega, fun x l3 hx hl3 => ?_⟩
    have good : okD x = true ∧ ¬ IsSig x := by
      simp only [List.mem_cons, List.not_mem_nil, or_false] at hx
      rcases hx with rfl | rfl | rfl | rfl | rfl | rfl | rfl | rfl | rfl | rfl
      · exact ⟨okD_lst (ok_rows hw), fun ⟨_, e, _⟩ => by cases e⟩
      · refine ⟨rfl, fun ⟨s', e, w, _⟩ => ?_⟩
        injection e with e
        have := congrArg List.length e
        rw [List.length_map, List.length_nil] at this
        have := w.1
        omega
      · refine ⟨okD_tup fun y hy => (List.mem_append.mp hy).elim (ok_rows hw y) (hmo y), fun ⟨s', e, w, _⟩ => ?_⟩
        injection e with e
        have := congrArg List.length e
        rw [List.length_append, List.length_map, List.length_map, hml] at this
        have := w.2.1
        omega
      · exact ⟨ok_row (hw.2.2 r hr0), no_row (x := .str (if r.1 = true then "open" else "closed")) (by simp) fun r e => by cases e⟩
      · refine ⟨okD_tup (by simpa using ok_sig hw), no_row (x := sigD s) (by simp) fun r' e => ?_⟩
        injection e with e
        have hm : rowD r ∈ s.map rowD := List.mem_map.mpr ⟨r, hr0, rfl⟩
        rw [e] at hm
        simp only [List.mem_cons, List.not_mem_nil, or_false] at hm
        have e2 : (s.map rowD)[0]? = some (rowD r) := by rw [List.getElem?_map, hr]; rfl
        rw [e] at e2
        cases e2
      · exact ⟨rfl, fun ⟨_, e, _⟩ => by cases e⟩
      · exact ⟨rfl, fun ⟨_, e, _⟩ => by cases e⟩
      · exact ⟨rfl, fun ⟨_, e, _⟩ => by cases e⟩
      · exact ⟨by decide, fun ⟨_, e, _⟩ => by cases e⟩
      · exact ⟨rfl, fun ⟨_, e, _⟩ => by cases e⟩
    walk_at "n"
    exact q x l3 good.1 good.2 hl3
  · walk_at "n"
    refine i_ifD (fun he => ?_) (fun he => ?_)
    · walk_at "n"
      refine ⟨l1, s, rfl, hl1, hw, fun x l2 h1 h2 hl2 => ?_⟩
      walk_at "n"
      exact q x l2 h1 h2 hl2
    · walk_at "n"
      refine ⟨l1, s, rfl, hl1, hw, fun x l2 h1 h2 hl2 => ?_⟩
      walk_at "n"
      exact q x l2 h1 h2 hl2
end L3
/-! The law. -/
namespace L3
open PySem PySem.Spec PyProof.Rows L2 PySem.SeqAt
/-- 0 script, 1 stream, 2 turn, 3 signature, 4 other, 5 loose, 6 deep -/
def w_law : WS :=
(wSeq (wSetO 1 (wCall p_law_stream (wCons (wVar 0) wNil)))
 (wSeq (wFor (wRng1 (wCons (wC (.int 4)) wNil)) (gNm 2)
 (wKill [2, 3, 4, 5] (wSeq (wSet 3 (wFrz (wCall p_law_signature (wCons (wVar 1) wNil))))
 (wSeq (wIfS (wNot (wTest (wFrz (wCall p_law_same (wCons (wFrz (wCall p_is_signature (wCons (wVar 3) wNil))) (wCons (wC (.bool true)) wNil))))))
 (wRet (wC (.bool false)))
 wNext)
 (wSeq (wFor (wRng1 (wCons (wC (.int 8)) wNil)) (gNm 4)
 (wKill [4] (wIfS (wNot (wTest (wFrz (wCall p_law_same (wCons (wFrz (wCall p_is_signature (wCons (wFrz (wCall p_law_spoilt (wCons (wVar 1) (wCons (wVar 3) wNil)))) wNil))) (wCons (wC (.bool false)) wNil))))))
 (wRet (wC (.bool false)))
 wNext)))
 (wFor (wRng1 (wCons (wC (.int 3)) wNil)) (gNm 4)
 (wKill [4, 5] (wSeq (wSet 5 (wFrz (wCall p_law_loose_signature (wCons (wVar 1) wNil))))
 (wIfS (wNot (wTest (wFrz (wCall p_law_same (wCons (wFrz (wCall p_is_signature (wCons (wVar 5) wNil))) (wCons (wFrz (wCall p_law_all_have_values (wCons (wVar 5) wNil))) wNil))))))
 (wRet (wC (.bool false)))
 wNext)))))))))
 (wSeq (wSet 6 (wTup wNil))
 (wSeq (wFor (wRng1 (wCons (wC (.int 3000)) wNil)) (gNm 2)
 (wKill [2] (wSet 6 (wTup (wCons (wVar 6) wNil)))))
 (wRet (wBin (sIsB id) (wFrz (wCall p_is_signature (wCons (wVar 6) wNil))) (wC (.bool false))))))))
local macro_rules | `(tactic| walk_at "w1") => `(tactic| first
  | (with_reducible refine' i_seq ?_) | (with_reducible refine' i_set ?_) | (with_reducible refine' i_ifS ?_) | (with_reducible refine' i_ret ?_) | (with_reducible refine' i_next ?_) | (with_reducible refine' i_kill ?_)
  | (with_reducible refine' i_setO ?_) | (with_reducible refine' i_lcSet ?_) | (with_reducible refine' i_asg ?_) | (with_reducible refine' i_put ?_) | (with_reducible refine' i_drop ?_) | (with_reducible refine' i_retR ?_)
  | ((with_reducible refine' i_retO ?h1 ?_); (case h1 => rfl)) | (with_reducible refine' i_for ?_)
  | (with_reducible refine' i_test ?_) | (with_reducible refine' i_tnot ?_) | (with_reducible refine' i_tand ?_) | (with_reducible refine' i_tor ?_) | (with_reducible refine' i_yes ?_)
  | ((with_reducible refine' i_var ?h1 ?_); (case h1 => rfl)) | ((with_reducible refine' i_varO ?h1 ?_); (case h1 => rfl)) | (with_reducible refine' i_c ?_) | (with_reducible refine' i_dct ?_) | (with_reducible refine' i_frz ?_) | (with_reducible refine' i_bin ?_) | (with_reducible refine' i_binR ?_)
  | (with_reducible refine' i_cb ?_) | (with_reducible refine' i_nil ?_) | (with_reducible refine' i_cons ?_) | (with_reducible refine' i_tup ?_) | (with_reducible refine' i_lst ?_) | (with_reducible refine' i_neg ?_) | (with_reducible refine' i_isa ?_)
  | (with_reducible refine' i_andV ?_) | (with_reducible refine' i_orV ?_) | (with_reducible refine' i_notV ?_) | (with_reducible refine' i_if ?_) | (with_reducible refine' i_chain ?_) | (with_reducible refine' i_sl ?_) | (with_reducible refine' i_noPart ?_) | (with_reducible refine' i_part ?_)
  | (with_reducible refine' i_bm ?_) | (with_reducible refine' i_bm0 ?_) | (with_reducible refine' i_lrg ?_) | (with_reducible refine' i_call ?_) | (with_reducible refine' i_src ?_) | (with_reducible refine' i_rng1 ?_) | (with_reducible refine' i_rng2 ?_) | (with_reducible refine' i_enum ?_)
  | (with_reducible refine' i_lc ?_) | (with_reducible refine' i_lc2 ?_))
local macro_rules | `(tactic| walk_at "w2") => `(tactic| first
  | (with_reducible refine' i_allM ?_) | (with_reducible refine' i_anyM ?_)
  | (with_reducible refine' i_exD ?_) | (with_reducible refine' i_exB ?_) | (with_reducible refine' i_exRB ?_) | (with_reducible refine' i_exI ?_) | (with_reducible refine' i_exN ?_)
  | (with_reducible refine' i_addI ?_) | (with_reducible refine' i_sub ?_) | (with_reducible refine' i_lt ?_) | (with_reducible refine' i_le ?_) | (with_reducible refine' i_gt ?_) | (with_reducible refine' i_ge ?_)
  | (with_reducible refine' i_eqI ?_) | (with_reducible refine' i_neI ?_) | (with_reducible refine' i_eqB ?_) | (with_reducible refine' i_neB ?_) | (with_reducible refine' i_eqS ?_) | (with_reducible refine' i_neS ?_)
  | (with_reducible refine' i_isB ?_) | ((with_reducible refine' i_isN ?h1 ?_); (case h1 => rfl)) | ((with_reducible refine' i_notN ?h1 ?_); (case h1 => rfl))
  | (with_reducible refine' i_f1 ?_) | (with_reducible refine' i_f2 ?_) | ((with_reducible refine' i_len ?h1 ?_); (case h1 => rfl)) | (with_reducible refine' i_abs ?_) | (with_reducible refine' i_int ?_) | (with_reducible refine' i_max ?_) | (with_reducible refine' i_min ?_)
  | (with_reducible refine' i_listScr ?_) | ((with_reducible refine' i_list ?h1 ?_); (case h1 => rfl)) | ((with_reducible refine' i_tuple ?h1 ?_); (case h1 => rfl))
  | ((with_reducible refine' i_tyL ?h1 ?_); (case h1 => rfl)) | (with_reducible refine' i_tyS ?_)
  | (with_reducible refine' i_slT ?_) | ((with_reducible refine' i_slL ?h1 ?_); (case h1 => rfl)))
local macro_rules | `(tactic| walk_at "w3") => `(tactic| first
  | ((with_reducible refine' i_ix ?h1 ?h2 ?_); (case h1 => rfl); (case h2 => rfl)) | ((with_reducible refine' i_allD ?h1 ?h2 ?_); (case h1 => rfl); (case h2 => (simp [sizeLine_eq]; done)))
  | ((with_reducible refine' i_args ?h1 ?_); (case h1 => rfl)) | ((with_reducible refine' i_out ?h1 ?_); (case h1 => rfl)) | ((with_reducible refine' i_rt ?h1 ?_); (case h1 => rfl))
  | ((with_reducible refine' i_srcOf ?h1 ?_); (case h1 => rfl)) | ((with_reducible refine' i_evD ?h1 ?h2 ?_); (case h1 => rfl); (case h2 => (intro l e; cases e; done)))
  | ((with_reducible refine' i_rngD ?h1 ?h2 ?_); (case h1 => (first | decide | omega)); (case h2 => (first | decide | omega))) | ((with_reducible refine' i_rngD2 ?h1 ?_); (case h1 => (first | decide | omega)))
  | ((with_reducible refine' i_lrgD ?h1 ?_); (case h1 => (apply RgOk.of_le <;> omega))) | ((with_reducible refine' i_enumE ?h1 ?_); (case h1 => rfl))
  | ((with_reducible refine' i_putD ?h1 ?h2 ?_); (case h1 => rfl); (case h2 => rfl)) | ((with_reducible refine' i_asgD ?h1 ?_); (case h1 => rfl))
  | ((with_reducible refine' i_mul ?h1 ?_); (case h1 => (first | exact .inr (by decide) | exact .inl (by decide)))) | ((with_reducible refine' i_mod ?h1 ?_); (case h1 => (first | decide | omega)))
  | ((with_reducible refine' i_fdiv ?h1 ?_); (case h1 => (first | exact ⟨by decide, by decide⟩ | exact ⟨by omega, by omega⟩))) | ((with_reducible refine' i_pow ?h1 ?_); (case h1 => exact pow_ok (by decide)))
  | ((with_reducible refine' i_ifT ?h1 ?_); (case h1 => (first | rfl | assumption | (simp [isA]; done)))) | ((with_reducible refine' i_ifF ?h1 ?_); (case h1 => (first | rfl | assumption | (simp [isA]; done))))
  | ((with_reducible refine' i_pop ?h1 ?h2 ?_); (case h1 => rfl); (case h2 => rfl))
  | ((with_reducible refine' i_isD ?h1 ?_); (case h1 => assumption))
  | ((with_reducible refine' i_append ?h1 ?h2 ?_); (case h1 => rfl); (case h2 => (first | (simp [sizeLine_eq]; done) | (apply lt_line; omega)))))
local macro_rules | `(tactic| walk_at "w") => `(tactic| repeat' (first | walk_at "w1" | walk_at "w2" | walk_at "w3" | fail "open"))
local macro_rules | `(tactic| walk_at "w0") => `(tactic| simp only [startS, hasOwn, List.map_cons, List.map_nil, List.length_cons, List.length_nil, List.cons_append, List.nil_append, List.replicate, Nat.reduceAdd, Nat.reduceSub, Nat.zero_add])



local macro_rules | `(tactic| walk_at "n") => `(tactic| ((try dsimp only [List.set_cons_succ, List.set_cons_zero, RV.toD]); walk_at "w"))

theorem deep_no {e : D} {l : List D} (he : e = .tuple l) (hl : l.length ≤ 1) : ¬ IsSig (.tuple [e]) := no_row (x := e) (by simp) fun r e2 => by
  rw [he] at e2
  injection e2 with e2
  rw [e2] at hl
  simp at hl
abbrev p_law : FS := pLaw
theorem l_law : ∀ as R, p_law as R → as.length = 1 := fun as R ⟨ns, e, _⟩ => by rw [e]; rfl
def lawZ (ns : List Int) (l : List D) (t : SS) : SS := [some (.val (.dict [(.none, .list (ns.map PyData.int))])), some (.own none l)] ++ t
theorem v_law : ∀ as R, pLaw as R → w_law (retEn (hasOwn as) R) (startS 7 as) := by
  rintro as R ⟨ns, rfl, hn, q⟩
  unfold w_law
  walk_at "w0"
  walk_at "n"
  refine ⟨ns, rfl, hn, fun l1 hl1 => ?_⟩
  walk_at "n"
  refine forR_inv (P := fun i z => ∃ l, isStrm l ∧ z = lawZ ns l [none, none, none, none, none]) (fun i z hi p N hN => ?_) (fun z p => ?_) ⟨l1, hl1, rfl⟩
  · obtain ⟨l2, hl2, rfl⟩ := p
    refine ⟨_, rfl, ?_⟩
    unfold lawZ
    walk_at "n"
    refine ⟨l2, rfl, hl2, fun s l3 hw hnd hwh hl3 => ?_⟩
    walk_at "n"
    refine ⟨sigD s, rfl, ok_sig hw, ?_⟩
    walk_at "n"
    rw [isSig_true ⟨s, rfl, hw, hnd, hwh⟩]
    refine ⟨_, _, rfl, ?_⟩
    walk_at "n"
    refine forR_inv (P := fun i' z => ∃ l, isStrm l ∧ z = lawZ ns l [some (.val (.int (0 + (i : Nat)))), some (.val (sigD s)), none, none, none]) (fun i' z hi' p N2 hN2 => ?_) (fun z p => ?_) ⟨l3, hl3, rfl⟩
    · obtain ⟨l4, hl4, rfl⟩ := p
      refine ⟨_, rfl, ?_⟩
      unfold lawZ
      walk_at "n"
      refine ⟨l4, s, rfl, hl4, hw, fun d l5 okd nos hl5 => ?_⟩
      walk_at "n"
      refine ⟨d, rfl, okd, ?_⟩
      walk_at "n"
      rw [isSig_false nos]
      refine ⟨_, _, rfl, ?_⟩
      walk_at "n"
      exact hN2 _ ⟨l5, hl5, rfl⟩
    obtain ⟨l4, hl4, rfl⟩ := p
    unfold lawZ
    walk_at "n"
    refine forR_inv (P := fun i' z => ∃ l, isStrm l ∧ ∃ o, z = lawZ ns l [some (.val (.int (0 + (i : Nat)))), some (.val (sigD s)), none, o, none]) (fun i' z hi' p N2 hN2 => ?_) (fun z p => ?_) ⟨l4, hl4, none, rfl⟩
    · obtain ⟨l5, hl5, o, rfl⟩ := p
      refine ⟨_, rfl, ?_⟩
      unfold lawZ
      walk_at "n"
      refine ⟨l5, rfl, hl5, fun s2 l6 hw2 hnd2 hl6 => ?_⟩
      walk_at "n"
      refine ⟨sigD s2, rfl, ok_sig hw2, ?_⟩
      walk_at "n"
      refine ⟨s2, rfl, hw2, fun b hb => ?_⟩
      have e : isSig (sigD s2) = b := by
        rw [Bool.eq_iff_iff, isSig_iff, isSig_sig hw2, hb]
        exact ⟨fun h => h.2, fun h => ⟨hnd2, h⟩⟩
      rw [e]
      walk_at "n"
      refine ⟨_, _, rfl, ?_⟩
      rw [decide_eq_true rfl]
      walk_at "n"
      exact hN2 _ ⟨l6, hl6, _, rfl⟩
    obtain ⟨l5, hl5, o, rfl⟩ := p
    exact hN _ ⟨l5, hl5, rfl⟩
  obtain ⟨l2, hl2, rfl⟩ := p
  unfold lawZ
  walk_at "n"
  refine forR_inv (P := fun i z => ∃ l d, okD d = true ∧ (∃ m : List D, d = .tuple m ∧ m.length ≤ 1) ∧ (1 ≤ i → ¬ IsSig d) ∧ z = lawZ ns l [none, none, none, none, some (.val d)]) (fun i z hi p N hN => ?_) (fun z p => ?_) ⟨l2, .tuple [], rfl, ⟨[], rfl, by simp⟩, fun h => absurd h (by omega), rfl⟩
  · obtain ⟨l3, d, okd, ⟨m, hm, hm1⟩, _, rfl⟩ := p
    refine ⟨_, rfl, ?_⟩
    unfold lawZ
    walk_at "n"
    exact hN _ ⟨l3, .tuple [d], okD_tup (by simpa using okd), ⟨[d], rfl, by simp⟩, fun _ => deep_no hm hm1, rfl⟩
  · obtain ⟨l3, d, okd, _, hno, rfl⟩ := p
    have no := hno (by decide)
    unfold lawZ
    walk_at "n"
    refine ⟨d, rfl, okd, ?_⟩
    walk_at "n"
    rw [isSig_false no]
    exact q
end L3
namespace K01
open PySem PySem.Spec PyProof.Rows L2 L3
def topS (i : Nat) : Stmt := PySem.Challenge.pw_closestfit_k01_whole_signatures.main.body.getD i (.Pass ⟨0, 0, 0, 0⟩)
abbrev s_is_whole : Stmt := topS 5
abbrev s_is_within : Stmt := topS 6
abbrev s_is_name : Stmt := topS 7
abbrev s_are_kinds : Stmt := topS 8
abbrev s_is_constructor : Stmt := topS 9
abbrev s_is_kind_row : Stmt := topS 10
abbrev s_filled_kinds : Stmt := topS 11
abbrev s_is_signature : Stmt := topS 12
abbrev s_law_stream : Stmt := topS 14
abbrev s_law_next : Stmt := topS 15
abbrev s_law_pick : Stmt := topS 16
abbrev s_law_order : Stmt := topS 17
abbrev s_law_is_integer : Stmt := topS 18
abbrev s_law_same : Stmt := topS 19
abbrev s_law_word : Stmt := topS 20
abbrev s_law_names : Stmt := topS 21
abbrev s_law_any_signature : Stmt := topS 22
abbrev s_law_rich_signature : Stmt := topS 23
abbrev s_law_signature : Stmt := topS 24
abbrev s_law_loose_signature : Stmt := topS 25
abbrev s_law_all_have_values : Stmt := topS 26
abbrev s_law_fresh : Stmt := topS 27
abbrev s_law_with_kind : Stmt := topS 28
abbrev s_law_put_in : Stmt := topS 29
abbrev s_law_spoilt_kind : Stmt := topS 30
abbrev s_law_spoilt_constructor : Stmt := topS 31
abbrev s_law_spoilt : Stmt := topS 32
abbrev s_law : Stmt := topS 33
structure Bl (mg : Str → Option Value) : Prop where
  b_abs : mg "abs" = none
  b_all : mg "all" = none
  b_any : mg "any" = none
  b_bool : mg "bool" = none
  b_enumerate : mg "enumerate" = none
  b_int : mg "int" = none
  b_isinstance : mg "isinstance" = none
  b_len : mg "len" = none
  b_list : mg "list" = none
  b_max : mg "max" = none
  b_range : mg "range" = none
  b_str : mg "str" = none
  b_sum : mg "sum" = none
  b_tuple : mg "tuple" = none
  c_MOST_KINDS : ∃ t, mg "MOST_KINDS" = some (.int 3 t)
  c_MOST_CONSTRUCTORS : ∃ t, mg "MOST_CONSTRUCTORS" = some (.int 4 t)
  c_MOST_PARTS : ∃ t, mg "MOST_PARTS" = some (.int 2 t)
  c_LETTERS : ∃ t, mg "LETTERS" = some (.str "abcdefghijklmnopqrstuvwxyz" t)
section
variable {P : Program} {w : World} {K : PySem.W.Frag} {mg : Str → Option Value} {base : Heap}
theorem sc_is_whole : FnScope ["value", "low"] ["value", "low"] (defScope s_is_whole) := ⟨rfl, rfl, rfl, by decide +kernel, rfl, by decide +kernel, by decide +kernel⟩
theorem x_is_whole (T : Bl mg) {f : Addr} {fd : FuncData} (Fn : Fun K "is_whole" "is_whole" s_is_whole f fd) : FnOk P w K mg base CX0 1 f fd ["value", "low"] (spOf K p_is_whole) :=
  have nd := sc_is_whole.nd
  fn_ok Fn sc_is_whole l_is_whole (t := w_is_whole) (fun cdv A outer s H E F hr =>
(xss_one (xs_ret (xe_and (xe_isa (n := "int") kit_int (by rfl) T.b_isinstance (xe_v 0) (by rfl) T.b_int (by decide +kernel)) (xe_and (xe_not (xe_isa (n := "bool") kit_bool (by rfl) T.b_isinstance (xe_v 0) (by rfl) T.b_bool (by decide +kernel))) (xe_one (xe_cmp op_ge (vr_ii0 fun _ _ _ => .bl _) (xe_v 0) (xe_v 1) (nomark _)))))))) v_is_whole
theorem sc_is_within : FnScope ["value", "low", "high"] ["value", "low", "high"] (defScope s_is_within) := ⟨rfl, rfl, rfl, by decide +kernel, rfl, by decide +kernel, by decide +kernel⟩
theorem x_is_within (T : Bl mg) (d_is_whole : Fd P w K mg base "is_whole" 1 ["value", "low"] p_is_whole) {f : Addr} {fd : FuncData} (Fn : Fun K "is_within" "is_within" s_is_within f fd) : FnOk P w K mg base CX0 2 f fd ["value", "low", "high"] (spOf K p_is_within) :=
  have nd := sc_is_within.nd
  fn_ok Fn sc_is_within l_is_within (t := w_is_within) (fun cdv A outer s H E F hr =>
(xss_one (xs_ret (xe_and (XR.xe (xr_call m_is_whole (d_is_whole.ok.mono (by decide)) hr (by rfl) d_is_whole.mg d_is_whole.kp d_is_whole.b (xa_cons (xe_v 0) (xa_cons (xe_v 1) xa_nil)))) (xe_one (xe_cmp op_le (vr_ii0 fun _ _ _ => .bl _) (xe_v 0) (xe_v 2) (nomark _))))))) v_is_within
theorem sc_is_name : FnScope ["value", "letter"] ["value"] (defScope s_is_name) := ⟨rfl, rfl, rfl, by decide +kernel, rfl, by decide +kernel, by decide +kernel⟩
theorem x_is_name (T : Bl mg) {f : Addr} {fd : FuncData} (Fn : Fun K "is_name" "is_name" s_is_name f fd) : FnOk P w K mg base CX0 1 f fd ["value"] (spOf K p_is_name) :=
  have nd := sc_is_name.nd
  fn_ok Fn sc_is_name l_is_name (t := w_is_name) (fun cdv A outer s H E F hr =>
(xss_one (xs_ret (xe_and (xe_isa (n := "str") kit_str (by rfl) T.b_isinstance (xe_v 0) (by rfl) T.b_str (by decide +kernel)) (xe_and (xe_chain op_le op_le (vr_ii0 fun _ _ _ => .bl _) (vr_ii0 fun _ _ _ => .bl _) xe_int (xe_len (by rfl) T.b_len (xa_cons (xe_v 0) xa_nil)) xe_int) (xe_one (xe_all rfl (by rfl) T.b_all (xa_cons (XR.xe (xr_lcA [("letter", 1)] rfl nd (xi_any (xe_v 0)) (blkOk_by (by kernel_rfl)) (fun _ _ _ _ _ => (xg_name (i := 1) nd rfl (.inl rfl) (by first | exact .inl rfl | exact .inr rfl))) (fun _ _ _ _ _ => xts_nil) (fun _ _ _ _ _ => (xe_cmp (op_inP hr.units) vr_in (xe_v 1) (xe_gS (by rfl) T.c_LETTERS) (by rfl))))) xa_nil)))))))) v_is_name
theorem sc_are_kinds : FnScope ["many", "value", "least", "most", "kind"] ["many", "value", "least", "most"] (defScope s_are_kinds) := ⟨rfl, rfl, rfl, by decide +kernel, rfl, by decide +kernel, by decide +kernel⟩
theorem x_are_kinds (T : Bl mg) (d_is_within : Fd P w K mg base "is_within" 2 ["value", "low", "high"] p_is_within) {f : Addr} {fd : FuncData} (Fn : Fun K "are_kinds" "are_kinds" s_are_kinds f fd) : FnOk P w K mg base CX0 3 f fd ["many", "value", "least", "most"] (spOf K p_are_kinds) :=
  have nd := sc_are_kinds.nd
  fn_ok Fn sc_are_kinds l_are_kinds (t := w_are_kinds) (fun cdv A outer s H E F hr =>
(xss_cons (xs_if (XW.xt (xw_or (xt_not (xt_val (xe_isa (n := "tuple") kit_tuple (by rfl) T.b_isinstance (xe_v 1) (by rfl) T.b_tuple (by decide +kernel)))) (xw_or1 (xt_not (xt_chain op_le op_le (vr_ii0 fun _ _ _ => .bl _) (vr_ii0 fun _ _ _ => .bl _) (xe_v 2) (xe_len (by rfl) T.b_len (xa_cons (xe_v 1) xa_nil)) (xe_v 3))))))
 (xss_one (xs_ret xe_bl))
 xss_nil)
 (xss_one (xs_ret (xe_all rfl (by rfl) T.b_all (xa_cons (XR.xe (xr_lcA [("kind", 4)] rfl nd (xi_any (xe_v 1)) (blkOk_by (by kernel_rfl)) (fun _ _ _ _ _ => (xg_name (i := 4) nd rfl (.inl rfl) (by first | exact .inl rfl | exact .inr rfl))) (fun _ _ _ _ _ => xts_nil) (fun _ _ _ _ _ => (XR.xe (xr_call m_is_within (d_is_within.ok.mono (by decide)) hr (by rfl) d_is_within.mg d_is_within.kp d_is_within.b (xa_cons (xe_v 4) (xa_cons xe_int (xa_cons (xe_op op_sub (vr_ii0 fun _ _ _ => .int _) (xe_v 0) xe_int) xa_nil)))))))) xa_nil)))))) v_are_kinds
theorem sc_is_constructor : FnScope ["many", "value"] ["many", "value"] (defScope s_is_constructor) := ⟨rfl, rfl, rfl, by decide +kernel, rfl, by decide +kernel, by decide +kernel⟩
theorem x_is_constructor (T : Bl mg) (d_are_kinds : Fd P w K mg base "are_kinds" 3 ["many", "value", "least", "most"] p_are_kinds) (d_is_name : Fd P w K mg base "is_name" 1 ["value"] p_is_name) {f : Addr} {fd : FuncData} (Fn : Fun K "is_constructor" "is_constructor" s_is_constructor f fd) : FnOk P w K mg base CX0 4 f fd ["many", "value"] (spOf K p_is_constructor) :=
  have nd := sc_is_constructor.nd
  fn_ok Fn sc_is_constructor l_is_constructor (t := w_is_constructor) (fun cdv A outer s H E F hr =>
(xss_cons (xs_if (XW.xt (xw_or (xt_not (xt_val (xe_isa (n := "tuple") kit_tuple (by rfl) T.b_isinstance (xe_v 1) (by rfl) T.b_tuple (by decide +kernel)))) (xw_or (xt_cmp (op_neP hr.units) vr_eq (xe_len (by rfl) T.b_len (xa_cons (xe_v 1) xa_nil)) xe_int (nomark _)) (xw_or1 (xt_not (xt_val (XR.xe (xr_call m_is_name (d_is_name.ok.mono (by decide)) hr (by rfl) d_is_name.mg d_is_name.kp d_is_name.b (xa_cons (xe_ix (xe_v 1) xe_int) xa_nil)))))))))
 (xss_one (xs_ret xe_bl))
 xss_nil)
 (xss_one (xs_retR (xr_call m_are_kinds (d_are_kinds.ok.mono (by decide)) hr (by rfl) d_are_kinds.mg d_are_kinds.kp d_are_kinds.b (xa_cons (xe_v 0) (xa_cons (xe_ix (xe_v 1) xe_int) (xa_cons xe_int (xa_cons (xe_gI (by rfl) T.c_MOST_PARTS) xa_nil))))))))) v_is_constructor
theorem sc_is_kind_row : FnScope ["many", "value", "row"] ["many", "value"] (defScope s_is_kind_row) := ⟨rfl, rfl, rfl, by decide +kernel, rfl, by decide +kernel, by decide +kernel⟩
theorem x_is_kind_row (T : Bl mg) (d_is_constructor : Fd P w K mg base "is_constructor" 4 ["many", "value"] p_is_constructor) {f : Addr} {fd : FuncData} (Fn : Fun K "is_kind_row" "is_kind_row" s_is_kind_row f fd) : FnOk P w K mg base CX0 5 f fd ["many", "value"] (spOf K p_is_kind_row) :=
  have nd := sc_is_kind_row.nd
  fn_ok Fn sc_is_kind_row l_is_kind_row (t := w_is_kind_row) (fun cdv A outer s H E F hr =>
(xss_cons (xs_if (XW.xt (xw_or (xt_not (xt_val (xe_isa (n := "tuple") kit_tuple (by rfl) T.b_isinstance (xe_v 1) (by rfl) T.b_tuple (by decide +kernel)))) (xw_or (xt_cmp (op_neP hr.units) vr_eq (xe_len (by rfl) T.b_len (xa_cons (xe_v 1) xa_nil)) xe_int (nomark _)) (xw_or1 (xt_not (xt_val (xe_isa (n := "str") kit_str (by rfl) T.b_isinstance (xe_ix (xe_v 1) xe_int) (by rfl) T.b_str (by decide +kernel))))))))
 (xss_one (xs_ret xe_bl))
 xss_nil)
 (xss_cons (xs_if (XW.xt (xw_or (xt_cmp (op_notinP hr.units) vr_in (xe_ix (xe_v 1) xe_int) (xe_tup (xa_cons xe_str (xa_cons xe_str xa_nil))) (by rfl)) (xw_or (xt_not (xt_val (xe_isa (n := "tuple") kit_tuple (by rfl) T.b_isinstance (xe_ix (xe_v 1) xe_int) (by rfl) T.b_tuple (by decide +kernel)))) (xw_or1 (xt_cmp op_gt (vr_ii0 fun _ _ _ => .bl _) (xe_len (by rfl) T.b_len (xa_cons (xe_ix (xe_v 1) xe_int) xa_nil)) (xe_gI (by rfl) T.c_MOST_CONSTRUCTORS) (nomark _))))))
 (xss_one (xs_ret xe_bl))
 xss_nil)
 (xss_one (xs_ret (xe_all rfl (by rfl) T.b_all (xa_cons (XR.xe (xr_lcA [("row", 2)] rfl nd (xi_any (xe_ix (xe_v 1) xe_int)) (blkOk_by (by kernel_rfl)) (fun _ _ _ _ _ => (xg_name (i := 2) nd rfl (.inl rfl) (by first | exact .inl rfl | exact .inr rfl))) (fun _ _ _ _ _ => xts_nil) (fun _ _ _ _ _ => (XR.xe (xr_call m_is_constructor (d_is_constructor.ok.mono (by decide)) hr (by rfl) d_is_constructor.mg d_is_constructor.kp d_is_constructor.b (xa_cons (xe_v 0) (xa_cons (xe_v 2) xa_nil))))))) xa_nil))))))) v_is_kind_row
theorem sc_filled_kinds : FnScope ["signature", "found", "turn", "kind", "row", "name", "parts", "part"] ["signature"] (defScope s_filled_kinds) := ⟨rfl, rfl, rfl, by decide +kernel, rfl, by decide +kernel, by decide +kernel⟩
theorem x_filled_kinds (T : Bl mg) {f : Addr} {fd : FuncData} (Fn : Fun K "filled_kinds" "filled_kinds" s_filled_kinds f fd) : FnOk P w K mg base CX0 1 f fd ["signature"] (spOf K p_filled_kinds) :=
  have nd := sc_filled_kinds.nd
  fn_ok Fn sc_filled_kinds l_filled_kinds (t := w_filled_kinds) (fun cdv A outer s H E F hr =>
(xss_cons (xs_setO (i := 1) nd rfl (.inr rfl) (xr_lcA [("kind", 3), ("row", 4)] rfl nd (xi_enum (by rfl) T.b_enumerate (xa_cons (xe_v 0) xa_nil)) (blkOk_by (by kernel_rfl)) (fun _ _ _ _ _ => (xg_tup rfl (xgs_cons (xg_name (i := 3) nd rfl (.inl rfl) (by first | exact .inl rfl | exact .inr rfl)) (xgs_cons (xg_name (i := 4) nd rfl (.inl rfl) (by first | exact .inl rfl | exact .inr rfl)) xgs_nil)))) (fun _ _ _ _ _ => (xts_one (xt_cmp (op_eqP hr.units) vr_eq (xe_ix (xe_v 4) xe_int) xe_str (nomark _)))) (fun _ _ _ _ _ => (xe_v 3))))
 (xss_cons (xs_for PassesOwn.never rfl (xi_any (xe_v 0)) (xg_name (i := 2) nd rfl (.inl rfl))
 (xss_kill [2, 3, 4] (xss_one (xs_for PassesOwn.never rfl (xi_enum (by rfl) T.b_enumerate (xa_cons (xe_v 0) xa_nil)) (xg_tup rfl (xgs_cons (xg_name (i := 3) nd rfl (.inl rfl)) (xgs_cons (xg_name (i := 4) nd rfl (.inl rfl)) xgs_nil)))
 (xss_kill [3, 4] (xss_one (xs_if (XW.xt (xw_and (xt_cmp (op_notinP hr.units) vr_in (xe_v 3) (xe_v 1) (by rfl)) (xw_and1 (xt_val (xe_any rfl (by rfl) T.b_any (xa_cons (XR.xe (xr_lcA [("name", 5), ("parts", 6)] rfl nd (xi_any (xe_ix (xe_v 4) xe_int)) (blkOk_by (by kernel_rfl)) (fun _ _ _ _ _ => (xg_tup rfl (xgs_cons (xg_name (i := 5) nd rfl (.inl rfl) (by first | exact .inl rfl | exact .inr rfl)) (xgs_cons (xg_name (i := 6) nd rfl (.inl rfl) (by first | exact .inl rfl | exact .inr rfl)) xgs_nil)))) (fun _ _ _ _ _ => xts_nil) (fun _ _ _ _ _ => (xe_all rfl (by rfl) T.b_all (xa_cons (XR.xe (xr_lcA [("part", 7)] rfl nd (xi_any (xe_v 6)) (blkOk_by (by kernel_rfl)) (fun _ _ _ _ _ => (xg_name (i := 7) nd rfl (.inl rfl) (by first | exact .inl rfl | exact .inr rfl))) (fun _ _ _ _ _ => xts_nil) (fun _ _ _ _ _ => (xe_cmp (op_inP hr.units) vr_in (xe_v 7) (xe_v 1) (by rfl))))) xa_nil))))) xa_nil))))))
 (xss_one (xs_expr (XR.xe (xr_append (xe_v 1) (xa_cons (xe_v 3) xa_nil)))))
 xss_nil)))))))
 (xss_one (xs_retO 1))))) v_filled_kinds
theorem sc_is_signature : FnScope ["value", "names", "row", "name", "parts"] ["value"] (defScope s_is_signature) := ⟨rfl, rfl, rfl, by decide +kernel, rfl, by decide +kernel, by decide +kernel⟩
theorem x_is_signature (T : Bl mg) (d_filled_kinds : Fd P w K mg base "filled_kinds" 1 ["signature"] p_filled_kinds) (d_is_kind_row : Fd P w K mg base "is_kind_row" 5 ["many", "value"] p_is_kind_row) {f : Addr} {fd : FuncData} (Fn : Fun K "is_signature" "is_signature" s_is_signature f fd) : FnOk P w K mg base CX0 6 f fd ["value"] (spOf K p_is_signature) :=
  have nd := sc_is_signature.nd
  fn_ok Fn sc_is_signature l_is_signature (t := w_is_signature) (fun cdv A outer s H E F hr =>
(xss_cons (xs_if (XW.xt (xw_or (xt_not (xt_val (xe_isa (n := "tuple") kit_tuple (by rfl) T.b_isinstance (xe_v 0) (by rfl) T.b_tuple (by decide +kernel)))) (xw_or1 (xt_not (xt_chain op_le op_le (vr_ii0 fun _ _ _ => .bl _) (vr_ii0 fun _ _ _ => .bl _) xe_int (xe_len (by rfl) T.b_len (xa_cons (xe_v 0) xa_nil)) (xe_gI (by rfl) T.c_MOST_KINDS))))))
 (xss_one (xs_ret xe_bl))
 xss_nil)
 (xss_cons (xs_if (xt_not (xt_val (xe_all rfl (by rfl) T.b_all (xa_cons (XR.xe (xr_lcA [("row", 2)] rfl nd (xi_any (xe_v 0)) (blkOk_by (by kernel_rfl)) (fun _ _ _ _ _ => (xg_name (i := 2) nd rfl (.inl rfl) (by first | exact .inl rfl | exact .inr rfl))) (fun _ _ _ _ _ => xts_nil) (fun _ _ _ _ _ => (XR.xe (xr_call m_is_kind_row (d_is_kind_row.ok.mono (by decide)) hr (by rfl) d_is_kind_row.mg d_is_kind_row.kp d_is_kind_row.b (xa_cons (xe_len (by rfl) T.b_len (xa_cons (xe_v 0) xa_nil)) (xa_cons (xe_v 2) xa_nil))))))) xa_nil))))
 (xss_one (xs_ret xe_bl))
 xss_nil)
 (xss_cons (xs_set (i := 1) nd rfl (.inr rfl) (XR.xe (xr_lc2A [("row", 2), ("name", 3), ("parts", 4)] [3, 4] rfl nd (xi_any (xe_v 0)) (blkOk_by (by kernel_rfl)) (fun _ _ _ _ _ => (xg_name (i := 2) nd rfl (.inl rfl) (by first | exact .inl rfl | exact .inr rfl))) (fun _ _ _ _ _ => xts_nil) (fun _ _ _ _ _ => (xi_any (xe_ix (xe_v 2) xe_int))) (fun _ _ _ _ _ => (xg_tup rfl (xgs_cons (xg_name (i := 3) nd rfl (.inl rfl) (by first | exact .inl rfl | exact .inr rfl)) (xgs_cons (xg_name (i := 4) nd rfl (.inl rfl) (by first | exact .inl rfl | exact .inr rfl)) xgs_nil)))) (fun _ _ _ _ _ => xts_nil) (fun _ _ _ _ _ => (xe_v 3)))))
 (xss_cons (xs_if (xt_val (xe_any rfl (by rfl) T.b_any (xa_cons (XR.xe (xr_lcA [("name", 3)] rfl nd (xi_any (xe_v 1)) (blkOk_by (by kernel_rfl)) (fun _ _ _ _ _ => (xg_name (i := 3) nd rfl (.inl rfl) (by first | exact .inl rfl | exact .inr rfl))) (fun _ _ _ _ _ => xts_nil) (fun _ _ _ _ _ => (xe_cmp op_gt (vr_ii0 fun _ _ _ => .bl _) (XR.xe (xr_count hr.units (xe_v 1) (xa_cons (xe_v 3) xa_nil))) xe_int (nomark _))))) xa_nil)))
 (xss_one (xs_ret xe_bl))
 xss_nil)
 (xss_one (xs_ret (xe_cmp (op_eqP hr.units) vr_eq (xe_len (by rfl) T.b_len (xa_cons (XR.xe (xr_call m_filled_kinds (d_filled_kinds.ok.mono (by decide)) hr (by rfl) d_filled_kinds.mg d_filled_kinds.kp d_filled_kinds.b (xa_cons (xe_v 0) xa_nil))) xa_nil)) (xe_len (by rfl) T.b_len (xa_cons (xe_v 0) xa_nil)) (nomark _))))))))) v_is_signature
theorem sc_law_stream : FnScope ["script"] ["script"] (defScope s_law_stream) := ⟨rfl, rfl, rfl, by decide +kernel, rfl, by decide +kernel, by decide +kernel⟩
theorem x_law_stream (T : Bl mg) {f : Addr} {fd : FuncData} (Fn : Fun K "_law_stream" "_law_stream" s_law_stream f fd) : FnOk P w K mg base CX0 1 f fd ["script"] (spOf K p_law_stream) :=
  have nd := sc_law_stream.nd
  fn_ok Fn sc_law_stream l_law_stream (t := w_law_stream) (fun cdv A outer s H E F hr =>
(xss_one (xs_retR (xr_lst (xa_cons (XR.xe (xr_list (by rfl) T.b_list (xa_cons (xe_v 0) xa_nil))) (xa_cons xe_int (xa_cons xe_int xa_nil))))))) v_law_stream
theorem sc_law_next : FnScope ["stream", "many", "k", "cell", "digit"] ["stream", "many"] (defScope s_law_next) := ⟨rfl, rfl, rfl, by decide +kernel, rfl, by decide +kernel, by decide +kernel⟩
theorem x_law_next (T : Bl mg) {f : Addr} {fd : FuncData} (Fn : Fun K "_law_next" "_law_next" s_law_next f fd) : FnOk P w K mg base CX0 1 f fd ["stream", "many"] (spOf K p_law_next) :=
  have nd := sc_law_next.nd
  fn_ok Fn sc_law_next l_law_next (t := w_law_next) (fun cdv A outer s H E F hr =>
(xss_cons (xs_if (xt_cmp (op_eqP hr.units) vr_eq (xe_ix (xe_v 0) xe_int) xe_int (nomark _))
 (xss_cons (xs_set (i := 2) nd rfl (.inl rfl) (xe_ix (xe_v 0) xe_int))
 (xss_cons (xs_set (i := 3) nd rfl (.inl rfl) (xe_op op_addX vr_add xe_int (xe_v 2)))
 (xss_cons (xs_if (xt_cmp op_lt (vr_ii0 fun _ _ _ => .bl _) (xe_v 2) (xe_len (by rfl) T.b_len (xa_cons (xe_ix (xe_v 0) xe_int) xa_nil)) (nomark _))
 (xss_one (xs_set (i := 3) nd rfl (.inl rfl) (xe_abs (by rfl) T.b_abs (xa_cons (xe_ix (xe_ix (xe_v 0) xe_int) (xe_v 2)) xa_nil))))
 xss_nil)
 (xss_cons (xs_if (xt_cmp op_lt (vr_ii0 fun _ _ _ => .bl _) (xe_v 3) (xe_op op_pow (vr_ii fun _ _ _ => .int _) xe_int xe_int) (nomark _))
 (xss_cons (xs_set (i := 3) nd rfl (.inl rfl) (xe_op op_mod (vr_ii fun _ _ _ => .int _) (xe_intc (by rfl) T.b_int (xa_cons (xe_op op_addX vr_add (xe_op op_addX vr_add (xe_op op_mulX vr_mul (xe_v 3) xe_int) (xe_op op_mulX vr_mul (xe_v 2) xe_int)) xe_int) xa_nil)) xe_int))
 (xss_one (xs_set (i := 3) nd rfl (.inl rfl) (xe_op op_addX vr_add (xe_op op_mulX vr_mul (xe_op op_mod (vr_ii fun _ _ _ => .int _) (xe_intc (by rfl) T.b_int (xa_cons (xe_op op_addX vr_add (xe_op op_mulX vr_mul (xe_v 3) xe_int) xe_int) xa_nil)) xe_int) xe_int) (xe_v 3)))))
 xss_nil)
 (xss_cons (xs_put (xe_v 3) (xe_v 0) xe_int)
 (xss_one (xs_put (xe_op op_addX vr_add (xe_v 2) xe_int) (xe_v 0) xe_int)))))))
 xss_nil)
 (xss_cons (xs_set (i := 4) nd rfl (.inl rfl) (xe_op op_mod (vr_ii fun _ _ _ => .int _) (xe_intc (by rfl) T.b_int (xa_cons (xe_ix (xe_v 0) xe_int) xa_nil)) (xe_v 1)))
 (xss_cons (xs_put (xe_op op_fdiv (vr_ii fun _ _ _ => .int _) (xe_ix (xe_v 0) xe_int) (xe_v 1)) (xe_v 0) xe_int)
 (xss_one (xs_ret (xe_v 4))))))) v_law_next
theorem sc_law_pick : FnScope ["stream", "rows"] ["stream", "rows"] (defScope s_law_pick) := ⟨rfl, rfl, rfl, by decide +kernel, rfl, by decide +kernel, by decide +kernel⟩
theorem x_law_pick (T : Bl mg) (d_law_next : Fd P w K mg base "_law_next" 1 ["stream", "many"] p_law_next) {f : Addr} {fd : FuncData} (Fn : Fun K "_law_pick" "_law_pick" s_law_pick f fd) : FnOk P w K mg base CX0 2 f fd ["stream", "rows"] (spOf K p_law_pick) :=
  have nd := sc_law_pick.nd
  fn_ok Fn sc_law_pick l_law_pick (t := w_law_pick) (fun cdv A outer s H E F hr =>
(xss_one (xs_ret (xe_ix (xe_v 1) (XR.xe (xr_call m_law_next (d_law_next.ok.mono (by decide)) hr (by rfl) d_law_next.mg d_law_next.kp d_law_next.b (xa_cons (xe_v 0) (xa_cons (xe_len (by rfl) T.b_len (xa_cons (xe_v 1) xa_nil)) xa_nil)))))))) v_law_pick
theorem sc_law_order : FnScope ["stream", "many", "found", "k", "at"] ["stream", "many"] (defScope s_law_order) := ⟨rfl, rfl, rfl, by decide +kernel, rfl, by decide +kernel, by decide +kernel⟩
theorem x_law_order (T : Bl mg) (d_law_next : Fd P w K mg base "_law_next" 1 ["stream", "many"] p_law_next) {f : Addr} {fd : FuncData} (Fn : Fun K "_law_order" "_law_order" s_law_order f fd) : FnOk P w K mg base CX0 2 f fd ["stream", "many"] (spOf K p_law_order) :=
  have nd := sc_law_order.nd
  fn_ok Fn sc_law_order l_law_order (t := w_law_order) (fun cdv A outer s H E F hr =>
(xss_cons (xs_set (i := 2) nd rfl (.inl rfl) (XR.xe (xr_lst xa_nil)))
 (xss_cons (xs_for PassesOwn.never rfl (xi_range1 (by rfl) T.b_range (xa_cons (xe_v 1) xa_nil)) (xg_name (i := 3) nd rfl (.inl rfl))
 (xss_kill [3, 4] (xss_cons (xs_set (i := 4) nd rfl (.inl rfl) (XR.xe (xr_call m_law_next (d_law_next.ok.mono (by decide)) hr (by rfl) d_law_next.mg d_law_next.kp d_law_next.b (xa_cons (xe_v 0) (xa_cons (xe_op op_addX vr_add (xe_v 3) xe_int) xa_nil)))))
 (xss_one (xs_set (i := 2) nd rfl (.inl rfl) (xe_op op_addX vr_add (xe_op op_addX vr_add (XR.xe (xr_sl (xe_v 2) xo_none (xo_some (xe_v 4)))) (XR.xe (xr_lst (xa_cons (xe_v 3) xa_nil)))) (XR.xe (xr_sl (xe_v 2) (xo_some (xe_v 4)) xo_none))))))))
 (xss_one (xs_ret (xe_v 2)))))) v_law_order
theorem sc_law_is_integer : FnScope ["actual"] ["actual"] (defScope s_law_is_integer) := ⟨rfl, rfl, rfl, by decide +kernel, rfl, by decide +kernel, by decide +kernel⟩
theorem x_law_is_integer (T : Bl mg) {f : Addr} {fd : FuncData} (Fn : Fun K "_law_is_integer" "_law_is_integer" s_law_is_integer f fd) : FnOk P w K mg base CX0 1 f fd ["actual"] (spOf K p_law_is_integer) :=
  have nd := sc_law_is_integer.nd
  fn_ok Fn sc_law_is_integer l_law_is_integer (t := w_law_is_integer) (fun cdv A outer s H E F hr =>
(xss_one (xs_ret (xe_and (xe_isa (n := "int") kit_int (by rfl) T.b_isinstance (xe_v 0) (by rfl) T.b_int (by decide +kernel)) (xe_one (xe_not (xe_isa (n := "bool") kit_bool (by rfl) T.b_isinstance (xe_v 0) (by rfl) T.b_bool (by decide +kernel)))))))) v_law_is_integer
theorem sc_law_same : FnScope ["actual", "due", "left", "turn", "one", "other", "at"] ["actual", "due"] (defScope s_law_same) := ⟨rfl, rfl, rfl, by decide +kernel, rfl, by decide +kernel, by decide +kernel⟩
theorem x_law_same (T : Bl mg) (d_law_is_integer : Fd P w K mg base "_law_is_integer" 1 ["actual"] p_law_is_integer) {f : Addr} {fd : FuncData} (Fn : Fun K "_law_same" "_law_same" s_law_same f fd) : FnOk P w K mg base CX0 2 f fd ["actual", "due"] (spOf K p_law_same) :=
  have nd := sc_law_same.nd
  fn_ok Fn sc_law_same l_law_same (t := w_law_same) (fun cdv A outer s H E F hr =>
(xss_cons (xs_setO (i := 2) nd rfl (.inl rfl) (xr_lst (xa_cons (xe_tup (xa_cons (xe_v 0) (xa_cons (xe_v 1) xa_nil))) xa_nil)))
 (xss_cons (xs_for PassesOwn.never rfl (xi_range1 (by rfl) T.b_range (xa_cons (xe_op op_pow (vr_ii fun _ _ _ => .int _) xe_int xe_int) xa_nil)) (xg_name (i := 3) nd rfl (.inl rfl))
 (xss_kill [3, 4, 5] (xss_cons (xs_if (xt_cmp (op_eqP hr.units) vr_eq (xe_len (by rfl) T.b_len (xa_cons (xe_v 2) xa_nil)) xe_int (nomark _))
 (xss_one (xs_ret xe_bl))
 xss_nil)
 (xss_cons (xs_asg (XR.xe (xr_pop (xe_v 2))) (xg_tup rfl (xgs_cons (xg_name (i := 4) nd rfl (.inr rfl)) (xgs_cons (xg_name (i := 5) nd rfl (.inr rfl)) xgs_nil))))
 (xss_one (xs_if (XW.xt (xw_or (xt_val (xe_isa (n := "tuple") kit_tuple (by rfl) T.b_isinstance (xe_v 5) (by rfl) T.b_tuple (by decide +kernel))) (xw_or1 (xt_val (xe_isa (n := "list") kit_list (by rfl) T.b_isinstance (xe_v 5) (by rfl) T.b_list (by decide +kernel))))))
 (xss_cons (xs_if (XW.xt (xw_or (xt_cmp (op_neP hr.units) vr_eq (xe_isa (n := "tuple") kit_tuple (by rfl) T.b_isinstance (xe_v 5) (by rfl) T.b_tuple (by decide +kernel)) (xe_isa (n := "tuple") kit_tuple (by rfl) T.b_isinstance (xe_v 4) (by rfl) T.b_tuple (by decide +kernel)) (nomark _)) (xw_or1 (xt_cmp (op_neP hr.units) vr_eq (xe_isa (n := "list") kit_list (by rfl) T.b_isinstance (xe_v 5) (by rfl) T.b_list (by decide +kernel)) (xe_isa (n := "list") kit_list (by rfl) T.b_isinstance (xe_v 4) (by rfl) T.b_list (by decide +kernel)) (nomark _)))))
 (xss_one (xs_ret xe_bl))
 xss_nil)
 (xss_cons (xs_if (xt_cmp (op_neP hr.units) vr_eq (xe_len (by rfl) T.b_len (xa_cons (xe_v 4) xa_nil)) (xe_len (by rfl) T.b_len (xa_cons (xe_v 5) xa_nil)) (nomark _))
 (xss_one (xs_ret xe_bl))
 xss_nil)
 (xss_one (xs_expr (XR.xe (xr_extend (xe_v 2) (xa_cons (XR.xe (xr_lcA [("at", 6)] rfl nd (xi_range1 (by rfl) T.b_range (xa_cons (xe_len (by rfl) T.b_len (xa_cons (xe_v 5) xa_nil)) xa_nil)) (blkOk_by (by kernel_rfl)) (fun _ _ _ _ _ => (xg_name (i := 6) nd rfl (.inl rfl) (by first | exact .inl rfl | exact .inr rfl))) (fun _ _ _ _ _ => xts_nil) (fun _ _ _ _ _ => (xe_tup (xa_cons (xe_ix (xe_v 4) (xe_v 6)) (xa_cons (xe_ix (xe_v 5) (xe_v 6)) xa_nil)))))) xa_nil)))))))
 (xss_one (xs_if (xt_val (xe_isa (n := "bool") kit_bool (by rfl) T.b_isinstance (xe_v 5) (by rfl) T.b_bool (by decide +kernel)))
 (xss_one (xs_if (XW.xt (xw_or (xt_not (xt_val (xe_isa (n := "bool") kit_bool (by rfl) T.b_isinstance (xe_v 4) (by rfl) T.b_bool (by decide +kernel)))) (xw_or1 (xt_cmp (op_neP hr.units) vr_eq (xe_v 4) (xe_v 5) (nomark _)))))
 (xss_one (xs_ret xe_bl))
 xss_nil))
 (xss_one (xs_if (xt_val (xe_isa (n := "int") kit_int (by rfl) T.b_isinstance (xe_v 5) (by rfl) T.b_int (by decide +kernel)))
 (xss_one (xs_if (XW.xt (xw_or (xt_not (xt_val (XR.xe (xr_call m_law_is_integer (d_law_is_integer.ok.mono (by decide)) hr (by rfl) d_law_is_integer.mg d_law_is_integer.kp d_law_is_integer.b (xa_cons (xe_v 4) xa_nil))))) (xw_or1 (xt_cmp (op_neP hr.units) vr_eq (xe_v 4) (xe_v 5) (nomark _)))))
 (xss_one (xs_ret xe_bl))
 xss_nil))
 (xss_one (xs_if (xt_val (xe_isa (n := "str") kit_str (by rfl) T.b_isinstance (xe_v 5) (by rfl) T.b_str (by decide +kernel)))
 (xss_one (xs_if (XW.xt (xw_or (xt_not (xt_val (xe_isa (n := "str") kit_str (by rfl) T.b_isinstance (xe_v 4) (by rfl) T.b_str (by decide +kernel)))) (xw_or1 (xt_cmp (op_neP hr.units) vr_eq (xe_v 4) (xe_v 5) (nomark _)))))
 (xss_one (xs_ret xe_bl))
 xss_nil))
 (xss_one (xs_if (xt_cmp op_notN vr_notN (xe_v 4) xe_non (nomark _))
 (xss_one (xs_ret xe_bl))
 xss_nil))))))))))))))
 (xss_one (xs_ret xe_bl))))) v_law_same
theorem sc_law_word : FnScope ["stream", "least", "most", "letters", "word", "at"] ["stream", "least", "most"] (defScope s_law_word) := ⟨rfl, rfl, rfl, by decide +kernel, rfl, by decide +kernel, by decide +kernel⟩
theorem x_law_word (T : Bl mg) (d_law_next : Fd P w K mg base "_law_next" 1 ["stream", "many"] p_law_next) {f : Addr} {fd : FuncData} (Fn : Fun K "_law_word" "_law_word" s_law_word f fd) : FnOk P w K mg base CX0 2 f fd ["stream", "least", "most"] (spOf K p_law_word) :=
  have nd := sc_law_word.nd
  fn_ok Fn sc_law_word l_law_word (t := w_law_word) (fun cdv A outer s H E F hr =>
(xss_cons (xs_set (i := 3) nd rfl (.inl rfl) xe_str)
 (xss_cons (xs_set (i := 4) nd rfl (.inl rfl) xe_str)
 (xss_cons (xs_for PassesOwn.never rfl (xi_range1 (by rfl) T.b_range (xa_cons (xe_op op_addX vr_add (xe_v 1) (XR.xe (xr_call m_law_next (d_law_next.ok.mono (by decide)) hr (by rfl) d_law_next.mg d_law_next.kp d_law_next.b (xa_cons (xe_v 0) (xa_cons (xe_op op_addX vr_add (xe_op op_sub (vr_ii0 fun _ _ _ => .int _) (xe_v 2) (xe_v 1)) xe_int) xa_nil))))) xa_nil)) (xg_name (i := 5) nd rfl (.inl rfl))
 (xss_kill [5] (xss_one (xs_set (i := 4) nd rfl (.inl rfl) (xe_op op_addX vr_add (xe_v 4) (xe_ix (xe_v 3) (XR.xe (xr_call m_law_next (d_law_next.ok.mono (by decide)) hr (by rfl) d_law_next.mg d_law_next.kp d_law_next.b (xa_cons (xe_v 0) (xa_cons xe_int xa_nil))))))))))
 (xss_one (xs_ret (xe_v 4))))))) v_law_word
theorem sc_law_names : FnScope ["stream", "many", "least", "letters", "base", "at", "turn", "found", "k", "word", "options", "letter", "option"] ["stream", "many", "least"] (defScope s_law_names) := ⟨rfl, rfl, rfl, by decide +kernel, rfl, by decide +kernel, by decide +kernel⟩
theorem x_law_names (T : Bl mg) (d_law_next : Fd P w K mg base "_law_next" 1 ["stream", "many"] p_law_next) (d_law_word : Fd P w K mg base "_law_word" 2 ["stream", "least", "most"] p_law_word) {f : Addr} {fd : FuncData} (Fn : Fun K "_law_names" "_law_names" s_law_names f fd) : FnOk P w K mg base CX0 3 f fd ["stream", "many", "least"] (spOf K p_law_names) :=
  have nd := sc_law_names.nd
  fn_ok Fn sc_law_names l_law_names (t := w_law_names) (fun cdv A outer s H E F hr =>
(xss_cons (xs_set (i := 3) nd rfl (.inr rfl) xe_str)
 (xss_cons (xs_if (xt_cmp (op_eqP hr.units) vr_eq (XR.xe (xr_call m_law_next (d_law_next.ok.mono (by decide)) hr (by rfl) d_law_next.mg d_law_next.kp d_law_next.b (xa_cons (xe_v 0) (xa_cons xe_int xa_nil)))) xe_int (nomark _))
 (xss_cons (xs_set (i := 4) nd rfl (.inr rfl) (XR.xe (xr_call m_law_word (d_law_word.ok.mono (by decide)) hr (by rfl) d_law_word.mg d_law_word.kp d_law_word.b (xa_cons (xe_v 0) (xa_cons (xe_v 2) (xa_cons xe_int xa_nil))))))
 (xss_cons (xs_set (i := 5) nd rfl (.inr rfl) (XR.xe (xr_call m_law_next (d_law_next.ok.mono (by decide)) hr (by rfl) d_law_next.mg d_law_next.kp d_law_next.b (xa_cons (xe_v 0) (xa_cons (xe_len (by rfl) T.b_len (xa_cons (xe_v 4) xa_nil)) xa_nil)))))
 (xss_cons (xs_set (i := 6) nd rfl (.inr rfl) (XR.xe (xr_call m_law_next (d_law_next.ok.mono (by decide)) hr (by rfl) d_law_next.mg d_law_next.kp d_law_next.b (xa_cons (xe_v 0) (xa_cons xe_int xa_nil)))))
 (xss_one (xs_retR (xr_lcA [("k", 8)] rfl nd (xi_range1 (by rfl) T.b_range (xa_cons (xe_v 1) xa_nil)) (blkOk_by (by kernel_rfl)) (fun _ _ _ _ _ => (xg_name (i := 8) nd rfl (.inl rfl) (by first | exact .inl rfl | exact .inr rfl))) (fun _ _ _ _ _ => xts_nil) (fun _ _ _ _ _ => (xe_op op_addX vr_add (xe_op op_addX vr_add (XR.xe (xr_sl (xe_v 4) xo_none (xo_some (xe_v 5)))) (xe_ix (xe_v 3) (xe_op op_mod (vr_ii fun _ _ _ => .int _) (xe_intc (by rfl) T.b_int (xa_cons (xe_op op_addX vr_add (xe_v 6) (xe_v 8)) xa_nil)) xe_int))) (XR.xe (xr_sl (xe_v 4) (xo_some (xe_op op_addX vr_add (xe_v 5) xe_int)) xo_none))))))))))
 xss_nil)
 (xss_cons (xs_setO (i := 7) nd rfl (.inr rfl) (xr_lst xa_nil))
 (xss_cons (xs_for PassesOwn.never rfl (xi_range1 (by rfl) T.b_range (xa_cons (xe_v 1) xa_nil)) (xg_name (i := 8) nd rfl (.inl rfl))
 (xss_kill [8, 9, 10] (xss_cons (xs_set (i := 9) nd rfl (.inr rfl) (XR.xe (xr_call m_law_word (d_law_word.ok.mono (by decide)) hr (by rfl) d_law_word.mg d_law_word.kp d_law_word.b (xa_cons (xe_v 0) (xa_cons (xe_v 2) (xa_cons xe_int xa_nil))))))
 (xss_cons (xs_set (i := 10) nd rfl (.inl rfl) (xe_op op_addX vr_add (XR.xe (xr_lst (xa_cons (xe_v 9) xa_nil))) (XR.xe (xr_lcA [("letter", 11)] rfl nd (xi_any (xe_v 3)) (blkOk_by (by kernel_rfl)) (fun _ _ _ _ _ => (xg_name (i := 11) nd rfl (.inl rfl) (by first | exact .inl rfl | exact .inr rfl))) (fun _ _ _ _ _ => xts_nil) (fun _ _ _ _ _ => (xe_op op_addX vr_add (XR.xe (xr_sl (xe_v 9) xo_none (xo_some (xe_neg xe_int)))) (xe_v 11)))))))
 (xss_one (xs_expr (XR.xe (xr_append (xe_v 7) (xa_cons (xe_ix (XR.xe (xr_lcA [("option", 12)] rfl nd (xi_any (xe_v 10)) (blkOk_by (by kernel_rfl)) (fun _ _ _ _ _ => (xg_name (i := 12) nd rfl (.inl rfl) (by first | exact .inl rfl | exact .inr rfl))) (fun _ _ _ _ _ => (xts_one (xt_cmp (op_notinP hr.units) vr_in (xe_v 12) (xe_v 7) (by rfl)))) (fun _ _ _ _ _ => (xe_v 12)))) xe_int) xa_nil)))))))))
 (xss_one (xs_retO 7))))))) v_law_names
theorem sc_law_any_signature : FnScope ["stream", "many", "opens", "counts", "names", "good", "found", "at", "kind", "ground", "rows", "place", "menu", "parts", "turn"] ["stream"] (defScope s_law_any_signature) := ⟨rfl, rfl, rfl, by decide +kernel, rfl, by decide +kernel, by decide +kernel⟩
theorem x_law_any_signature (T : Bl mg) (d_law_names : Fd P w K mg base "_law_names" 3 ["stream", "many", "least"] p_law_names) (d_law_order : Fd P w K mg base "_law_order" 2 ["stream", "many"] p_law_order) (d_law_next : Fd P w K mg base "_law_next" 1 ["stream", "many"] p_law_next) (d_law_pick : Fd P w K mg base "_law_pick" 2 ["stream", "rows"] p_law_pick) {f : Addr} {fd : FuncData} (Fn : Fun K "_law_any_signature" "_law_any_signature" s_law_any_signature f fd) : FnOk P w K mg base CX0 4 f fd ["stream"] (spOf K p_law_any_signature) :=
  have nd := sc_law_any_signature.nd
  fn_ok Fn sc_law_any_signature l_law_any_signature (t := w_law_any_signature) (fun cdv A outer s H E F hr =>
(xss_cons (xs_set (i := 1) nd rfl (.inl rfl) (xe_op op_addX vr_add xe_int (XR.xe (xr_call m_law_next (d_law_next.ok.mono (by decide)) hr (by rfl) d_law_next.mg d_law_next.kp d_law_next.b (xa_cons (xe_v 0) (xa_cons xe_int xa_nil))))))
 (xss_cons (xs_set (i := 2) nd rfl (.inr rfl) (XR.xe (xr_lcA [("kind", 8)] rfl nd (xi_range1 (by rfl) T.b_range (xa_cons (xe_v 1) xa_nil)) (blkOk_by (by kernel_rfl)) (fun _ _ _ _ _ => (xg_name (i := 8) nd rfl (.inl rfl) (by first | exact .inl rfl | exact .inr rfl))) (fun _ _ _ _ _ => xts_nil) (fun _ _ _ _ _ => (xe_cmp (op_eqP hr.units) vr_eq (XR.xe (xr_call m_law_next (d_law_next.ok.mono (by decide)) hr (by rfl) d_law_next.mg d_law_next.kp d_law_next.b (xa_cons (xe_v 0) (xa_cons xe_int xa_nil)))) xe_int (nomark _))))))
 (xss_cons (xs_setLcA [("kind", 8)] (i := 3) rfl nd rfl rfl (sw_true rfl rfl rfl (by decide +kernel)) (xi_range1 (by rfl) T.b_range (xa_cons (xe_v 1) xa_nil)) (blkOk_by (by kernel_rfl)) (fun _ _ _ _ _ => (xg_name (i := 8) nd rfl (.inl rfl) (by first | exact .inl rfl | exact .inr rfl))) (fun _ _ _ _ _ => xts_nil) (fun _ _ _ _ _ => (xe_if (xt_val (xe_ix (xe_v 2) (xe_v 8))) (XR.xe (xr_call m_law_next (d_law_next.ok.mono (by decide)) hr (by rfl) d_law_next.mg d_law_next.kp d_law_next.b (xa_cons (xe_v 0) (xa_cons xe_int xa_nil)))) (xe_op op_addX vr_add xe_int (XR.xe (xr_call m_law_next (d_law_next.ok.mono (by decide)) hr (by rfl) d_law_next.mg d_law_next.kp d_law_next.b (xa_cons (xe_v 0) (xa_cons xe_int xa_nil))))))))
 (xss_cons (xs_set (i := 4) nd rfl (.inl rfl) (XR.xe (xr_call m_law_names (d_law_names.ok.mono (by decide)) hr (by rfl) d_law_names.mg d_law_names.kp d_law_names.b (xa_cons (xe_v 0) (xa_cons (xe_sum rfl (by rfl) T.b_sum (xa_cons (xe_v 3) xa_nil)) (xa_cons xe_int xa_nil))))))
 (xss_cons (xs_setLcO [("kind", 8)] (i := 5) rfl nd rfl rfl (sw_true rfl rfl rfl (by decide +kernel)) (xi_range1 (by rfl) T.b_range (xa_cons (xe_v 1) xa_nil)) (blkOk_by (by kernel_rfl)) (fun _ _ _ _ _ => (xg_name (i := 8) nd rfl (.inl rfl) (by first | exact .inl rfl | exact .inr rfl))) (fun _ _ _ _ _ => (xts_one (xt_val (xe_ix (xe_v 2) (xe_v 8))))) (fun _ _ _ _ _ => (xe_v 8)))
 (xss_cons (xs_setO (i := 6) nd rfl (.inl rfl) (xr_op op_mulX vr_mul (XR.xe (xr_lst (xa_cons xe_non xa_nil))) (xe_v 1)))
 (xss_cons (xs_set (i := 7) nd rfl (.inl rfl) xe_int)
 (xss_cons (xs_for PassesOwn.never rfl (xi_any (XR.xe (xr_call m_law_order (d_law_order.ok.mono (by decide)) hr (by rfl) d_law_order.mg d_law_order.kp d_law_order.b (xa_cons (xe_v 0) (xa_cons (xe_v 1) xa_nil))))) (xg_name (i := 8) nd rfl (.inl rfl))
 (xss_kill [8, 9, 10, 11, 12, 13, 14] (xss_cons (xs_set (i := 9) nd rfl (.inl rfl) (XR.xe (xr_call m_law_next (d_law_next.ok.mono (by decide)) hr (by rfl) d_law_next.mg d_law_next.kp d_law_next.b (xa_cons (xe_v 0) (xa_cons (xe_max2 rfl (by rfl) T.b_max (xa_cons xe_int (xa_cons (xe_ix (xe_v 3) (xe_v 8)) xa_nil))) xa_nil)))))
 (xss_cons (xs_setO (i := 10) nd rfl (.inl rfl) (xr_lst xa_nil))
 (xss_cons (xs_for PassesOwn.never rfl (xi_range1 (by rfl) T.b_range (xa_cons (xe_ix (xe_v 3) (xe_v 8)) xa_nil)) (xg_name (i := 11) nd rfl (.inl rfl))
 (xss_kill [11, 12, 13, 14] (xss_cons (xs_set (i := 12) nd rfl (.inl rfl) (XR.xe (xr_listrg rfl (by rfl) T.b_list (by rfl) T.b_range (xe_v 1))))
 (xss_cons (xs_if (XW.xt (xw_and (xt_not (xt_val (xe_ix (xe_v 2) (xe_v 8)))) (xw_and1 (xt_cmp (op_eqP hr.units) vr_eq (xe_v 11) (xe_v 9) (nomark _)))))
 (xss_one (xs_set (i := 12) nd rfl (.inl rfl) (XR.xe (xr_list (by rfl) T.b_list (xa_cons (xe_v 5) xa_nil)))))
 xss_nil)
 (xss_cons (xs_set (i := 13) nd rfl (.inl rfl) (xe_tup xa_nil))
 (xss_cons (xs_for PassesOwn.never rfl (xi_range1 (by rfl) T.b_range (xa_cons (XR.xe (xr_call m_law_next (d_law_next.ok.mono (by decide)) hr (by rfl) d_law_next.mg d_law_next.kp d_law_next.b (xa_cons (xe_v 0) (xa_cons xe_int xa_nil)))) xa_nil)) (xg_name (i := 14) nd rfl (.inl rfl))
 (xss_kill [14] (xss_one (xs_if (xt_cmp (op_neP hr.units) vr_eq (xe_v 12) (XR.xe (xr_lst xa_nil)) (nomark _))
 (xss_one (xs_set (i := 13) nd rfl (.inl rfl) (xe_op op_addX vr_add (xe_v 13) (xe_tup (xa_cons (XR.xe (xr_call m_law_pick (d_law_pick.ok.mono (by decide)) hr (by rfl) d_law_pick.mg d_law_pick.kp d_law_pick.b (xa_cons (xe_v 0) (xa_cons (xe_v 12) xa_nil)))) xa_nil)))))
 xss_nil))))
 (xss_one (xs_expr (XR.xe (xr_append (xe_v 10) (xa_cons (xe_tup (xa_cons (xe_ix (xe_v 4) (xe_op op_addX vr_add (xe_v 7) (xe_v 11))) (xa_cons (xe_v 13) xa_nil))) xa_nil)))))))))))
 (xss_cons (xs_set (i := 7) nd rfl (.inl rfl) (xe_op op_addX vr_add (xe_v 7) (xe_ix (xe_v 3) (xe_v 8))))
 (xss_cons (xs_put (xe_tup (xa_cons (xe_if (xt_val (xe_ix (xe_v 2) (xe_v 8))) xe_str xe_str) (xa_cons (xe_tuple (by rfl) T.b_tuple (xa_cons (xe_v 10) xa_nil)) xa_nil))) (xe_v 6) (xe_v 8))
 (xss_one (xs_if (xt_not (xt_val (xe_ix (xe_v 2) (xe_v 8))))
 (xss_one (xs_expr (XR.xe (xr_append (xe_v 5) (xa_cons (xe_v 8) xa_nil)))))
 xss_nil)))))))))
 (xss_one (xs_ret (xe_tuple (by rfl) T.b_tuple (xa_cons (xe_v 6) xa_nil))))))))))))) v_law_any_signature
theorem sc_law_rich_signature : FnScope ["stream", "step", "flag", "other", "names", "flags", "steps", "types", "found"] ["stream"] (defScope s_law_rich_signature) := ⟨rfl, rfl, rfl, by decide +kernel, rfl, by decide +kernel, by decide +kernel⟩
theorem x_law_rich_signature (T : Bl mg) (d_law_order : Fd P w K mg base "_law_order" 2 ["stream", "many"] p_law_order) (d_law_names : Fd P w K mg base "_law_names" 3 ["stream", "many", "least"] p_law_names) (d_law_next : Fd P w K mg base "_law_next" 1 ["stream", "many"] p_law_next) (d_law_pick : Fd P w K mg base "_law_pick" 2 ["stream", "rows"] p_law_pick) {f : Addr} {fd : FuncData} (Fn : Fun K "_law_rich_signature" "_law_rich_signature" s_law_rich_signature f fd) : FnOk P w K mg base CX0 4 f fd ["stream"] (spOf K p_law_rich_signature) :=
  have nd := sc_law_rich_signature.nd
  fn_ok Fn sc_law_rich_signature l_law_rich_signature (t := w_law_rich_signature) (fun cdv A outer s H E F hr =>
(xss_cons (xs_asg (XR.xe (xr_call m_law_order (d_law_order.ok.mono (by decide)) hr (by rfl) d_law_order.mg d_law_order.kp d_law_order.b (xa_cons (xe_v 0) (xa_cons xe_int xa_nil)))) (xg_tup rfl (xgs_cons (xg_name (i := 1) nd rfl (.inl rfl)) (xgs_cons (xg_name (i := 2) nd rfl (.inl rfl)) (xgs_cons (xg_name (i := 3) nd rfl (.inl rfl)) xgs_nil)))))
 (xss_cons (xs_set (i := 4) nd rfl (.inl rfl) (XR.xe (xr_call m_law_names (d_law_names.ok.mono (by decide)) hr (by rfl) d_law_names.mg d_law_names.kp d_law_names.b (xa_cons (xe_v 0) (xa_cons xe_int (xa_cons xe_int xa_nil))))))
 (xss_cons (xs_set (i := 5) nd rfl (.inl rfl) (XR.xe (xr_sl (XR.xe (xr_lst (xa_cons (xe_tup (xa_cons (xe_ix (xe_v 4) xe_int) (xa_cons (xe_tup xa_nil) xa_nil))) (xa_cons (xe_tup (xa_cons (xe_ix (xe_v 4) xe_int) (xa_cons (xe_tup xa_nil) xa_nil))) (xa_cons (xe_tup (xa_cons (xe_ix (xe_v 4) xe_int) (xa_cons (xe_tup xa_nil) xa_nil))) (xa_cons (xe_tup (xa_cons (xe_ix (xe_v 4) xe_int) (xa_cons (xe_tup xa_nil) xa_nil))) xa_nil)))))) xo_none (xo_some (xe_op op_addX vr_add xe_int (XR.xe (xr_call m_law_next (d_law_next.ok.mono (by decide)) hr (by rfl) d_law_next.mg d_law_next.kp d_law_next.b (xa_cons (xe_v 0) (xa_cons xe_int xa_nil)))))))))
 (xss_cons (xs_setO (i := 6) nd rfl (.inl rfl) (xr_lst (xa_cons (xe_tup (xa_cons (xe_ix (xe_v 4) xe_int) (xa_cons (xe_tup xa_nil) xa_nil))) (xa_cons (xe_tup (xa_cons (xe_ix (xe_v 4) xe_int) (xa_cons (xe_tup (xa_cons (xe_v 1) xa_nil)) xa_nil))) xa_nil))))
 (xss_cons (xs_if (xt_cmp (op_eqP hr.units) vr_eq (XR.xe (xr_call m_law_next (d_law_next.ok.mono (by decide)) hr (by rfl) d_law_next.mg d_law_next.kp d_law_next.b (xa_cons (xe_v 0) (xa_cons xe_int xa_nil)))) xe_int (nomark _))
 (xss_one (xs_expr (XR.xe (xr_append (xe_v 6) (xa_cons (xe_tup (xa_cons (xe_ix (xe_v 4) xe_int) (xa_cons (XR.xe (xr_call m_law_pick (d_law_pick.ok.mono (by decide)) hr (by rfl) d_law_pick.mg d_law_pick.kp d_law_pick.b (xa_cons (xe_v 0) (xa_cons (XR.xe (xr_lst (xa_cons (xe_tup (xa_cons (xe_v 1) (xa_cons (xe_v 1) xa_nil))) (xa_cons (xe_tup (xa_cons (xe_v 2) xa_nil)) (xa_cons (xe_tup (xa_cons (xe_v 3) xa_nil)) (xa_cons (xe_tup (xa_cons (xe_v 2) (xa_cons (xe_v 1) xa_nil))) xa_nil)))))) xa_nil)))) xa_nil))) xa_nil)))))
 xss_nil)
 (xss_cons (xs_setO (i := 7) nd rfl (.inl rfl) (xr_lst (xa_cons (xe_tup (xa_cons (xe_ix (xe_v 4) xe_int) (xa_cons (xe_tup xa_nil) xa_nil))) (xa_cons (xe_tup (xa_cons (xe_ix (xe_v 4) xe_int) (xa_cons (xe_tup (xa_cons (xe_v 3) xa_nil)) xa_nil))) (xa_cons (xe_tup (xa_cons (xe_ix (xe_v 4) xe_int) (xa_cons (XR.xe (xr_call m_law_pick (d_law_pick.ok.mono (by decide)) hr (by rfl) d_law_pick.mg d_law_pick.kp d_law_pick.b (xa_cons (xe_v 0) (xa_cons (XR.xe (xr_lst (xa_cons (xe_tup (xa_cons (xe_v 3) (xa_cons (xe_v 3) xa_nil))) (xa_cons (xe_tup (xa_cons (xe_v 2) (xa_cons (xe_v 3) xa_nil))) xa_nil)))) xa_nil)))) xa_nil))) xa_nil)))))
 (xss_cons (xs_expr (XR.xe (xr_append (xe_v 7) (xa_cons (xe_tup (xa_cons (xe_ix (xe_v 4) xe_int) (xa_cons (XR.xe (xr_call m_law_pick (d_law_pick.ok.mono (by decide)) hr (by rfl) d_law_pick.mg d_law_pick.kp d_law_pick.b (xa_cons (xe_v 0) (xa_cons (XR.xe (xr_lst (xa_cons (xe_tup (xa_cons (xe_v 1) xa_nil)) (xa_cons (xe_tup (xa_cons (xe_v 2) xa_nil)) (xa_cons (xe_tup (xa_cons (xe_v 1) (xa_cons (xe_v 3) xa_nil))) (xa_cons (xe_tup (xa_cons (xe_v 2) (xa_cons (xe_v 2) xa_nil))) xa_nil)))))) xa_nil)))) xa_nil))) xa_nil))))
 (xss_cons (xs_setO (i := 8) nd rfl (.inl rfl) (xr_lst (xa_cons xe_non (xa_cons xe_non (xa_cons xe_non xa_nil)))))
 (xss_cons (xs_put (xe_tup (xa_cons xe_str (xa_cons (xe_tuple (by rfl) T.b_tuple (xa_cons (xe_v 6) xa_nil)) xa_nil))) (xe_v 8) (xe_v 1))
 (xss_cons (xs_put (xe_tup (xa_cons xe_str (xa_cons (xe_tuple (by rfl) T.b_tuple (xa_cons (xe_v 5) xa_nil)) xa_nil))) (xe_v 8) (xe_v 2))
 (xss_cons (xs_put (xe_tup (xa_cons xe_str (xa_cons (xe_tuple (by rfl) T.b_tuple (xa_cons (XR.xe (xr_sl (xe_v 7) xo_none (xo_some (xe_op op_addX vr_add xe_int (XR.xe (xr_call m_law_next (d_law_next.ok.mono (by decide)) hr (by rfl) d_law_next.mg d_law_next.kp d_law_next.b (xa_cons (xe_v 0) (xa_cons xe_int xa_nil)))))))) xa_nil)) xa_nil))) (xe_v 8) (xe_v 3))
 (xss_one (xs_ret (xe_tuple (by rfl) T.b_tuple (xa_cons (xe_v 8) xa_nil)))))))))))))))) v_law_rich_signature
theorem sc_law_signature : FnScope ["stream"] ["stream"] (defScope s_law_signature) := ⟨rfl, rfl, rfl, by decide +kernel, rfl, by decide +kernel, by decide +kernel⟩
theorem x_law_signature (T : Bl mg) (d_law_any_signature : Fd P w K mg base "_law_any_signature" 4 ["stream"] p_law_any_signature) (d_law_rich_signature : Fd P w K mg base "_law_rich_signature" 4 ["stream"] p_law_rich_signature) (d_law_next : Fd P w K mg base "_law_next" 1 ["stream", "many"] p_law_next) {f : Addr} {fd : FuncData} (Fn : Fun K "_law_signature" "_law_signature" s_law_signature f fd) : FnOk P w K mg base CX0 5 f fd ["stream"] (spOf K p_law_signature) :=
  have nd := sc_law_signature.nd
  fn_ok Fn sc_law_signature l_law_signature (t := w_law_signature) (fun cdv A outer s H E F hr =>
(xss_one (xs_ret (xe_if (xt_cmp (op_eqP hr.units) vr_eq (XR.xe (xr_call m_law_next (d_law_next.ok.mono (by decide)) hr (by rfl) d_law_next.mg d_law_next.kp d_law_next.b (xa_cons (xe_v 0) (xa_cons xe_int xa_nil)))) xe_int (nomark _)) (XR.xe (xr_call m_law_any_signature (d_law_any_signature.ok.mono (by decide)) hr (by rfl) d_law_any_signature.mg d_law_any_signature.kp d_law_any_signature.b (xa_cons (xe_v 0) xa_nil))) (XR.xe (xr_call m_law_rich_signature (d_law_rich_signature.ok.mono (by decide)) hr (by rfl) d_law_rich_signature.mg d_law_rich_signature.kp d_law_rich_signature.b (xa_cons (xe_v 0) xa_nil))))))) v_law_signature
theorem sc_law_loose_signature : FnScope ["stream", "many", "counts", "names", "found", "kind", "rows", "place", "parts", "turn"] ["stream"] (defScope s_law_loose_signature) := ⟨rfl, rfl, rfl, by decide +kernel, rfl, by decide +kernel, by decide +kernel⟩
theorem x_law_loose_signature (T : Bl mg) (d_law_names : Fd P w K mg base "_law_names" 3 ["stream", "many", "least"] p_law_names) (d_law_next : Fd P w K mg base "_law_next" 1 ["stream", "many"] p_law_next) {f : Addr} {fd : FuncData} (Fn : Fun K "_law_loose_signature" "_law_loose_signature" s_law_loose_signature f fd) : FnOk P w K mg base CX0 4 f fd ["stream"] (spOf K p_law_loose_signature) :=
  have nd := sc_law_loose_signature.nd
  fn_ok Fn sc_law_loose_signature l_law_loose_signature (t := w_law_loose_signature) (fun cdv A outer s H E F hr =>
(xss_cons (xs_set (i := 1) nd rfl (.inr rfl) (xe_op op_addX vr_add xe_int (XR.xe (xr_call m_law_next (d_law_next.ok.mono (by decide)) hr (by rfl) d_law_next.mg d_law_next.kp d_law_next.b (xa_cons (xe_v 0) (xa_cons xe_int xa_nil))))))
 (xss_cons (xs_setLcA [("kind", 5)] (i := 2) rfl nd rfl rfl (sw_true rfl rfl rfl (by decide +kernel)) (xi_range1 (by rfl) T.b_range (xa_cons (xe_v 1) xa_nil)) (blkOk_by (by kernel_rfl)) (fun _ _ _ _ _ => (xg_name (i := 5) nd rfl (.inl rfl) (by first | exact .inl rfl | exact .inr rfl))) (fun _ _ _ _ _ => xts_nil) (fun _ _ _ _ _ => (XR.xe (xr_call m_law_next (d_law_next.ok.mono (by decide)) hr (by rfl) d_law_next.mg d_law_next.kp d_law_next.b (xa_cons (xe_v 0) (xa_cons xe_int xa_nil))))))
 (xss_cons (xs_setO (i := 3) nd rfl (.inl rfl) (xr_call m_law_names (d_law_names.ok.mono (by decide)) hr (by rfl) d_law_names.mg d_law_names.kp d_law_names.b (xa_cons (xe_v 0) (xa_cons (xe_sum rfl (by rfl) T.b_sum (xa_cons (xe_v 2) xa_nil)) (xa_cons xe_int xa_nil)))))
 (xss_cons (xs_set (i := 4) nd rfl (.inl rfl) (xe_tup xa_nil))
 (xss_cons (xs_for PassesOwn.never rfl (xi_range1 (by rfl) T.b_range (xa_cons (xe_v 1) xa_nil)) (xg_name (i := 5) nd rfl (.inl rfl))
 (xss_kill [5, 6, 7, 8] (xss_cons (xs_set (i := 6) nd rfl (.inl rfl) (xe_tup xa_nil))
 (xss_cons (xs_for PassesOwn.never rfl (xi_range1 (by rfl) T.b_range (xa_cons (xe_ix (xe_v 2) (xe_v 5)) xa_nil)) (xg_name (i := 7) nd rfl (.inl rfl))
 (xss_kill [7, 8] (xss_cons (xs_set (i := 8) nd rfl (.inl rfl) (xe_tuple (by rfl) T.b_tuple (xa_cons (XR.xe (xr_lcA [("turn", 9)] rfl nd (xi_range1 (by rfl) T.b_range (xa_cons (XR.xe (xr_call m_law_next (d_law_next.ok.mono (by decide)) hr (by rfl) d_law_next.mg d_law_next.kp d_law_next.b (xa_cons (xe_v 0) (xa_cons xe_int xa_nil)))) xa_nil)) (blkOk_by (by kernel_rfl)) (fun _ _ _ _ _ => (xg_name (i := 9) nd rfl (.inl rfl) (by first | exact .inl rfl | exact .inr rfl))) (fun _ _ _ _ _ => xts_nil) (fun _ _ _ _ _ => (XR.xe (xr_call m_law_next (d_law_next.ok.mono (by decide)) hr (by rfl) d_law_next.mg d_law_next.kp d_law_next.b (xa_cons (xe_v 0) (xa_cons (xe_v 1) xa_nil))))))) xa_nil)))
 (xss_one (xs_set (i := 6) nd rfl (.inl rfl) (xe_op op_addX vr_add (xe_v 6) (xe_tup (xa_cons (xe_tup (xa_cons (XR.xe (xr_pop (xe_v 3))) (xa_cons (xe_v 8) xa_nil))) xa_nil))))))))
 (xss_one (xs_set (i := 4) nd rfl (.inl rfl) (xe_op op_addX vr_add (xe_v 4) (xe_tup (xa_cons (xe_tup (xa_cons (xe_ix (xe_tup (xa_cons xe_str (xa_cons xe_str (xa_cons xe_str xa_nil)))) (XR.xe (xr_call m_law_next (d_law_next.ok.mono (by decide)) hr (by rfl) d_law_next.mg d_law_next.kp d_law_next.b (xa_cons (xe_v 0) (xa_cons xe_int xa_nil))))) (xa_cons (xe_v 6) xa_nil))) xa_nil)))))))))
 (xss_one (xs_ret (xe_v 4))))))))) v_law_loose_signature
theorem sc_law_all_have_values : FnScope ["signature", "good", "turn", "kind", "name", "parts", "row", "part"] ["signature"] (defScope s_law_all_have_values) := ⟨rfl, rfl, rfl, by decide +kernel, rfl, by decide +kernel, by decide +kernel⟩
theorem x_law_all_have_values (T : Bl mg) {f : Addr} {fd : FuncData} (Fn : Fun K "_law_all_have_values" "_law_all_have_values" s_law_all_have_values f fd) : FnOk P w K mg base CX0 1 f fd ["signature"] (spOf K p_law_all_have_values) :=
  have nd := sc_law_all_have_values.nd
  fn_ok Fn sc_law_all_have_values l_law_all_have_values (t := w_law_all_have_values) (fun cdv A outer s H E F hr =>
(xss_cons (xs_setO (i := 1) nd rfl (.inr rfl) (xr_lcA [("row", 6)] rfl nd (xi_any (xe_v 0)) (blkOk_by (by kernel_rfl)) (fun _ _ _ _ _ => (xg_name (i := 6) nd rfl (.inl rfl) (by first | exact .inl rfl | exact .inr rfl))) (fun _ _ _ _ _ => xts_nil) (fun _ _ _ _ _ => (xe_cmp (op_eqP hr.units) vr_eq (xe_ix (xe_v 6) xe_int) xe_str (nomark _)))))
 (xss_cons (xs_for PassesOwn.never rfl (xi_range1 (by rfl) T.b_range (xa_cons xe_int xa_nil)) (xg_name (i := 2) nd rfl (.inl rfl))
 (xss_kill [2, 3, 4, 5] (xss_one (xs_for PassesOwn.never rfl (xi_range1 (by rfl) T.b_range (xa_cons (xe_len (by rfl) T.b_len (xa_cons (xe_v 0) xa_nil)) xa_nil)) (xg_name (i := 3) nd rfl (.inl rfl))
 (xss_kill [3, 4, 5] (xss_one (xs_for PassesOwn.never rfl (xi_any (xe_ix (xe_ix (xe_v 0) (xe_v 3)) xe_int)) (xg_tup rfl (xgs_cons (xg_name (i := 4) nd rfl (.inl rfl)) (xgs_cons (xg_name (i := 5) nd rfl (.inl rfl)) xgs_nil)))
 (xss_kill [4, 5] (xss_one (xs_if (xt_val (xe_all rfl (by rfl) T.b_all (xa_cons (XR.xe (xr_lcA [("part", 7)] rfl nd (xi_any (xe_v 5)) (blkOk_by (by kernel_rfl)) (fun _ _ _ _ _ => (xg_name (i := 7) nd rfl (.inl rfl) (by first | exact .inl rfl | exact .inr rfl))) (fun _ _ _ _ _ => xts_nil) (fun _ _ _ _ _ => (xe_ix (xe_v 1) (xe_v 7))))) xa_nil)))
 (xss_one (xs_put xe_bl (xe_v 1) (xe_v 3)))
 xss_nil))))))))))
 (xss_one (xs_ret (xe_all rfl (by rfl) T.b_all (xa_cons (xe_v 1) xa_nil))))))) v_law_all_have_values
theorem sc_law_fresh : FnScope ["signature", "used", "how", "rows", "name", "row", "letter"] ["signature"] (defScope s_law_fresh) := ⟨rfl, rfl, rfl, by decide +kernel, rfl, by decide +kernel, by decide +kernel⟩
theorem x_law_fresh (T : Bl mg) {f : Addr} {fd : FuncData} (Fn : Fun K "_law_fresh" "_law_fresh" s_law_fresh f fd) : FnOk P w K mg base CX0 1 f fd ["signature"] (spOf K p_law_fresh) :=
  have nd := sc_law_fresh.nd
  fn_ok Fn sc_law_fresh l_law_fresh (t := w_law_fresh) (fun cdv A outer s H E F hr =>
(xss_cons (xs_setO (i := 1) nd rfl (.inr rfl) (xr_lst xa_nil))
 (xss_cons (xs_for PassesOwn.never rfl (xi_any (xe_v 0)) (xg_tup rfl (xgs_cons (xg_name (i := 2) nd rfl (.inl rfl)) (xgs_cons (xg_name (i := 3) nd rfl (.inl rfl)) xgs_nil)))
 (xss_kill [2, 3] (xss_one (xs_expr (XR.xe (xr_extend (xe_v 1) (xa_cons (XR.xe (xr_lcA [("row", 5)] rfl nd (xi_any (xe_v 3)) (blkOk_by (by kernel_rfl)) (fun _ _ _ _ _ => (xg_name (i := 5) nd rfl (.inl rfl) (by first | exact .inl rfl | exact .inr rfl))) (fun _ _ _ _ _ => xts_nil) (fun _ _ _ _ _ => (xe_ix (xe_v 5) xe_int)))) xa_nil)))))))
 (xss_one (xs_retR (xr_lcA [("name", 4)] rfl nd (xi_any (XR.xe (xr_lcA [("letter", 6)] rfl nd (xi_any xe_str) (blkOk_by (by kernel_rfl)) (fun _ _ _ _ _ => (xg_name (i := 6) nd rfl (.inl rfl) (by first | exact .inl rfl | exact .inr rfl))) (fun _ _ _ _ _ => xts_nil) (fun _ _ _ _ _ => (xe_op op_addX vr_add xe_str (xe_v 6)))))) (blkOk_by (by kernel_rfl)) (fun _ _ _ _ _ => (xg_name (i := 4) nd rfl (.inl rfl) (by first | exact .inl rfl | exact .inr rfl))) (fun _ _ _ _ _ => (xts_one (xt_cmp (op_notinP hr.units) vr_in (xe_v 4) (xe_v 1) (by rfl)))) (fun _ _ _ _ _ => (xe_v 4)))))))) v_law_fresh
theorem sc_law_with_kind : FnScope ["signature", "kind", "row"] ["signature", "kind", "row"] (defScope s_law_with_kind) := ⟨rfl, rfl, rfl, by decide +kernel, rfl, by decide +kernel, by decide +kernel⟩
theorem x_law_with_kind (T : Bl mg) {f : Addr} {fd : FuncData} (Fn : Fun K "_law_with_kind" "_law_with_kind" s_law_with_kind f fd) : FnOk P w K mg base CX0 1 f fd ["signature", "kind", "row"] (spOf K p_law_with_kind) :=
  have nd := sc_law_with_kind.nd
  fn_ok Fn sc_law_with_kind l_law_with_kind (t := w_law_with_kind) (fun cdv A outer s H E F hr =>
(xss_one (xs_retR (xr_op op_addX vr_add (xe_op op_addX vr_add (XR.xe (xr_sl (xe_v 0) xo_none (xo_some (xe_v 1)))) (xe_tup (xa_cons (xe_v 2) xa_nil))) (XR.xe (xr_sl (xe_v 0) (xo_some (xe_op op_addX vr_add (xe_v 1) xe_int)) xo_none)))))) v_law_with_kind
theorem sc_law_put_in : FnScope ["stream", "rows", "row", "at"] ["stream", "rows", "row"] (defScope s_law_put_in) := ⟨rfl, rfl, rfl, by decide +kernel, rfl, by decide +kernel, by decide +kernel⟩
theorem x_law_put_in (T : Bl mg) (d_law_next : Fd P w K mg base "_law_next" 1 ["stream", "many"] p_law_next) {f : Addr} {fd : FuncData} (Fn : Fun K "_law_put_in" "_law_put_in" s_law_put_in f fd) : FnOk P w K mg base CX0 2 f fd ["stream", "rows", "row"] (spOf K p_law_put_in) :=
  have nd := sc_law_put_in.nd
  fn_ok Fn sc_law_put_in l_law_put_in (t := w_law_put_in) (fun cdv A outer s H E F hr =>
(xss_cons (xs_set (i := 3) nd rfl (.inl rfl) (XR.xe (xr_call m_law_next (d_law_next.ok.mono (by decide)) hr (by rfl) d_law_next.mg d_law_next.kp d_law_next.b (xa_cons (xe_v 0) (xa_cons (xe_op op_addX vr_add (xe_len (by rfl) T.b_len (xa_cons (xe_v 1) xa_nil)) xe_int) xa_nil)))))
 (xss_one (xs_retR (xr_op op_addX vr_add (xe_op op_addX vr_add (XR.xe (xr_sl (xe_v 1) xo_none (xo_some (xe_v 3)))) (xe_tup (xa_cons (xe_v 2) xa_nil))) (XR.xe (xr_sl (xe_v 1) (xo_some (xe_v 3)) xo_none))))))) v_law_put_in
theorem sc_law_spoilt_kind : FnScope ["stream", "signature", "kind", "how", "rows", "names", "more", "options", "at"] ["stream", "signature"] (defScope s_law_spoilt_kind) := ⟨rfl, rfl, rfl, by decide +kernel, rfl, by decide +kernel, by decide +kernel⟩
theorem x_law_spoilt_kind (T : Bl mg) (d_law_next : Fd P w K mg base "_law_next" 1 ["stream", "many"] p_law_next) (d_law_fresh : Fd P w K mg base "_law_fresh" 1 ["signature"] p_law_fresh) (d_law_with_kind : Fd P w K mg base "_law_with_kind" 1 ["signature", "kind", "row"] p_law_with_kind) (d_law_pick : Fd P w K mg base "_law_pick" 2 ["stream", "rows"] p_law_pick) {f : Addr} {fd : FuncData} (Fn : Fun K "_law_spoilt_kind" "_law_spoilt_kind" s_law_spoilt_kind f fd) : FnOk P w K mg base CX0 3 f fd ["stream", "signature"] (spOf K p_law_spoilt_kind) :=
  have nd := sc_law_spoilt_kind.nd
  fn_ok Fn sc_law_spoilt_kind l_law_spoilt_kind (t := w_law_spoilt_kind) (fun cdv A outer s H E F hr =>
(xss_cons (xs_set (i := 2) nd rfl (.inl rfl) (XR.xe (xr_call m_law_next (d_law_next.ok.mono (by decide)) hr (by rfl) d_law_next.mg d_law_next.kp d_law_next.b (xa_cons (xe_v 0) (xa_cons (xe_len (by rfl) T.b_len (xa_cons (xe_v 1) xa_nil)) xa_nil)))))
 (xss_cons (xs_asg (xe_ix (xe_v 1) (xe_v 2)) (xg_tup rfl (xgs_cons (xg_name (i := 3) nd rfl (.inl rfl)) (xgs_cons (xg_name (i := 4) nd rfl (.inl rfl)) xgs_nil))))
 (xss_cons (xs_set (i := 5) nd rfl (.inr rfl) (XR.xe (xr_call m_law_fresh (d_law_fresh.ok.mono (by decide)) hr (by rfl) d_law_fresh.mg d_law_fresh.kp d_law_fresh.b (xa_cons (xe_v 1) xa_nil))))
 (xss_cons (xs_set (i := 6) nd rfl (.inl rfl) (xe_op op_addX vr_add (xe_v 4) (xe_tuple (by rfl) T.b_tuple (xa_cons (XR.xe (xr_lcA [("at", 8)] rfl nd (xi_range1 (by rfl) T.b_range (xa_cons (xe_op op_sub (vr_ii0 fun _ _ _ => .int _) xe_int (xe_len (by rfl) T.b_len (xa_cons (xe_v 4) xa_nil))) xa_nil)) (blkOk_by (by kernel_rfl)) (fun _ _ _ _ _ => (xg_name (i := 8) nd rfl (.inl rfl) (by first | exact .inl rfl | exact .inr rfl))) (fun _ _ _ _ _ => xts_nil) (fun _ _ _ _ _ => (xe_tup (xa_cons (xe_ix (xe_v 5) (xe_v 8)) (xa_cons (xe_tup xa_nil) xa_nil)))))) xa_nil))))
 (xss_cons (xs_set (i := 7) nd rfl (.inl rfl) (XR.xe (xr_lst (xa_cons (XR.xe (xr_lst (xa_cons (xe_v 3) (xa_cons (xe_v 4) xa_nil)))) (xa_cons (xe_tup (xa_cons (xe_v 3) xa_nil)) (xa_cons (xe_tup (xa_cons (xe_v 3) (xa_cons (xe_v 4) (xa_cons (xe_tup xa_nil) xa_nil)))) (xa_cons (xe_tup (xa_cons (XR.xe (xr_call m_law_pick (d_law_pick.ok.mono (by decide)) hr (by rfl) d_law_pick.mg d_law_pick.kp d_law_pick.b (xa_cons (xe_v 0) (xa_cons (XR.xe (xr_lst (xa_cons xe_str (xa_cons xe_str (xa_cons xe_str (xa_cons xe_non (xa_cons xe_bl (xa_cons xe_int (xa_cons (xe_tup xa_nil) (xa_cons (XR.xe (xr_lst xa_nil)) (xa_cons xe_dict0 xa_nil))))))))))) xa_nil)))) (xa_cons (xe_v 4) xa_nil))) xa_nil)))))))
 (xss_cons (xs_set (i := 7) nd rfl (.inl rfl) (xe_op op_addX vr_add (xe_v 7) (XR.xe (xr_lst (xa_cons (xe_tup (xa_cons (xe_v 3) (xa_cons (XR.xe (xr_list (by rfl) T.b_list (xa_cons (xe_v 4) xa_nil))) xa_nil))) (xa_cons (xe_tup (xa_cons (xe_v 3) (xa_cons xe_non xa_nil))) (xa_cons (xe_tup (xa_cons (xe_v 3) (xa_cons xe_dict0 xa_nil))) (xa_cons (xe_tup (xa_cons (xe_v 3) (xa_cons (xe_v 6) xa_nil))) (xa_cons (xe_tup (xa_cons xe_str (xa_cons (xe_tup xa_nil) xa_nil))) (xa_cons xe_non (xa_cons (xe_v 3) xa_nil)))))))))))
 (xss_cons (xs_set (i := 7) nd rfl (.inl rfl) (xe_op op_addX vr_add (xe_v 7) (XR.xe (xr_lst (xa_cons (xe_tup (xa_cons xe_str (xa_cons (xe_tup (xa_cons (xe_tup (xa_cons (xe_ix (xe_v 5) xe_int) (xa_cons (xe_tup (xa_cons (xe_v 2) xa_nil)) xa_nil))) xa_nil)) xa_nil))) (xa_cons (xe_tup (xa_cons xe_str (xa_cons (xe_tup (xa_cons (xe_tup (xa_cons (xe_ix (xe_v 5) xe_int) (xa_cons (xe_tup (xa_cons (xe_v 2) (xa_cons (xe_v 2) xa_nil))) xa_nil))) (xa_cons (xe_tup (xa_cons (xe_ix (xe_v 5) xe_int) (xa_cons (xe_tup (xa_cons (xe_v 2) xa_nil)) xa_nil))) xa_nil))) xa_nil))) xa_nil))))))
 (xss_one (xs_retR (xr_call m_law_with_kind (d_law_with_kind.ok.mono (by decide)) hr (by rfl) d_law_with_kind.mg d_law_with_kind.kp d_law_with_kind.b (xa_cons (xe_v 1) (xa_cons (xe_v 2) (xa_cons (XR.xe (xr_call m_law_pick (d_law_pick.ok.mono (by decide)) hr (by rfl) d_law_pick.mg d_law_pick.kp d_law_pick.b (xa_cons (xe_v 0) (xa_cons (xe_op op_addX vr_add (xe_v 7) (XR.xe (xr_lst (xa_cons (xe_tup (xa_cons (xe_v 3) (xa_cons (xe_ix (xe_v 5) xe_int) xa_nil))) (xa_cons (xe_tup (xa_cons (xe_v 3) (xa_cons (xe_tup (xa_cons (xe_ix (xe_v 5) xe_int) xa_nil)) xa_nil))) xa_nil))))) xa_nil)))) xa_nil)))))))))))))) v_law_spoilt_kind
theorem sc_law_spoilt_constructor : FnScope ["stream", "signature", "kind", "how", "rows", "name", "wrong", "parts", "options", "used", "other", "row", "one"] ["stream", "signature"] (defScope s_law_spoilt_constructor) := ⟨rfl, rfl, rfl, by decide +kernel, rfl, by decide +kernel, by decide +kernel⟩
theorem x_law_spoilt_constructor (T : Bl mg) (d_law_next : Fd P w K mg base "_law_next" 1 ["stream", "many"] p_law_next) (d_law_with_kind : Fd P w K mg base "_law_with_kind" 1 ["signature", "kind", "row"] p_law_with_kind) (d_law_fresh : Fd P w K mg base "_law_fresh" 1 ["signature"] p_law_fresh) (d_law_put_in : Fd P w K mg base "_law_put_in" 2 ["stream", "rows", "row"] p_law_put_in) (d_law_pick : Fd P w K mg base "_law_pick" 2 ["stream", "rows"] p_law_pick) {f : Addr} {fd : FuncData} (Fn : Fun K "_law_spoilt_constructor" "_law_spoilt_constructor" s_law_spoilt_constructor f fd) : FnOk P w K mg base CX0 3 f fd ["stream", "signature"] (spOf K p_law_spoilt_constructor) :=
  have nd := sc_law_spoilt_constructor.nd
  fn_ok Fn sc_law_spoilt_constructor l_law_spoilt_constructor (t := w_law_spoilt_constructor) (fun cdv A outer s H E F hr =>
(xss_cons (xs_set (i := 2) nd rfl (.inl rfl) (XR.xe (xr_call m_law_next (d_law_next.ok.mono (by decide)) hr (by rfl) d_law_next.mg d_law_next.kp d_law_next.b (xa_cons (xe_v 0) (xa_cons (xe_len (by rfl) T.b_len (xa_cons (xe_v 1) xa_nil)) xa_nil)))))
 (xss_cons (xs_asg (xe_ix (xe_v 1) (xe_v 2)) (xg_tup rfl (xgs_cons (xg_name (i := 3) nd rfl (.inl rfl)) (xgs_cons (xg_name (i := 4) nd rfl (.inl rfl)) xgs_nil))))
 (xss_cons (xs_set (i := 5) nd rfl (.inr rfl) (xe_ix (XR.xe (xr_call m_law_fresh (d_law_fresh.ok.mono (by decide)) hr (by rfl) d_law_fresh.mg d_law_fresh.kp d_law_fresh.b (xa_cons (xe_v 1) xa_nil))) xe_int))
 (xss_cons (xs_set (i := 6) nd rfl (.inl rfl) (XR.xe (xr_lst (xa_cons xe_str (xa_cons xe_str (xa_cons xe_str (xa_cons xe_str (xa_cons xe_str (xa_cons xe_str (xa_cons xe_str (xa_cons xe_str (xa_cons xe_str (xa_cons xe_non (xa_cons xe_int (xa_cons xe_bl (xa_cons (xe_tup (xa_cons (xe_v 5) xa_nil)) (xa_cons (XR.xe (xr_lst xa_nil)) xa_nil)))))))))))))))))
 (xss_cons (xs_set (i := 7) nd rfl (.inl rfl) (XR.xe (xr_lst (xa_cons (xe_tup (xa_cons (xe_v 2) (xa_cons (xe_v 2) (xa_cons (xe_v 2) xa_nil)))) (xa_cons (xe_tup (xa_cons (xe_len (by rfl) T.b_len (xa_cons (xe_v 1) xa_nil)) xa_nil)) (xa_cons (xe_tup (xa_cons (xe_neg xe_int) xa_nil)) (xa_cons (xe_tup (xa_cons xe_int (xa_cons (xe_len (by rfl) T.b_len (xa_cons (xe_v 1) xa_nil)) xa_nil))) (xa_cons (xe_tup (xa_cons xe_bl xa_nil)) (xa_cons (xe_tup (xa_cons xe_bl xa_nil)) (xa_cons (xe_tup (xa_cons xe_str xa_nil)) (xa_cons (xe_tup (xa_cons xe_non xa_nil)) (xa_cons (xe_tup (xa_cons (xe_tup (xa_cons xe_int xa_nil)) xa_nil)) xa_nil))))))))))))
 (xss_cons (xs_set (i := 8) nd rfl (.inl rfl) (xe_op op_addX vr_add (XR.xe (xr_lcA [("one", 12)] rfl nd (xi_any (xe_v 6)) (blkOk_by (by kernel_rfl)) (fun _ _ _ _ _ => (xg_name (i := 12) nd rfl (.inl rfl) (by first | exact .inl rfl | exact .inr rfl))) (fun _ _ _ _ _ => xts_nil) (fun _ _ _ _ _ => (xe_tup (xa_cons (xe_v 12) (xa_cons (xe_tup xa_nil) xa_nil)))))) (XR.xe (xr_lcA [("one", 12)] rfl nd (xi_any (xe_v 7)) (blkOk_by (by kernel_rfl)) (fun _ _ _ _ _ => (xg_name (i := 12) nd rfl (.inl rfl) (by first | exact .inl rfl | exact .inr rfl))) (fun _ _ _ _ _ => xts_nil) (fun _ _ _ _ _ => (xe_tup (xa_cons (xe_v 5) (xa_cons (xe_v 12) xa_nil))))))))
 (xss_cons (xs_set (i := 8) nd rfl (.inl rfl) (xe_op op_addX vr_add (xe_v 8) (XR.xe (xr_lst (xa_cons (XR.xe (xr_lst (xa_cons (xe_v 5) (xa_cons (xe_tup xa_nil) xa_nil)))) (xa_cons (xe_tup (xa_cons (xe_v 5) xa_nil)) (xa_cons (xe_tup (xa_cons (xe_v 5) (xa_cons (xe_tup xa_nil) (xa_cons (xe_tup xa_nil) xa_nil)))) (xa_cons (xe_tup (xa_cons (xe_v 5) (xa_cons (XR.xe (xr_lst xa_nil)) xa_nil))) (xa_cons (xe_tup (xa_cons (xe_v 5) (xa_cons xe_non xa_nil))) (xa_cons (xe_tup (xa_cons (xe_v 5) (xa_cons xe_int xa_nil))) (xa_cons (xe_tup (xa_cons (xe_v 5) (xa_cons (XR.xe (xr_lst (xa_cons (xe_v 2) xa_nil))) xa_nil))) (xa_cons (xe_v 5) xa_nil))))))))))))
 (xss_cons (xs_setLcA [("row", 11)] (i := 9) rfl nd rfl rfl (sw_true rfl rfl rfl (by decide +kernel)) (xi_any (XR.xe (xr_sl (xe_v 4) xo_none (xo_some xe_int)))) (blkOk_by (by kernel_rfl)) (fun _ _ _ _ _ => (xg_name (i := 11) nd rfl (.inl rfl) (by first | exact .inl rfl | exact .inr rfl))) (fun _ _ _ _ _ => xts_nil) (fun _ _ _ _ _ => (xe_ix (xe_v 11) xe_int)))
 (xss_cons (xs_for PassesOwn.never rfl (xi_range1 (by rfl) T.b_range (xa_cons (xe_len (by rfl) T.b_len (xa_cons (xe_v 1) xa_nil)) xa_nil)) (xg_name (i := 10) nd rfl (.inl rfl))
 (xss_kill [10] (xss_one (xs_if (xt_cmp (op_neP hr.units) vr_eq (xe_v 10) (xe_v 2) (nomark _))
 (xss_one (xs_set (i := 9) nd rfl (.inl rfl) (xe_op op_addX vr_add (xe_v 9) (XR.xe (xr_lcA [("row", 11)] rfl nd (xi_any (xe_ix (xe_ix (xe_v 1) (xe_v 10)) xe_int)) (blkOk_by (by kernel_rfl)) (fun _ _ _ _ _ => (xg_name (i := 11) nd rfl (.inl rfl) (by first | exact .inl rfl | exact .inr rfl))) (fun _ _ _ _ _ => xts_nil) (fun _ _ _ _ _ => (xe_ix (xe_v 11) xe_int)))))))
 xss_nil))))
 (xss_cons (xs_if (XW.xt (xw_and (xt_cmp (op_neP hr.units) vr_eq (xe_v 9) (XR.xe (xr_lst xa_nil)) (nomark _)) (xw_and1 (xt_cmp (op_eqP hr.units) vr_eq (XR.xe (xr_call m_law_next (d_law_next.ok.mono (by decide)) hr (by rfl) d_law_next.mg d_law_next.kp d_law_next.b (xa_cons (xe_v 0) (xa_cons xe_int xa_nil)))) xe_int (nomark _)))))
 (xss_one (xs_set (i := 8) nd rfl (.inl rfl) (XR.xe (xr_lst (xa_cons (xe_tup (xa_cons (XR.xe (xr_call m_law_pick (d_law_pick.ok.mono (by decide)) hr (by rfl) d_law_pick.mg d_law_pick.kp d_law_pick.b (xa_cons (xe_v 0) (xa_cons (xe_v 9) xa_nil)))) (xa_cons (xe_tup xa_nil) xa_nil))) xa_nil)))))
 xss_nil)
 (xss_one (xs_retR (xr_call m_law_with_kind (d_law_with_kind.ok.mono (by decide)) hr (by rfl) d_law_with_kind.mg d_law_with_kind.kp d_law_with_kind.b (xa_cons (xe_v 1) (xa_cons (xe_v 2) (xa_cons (xe_tup (xa_cons (xe_v 3) (xa_cons (XR.xe (xr_call m_law_put_in (d_law_put_in.ok.mono (by decide)) hr (by rfl) d_law_put_in.mg d_law_put_in.kp d_law_put_in.b (xa_cons (xe_v 0) (xa_cons (XR.xe (xr_sl (xe_v 4) xo_none (xo_some xe_int))) (xa_cons (XR.xe (xr_call m_law_pick (d_law_pick.ok.mono (by decide)) hr (by rfl) d_law_pick.mg d_law_pick.kp d_law_pick.b (xa_cons (xe_v 0) (xa_cons (xe_v 8) xa_nil)))) xa_nil))))) xa_nil))) xa_nil))))))))))))))))) v_law_spoilt_constructor
theorem sc_law_spoilt : FnScope ["stream", "signature", "deed", "more"] ["stream", "signature"] (defScope s_law_spoilt) := ⟨rfl, rfl, rfl, by decide +kernel, rfl, by decide +kernel, by decide +kernel⟩
theorem x_law_spoilt (T : Bl mg) (d_law_next : Fd P w K mg base "_law_next" 1 ["stream", "many"] p_law_next) (d_law_pick : Fd P w K mg base "_law_pick" 2 ["stream", "rows"] p_law_pick) (d_law_spoilt_kind : Fd P w K mg base "_law_spoilt_kind" 3 ["stream", "signature"] p_law_spoilt_kind) (d_law_spoilt_constructor : Fd P w K mg base "_law_spoilt_constructor" 3 ["stream", "signature"] p_law_spoilt_constructor) {f : Addr} {fd : FuncData} (Fn : Fun K "_law_spoilt" "_law_spoilt" s_law_spoilt f fd) : FnOk P w K mg base CX0 4 f fd ["stream", "signature"] (spOf K p_law_spoilt) :=
  have nd := sc_law_spoilt.nd
  fn_ok Fn sc_law_spoilt l_law_spoilt (t := w_law_spoilt) (fun cdv A outer s H E F hr =>
(xss_cons (xs_set (i := 2) nd rfl (.inl rfl) (XR.xe (xr_call m_law_next (d_law_next.ok.mono (by decide)) hr (by rfl) d_law_next.mg d_law_next.kp d_law_next.b (xa_cons (xe_v 0) (xa_cons xe_int xa_nil)))))
 (xss_cons (xs_if (xt_cmp (op_eqP hr.units) vr_eq (xe_v 2) xe_int (nomark _))
 (xss_cons (xs_set (i := 3) nd rfl (.inl rfl) (xe_op op_addX vr_add (xe_v 1) (xe_op op_mulT vr_mulT (xe_tup (xa_cons (xe_tup (xa_cons xe_str (xa_cons (xe_tup xa_nil) xa_nil))) xa_nil)) (xe_op op_sub (vr_ii0 fun _ _ _ => .int _) xe_int (xe_len (by rfl) T.b_len (xa_cons (xe_v 1) xa_nil))))))
 (xss_one (xs_retR (xr_call m_law_pick (d_law_pick.ok.mono (by decide)) hr (by rfl) d_law_pick.mg d_law_pick.kp d_law_pick.b (xa_cons (xe_v 0) (xa_cons (XR.xe (xr_lst (xa_cons (XR.xe (xr_list (by rfl) T.b_list (xa_cons (xe_v 1) xa_nil))) (xa_cons (xe_tup xa_nil) (xa_cons (xe_v 3) (xa_cons (xe_ix (xe_v 1) xe_int) (xa_cons (xe_tup (xa_cons (xe_v 1) xa_nil)) (xa_cons xe_non (xa_cons xe_int (xa_cons xe_bl (xa_cons xe_str (xa_cons xe_dict0 xa_nil)))))))))))) xa_nil))))))
 xss_nil)
 (xss_one (xs_ret (xe_if (xt_cmp op_lt (vr_ii0 fun _ _ _ => .bl _) (xe_v 2) xe_int (nomark _)) (XR.xe (xr_call m_law_spoilt_kind (d_law_spoilt_kind.ok.mono (by decide)) hr (by rfl) d_law_spoilt_kind.mg d_law_spoilt_kind.kp d_law_spoilt_kind.b (xa_cons (xe_v 0) (xa_cons (xe_v 1) xa_nil)))) (XR.xe (xr_call m_law_spoilt_constructor (d_law_spoilt_constructor.ok.mono (by decide)) hr (by rfl) d_law_spoilt_constructor.mg d_law_spoilt_constructor.kp d_law_spoilt_constructor.b (xa_cons (xe_v 0) (xa_cons (xe_v 1) xa_nil)))))))))) v_law_spoilt
theorem sc_law : FnScope ["script", "stream", "turn", "signature", "other", "loose", "deep"] ["script"] (defScope s_law) := ⟨rfl, rfl, rfl, by decide +kernel, rfl, by decide +kernel, by decide +kernel⟩
theorem x_law (T : Bl mg) (d_law_stream : Fd P w K mg base "_law_stream" 1 ["script"] p_law_stream) (d_law_signature : Fd P w K mg base "_law_signature" 5 ["stream"] p_law_signature) (d_is_signature : Fd P w K mg base "is_signature" 6 ["value"] p_is_signature) (d_law_same : Fd P w K mg base "_law_same" 2 ["actual", "due"] p_law_same) (d_law_loose_signature : Fd P w K mg base "_law_loose_signature" 4 ["stream"] p_law_loose_signature) (d_law_all_have_values : Fd P w K mg base "_law_all_have_values" 1 ["signature"] p_law_all_have_values) (d_law_spoilt : Fd P w K mg base "_law_spoilt" 4 ["stream", "signature"] p_law_spoilt) {f : Addr} {fd : FuncData} (Fn : Fun K "law" "law" s_law f fd) : FnOk P w K mg base CX0 7 f fd ["script"] (spOf K p_law) :=
  have nd := sc_law.nd
  fn_ok Fn sc_law l_law (t := w_law) (fun cdv A outer s H E F hr =>
(xss_cons (xs_setO (i := 1) nd rfl (.inl rfl) (xr_call m_law_stream (d_law_stream.ok.mono (by decide)) hr (by rfl) d_law_stream.mg d_law_stream.kp d_law_stream.b (xa_cons (xe_v 0) xa_nil)))
 (xss_cons (xs_for PassesOwn.never rfl (xi_range1 (by rfl) T.b_range (xa_cons xe_int xa_nil)) (xg_name (i := 2) nd rfl (.inl rfl))
 (xss_kill [2, 3, 4, 5] (xss_cons (xs_set (i := 3) nd rfl (.inl rfl) (XR.xe (xr_call m_law_signature (d_law_signature.ok.mono (by decide)) hr (by rfl) d_law_signature.mg d_law_signature.kp d_law_signature.b (xa_cons (xe_v 1) xa_nil))))
 (xss_cons (xs_if (xt_not (xt_val (XR.xe (xr_call m_law_same (d_law_same.ok.mono (by decide)) hr (by rfl) d_law_same.mg d_law_same.kp d_law_same.b (xa_cons (XR.xe (xr_call m_is_signature (d_is_signature.ok.mono (by decide)) hr (by rfl) d_is_signature.mg d_is_signature.kp d_is_signature.b (xa_cons (xe_v 3) xa_nil))) (xa_cons xe_bl xa_nil))))))
 (xss_one (xs_ret xe_bl))
 xss_nil)
 (xss_cons (xs_for PassesOwn.never rfl (xi_range1 (by rfl) T.b_range (xa_cons xe_int xa_nil)) (xg_name (i := 4) nd rfl (.inl rfl))
 (xss_kill [4] (xss_one (xs_if (xt_not (xt_val (XR.xe (xr_call m_law_same (d_law_same.ok.mono (by decide)) hr (by rfl) d_law_same.mg d_law_same.kp d_law_same.b (xa_cons (XR.xe (xr_call m_is_signature (d_is_signature.ok.mono (by decide)) hr (by rfl) d_is_signature.mg d_is_signature.kp d_is_signature.b (xa_cons (XR.xe (xr_call m_law_spoilt (d_law_spoilt.ok.mono (by decide)) hr (by rfl) d_law_spoilt.mg d_law_spoilt.kp d_law_spoilt.b (xa_cons (xe_v 1) (xa_cons (xe_v 3) xa_nil)))) xa_nil))) (xa_cons xe_bl xa_nil))))))
 (xss_one (xs_ret xe_bl))
 xss_nil))))
 (xss_one (xs_for PassesOwn.never rfl (xi_range1 (by rfl) T.b_range (xa_cons xe_int xa_nil)) (xg_name (i := 4) nd rfl (.inl rfl))
 (xss_kill [4, 5] (xss_cons (xs_set (i := 5) nd rfl (.inl rfl) (XR.xe (xr_call m_law_loose_signature (d_law_loose_signature.ok.mono (by decide)) hr (by rfl) d_law_loose_signature.mg d_law_loose_signature.kp d_law_loose_signature.b (xa_cons (xe_v 1) xa_nil))))
 (xss_one (xs_if (xt_not (xt_val (XR.xe (xr_call m_law_same (d_law_same.ok.mono (by decide)) hr (by rfl) d_law_same.mg d_law_same.kp d_law_same.b (xa_cons (XR.xe (xr_call m_is_signature (d_is_signature.ok.mono (by decide)) hr (by rfl) d_is_signature.mg d_is_signature.kp d_is_signature.b (xa_cons (xe_v 5) xa_nil))) (xa_cons (XR.xe (xr_call m_law_all_have_values (d_law_all_have_values.ok.mono (by decide)) hr (by rfl) d_law_all_have_values.mg d_law_all_have_values.kp d_law_all_have_values.b (xa_cons (xe_v 5) xa_nil))) xa_nil))))))
 (xss_one (xs_ret xe_bl))
 xss_nil)))))))))))
 (xss_cons (xs_set (i := 6) nd rfl (.inl rfl) (xe_tup xa_nil))
 (xss_cons (xs_for PassesOwn.never rfl (xi_range1 (by rfl) T.b_range (xa_cons xe_int xa_nil)) (xg_name (i := 2) nd rfl (.inl rfl))
 (xss_kill [2] (xss_one (xs_set (i := 6) nd rfl (.inl rfl) (xe_tup (xa_cons (xe_v 6) xa_nil))))))
 (xss_one (xs_ret (xe_cmp op_isBl vr_isB (XR.xe (xr_call m_is_signature (d_is_signature.ok.mono (by decide)) hr (by rfl) d_is_signature.mg d_is_signature.kp d_is_signature.b (xa_cons (xe_v 6) xa_nil))) xe_bl (nomark _))))))))) v_law
end
theorem all_mk {l : PySem.W.OpenLaw} {w : World} {K : PySem.W.Frag} {h : Heap} {mg : Str → Option Value} {fa : Addr} (X : K.In h) (G : h.Ns mainGlobals mg) (hfa : mg "law" = some (.ref fa))
    {f0 : Addr} {od0 an0 : Option Addr} {sl0 : Array (Option Value)} {oc0 kV0 dc0 pm0 cd0 ct0 : Value} (a0 : PySem.W.nsIn K mainGlobals "is_whole" = some (some (.ref f0))) (l0 : K.lookup f0 = some ⟨oc0, od0, .func (PySem.W.fnOf "is_whole" "is_whole" (defArgs s_is_whole) (defBody s_is_whole) (defScope s_is_whole) .none kV0 dc0 pm0 an0 cd0 ct0), sl0⟩) (c0 : PySem.W.codeIn K cd0 "is_whole" = true) (k0 : PySem.W.keepIn K (.ref f0) = true)
    {f1 : Addr} {od1 an1 : Option Addr} {sl1 : Array (Option Value)} {oc1 kV1 dc1 pm1 cd1 ct1 : Value} (a1 : PySem.W.nsIn K mainGlobals "is_within" = some (some (.ref f1))) (l1 : K.lookup f1 = some ⟨oc1, od1, .func (PySem.W.fnOf "is_within" "is_within" (defArgs s_is_within) (defBody s_is_within) (defScope s_is_within) .none kV1 dc1 pm1 an1 cd1 ct1), sl1⟩) (c1 : PySem.W.codeIn K cd1 "is_within" = true) (k1 : PySem.W.keepIn K (.ref f1) = true)
    {f2 : Addr} {od2 an2 : Option Addr} {sl2 : Array (Option Value)} {oc2 kV2 dc2 pm2 cd2 ct2 : Value} (a2 : PySem.W.nsIn K mainGlobals "is_name" = some (some (.ref f2))) (l2 : K.lookup f2 = some ⟨oc2, od2, .func (PySem.W.fnOf "is_name" "is_name" (defArgs s_is_name) (defBody s_is_name) (defScope s_is_name) .none kV2 dc2 pm2 an2 cd2 ct2), sl2⟩) (c2 : PySem.W.codeIn K cd2 "is_name" = true) (k2 : PySem.W.keepIn K (.ref f2) = true)
    {f3 : Addr} {od3 an3 : Option Addr} {sl3 : Array (Option Value)} {oc3 kV3 dc3 pm3 cd3 ct3 : Value} (a3 : PySem.W.nsIn K mainGlobals "are_kinds" = some (some (.ref f3))) (l3 : K.lookup f3 = some ⟨oc3, od3, .func (PySem.W.fnOf "are_kinds" "are_kinds" (defArgs s_are_kinds) (defBody s_are_kinds) (defScope s_are_kinds) .none kV3 dc3 pm3 an3 cd3 ct3), sl3⟩) (c3 : PySem.W.codeIn K cd3 "are_kinds" = true) (k3 : PySem.W.keepIn K (.ref f3) = true)
    {f4 : Addr} {od4 an4 : Option Addr} {sl4 : Array (Option Value)} {oc4 kV4 dc4 pm4 cd4 ct4 : Value} (a4 : PySem.W.nsIn K mainGlobals "is_constructor" = some (some (.ref f4))) (l4 : K.lookup f4 = some ⟨oc4, od4, .func (PySem.W.fnOf "is_constructor" "is_constructor" (defArgs s_is_constructor) (defBody s_is_constructor) (defScope s_is_constructor) .none kV4 dc4 pm4 an4 cd4 ct4), sl4⟩) (c4 : PySem.W.codeIn K cd4 "is_constructor" = true) (k4 : PySem.W.keepIn K (.ref f4) = true)
    {f5 : Addr} {od5 an5 : Option Addr} {sl5 : Array (Option Value)} {oc5 kV5 dc5 pm5 cd5 ct5 : Value} (a5 : PySem.W.nsIn K mainGlobals "is_kind_row" = some (some (.ref f5))) (l5 : K.lookup f5 = some ⟨oc5, od5, .func (PySem.W.fnOf "is_kind_row" "is_kind_row" (defArgs s_is_kind_row) (defBody s_is_kind_row) (defScope s_is_kind_row) .none kV5 dc5 pm5 an5 cd5 ct5), sl5⟩) (c5 : PySem.W.codeIn K cd5 "is_kind_row" = true) (k5 : PySem.W.keepIn K (.ref f5) = true)
    {f6 : Addr} {od6 an6 : Option Addr} {sl6 : Array (Option Value)} {oc6 kV6 dc6 pm6 cd6 ct6 : Value} (a6 : PySem.W.nsIn K mainGlobals "filled_kinds" = some (some (.ref f6))) (l6 : K.lookup f6 = some ⟨oc6, od6, .func (PySem.W.fnOf "filled_kinds" "filled_kinds" (defArgs s_filled_kinds) (defBody s_filled_kinds) (defScope s_filled_kinds) .none kV6 dc6 pm6 an6 cd6 ct6), sl6⟩) (c6 : PySem.W.codeIn K cd6 "filled_kinds" = true) (k6 : PySem.W.keepIn K (.ref f6) = true)
    {f7 : Addr} {od7 an7 : Option Addr} {sl7 : Array (Option Value)} {oc7 kV7 dc7 pm7 cd7 ct7 : Value} (a7 : PySem.W.nsIn K mainGlobals "is_signature" = some (some (.ref f7))) (l7 : K.lookup f7 = some ⟨oc7, od7, .func (PySem.W.fnOf "is_signature" "is_signature" (defArgs s_is_signature) (defBody s_is_signature) (defScope s_is_signature) .none kV7 dc7 pm7 an7 cd7 ct7), sl7⟩) (c7 : PySem.W.codeIn K cd7 "is_signature" = true) (k7 : PySem.W.keepIn K (.ref f7) = true)
    {f8 : Addr} {od8 an8 : Option Addr} {sl8 : Array (Option Value)} {oc8 kV8 dc8 pm8 cd8 ct8 : Value} (a8 : PySem.W.nsIn K mainGlobals "_law_stream" = some (some (.ref f8))) (l8 : K.lookup f8 = some ⟨oc8, od8, .func (PySem.W.fnOf "_law_stream" "_law_stream" (defArgs s_law_stream) (defBody s_law_stream) (defScope s_law_stream) .none kV8 dc8 pm8 an8 cd8 ct8), sl8⟩) (c8 : PySem.W.codeIn K cd8 "_law_stream" = true) (k8 : PySem.W.keepIn K (.ref f8) = true)
    {f9 : Addr} {od9 an9 : Option Addr} {sl9 : Array (Option Value)} {oc9 kV9 dc9 pm9 cd9 ct9 : Value} (a9 : PySem.W.nsIn K mainGlobals "_law_next" = some (some (.ref f9))) (l9 : K.lookup f9 = some ⟨oc9, od9, .func (PySem.W.fnOf "_law_next" "_law_next" (defArgs s_law_next) (defBody s_law_next) (defScope s_law_next) .none kV9 dc9 pm9 an9 cd9 ct9), sl9⟩) (c9 : PySem.W.codeIn K cd9 "_law_next" = true) (k9 : PySem.W.keepIn K (.ref f9) = true)
    {f10 : Addr} {od10 an10 : Option Addr} {sl10 : Array (Option Value)} {oc10 kV10 dc10 pm10 cd10 ct10 : Value} (a10 : PySem.W.nsIn K mainGlobals "_law_pick" = some (some (.ref f10))) (l10 : K.lookup f10 = some ⟨oc10, od10, .func (PySem.W.fnOf "_law_pick" "_law_pick" (defArgs s_law_pick) (defBody s_law_pick) (defScope s_law_pick) .none kV10 dc10 pm10 an10 cd10 ct10), sl10⟩) (c10 : PySem.W.codeIn K cd10 "_law_pick" = true) (k10 : PySem.W.keepIn K (.ref f10) = true)
    {f11 : Addr} {od11 an11 : Option Addr} {sl11 : Array (Option Value)} {oc11 kV11 dc11 pm11 cd11 ct11 : Value} (a11 : PySem.W.nsIn K mainGlobals "_law_order" = some (some (.ref f11))) (l11 : K.lookup f11 = some ⟨oc11, od11, .func (PySem.W.fnOf "_law_order" "_law_order" (defArgs s_law_order) (defBody s_law_order) (defScope s_law_order) .none kV11 dc11 pm11 an11 cd11 ct11), sl11⟩) (c11 : PySem.W.codeIn K cd11 "_law_order" = true) (k11 : PySem.W.keepIn K (.ref f11) = true)
    {f12 : Addr} {od12 an12 : Option Addr} {sl12 : Array (Option Value)} {oc12 kV12 dc12 pm12 cd12 ct12 : Value} (a12 : PySem.W.nsIn K mainGlobals "_law_is_integer" = some (some (.ref f12))) (l12 : K.lookup f12 = some ⟨oc12, od12, .func (PySem.W.fnOf "_law_is_integer" "_law_is_integer" (defArgs s_law_is_integer) (defBody s_law_is_integer) (defScope s_law_is_integer) .none kV12 dc12 pm12 an12 cd12 ct12), sl12⟩) (c12 : PySem.W.codeIn K cd12 "_law_is_integer" = true) (k12 : PySem.W.keepIn K (.ref f12) = true)
    {f13 : Addr} {od13 an13 : Option Addr} {sl13 : Array (Option Value)} {oc13 kV13 dc13 pm13 cd13 ct13 : Value} (a13 : PySem.W.nsIn K mainGlobals "_law_same" = some (some (.ref f13))) (l13 : K.lookup f13 = some ⟨oc13, od13, .func (PySem.W.fnOf "_law_same" "_law_same" (defArgs s_law_same) (defBody s_law_same) (defScope s_law_same) .none kV13 dc13 pm13 an13 cd13 ct13), sl13⟩) (c13 : PySem.W.codeIn K cd13 "_law_same" = true) (k13 : PySem.W.keepIn K (.ref f13) = true)
    {f14 : Addr} {od14 an14 : Option Addr} {sl14 : Array (Option Value)} {oc14 kV14 dc14 pm14 cd14 ct14 : Value} (a14 : PySem.W.nsIn K mainGlobals "_law_word" = some (some (.ref f14))) (l14 : K.lookup f14 = some ⟨oc14, od14, .func (PySem.W.fnOf "_law_word" "_law_word" (defArgs s_law_word) (defBody s_law_word) (defScope s_law_word) .none kV14 dc14 pm14 an14 cd14 ct14), sl14⟩) (c14 : PySem.W.codeIn K cd14 "_law_word" = true) (k14 : PySem.W.keepIn K (.ref f14) = true)
    {f15 : Addr} {od15 an15 : Option Addr} {sl15 : Array (Option Value)} {oc15 kV15 dc15 pm15 cd15 ct15 : Value} (a15 : PySem.W.nsIn K mainGlobals "_law_names" = some (some (.ref f15))) (l15 : K.lookup f15 = some ⟨oc15, od15, .func (PySem.W.fnOf "_law_names" "_law_names" (defArgs s_law_names) (defBody s_law_names) (defScope s_law_names) .none kV15 dc15 pm15 an15 cd15 ct15), sl15⟩) (c15 : PySem.W.codeIn K cd15 "_law_names" = true) (k15 : PySem.W.keepIn K (.ref f15) = true)
    {f16 : Addr} {od16 an16 : Option Addr} {sl16 : Array (Option Value)} {oc16 kV16 dc16 pm16 cd16 ct16 : Value} (a16 : PySem.W.nsIn K mainGlobals "_law_any_signature" = some (some (.ref f16))) (l16 : K.lookup f16 = some ⟨oc16, od16, .func (PySem.W.fnOf "_law_any_signature" "_law_any_signature" (defArgs s_law_any_signature) (defBody s_law_any_signature) (defScope s_law_any_signature) .none kV16 dc16 pm16 an16 cd16 ct16), sl16⟩) (c16 : PySem.W.codeIn K cd16 "_law_any_signature" = true) (k16 : PySem.W.keepIn K (.ref f16) = true)
    {f17 : Addr} {od17 an17 : Option Addr} {sl17 : Array (Option Value)} {oc17 kV17 dc17 pm17 cd17 ct17 : Value} (a17 : PySem.W.nsIn K mainGlobals "_law_rich_signature" = some (some (.ref f17))) (l17 : K.lookup f17 = some ⟨oc17, od17, .func (PySem.W.fnOf "_law_rich_signature" "_law_rich_signature" (defArgs s_law_rich_signature) (defBody s_law_rich_signature) (defScope s_law_rich_signature) .none kV17 dc17 pm17 an17 cd17 ct17), sl17⟩) (c17 : PySem.W.codeIn K cd17 "_law_rich_signature" = true) (k17 : PySem.W.keepIn K (.ref f17) = true)
    {f18 : Addr} {od18 an18 : Option Addr} {sl18 : Array (Option Value)} {oc18 kV18 dc18 pm18 cd18 ct18 : Value} (a18 : PySem.W.nsIn K mainGlobals "_law_signature" = some (some (.ref f18))) (l18 : K.lookup f18 = some ⟨oc18, od18, .func (PySem.W.fnOf "_law_signature" "_law_signature" (defArgs s_law_signature) (defBody s_law_signature) (defScope s_law_signature) .none kV18 dc18 pm18 an18 cd18 ct18), sl18⟩) (c18 : PySem.W.codeIn K cd18 "_law_signature" = true) (k18 : PySem.W.keepIn K (.ref f18) = true)
    {f19 : Addr} {od19 an19 : Option Addr} {sl19 : Array (Option Value)} {oc19 kV19 dc19 pm19 cd19 ct19 : Value} (a19 : PySem.W.nsIn K mainGlobals "_law_loose_signature" = some (some (.ref f19))) (l19 : K.lookup f19 = some ⟨oc19, od19, .func (PySem.W.fnOf "_law_loose_signature" "_law_loose_signature" (defArgs s_law_loose_signature) (defBody s_law_loose_signature) (defScope s_law_loose_signature) .none kV19 dc19 pm19 an19 cd19 ct19), sl19⟩) (c19 : PySem.W.codeIn K cd19 "_law_loose_signature" = true) (k19 : PySem.W.keepIn K (.ref f19) = true)
    {f20 : Addr} {od20 an20 : Option Addr} {sl20 : Array (Option Value)} {oc20 kV20 dc20 pm20 cd20 ct20 : Value} (a20 : PySem.W.nsIn K mainGlobals "_law_all_have_values" = some (some (.ref f20))) (l20 : K.lookup f20 = some ⟨oc20, od20, .func (PySem.W.fnOf "_law_all_have_values" "_law_all_have_values" (defArgs s_law_all_have_values) (defBody s_law_all_have_values) (defScope s_law_all_have_values) .none kV20 dc20 pm20 an20 cd20 ct20), sl20⟩) (c20 : PySem.W.codeIn K cd20 "_law_all_have_values" = true) (k20 : PySem.W.keepIn K (.ref f20) = true)
    {f21 : Addr} {od21 an21 : Option Addr} {sl21 : Array (Option Value)} {oc21 kV21 dc21 pm21 cd21 ct21 : Value} (a21 : PySem.W.nsIn K mainGlobals "_law_fresh" = some (some (.ref f21))) (l21 : K.lookup f21 = some ⟨oc21, od21, .func (PySem.W.fnOf "_law_fresh" "_law_fresh" (defArgs s_law_fresh) (defBody s_law_fresh) (defScope s_law_fresh) .none kV21 dc21 pm21 an21 cd21 ct21), sl21⟩) (c21 : PySem.W.codeIn K cd21 "_law_fresh" = true) (k21 : PySem.W.keepIn K (.ref f21) = true)
    {f22 : Addr} {od22 an22 : Option Addr} {sl22 : Array (Option Value)} {oc22 kV22 dc22 pm22 cd22 ct22 : Value} (a22 : PySem.W.nsIn K mainGlobals "_law_with_kind" = some (some (.ref f22))) (l22 : K.lookup f22 = some ⟨oc22, od22, .func (PySem.W.fnOf "_law_with_kind" "_law_with_kind" (defArgs s_law_with_kind) (defBody s_law_with_kind) (defScope s_law_with_kind) .none kV22 dc22 pm22 an22 cd22 ct22), sl22⟩) (c22 : PySem.W.codeIn K cd22 "_law_with_kind" = true) (k22 : PySem.W.keepIn K (.ref f22) = true)
    {f23 : Addr} {od23 an23 : Option Addr} {sl23 : Array (Option Value)} {oc23 kV23 dc23 pm23 cd23 ct23 : Value} (a23 : PySem.W.nsIn K mainGlobals "_law_put_in" = some (some (.ref f23))) (l23 : K.lookup f23 = some ⟨oc23, od23, .func (PySem.W.fnOf "_law_put_in" "_law_put_in" (defArgs s_law_put_in) (defBody s_law_put_in) (defScope s_law_put_in) .none kV23 dc23 pm23 an23 cd23 ct23), sl23⟩) (c23 : PySem.W.codeIn K cd23 "_law_put_in" = true) (k23 : PySem.W.keepIn K (.ref f23) = true)
    {f24 : Addr} {od24 an24 : Option Addr} {sl24 : Array (Option Value)} {oc24 kV24 dc24 pm24 cd24 ct24 : Value} (a24 : PySem.W.nsIn K mainGlobals "_law_spoilt_kind" = some (some (.ref f24))) (l24 : K.lookup f24 = some ⟨oc24, od24, .func (PySem.W.fnOf "_law_spoilt_kind" "_law_spoilt_kind" (defArgs s_law_spoilt_kind) (defBody s_law_spoilt_kind) (defScope s_law_spoilt_kind) .none kV24 dc24 pm24 an24 cd24 ct24), sl24⟩) (c24 : PySem.W.codeIn K cd24 "_law_spoilt_kind" = true) (k24 : PySem.W.keepIn K (.ref f24) = true)
    {f25 : Addr} {od25 an25 : Option Addr} {sl25 : Array (Option Value)} {oc25 kV25 dc25 pm25 cd25 ct25 : Value} (a25 : PySem.W.nsIn K mainGlobals "_law_spoilt_constructor" = some (some (.ref f25))) (l25 : K.lookup f25 = some ⟨oc25, od25, .func (PySem.W.fnOf "_law_spoilt_constructor" "_law_spoilt_constructor" (defArgs s_law_spoilt_constructor) (defBody s_law_spoilt_constructor) (defScope s_law_spoilt_constructor) .none kV25 dc25 pm25 an25 cd25 ct25), sl25⟩) (c25 : PySem.W.codeIn K cd25 "_law_spoilt_constructor" = true) (k25 : PySem.W.keepIn K (.ref f25) = true)
    {f26 : Addr} {od26 an26 : Option Addr} {sl26 : Array (Option Value)} {oc26 kV26 dc26 pm26 cd26 ct26 : Value} (a26 : PySem.W.nsIn K mainGlobals "_law_spoilt" = some (some (.ref f26))) (l26 : K.lookup f26 = some ⟨oc26, od26, .func (PySem.W.fnOf "_law_spoilt" "_law_spoilt" (defArgs s_law_spoilt) (defBody s_law_spoilt) (defScope s_law_spoilt) .none kV26 dc26 pm26 an26 cd26 ct26), sl26⟩) (c26 : PySem.W.codeIn K cd26 "_law_spoilt" = true) (k26 : PySem.W.keepIn K (.ref f26) = true)
    {f27 : Addr} {od27 an27 : Option Addr} {sl27 : Array (Option Value)} {oc27 kV27 dc27 pm27 cd27 ct27 : Value} (a27 : PySem.W.nsIn K mainGlobals "law" = some (some (.ref f27))) (l27 : K.lookup f27 = some ⟨oc27, od27, .func (PySem.W.fnOf "law" "law" (defArgs s_law) (defBody s_law) (defScope s_law) .none kV27 dc27 pm27 an27 cd27 ct27), sl27⟩) (c27 : PySem.W.codeIn K cd27 "law" = true) (k27 : PySem.W.keepIn K (.ref f27) = true)
    (z_abs : PySem.W.nsIn K mainGlobals "abs" = some none)
    (z_all : PySem.W.nsIn K mainGlobals "all" = some none)
    (z_any : PySem.W.nsIn K mainGlobals "any" = some none)
    (z_bool : PySem.W.nsIn K mainGlobals "bool" = some none)
    (z_enumerate : PySem.W.nsIn K mainGlobals "enumerate" = some none)
    (z_int : PySem.W.nsIn K mainGlobals "int" = some none)
    (z_isinstance : PySem.W.nsIn K mainGlobals "isinstance" = some none)
    (z_len : PySem.W.nsIn K mainGlobals "len" = some none)
    (z_list : PySem.W.nsIn K mainGlobals "list" = some none)
    (z_max : PySem.W.nsIn K mainGlobals "max" = some none)
    (z_range : PySem.W.nsIn K mainGlobals "range" = some none)
    (z_str : PySem.W.nsIn K mainGlobals "str" = some none)
    (z_sum : PySem.W.nsIn K mainGlobals "sum" = some none)
    (z_tuple : PySem.W.nsIn K mainGlobals "tuple" = some none)
    {t_MOST_KINDS : Tok} (y_MOST_KINDS : PySem.W.nsIn K mainGlobals "MOST_KINDS" = some (some (.int 3 t_MOST_KINDS)))
    {t_MOST_CONSTRUCTORS : Tok} (y_MOST_CONSTRUCTORS : PySem.W.nsIn K mainGlobals "MOST_CONSTRUCTORS" = some (some (.int 4 t_MOST_CONSTRUCTORS)))
    {t_MOST_PARTS : Tok} (y_MOST_PARTS : PySem.W.nsIn K mainGlobals "MOST_PARTS" = some (some (.int 2 t_MOST_PARTS)))
    {t_LETTERS : Tok} (y_LETTERS : PySem.W.nsIn K mainGlobals "LETTERS" = some (some (.str "abcdefghijklmnopqrstuvwxyz" t_LETTERS)))
    : ∃ fd : FuncData, (∀ (s : Shared) (v : Value), BindsTo s fd ⟨[v], []⟩ [("script", v)]) ∧ ∀ base : Heap, K.In base → base.Ns mainGlobals mg → FnOk l.prog w K mg base CX0 7 fa fd ["script"] (spOf K pLaw) := by
  have e := hfa.symm.trans (PySem.W.mg_of X G a27)
  cases e
  have T : Bl mg := ⟨PySem.W.mg_none_of X G z_abs, PySem.W.mg_none_of X G z_all, PySem.W.mg_none_of X G z_any, PySem.W.mg_none_of X G z_bool, PySem.W.mg_none_of X G z_enumerate, PySem.W.mg_none_of X G z_int, PySem.W.mg_none_of X G z_isinstance, PySem.W.mg_none_of X G z_len, PySem.W.mg_none_of X G z_list, PySem.W.mg_none_of X G z_max, PySem.W.mg_none_of X G z_range, PySem.W.mg_none_of X G z_str, PySem.W.mg_none_of X G z_sum, PySem.W.mg_none_of X G z_tuple, ⟨_, PySem.W.mg_of X G y_MOST_KINDS⟩, ⟨_, PySem.W.mg_of X G y_MOST_CONSTRUCTORS⟩, ⟨_, PySem.W.mg_of X G y_MOST_PARTS⟩, ⟨_, PySem.W.mg_of X G y_LETTERS⟩⟩
  have F0 := fun_mk (st := s_is_whole) l0 c0 k0
  have F1 := fun_mk (st := s_is_within) l1 c1 k1
  have F2 := fun_mk (st := s_is_name) l2 c2 k2
  have F3 := fun_mk (st := s_are_kinds) l3 c3 k3
  have F4 := fun_mk (st := s_is_constructor) l4 c4 k4
  have F5 := fun_mk (st := s_is_kind_row) l5 c5 k5
  have F6 := fun_mk (st := s_filled_kinds) l6 c6 k6
  have F7 := fun_mk (st := s_is_signature) l7 c7 k7
  have F8 := fun_mk (st := s_law_stream) l8 c8 k8
  have F9 := fun_mk (st := s_law_next) l9 c9 k9
  have F10 := fun_mk (st := s_law_pick) l10 c10 k10
  have F11 := fun_mk (st := s_law_order) l11 c11 k11
  have F12 := fun_mk (st := s_law_is_integer) l12 c12 k12
  have F13 := fun_mk (st := s_law_same) l13 c13 k13
  have F14 := fun_mk (st := s_law_word) l14 c14 k14
  have F15 := fun_mk (st := s_law_names) l15 c15 k15
  have F16 := fun_mk (st := s_law_any_signature) l16 c16 k16
  have F17 := fun_mk (st := s_law_rich_signature) l17 c17 k17
  have F18 := fun_mk (st := s_law_signature) l18 c18 k18
  have F19 := fun_mk (st := s_law_loose_signature) l19 c19 k19
  have F20 := fun_mk (st := s_law_all_have_values) l20 c20 k20
  have F21 := fun_mk (st := s_law_fresh) l21 c21 k21
  have F22 := fun_mk (st := s_law_with_kind) l22 c22 k22
  have F23 := fun_mk (st := s_law_put_in) l23 c23 k23
  have F24 := fun_mk (st := s_law_spoilt_kind) l24 c24 k24
  have F25 := fun_mk (st := s_law_spoilt_constructor) l25 c25 k25
  have F26 := fun_mk (st := s_law_spoilt) l26 c26 k26
  have F27 := fun_mk (st := s_law) l27 c27 k27
  refine ⟨PySem.W.fnOf "law" "law" (defArgs s_law) (defBody s_law) (defScope s_law) .none kV27 dc27 pm27 an27 cd27 ct27, fun s v => .of_eq rfl, fun base _ _ => ?_⟩
  let d_is_whole : Fd l.prog w K mg base "is_whole" 1 ["value", "low"] p_is_whole := ⟨f0, _, x_is_whole T F0, PySem.W.mg_of X G a0, k0, F0.binds (ps := ["value", "low"]) fun _ _ _ _ _ _ us hl => match us, hl with | [_, _], _ => rfl⟩
  let d_is_within : Fd l.prog w K mg base "is_within" 2 ["value", "low", "high"] p_is_within := ⟨f1, _, x_is_within T d_is_whole F1, PySem.W.mg_of X G a1, k1, F1.binds (ps := ["value", "low", "high"]) fun _ _ _ _ _ _ us hl => match us, hl with | [_, _, _], _ => rfl⟩
  let d_is_name : Fd l.prog w K mg base "is_name" 1 ["value"] p_is_name := ⟨f2, _, x_is_name T F2, PySem.W.mg_of X G a2, k2, F2.binds (ps := ["value"]) fun _ _ _ _ _ _ us hl => match us, hl with | [_], _ => rfl⟩
  let d_are_kinds : Fd l.prog w K mg base "are_kinds" 3 ["many", "value", "least", "most"] p_are_kinds := ⟨f3, _, x_are_kinds T d_is_within F3, PySem.W.mg_of X G a3, k3, F3.binds (ps := ["many", "value", "least", "most"]) fun _ _ _ _ _ _ us hl => match us, hl with | [_, _, _, _], _ => rfl⟩
  let d_is_constructor : Fd l.prog w K mg base "is_constructor" 4 ["many", "value"] p_is_constructor := ⟨f4, _, x_is_constructor T d_are_kinds d_is_name F4, PySem.W.mg_of X G a4, k4, F4.binds (ps := ["many", "value"]) fun _ _ _ _ _ _ us hl => match us, hl with | [_, _], _ => rfl⟩
  let d_is_kind_row : Fd l.prog w K mg base "is_kind_row" 5 ["many", "value"] p_is_kind_row := ⟨f5, _, x_is_kind_row T d_is_constructor F5, PySem.W.mg_of X G a5, k5, F5.binds (ps := ["many", "value"]) fun _ _ _ _ _ _ us hl => match us, hl with | [_, _], _ => rfl⟩
  let d_filled_kinds : Fd l.prog w K mg base "filled_kinds" 1 ["signature"] p_filled_kinds := ⟨f6, _, x_filled_kinds T F6, PySem.W.mg_of X G a6, k6, F6.binds (ps := ["signature"]) fun _ _ _ _ _ _ us hl => match us, hl with | [_], _ => rfl⟩
  let d_is_signature : Fd l.prog w K mg base "is_signature" 6 ["value"] p_is_signature := ⟨f7, _, x_is_signature T d_filled_kinds d_is_kind_row F7, PySem.W.mg_of X G a7, k7, F7.binds (ps := ["value"]) fun _ _ _ _ _ _ us hl => match us, hl with | [_], _ => rfl⟩
  let d_law_stream : Fd l.prog w K mg base "_law_stream" 1 ["script"] p_law_stream := ⟨f8, _, x_law_stream T F8, PySem.W.mg_of X G a8, k8, F8.binds (ps := ["script"]) fun _ _ _ _ _ _ us hl => match us, hl with | [_], _ => rfl⟩
  let d_law_next : Fd l.prog w K mg base "_law_next" 1 ["stream", "many"] p_law_next := ⟨f9, _, x_law_next T F9, PySem.W.mg_of X G a9, k9, F9.binds (ps := ["stream", "many"]) fun _ _ _ _ _ _ us hl => match us, hl with | [_, _], _ => rfl⟩
  let d_law_pick : Fd l.prog w K mg base "_law_pick" 2 ["stream", "rows"] p_law_pick := ⟨f10, _, x_law_pick T d_law_next F10, PySem.W.mg_of X G a10, k10, F10.binds (ps := ["stream", "rows"]) fun _ _ _ _ _ _ us hl => match us, hl with | [_, _], _ => rfl⟩
  let d_law_order : Fd l.prog w K mg base "_law_order" 2 ["stream", "many"] p_law_order := ⟨f11, _, x_law_order T d_law_next F11, PySem.W.mg_of X G a11, k11, F11.binds (ps := ["stream", "many"]) fun _ _ _ _ _ _ us hl => match us, hl with | [_, _], _ => rfl⟩
  let d_law_is_integer : Fd l.prog w K mg base "_law_is_integer" 1 ["actual"] p_law_is_integer := ⟨f12, _, x_law_is_integer T F12, PySem.W.mg_of X G a12, k12, F12.binds (ps := ["actual"]) fun _ _ _ _ _ _ us hl => match us, hl with | [_], _ => rfl⟩
  let d_law_same : Fd l.prog w K mg base "_law_same" 2 ["actual", "due"] p_law_same := ⟨f13, _, x_law_same T d_law_is_integer F13, PySem.W.mg_of X G a13, k13, F13.binds (ps := ["actual", "due"]) fun _ _ _ _ _ _ us hl => match us, hl with | [_, _], _ => rfl⟩
  let d_law_word : Fd l.prog w K mg base "_law_word" 2 ["stream", "least", "most"] p_law_word := ⟨f14, _, x_law_word T d_law_next F14, PySem.W.mg_of X G a14, k14, F14.binds (ps := ["stream", "least", "most"]) fun _ _ _ _ _ _ us hl => match us, hl with | [_, _, _], _ => rfl⟩
  let d_law_names : Fd l.prog w K mg base "_law_names" 3 ["stream", "many", "least"] p_law_names := ⟨f15, _, x_law_names T d_law_next d_law_word F15, PySem.W.mg_of X G a15, k15, F15.binds (ps := ["stream", "many", "least"]) fun _ _ _ _ _ _ us hl => match us, hl with | [_, _, _], _ => rfl⟩
  let d_law_any_signature : Fd l.prog w K mg base "_law_any_signature" 4 ["stream"] p_law_any_signature := ⟨f16, _, x_law_any_signature T d_law_names d_law_order d_law_next d_law_pick F16, PySem.W.mg_of X G a16, k16, F16.binds (ps := ["stream"]) fun _ _ _ _ _ _ us hl => match us, hl with | [_], _ => rfl⟩
  let d_law_rich_signature : Fd l.prog w K mg base "_law_rich_signature" 4 ["stream"] p_law_rich_signature := ⟨f17, _, x_law_rich_signature T d_law_order d_law_names d_law_next d_law_pick F17, PySem.W.mg_of X G a17, k17, F17.binds (ps := ["stream"]) fun _ _ _ _ _ _ us hl => match us, hl with | [_], _ => rfl⟩
  let d_law_signature : Fd l.prog w K mg base "_law_signature" 5 ["stream"] p_law_signature := ⟨f18, _, x_law_signature T d_law_any_signature d_law_rich_signature d_law_next F18, PySem.W.mg_of X G a18, k18, F18.binds (ps := ["stream"]) fun _ _ _ _ _ _ us hl => match us, hl with | [_], _ => rfl⟩
  let d_law_loose_signature : Fd l.prog w K mg base "_law_loose_signature" 4 ["stream"] p_law_loose_signature := ⟨f19, _, x_law_loose_signature T d_law_names d_law_next F19, PySem.W.mg_of X G a19, k19, F19.binds (ps := ["stream"]) fun _ _ _ _ _ _ us hl => match us, hl with | [_], _ => rfl⟩
  let d_law_all_have_values : Fd l.prog w K mg base "_law_all_have_values" 1 ["signature"] p_law_all_have_values := ⟨f20, _, x_law_all_have_values T F20, PySem.W.mg_of X G a20, k20, F20.binds (ps := ["signature"]) fun _ _ _ _ _ _ us hl => match us, hl with | [_], _ => rfl⟩
  let d_law_fresh : Fd l.prog w K mg base "_law_fresh" 1 ["signature"] p_law_fresh := ⟨f21, _, x_law_fresh T F21, PySem.W.mg_of X G a21, k21, F21.binds (ps := ["signature"]) fun _ _ _ _ _ _ us hl => match us, hl with | [_], _ => rfl⟩
  let d_law_with_kind : Fd l.prog w K mg base "_law_with_kind" 1 ["signature", "kind", "row"] p_law_with_kind := ⟨f22, _, x_law_with_kind T F22, PySem.W.mg_of X G a22, k22, F22.binds (ps := ["signature", "kind", "row"]) fun _ _ _ _ _ _ us hl => match us, hl with | [_, _, _], _ => rfl⟩
  let d_law_put_in : Fd l.prog w K mg base "_law_put_in" 2 ["stream", "rows", "row"] p_law_put_in := ⟨f23, _, x_law_put_in T d_law_next F23, PySem.W.mg_of X G a23, k23, F23.binds (ps := ["stream", "rows", "row"]) fun _ _ _ _ _ _ us hl => match us, hl with | [_, _, _], _ => rfl⟩
  let d_law_spoilt_kind : Fd l.prog w K mg base "_law_spoilt_kind" 3 ["stream", "signature"] p_law_spoilt_kind := ⟨f24, _, x_law_spoilt_kind T d_law_next d_law_fresh d_law_with_kind d_law_pick F24, PySem.W.mg_of X G a24, k24, F24.binds (ps := ["stream", "signature"]) fun _ _ _ _ _ _ us hl => match us, hl with | [_, _], _ => rfl⟩
  let d_law_spoilt_constructor : Fd l.prog w K mg base "_law_spoilt_constructor" 3 ["stream", "signature"] p_law_spoilt_constructor := ⟨f25, _, x_law_spoilt_constructor T d_law_next d_law_with_kind d_law_fresh d_law_put_in d_law_pick F25, PySem.W.mg_of X G a25, k25, F25.binds (ps := ["stream", "signature"]) fun _ _ _ _ _ _ us hl => match us, hl with | [_, _], _ => rfl⟩
  let d_law_spoilt : Fd l.prog w K mg base "_law_spoilt" 4 ["stream", "signature"] p_law_spoilt := ⟨f26, _, x_law_spoilt T d_law_next d_law_pick d_law_spoilt_kind d_law_spoilt_constructor F26, PySem.W.mg_of X G a26, k26, F26.binds (ps := ["stream", "signature"]) fun _ _ _ _ _ _ us hl => match us, hl with | [_, _], _ => rfl⟩
  exact x_law T d_law_stream d_law_signature d_is_signature d_law_same d_law_loose_signature d_law_all_have_values d_law_spoilt F27
end K01
open PySem PySem.W PyProof.Rows
set_option maxRecDepth 100000 in
set_option maxHeartbeats 0 in
theorem PySem.Challenge.cw_closestfit_k01_whole_signatures_holds : PySem.Challenge.rw_closestfit_k01_whole_signatures.Holds := by
  w_on; o_law; k_head; (case hw => w_witness2)
  k_fill
  refine L2.walk_ofK (l := PySem.Challenge.rw_closestfit_k01_whole_signatures) (n := 63) (k := 7) (x := "script") (CX := L2.CX0) (sp := fun K => L3.spOf K L3.pLaw) rfl (by decide) rfl ⟨rfl, by decide, by decide⟩ (fun w h Y => PySem.W.kIn_of Y) ?F (fun _ _ a ns hl _ hS => L3.pLaw_end hl hS) (fun _ _ _ _ h => h)
  case F =>
    intro w mg fa h KX G hmg
    refine' K01.all_mk KX G hmg ?a0 ?l0 ?c0 ?k0 ?a1 ?l1 ?c1 ?k1 ?a2 ?l2 ?c2 ?k2 ?a3 ?l3 ?c3 ?k3 ?a4 ?l4 ?c4 ?k4 ?a5 ?l5 ?c5 ?k5 ?a6 ?l6 ?c6 ?k6 ?a7 ?l7 ?c7 ?k7 ?a8 ?l8 ?c8 ?k8 ?a9 ?l9 ?c9 ?k9 ?a10 ?l10 ?c10 ?k10 ?a11 ?l11 ?c11 ?k11 ?a12 ?l12 ?c12 ?k12 ?a13 ?l13 ?c13 ?k13 ?a14 ?l14 ?c14 ?k14 ?a15 ?l15 ?c15 ?k15 ?a16 ?l16 ?c16 ?k16 ?a17 ?l17 ?c17 ?k17 ?a18 ?l18 ?c18 ?k18 ?a19 ?l19 ?c19 ?k19 ?a20 ?l20 ?c20 ?k20 ?a21 ?l21 ?c21 ?k21 ?a22 ?l22 ?c22 ?k22 ?a23 ?l23 ?c23 ?k23 ?a24 ?l24 ?c24 ?k24 ?a25 ?l25 ?c25 ?k25 ?a26 ?l26 ?c26 ?k26 ?a27 ?l27 ?c27 ?k27 ?z_abs ?z_all ?z_any ?z_bool ?z_enumerate ?z_int ?z_isinstance ?z_len ?z_list ?z_max ?z_range ?z_str ?z_sum ?z_tuple ?y_MOST_KINDS ?y_MOST_CONSTRUCTORS ?y_MOST_PARTS ?y_LETTERS
    (case a0 => k_is); (case l0 => k_is); (case c0 => k_is); (case k0 => k_is); (case a1 => k_is); (case l1 => k_is); (case c1 => k_is); (case k1 => k_is); (case a2 => k_is); (case l2 => k_is); (case c2 => k_is); (case k2 => k_is); (case a3 => k_is); (case l3 => k_is); (case c3 => k_is); (case k3 => k_is); (case a4 => k_is); (case l4 => k_is); (case c4 => k_is); (case k4 => k_is); (case a5 => k_is); (case l5 => k_is); (case c5 => k_is); (case k5 => k_is); (case a6 => k_is); (case l6 => k_is); (case c6 => k_is); (case k6 => k_is); (case a7 => k_is); (case l7 => k_is); (case c7 => k_is); (case k7 => k_is); (case a8 => k_is); (case l8 => k_is); (case c8 => k_is); (case k8 => k_is); (case a9 => k_is); (case l9 => k_is); (case c9 => k_is); (case k9 => k_is); (case a10 => k_is); (case l10 => k_is); (case c10 => k_is); (case k10 => k_is); (case a11 => k_is); (case l11 => k_is); (case c11 => k_is); (case k11 => k_is); (case a12 => k_is); (case l12 => k_is); (case c12 => k_is); (case k12 => k_is); (case a13 => k_is); (case l13 => k_is); (case c13 => k_is); (case k13 => k_is); (case a14 => k_is); (case l14 => k_is); (case c14 => k_is); (case k14 => k_is); (case a15 => k_is); (case l15 => k_is); (case c15 => k_is); (case k15 => k_is); (case a16 => k_is); (case l16 => k_is); (case c16 => k_is); (case k16 => k_is); (case a17 => k_is); (case l17 => k_is); (case c17 => k_is); (case k17 => k_is); (case a18 => k_is); (case l18 => k_is); (case c18 => k_is); (case k18 => k_is); (case a19 => k_is); (case l19 => k_is); (case c19 => k_is); (case k19 => k_is); (case a20 => k_is); (case l20 => k_is); (case c20 => k_is); (case k20 => k_is); (case a21 => k_is); (case l21 => k_is); (case c21 => k_is); (case k21 => k_is); (case a22 => k_is); (case l22 => k_is); (case c22 => k_is); (case k22 => k_is); (case a23 => k_is); (case l23 => k_is); (case c23 => k_is); (case k23 => k_is); (case a24 => k_is); (case l24 => k_is); (case c24 => k_is); (case k24 => k_is); (case a25 => k_is); (case l25 => k_is); (case c25 => k_is); (case k25 => k_is); (case a26 => k_is); (case l26 => k_is); (case c26 => k_is); (case k26 => k_is); (case a27 => k_is); (case l27 => k_is); (case c27 => k_is); (case k27 => k_is); (case z_abs => k_is); (case z_all => k_is); (case z_any => k_is); (case z_bool => k_is); (case z_enumerate => k_is); (case z_int => k_is); (case z_isinstance => k_is); (case z_len => k_is); (case z_list => k_is); (case z_max => k_is); (case z_range => k_is); (case z_str => k_is); (case z_sum => k_is); (case z_tuple => k_is); (case y_MOST_KINDS => k_is); (case y_MOST_CONSTRUCTORS => k_is); (case y_MOST_PARTS => k_is); (case y_LETTERS => k_is)
