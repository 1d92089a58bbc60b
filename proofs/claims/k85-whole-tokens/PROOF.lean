import PyProof.Rows.All
import HandS.ForMost
import HandS.IsInst
import HandS.Walk
import HandS.TupAny
import HandS.TupMul
import HandS.Conv
import HandS.Style
import HandS.Flow
import HandS.TryOnly
import KE.DataFind
import KE.DataEq
import KE.DataIsa
import KE.GoesMore
import KE.GoesEnum
import HandS.Zip
import HandS.ForExc
import HandS.ExcInit
import HandS.ExcField
import HandS.TryMany
import HandS.Text
import PyProof.StrBlock2
import PySem.Challenge.RW_closestfit_k85_whole_tokens_of_texts
set_option Elab.async false
set_option linter.all false
set_option maxRecDepth 100000
set_option maxHeartbeats 4000000
set_option synthInstance.maxSize 100000
set_option synthInstance.maxHeartbeats 400000
/-! My own layer over the hand layer: the heap taken out. Values are data (PyData); a slot holds a datum or a list that the def owns; every construct is a predicate transformer over such slots. -/
namespace L3
open PySem PySem.Spec PyProof.Rows L2

abbrev D := PyData
abbrev St := L2.St

/-! ### data on the part of the heap that never changes -/
mutual
inductive Rp (K : PySem.W.Frag) (I : Hp) : V → PyData → Prop
  | non : Rp K I .non .none
  | bl (b : Bool) : Rp K I (.bl b) (.bool b)
  | int (i : Int) : Rp K I (.int i) (.int i)
  | str (x : Str) : Rp K I (.str x) (.str x)
  | lst {a : Addr} {xs : List V} {ds : List PyData} : I a = some (.lst xs) → RpA K I xs ds → Rp K I (.ref a) (.list ds)
  | tup {a : Addr} {xs : List V} {ds : List PyData} : SqT K I a xs → RpA K I xs ds → Rp K I (.ref a) (.tuple ds)
  | dct {a : Addr} : I a = some (.dK []) → Rp K I (.ref a) (.dict [])
  | scr {a : Addr} {xs : List V} {ds : List PyData} : SqL K I a xs → RpA K I xs ds → Rp K I (.ref a) (.dict [(.none, .list ds)])
  | exc (a : Addr) : Rp K I (.ref a) (.dict [(.none, .int (a : Nat))])
inductive RpA (K : PySem.W.Frag) (I : Hp) : List V → List PyData → Prop
  | nil : RpA K I [] []
  | cons {v : V} {vs : List V} {d : PyData} {ds : List PyData} : Rp K I v d → RpA K I vs ds → RpA K I (v :: vs) (d :: ds)
end
theorem same_tup {K : PySem.W.Frag} {H H' : Hp} {a : Addr} {xs : List V} (e : Same H H') (h : SqT K H a xs) : SqT K H' a xs := by
  rcases h with (h | ⟨o, h⟩) | h
  · exact .inl (.inl (e _ _ h))
  · exact .inl (.inr ⟨o, e _ _ h⟩)
  · exact .inr h
section
variable {K : PySem.W.Frag} {I I' : Hp}
mutual
theorem Rp.mono (s : Same I I') : ∀ {v : V} {d : PyData}, Rp K I v d → Rp K I' v d
  | _, _, .non => .non
  | _, _, .bl b => .bl b
  | _, _, .int i => .int i
  | _, _, .str x => .str x
  | _, _, .lst e r => .lst (s _ _ e) (RpA.mono s r)
  | _, _, .tup e r => .tup (same_tup s e) (RpA.mono s r)
  | _, _, .dct e => .dct (s _ _ e)
  | _, _, .scr e r => .scr (s.seq e) (RpA.mono s r)
  | _, _, .exc a => .exc a
theorem RpA.mono (s : Same I I') : ∀ {vs : List V} {ds : List PyData}, RpA K I vs ds → RpA K I' vs ds
  | _, _, .nil => .nil
  | _, _, .cons h t => .cons (Rp.mono s h) (RpA.mono s t)
end
theorem RpA.length : ∀ {vs : List V} {ds : List PyData}, RpA K I vs ds → vs.length = ds.length
  | _, _, .nil => rfl
  | _, _, .cons _ t => by simp [RpA.length t]
theorem RpA.append : ∀ {vs ws : List V} {ds es : List PyData}, RpA K I vs ds → RpA K I ws es → RpA K I (vs ++ ws) (ds ++ es)
  | _, _, _, _, .nil, h => h
  | _, _, _, _, .cons r t, h => .cons r (RpA.append t h)
theorem RpA.get : ∀ {vs : List V} {ds : List PyData} {i : Nat} {d : PyData}, RpA K I vs ds → ds[i]? = some d → ∃ v, vs[i]? = some v ∧ Rp K I v d
  | _, _, _, _, .nil, e => by simp at e
  | _, _, 0, _, .cons r _, e => by simp at e; subst e; exact ⟨_, rfl, r⟩
  | _, _, i + 1, _, .cons _ t, e => by
    obtain ⟨v, h1, h2⟩ := RpA.get (i := i) t (by simpa using e)
    exact ⟨v, by simpa using h1, h2⟩
theorem RpA.get' : ∀ {vs : List V} {ds : List PyData} {i : Nat} {v : V}, RpA K I vs ds → vs[i]? = some v → ∃ d, ds[i]? = some d ∧ Rp K I v d
  | _, _, _, _, .nil, e => by simp at e
  | _, _, 0, _, .cons r _, e => by simp at e; subst e; exact ⟨_, rfl, r⟩
  | _, _, i + 1, _, .cons _ t, e => by
    obtain ⟨v, h1, h2⟩ := RpA.get' (i := i) t (by simpa using e)
    exact ⟨v, by simpa using h1, h2⟩
theorem RpA.drop : ∀ {vs : List V} {ds : List PyData} (n : Nat), RpA K I vs ds → RpA K I (vs.drop n) (ds.drop n)
  | _, _, 0, r => r
  | _, _, _ + 1, .nil => .nil
  | _, _, n + 1, .cons _ t => RpA.drop n t
theorem RpA.take : ∀ {vs : List V} {ds : List PyData} (n : Nat), RpA K I vs ds → RpA K I (vs.take n) (ds.take n)
  | _, _, 0, _ => .nil
  | _, _, _ + 1, .nil => .nil
  | _, _, n + 1, .cons r t => .cons r (RpA.take n t)
theorem RpA.set : ∀ {vs : List V} {ds : List PyData} {v : V} {d : PyData} (i : Nat), Rp K I v d → RpA K I vs ds → RpA K I (vs.set i v) (ds.set i d)
  | _, _, _, _, _, _, .nil => .nil
  | _, _, _, _, 0, q, .cons _ t => .cons q t
  | _, _, _, _, i + 1, q, .cons r t => .cons r (RpA.set i q t)
theorem RpA.dropLast : ∀ {vs : List V} {ds : List PyData}, RpA K I vs ds → RpA K I vs.dropLast ds.dropLast := fun {vs ds} h => by
  rw [List.dropLast_eq_take, List.dropLast_eq_take, h.length]
  exact h.take _
theorem RpA.eraseIdx : ∀ {vs : List V} {ds : List PyData} (i : Nat), RpA K I vs ds → RpA K I (vs.eraseIdx i) (ds.eraseIdx i)
  | _, _, _, .nil => .nil
  | _, _, 0, .cons _ t => t
  | _, _, i + 1, .cons r t => .cons r (RpA.eraseIdx i t)
theorem RpA.rep {vs : List V} {ds : List PyData} (h : RpA K I vs ds) : ∀ k : Nat, RpA K I (List.replicate k vs).flatten (List.replicate k ds).flatten
  | 0 => .nil
  | k + 1 => by
    rw [List.replicate_succ, List.replicate_succ, List.flatten_cons, List.flatten_cons]
    exact h.append (RpA.rep h k)
theorem RpA.ints : ∀ {ns : List Int} {vs : List V}, RpA K I vs (ns.map PyData.int) → vs = ns.map V.int
  | [], _, h => by cases h; rfl
  | n :: ns, _, h => by
    cases h with
    | cons r t => cases r; rw [RpA.ints t]; rfl
theorem RpA.bls : ∀ {ns : List Bool} {vs : List V}, RpA K I vs (ns.map PyData.bool) → vs = ns.map V.bl
  | [], _, h => by cases h; rfl
  | n :: ns, _, h => by
    cases h with
    | cons r t => cases r; rw [RpA.bls t]; rfl
theorem rpA_ints : ∀ (ns : List Int), RpA K I (ns.map V.int) (ns.map PyData.int)
  | [] => .nil
  | n :: ns => .cons (.int n) (rpA_ints ns)
end

/-! ### reading a datum in the model's words -/
section
variable {X : Cx} {pins : List (Addr × Obj)} {σ : St} {H : Hp} {s : Shared}
mutual
theorem Rp.reads (I : Inv X pins σ H s) : ∀ {v : V} {d : PyData} (u : Value), Rp X.K H v d → d.plain = true → RelV v u → ∃ as, Reads s.heap u d as
  | _, _, _, .non, _, r => by cases r; exact ⟨_, Reads.none⟩
  | _, _, _, .bl b, _, r => by cases r; exact ⟨_, Reads.bool b⟩
  | _, _, _, .int i, _, r => by obtain ⟨t, rfl⟩ := r; exact ⟨_, Reads.int i t⟩
  | _, _, _, .str x, _, r => by obtain ⟨t, rfl⟩ := r; exact ⟨_, Reads.str x t⟩
  | _, _, _, .lst e ra, pl, r => by
    cases r
    obtain ⟨its, rv, ⟨o, n, ho, hc, _, hd⟩, _⟩ := I.list (SqL.of e)
    obtain ⟨as, hr⟩ := RpA.reads I its ra (by simpa [PyData.plain] using pl) rv
    exact ⟨_, Reads.list ho hc hd hr⟩
  | _, _, _, .tup e ra, pl, r => by
    cases r
    obtain ⟨its, rv, ⟨o, ho, hc, n, hd⟩, _⟩ := I.tuple e
    obtain ⟨as, hr⟩ := RpA.reads I its ra (by simpa [PyData.plain] using pl) rv
    exact ⟨_, Reads.tuple ho hc hd hr⟩
  | _, _, _, .dct e, pl, _ => by simp [PyData.plain] at pl
  | _, _, _, .scr e ra, pl, _ => by simp [PyData.plain] at pl
theorem RpA.reads (I : Inv X pins σ H s) : ∀ {vs : List V} {ds : List PyData} (us : List Value), RpA X.K H vs ds → PyData.plainAll ds = true → Vals vs us → ∃ as, ReadsAll s.heap us ds as
  | _, _, _, .nil, _, r => by cases r; exact ⟨_, ReadsAll.nil⟩
  | _, _, _, .cons h t, pl, r => by
    simp only [PyData.plainAll, Bool.and_eq_true] at pl
    cases r with
    | cons r1 r2 =>
      obtain ⟨as, q1⟩ := Rp.reads I _ h pl.1 r1
      obtain ⟨bs, q2⟩ := RpA.reads I _ t pl.2 r2
      exact ⟨_, ReadsAll.cons q1 q2⟩
end
end

/-! ### slots -/
/-- a slot holds a datum, or a list of its own (some k: the k-th list that the caller handed in) -/
inductive S where
  | val (d : D)
  | own (b : Option Nat) (l : List D)
abbrev SS := List (Option S)
/-- an expression's value: a datum, or the own list of a slot -/
inductive EV where
  | d (x : D)
  | o (i : Nat)
/-- what a def hands back: a datum, or a new list that nobody else has -/
inductive RV where
  | d (x : D)
  | n (l : List D)
@[reducible] def RV.toD : RV → D
  | .d x => x
  | .n l => .list l
structure Fx where
  I0 : Hp
  H0 : Hp
  W : List Addr
def Tag (F : Fx) (b : Option Nat) (a : Addr) : Prop := match b with
  | some k => F.W[k]? = some a
  | none => F.H0 a = none
def IsOwn (z : SS) (σ : St) (a : Addr) : Prop := ∃ (i : Nat) (b : Option Nat) (l : List D), z[i]? = some (some (S.own b l)) ∧ σ[i]? = some (some (.ref a))
structure Ok (K : PySem.W.Frag) (F : Fx) (z : SS) (σ : St) (I H : Hp) : Prop where
  len : z.length = σ.length
  val : ∀ (i : Nat) (d : D), z[i]? = some (some (.val d)) → ∃ v, σ[i]? = some (some v) ∧ Rp K I v d
  own : ∀ (i : Nat) (b : Option Nat) (l : List D), z[i]? = some (some (.own b l)) → ∃ (a : Addr) (vs : List V), σ[i]? = some (some (.ref a)) ∧ H a = some (.lst vs) ∧ I a = none ∧ RpA K I vs l ∧ Tag F b a
  dis : ∀ (i j : Nat) (b b' : Option Nat) (l l' : List D) (a : Addr), z[i]? = some (some (.own b l)) → z[j]? = some (some (.own b' l')) → σ[i]? = some (some (.ref a)) → σ[j]? = some (some (.ref a)) → i = j
  sub : Same I H
  base : Same F.I0 I
  new : ∀ a o, I a = some o → F.I0 a = some o ∨ F.H0 a = none
  keep : ∀ a o, F.H0 a = some o → a ∉ F.W → H a = some o
  wf : ∀ a ∈ F.W, I a = none ∧ F.H0 a ≠ none ∧ ∃ vs, H a = some (.lst vs)
structure Step (z : SS) (σ : St) (I H : Hp) (z' : SS) (I' H' : Hp) : Prop where
  imm : Same I I'
  new : ∀ a o, I' a = some o → I a = some o ∨ H a = none ∨ IsOwn z σ a
  keep : ∀ a o, H a = some o → ¬ IsOwn z σ a → H' a = some o
  osub : ∀ (i : Nat) (b : Option Nat) (l : List D), z'[i]? = some (some (.own b l)) → ∃ l' : List D, z[i]? = some (some (.own b l'))
  there : ∀ a, H' a = none → H a = none
section
variable {K : PySem.W.Frag} {F : Fx} {z z' z1 : SS} {σ : St} {I I' I1 H H' H1 : Hp}
theorem Step.refl : Step z σ I H z I H := ⟨fun _ _ h => h, fun _ _ h => .inl h, fun _ _ h _ => h, fun _ _ l h => ⟨l, h⟩, fun _ h => h⟩
theorem Step.own (s : Step z σ I H z' I' H') {a : Addr} (h : IsOwn z' σ a) : IsOwn z σ a := by
  obtain ⟨i, b, l, e1, e2⟩ := h
  obtain ⟨l', e⟩ := s.osub i b l e1
  exact ⟨i, b, l', e, e2⟩
theorem Step.trans (s : Step z σ I H z1 I1 H1) (t : Step z1 σ I1 H1 z' I' H') : Step z σ I H z' I' H' where
  imm := s.imm.trans t.imm
  new := fun a o h => by
    rcases t.new a o h with h | h | h
    · exact s.new a o h
    · by_cases ho : IsOwn z σ a
      · exact .inr (.inr ho)
      · refine .inr (.inl ?_)
        cases q : H a with
        | none => rfl
        | some u => rw [s.keep a u q ho] at h; cases h
    · exact .inr (.inr (s.own h))
  keep := fun a o h hn => t.keep a o (s.keep a o h hn) fun q => hn (s.own q)
  osub := fun i b l h => by
    obtain ⟨l1, h1⟩ := t.osub i b l h
    exact s.osub i b l1 h1
  there := fun a h => s.there a (t.there a h)
theorem Ok.h0 (ok : Ok K F z σ I H) {p : Addr} (hp : H p = none) : F.H0 p = none ∧ p ∉ F.W := by
  have hw : p ∉ F.W := fun hw => by
    obtain ⟨_, _, vs, e⟩ := ok.wf p hw
    rw [hp] at e; cases e
  refine ⟨?_, hw⟩
  cases q : F.H0 p with
  | none => rfl
  | some o => rw [ok.keep p o q hw] at hp; cases hp
theorem Ok.i0 (ok : Ok K F z σ I H) {p : Addr} (hp : H p = none) : I p = none := by
  cases q : I p with
  | none => rfl
  | some o => rw [ok.sub p o q] at hp; cases hp
theorem Ok.nown (ok : Ok K F z σ I H) {p : Addr} (hp : H p = none) : ¬ IsOwn z σ p := fun ⟨i, b, l, e1, e2⟩ => by
  obtain ⟨a, vs, f1, f2, _⟩ := ok.own i b l e1
  rw [e2] at f1; cases f1
  rw [hp] at f2; cases f2
theorem same_upd {H : Hp} {p : Addr} {o : HO} (h : H p = none) : Same H (upd H p o) := fun b x e => by
  rw [upd_ne (ne_of_none e h)]
  exact e
/-- a new thing that never changes -/
theorem Ok.alloc (ok : Ok K F z σ I H) {p : Addr} (o : HO) (hp : H p = none) : Ok K F z σ (upd I p o) (upd H p o) ∧ Step z σ I H z (upd I p o) (upd H p o) := by
  have ip := ok.i0 hp
  have si := same_upd (o := o) ip
  have sh := same_upd (o := o) hp
  refine ⟨⟨ok.len, fun i d h => ?_, fun i b l h => ?_, ok.dis, fun a u h => ?_, ok.base.trans si, fun a u h => ?_, fun a u h hw => sh _ _ (ok.keep a u h hw), fun a hw => ?_⟩, si, fun a u h => ?_, fun a u h _ => sh _ _ h, fun _ _ l h => ⟨l, h⟩, fun a h => sh.free h⟩
  · obtain ⟨v, e, r⟩ := ok.val i d h
    exact ⟨v, e, r.mono si⟩
  · obtain ⟨a, vs, e1, e2, e3, r, t⟩ := ok.own i b l h
    exact ⟨a, vs, e1, sh _ _ e2, by rw [upd_ne (ne_of_none e2 hp)]; exact e3, r.mono si, t⟩
  · by_cases e : a = p
    · subst e; rw [upd_same] at h ⊢; exact h
    · rw [upd_ne e] at h ⊢; exact ok.sub a u h
  · by_cases e : a = p
    · subst e; exact .inr (ok.h0 hp).1
    · rw [upd_ne e] at h; exact ok.new a u h
  · obtain ⟨e1, e0, vs, e2⟩ := ok.wf a hw
    exact ⟨by rw [upd_ne (ne_of_none e2 hp)]; exact e1, e0, vs, sh _ _ e2⟩
  · by_cases e : a = p
    · subst e; exact .inr (.inl hp)
    · rw [upd_ne e] at h; exact .inl h
/-- a new list, not yet anyone's -/
theorem Ok.fresh (ok : Ok K F z σ I H) {p : Addr} (o : HO) (hp : H p = none) : Ok K F z σ I (upd H p o) ∧ Step z σ I H z I (upd H p o) := by
  have sh := same_upd (o := o) hp
  refine ⟨⟨ok.len, ok.val, fun i b l h => ?_, ok.dis, ok.sub.trans sh, ok.base, ok.new, fun a u h hw => sh _ _ (ok.keep a u h hw), fun a hw => ?_⟩, fun _ _ h => h, fun a u h => .inl h, fun a u h _ => sh _ _ h, fun _ _ l h => ⟨l, h⟩, fun a h => sh.free h⟩
  · obtain ⟨a, vs, e1, e2, e3, r, t⟩ := ok.own i b l h
    exact ⟨a, vs, e1, sh _ _ e2, e3, r, t⟩
  · obtain ⟨e1, e0, vs, e2⟩ := ok.wf a hw
    exact ⟨e1, e0, vs, sh _ _ e2⟩
/-- a list that nobody has becomes a datum -/
theorem Ok.freezeAt (ok : Ok K F z σ I H) {p : Addr} {vs : List V} (hp : H p = some (.lst vs)) (ip : I p = none) (h0 : F.H0 p = none) (hn : ¬ IsOwn z σ p) : Ok K F z σ (upd I p (.lst vs)) H := by
  have si := same_upd (o := HO.lst vs) ip
  refine ⟨ok.len, fun i d h => ?_, fun i b l h => ?_, ok.dis, fun a u h => ?_, ok.base.trans si, fun a u h => ?_, ok.keep, fun a hw => ?_⟩
  · obtain ⟨v, e, r⟩ := ok.val i d h
    exact ⟨v, e, r.mono si⟩
  · obtain ⟨a, ws, e1, e2, e3, r, t⟩ := ok.own i b l h
    have ne : a ≠ p := fun e => hn ⟨i, b, l, h, by rw [e1, e]⟩
    exact ⟨a, ws, e1, e2, by rw [upd_ne ne]; exact e3, r.mono si, t⟩
  · by_cases e : a = p
    · subst e; rw [upd_same] at h; rw [hp]; exact h
    · rw [upd_ne e] at h; exact ok.sub a u h
  · by_cases e : a = p
    · subst e; exact .inr h0
    · rw [upd_ne e] at h; exact ok.new a u h
  · obtain ⟨e1, e0, ws, e2⟩ := ok.wf a hw
    have ne : a ≠ p := fun e => e0 (by rw [e]; exact h0)
    exact ⟨by rw [upd_ne ne]; exact e1, e0, ws, e2⟩
end
end L3
namespace L3
open PySem PySem.Spec PyProof.Rows L2

/-! ### judgements -/
def EvOk (K : PySem.W.Frag) (I : Hp) (σ : St) (e : EV) (v : V) : Prop := match e with
  | .d x => Rp K I v x
  | .o i => σ[i]? = some (some v)
theorem EvOk.mono {K : PySem.W.Frag} {I I' : Hp} {σ : St} {e : EV} {v : V} (s : Same I I') (h : EvOk K I σ e v) : EvOk K I' σ e v := by
  cases e with
  | d x => exact Rp.mono s h
  | o i => exact h
abbrev WE := SS → (EV → SS → Prop) → Prop
abbrev WA := SS → (List EV → SS → Prop) → Prop
abbrev WT := SS → (Bool → SS → Prop) → Prop
def Post (K : PySem.W.Frag) (F : Fx) (z : SS) (σ : St) (I H : Hp) (Q : VK) : EV → SS → Prop := fun e z' => ∀ v I' H', Ok K F z' σ I' H' → Step z σ I H z' I' H' → EvOk K I' σ e v → Q v H'
def PostA (K : PySem.W.Frag) (F : Fx) (z : SS) (σ : St) (I H : Hp) (Q : List V → Hp → Prop) : List EV → SS → Prop := fun es z' => ∀ vs I' H', Ok K F z' σ I' H' → Step z σ I H z' I' H' → Paired (EvOk K I' σ) es vs → Q vs H'
def PostT (K : PySem.W.Frag) (F : Fx) (z : SS) (σ : St) (I H : Hp) (Q : Bool → Hp → Prop) : Bool → SS → Prop := fun b z' => ∀ I' H', Ok K F z' σ I' H' → Step z σ I H z' I' H' → Q b H'
def liftE (K : PySem.W.Frag) (F : Fx) (t : WE) : TE := fun σ H Q => ∃ z I, Ok K F z σ I H ∧ t z (Post K F z σ I H Q)
def liftA (K : PySem.W.Frag) (F : Fx) (t : WA) : TA := fun σ H Q => ∃ z I, Ok K F z σ I H ∧ t z (PostA K F z σ I H Q)
def liftT (K : PySem.W.Frag) (F : Fx) (t : WT) : TT := fun σ H Q => ∃ z I, Ok K F z σ I H ∧ t z (PostT K F z σ I H Q)
def Mono {α : Type} (t : SS → (α → SS → Prop) → Prop) : Prop := ∀ z R R', (∀ e z', R e z' → R' e z') → t z R → t z R'
structure XE (X : Cx) (F : Fx) (e : Expr) (t : WE) : Prop where
  mono : Mono t
  run : PE X e (liftE X.K F t)
structure XA (X : Cx) (F : Fx) (es : List Expr) (t : WA) : Prop where
  mono : Mono t
  run : PA X es (liftA X.K F t)
structure XT (X : Cx) (F : Fx) (e : Expr) (t : WT) : Prop where
  mono : Mono t
  run : PT X e (liftT X.K F t)
structure XW (X : Cx) (F : Fx) (e : Expr) (t : WT) : Prop where
  mono : Mono t
  run : PW X e (liftT X.K F t)
theorem pe_imp {X : Cx} {e : Expr} {t t' : TE} (h : PE X e t) (i : ∀ σ H Q, t' σ H Q → t σ H Q) : PE X e t' := ⟨fun pins s σ H Q I q => h.run pins s σ H Q I (i σ H Q q)⟩
theorem pa_imp {X : Cx} {e : List Expr} {t t' : TA} (h : PA X e t) (i : ∀ σ H Q, t' σ H Q → t σ H Q) : PA X e t' := ⟨fun pos pins s σ H Q I q => h.run pos pins s σ H Q I (i σ H Q q)⟩
theorem pt_imp {X : Cx} {e : Expr} {t t' : TT} (h : PT X e t) (i : ∀ σ H Q, t' σ H Q → t σ H Q) : PT X e t' := ⟨fun pins s σ H Q I q => h.run pins s σ H Q I (i σ H Q q)⟩
theorem pw_imp {X : Cx} {e : Expr} {t t' : TT} (h : PW X e t) (i : ∀ σ H Q, t' σ H Q → t σ H Q) : PW X e t' := ⟨fun wh pins s σ H Q I q => h.run wh pins s σ H Q I (i σ H Q q)⟩
theorem Post.step {K : PySem.W.Frag} {F : Fx} {z z1 : SS} {σ : St} {I I1 H H1 : Hp} {Q : VK} {e : EV} {z' : SS} (s : Step z σ I H z1 I1 H1) (h : Post K F z σ I H Q e z') : Post K F z1 σ I1 H1 Q e z' := fun v I' H' ok st ev => h v I' H' ok (s.trans st) ev
theorem PostA.step {K : PySem.W.Frag} {F : Fx} {z z1 : SS} {σ : St} {I I1 H H1 : Hp} {Q : List V → Hp → Prop} {e : List EV} {z' : SS} (s : Step z σ I H z1 I1 H1) (h : PostA K F z σ I H Q e z') : PostA K F z1 σ I1 H1 Q e z' := fun v I' H' ok st ev => h v I' H' ok (s.trans st) ev
theorem PostT.step {K : PySem.W.Frag} {F : Fx} {z z1 : SS} {σ : St} {I I1 H H1 : Hp} {Q : Bool → Hp → Prop} {e : Bool} {z' : SS} (s : Step z σ I H z1 I1 H1) (h : PostT K F z σ I H Q e z') : PostT K F z1 σ I1 H1 Q e z' := fun I' H' ok st => h I' H' ok (s.trans st)
section
variable {X : Cx} {F : Fx} {z : SS} {σ : St} {I H : Hp} {e : Expr}
/-- use an expression's rule in the middle -/
theorem XE.at {t : WE} (h : XE X F e t) {R : EV → SS → Prop} {Q : VK} (ok : Ok X.K F z σ I H) (w : t z R) (k : ∀ ev z' v I' H', R ev z' → Ok X.K F z' σ I' H' → Step z σ I H z' I' H' → EvOk X.K I' σ ev v → Q v H') : liftE X.K F t σ H Q :=
  ⟨z, I, ok, h.mono _ _ _ (fun ev z' r v I' H' o s e => k ev z' v I' H' r o s e) w⟩
theorem XA.at {es : List Expr} {t : WA} (h : XA X F es t) {R : List EV → SS → Prop} {Q : List V → Hp → Prop} (ok : Ok X.K F z σ I H) (w : t z R) (k : ∀ ev z' v I' H', R ev z' → Ok X.K F z' σ I' H' → Step z σ I H z' I' H' → Paired (EvOk X.K I' σ) ev v → Q v H') : liftA X.K F t σ H Q :=
  ⟨z, I, ok, h.mono _ _ _ (fun ev z' r v I' H' o s e => k ev z' v I' H' r o s e) w⟩
theorem XT.at {t : WT} (h : XT X F e t) {R : Bool → SS → Prop} {Q : Bool → Hp → Prop} (ok : Ok X.K F z σ I H) (w : t z R) (k : ∀ b z' I' H', R b z' → Ok X.K F z' σ I' H' → Step z σ I H z' I' H' → Q b H') : liftT X.K F t σ H Q :=
  ⟨z, I, ok, h.mono _ _ _ (fun b z' r I' H' o s => k b z' I' H' r o s) w⟩
theorem XW.at {t : WT} (h : XW X F e t) {R : Bool → SS → Prop} {Q : Bool → Hp → Prop} (ok : Ok X.K F z σ I H) (w : t z R) (k : ∀ b z' I' H', R b z' → Ok X.K F z' σ I' H' → Step z σ I H z' I' H' → Q b H') : liftT X.K F t σ H Q :=
  ⟨z, I, ok, h.mono _ _ _ (fun b z' r I' H' o s => k b z' I' H' r o s) w⟩
end

/-! ### what an expression's value reads as -/
def lstOf (z : SS) : EV → Option (List D)
  | .d (.list l) => some l
  | .d _ => none
  | .o i => match z[i]? with
    | some (some (.own _ l)) => some l
    | _ => none
def evD (z : SS) : EV → Option D
  | .d x => some x
  | .o i => match z[i]? with
    | some (some (.own _ l)) => some (.list l)
    | _ => none
/-- a list's or tuple's items -/
def seqOf (z : SS) (e : EV) : Option (List D) := match evD z e with
  | some (.list l) => some l
  | some (.tuple l) => some l
  | _ => none
section
variable {K : PySem.W.Frag} {F : Fx} {z : SS} {σ : St} {I H : Hp}
theorem Ok.ev (ok : Ok K F z σ I H) {e : EV} {v : V} {x : D} (h : EvOk K I σ e v) (hx : evD z e = some x) : Rp K H v x := by
  cases e with
  | d y => cases hx; exact Rp.mono ok.sub h
  | o i =>
    unfold evD at hx
    simp only at hx
    split at hx
    · rename_i b l e1
      cases hx
      obtain ⟨a, vs, e2, e3, e4, r, t⟩ := ok.own i b l e1
      rw [show σ[i]? = some (some v) from h] at e2
      cases e2
      exact .lst e3 (r.mono ok.sub)
    · cases hx
theorem Ok.lst (ok : Ok K F z σ I H) {e : EV} {v : V} {l : List D} (h : EvOk K I σ e v) (hx : lstOf z e = some l) : ∃ a vs, v = .ref a ∧ H a = some (.lst vs) ∧ RpA K I vs l := by
  cases e with
  | d y =>
    cases y <;> simp [lstOf] at hx
    subst hx
    cases h with
    | lst e r => exact ⟨_, _, rfl, ok.sub _ _ e, r⟩
  | o i =>
    unfold lstOf at hx
    simp only at hx
    split at hx
    · rename_i b l e1
      cases hx
      obtain ⟨a, vs, e2, e3, e4, r, t⟩ := ok.own i b _ e1
      rw [show σ[i]? = some (some v) from h] at e2
      cases e2
      exact ⟨_, _, rfl, e3, r⟩
    · cases hx
theorem Ok.seq (ok : Ok K F z σ I H) {e : EV} {v : V} {l : List D} (h : EvOk K I σ e v) (hx : seqOf z e = some l) : ∃ a vs, v = .ref a ∧ (SqL K H a vs ∨ SqT K H a vs) ∧ RpA K I vs l := by
  cases e with
  | d y =>
    cases y <;> simp [seqOf, evD] at hx
    · subst hx
      cases h with
      | lst e r => exact ⟨_, _, rfl, .inl (SqL.of (ok.sub _ _ e)), r⟩
    · subst hx
      cases h with
      | tup e r => exact ⟨_, _, rfl, .inr (same_tup ok.sub e), r⟩
  | o i =>
    have hx' : lstOf z (.o i) = some l := by
      unfold seqOf evD at hx
      unfold lstOf
      simp only at hx ⊢
      split at hx
      · rename_i h2
        split at h2
        · cases h2; cases hx; rfl
        · cases h2
      · rename_i h2
        split at h2
        · cases h2
        · cases h2
      · cases hx
    obtain ⟨a, vs, e1, e2, r⟩ := ok.lst h hx'
    exact ⟨a, vs, e1, .inl (SqL.of e2), r⟩
end

/-! ### names, constants -/
def wVar (i : Nat) : WE := fun z R => match z[i]? with
  | some (some (.val d)) => R (.d d) z
  | some (some (.own _ _)) => R (.o i) z
  | _ => False
def wC (d : D) : WE := fun z R => R (.d d) z
section
variable {X : Cx} {F : Fx} {pos : Pos}
theorem xe_v (i : Nat) {x : Str} (hN : X.N[i]? = some x := by rfl) (hv : Vis X.env.scope x := by first | exact Or.inl rfl | exact Or.inr (Or.inl rfl) | exact Or.inr (Or.inr rfl)) (hd : (x == ("__debug__" : Str)) = false := by decide)
    (hcd : (x == ("__classdict__" : Str)) = false := by decide) : XE X F (.Name x pos) (wVar i) where
  mono := fun z R R' h w => by
    unfold wVar at w ⊢
    split at w
    · exact h _ _ w
    · exact h _ _ w
    · exact w
  run := pe_imp (pv i hN hv hd hcd) fun σ H Q ⟨z, I, ok, w⟩ => by
    unfold wVar at w
    split at w
    · rename_i d e
      obtain ⟨v, e2, r⟩ := ok.val i d e
      exact ⟨v, e2, w v I H ok .refl r⟩
    · rename_i b l e
      obtain ⟨a, vs, e2, _⟩ := ok.own i b l e
      exact ⟨.ref a, e2, w _ I H ok .refl e2⟩
    · exact w.elim
theorem xe_c {e : Expr} {v : V} {d : D} (h : PE X e (tC v)) (r : ∀ I, Rp X.K I v d) : XE X F e (wC d) where
  mono := fun z R R' h w => h _ _ w
  run := pe_imp h fun σ H Q ⟨z, I, ok, w⟩ => w v I H ok .refl (r I)
theorem xe_int {i : Int} {j} : XE X F (.Constant (.int i) j pos) (wC (.int i)) := xe_c pe_int fun _ => .int i
theorem xe_bl {b : Bool} {j} : XE X F (.Constant (.bool b) j pos) (wC (.bool b)) := xe_c pe_bl fun _ => .bl b
theorem xe_non {j} : XE X F (.Constant .none j pos) (wC .none) := xe_c pe_non fun _ => .non
theorem xe_str {x : Str} {j} : XE X F (.Constant (.str x) j pos) (wC (.str x)) := xe_c pe_str fun _ => .str x
/-- a module's constant -/
theorem xe_glob {x : Str} {v : V} {u : Value} {d : D} (hg : Gl X x) (hm : X.mg x = some u) (r : RelV v u) (q : ∀ I, Rp X.K I v d) (hd : (x == ("__debug__" : Str)) = false := by decide) : XE X F (.Name x pos) (wC d) := xe_c (pe_glob hg hm r hd) q
end

/-! ### operations by values -/
abbrev F2 := SS → EV → EV → (RV → Prop) → Prop
def PostD (K : PySem.W.Frag) (F : Fx) (z : SS) (σ : St) (I H : Hp) (Q : VK) : D → Prop := fun d => ∀ v I' H', Ok K F z σ I' H' → Step z σ I H z I' H' → Rp K I' v d → Q v H'
/-- a new list at a, not yet anyone's, as seen from H -/
structure New (K : PySem.W.Frag) (F : Fx) (z : SS) (σ : St) (I H H' : Hp) (a : Addr) (l : List D) : Prop where
  was : H a = none
  at_ : ∃ vs, H' a = some (.lst vs) ∧ RpA K I vs l
  imm : I a = none
  h0 : F.H0 a = none
  nown : ¬ IsOwn z σ a
def PostR (K : PySem.W.Frag) (F : Fx) (z : SS) (σ : St) (I H : Hp) (Q : VK) : RV → Prop
  | .d d => PostD K F z σ I H Q d
  | .n l => ∀ a I' H', Ok K F z σ I' H' → Step z σ I H z I' H' → New K F z σ I' H H' a l → Q (.ref a) H'
theorem New.frz {K : PySem.W.Frag} {F : Fx} {z0 z : SS} {σ : St} {I0 I H H' : Hp} {a : Addr} {l : List D} (n : New K F z σ I H H' a l) (ok : Ok K F z σ I H') (st : Step z0 σ I0 H z I H') :
    ∃ I', Ok K F z σ I' H' ∧ Step z0 σ I0 H z I' H' ∧ Rp K I' (.ref a) (.list l) := by
  obtain ⟨vs, e, r⟩ := n.at_
  have si := same_upd (o := HO.lst vs) n.imm
  refine ⟨upd I a (.lst vs), ok.freezeAt e n.imm n.h0 n.nown, ⟨st.imm.trans si, fun b o h => ?_, st.keep, st.osub, st.there⟩, .lst upd_same (r.mono si)⟩
  by_cases eb : b = a
  · subst eb; exact .inr (.inl n.was)
  · rw [upd_ne eb] at h; exact st.new b o h
structure VR2 (X : Cx) (F : Fx) (r : R2) (f : F2) : Prop where
  mono : ∀ z x y k k', (∀ d, k d → k' d) → f z x y k → f z x y k'
  run : ∀ {σ : St} {z : SS} {I H : Hp} {x y : EV} {vx vy : V} {Q : VK}, Ok X.K F z σ I H → EvOk X.K I σ x vx → EvOk X.K I σ y vy → f z x y (PostR X.K F z σ I H Q) → r vx vy H Q
/-- expressions that may make a new list of nobody's -/
abbrev WR := SS → (RV → SS → Prop) → Prop
def PostX (K : PySem.W.Frag) (F : Fx) (z : SS) (σ : St) (I H : Hp) (Q : VK) : RV → SS → Prop
  | .d d, z' => ∀ v I' H', Ok K F z' σ I' H' → Step z σ I H z' I' H' → Rp K I' v d → Q v H'
  | .n l, z' => ∀ a I' H', Ok K F z' σ I' H' → Step z σ I H z' I' H' → New K F z' σ I' H H' a l → Q (.ref a) H'
def liftR (K : PySem.W.Frag) (F : Fx) (t : WR) : TE := fun σ H Q => ∃ z I, Ok K F z σ I H ∧ t z (PostX K F z σ I H Q)
structure XR (X : Cx) (F : Fx) (e : Expr) (t : WR) : Prop where
  mono : Mono t
  run : PE X e (liftR X.K F t)
def wFrz (t : WR) : WE := fun z R => t z fun r z' => R (.d r.toD) z'
theorem PostX.frz {K : PySem.W.Frag} {F : Fx} {z z' : SS} {σ : St} {I H : Hp} {Q : VK} {r : RV} (q : Post K F z σ I H Q (.d r.toD) z') : PostX K F z σ I H Q r z' := by
  cases r with
  | d x => exact fun v I' H' o s r => q v I' H' o s r
  | n l =>
    intro a I' H' o s n
    have ⟨I2, o2, s2, r2⟩ := n.frz o s
    exact q _ I2 H' o2 s2 r2
theorem XR.xe {X : Cx} {F : Fx} {e : Expr} {t : WR} (h : XR X F e t) : XE X F e (wFrz t) where
  mono := fun z R R' k w => h.mono _ _ _ (fun r z' q => k _ _ q) w
  run := pe_imp h.run fun σ H Q ⟨z, I, ok, w⟩ => ⟨z, I, ok, h.mono _ _ _ (fun r z' q => PostX.frz q) w⟩
theorem New.back {K : PySem.W.Frag} {F : Fx} {z0 z1 z : SS} {σ : St} {I0 I1 I H0 H1 H' : Hp} {a : Addr} {l : List D} (n : New K F z σ I H1 H' a l) (s : Step z0 σ I0 H0 z1 I1 H1) : New K F z σ I H0 H' a l := ⟨s.there a n.was, n.at_, n.imm, n.h0, n.nown⟩
theorem PostR.of {K : PySem.W.Frag} {F : Fx} {z z1 : SS} {σ : St} {I I1 H H1 : Hp} {Q : VK} (s : Step z σ I H z1 I1 H1) {r : RV} (k : PostX K F z σ I H Q r z1) : PostR K F z1 σ I1 H1 Q r := by
  cases r with
  | d x => exact fun v I' H' o t r => k v I' H' o (s.trans t) r
  | n l => exact fun a I' H' o t n => k a I' H' o (s.trans t) (n.back s)
def wBinR (f : F2) (ta tb : WE) : WR := fun z R => ta z fun x z1 => tb z1 fun y z2 => f z2 x y fun d => R d z2
def wBin (f : F2) (ta tb : WE) : WE := fun z R => ta z fun x z1 => tb z1 fun y z2 => f z2 x y fun d => R (.d d.toD) z2
section
variable {X : Cx} {F : Fx} {pos : Pos} {a b : Expr} {ta tb : WE}
theorem wBinR_mono {f : F2} {r : R2} (hf : VR2 X F r f) (ha : Mono ta) (hb : Mono tb) : Mono (wBinR f ta tb) := fun z R R' h w =>
  ha _ _ _ (fun x z1 w => hb _ _ _ (fun y z2 w => hf.mono _ _ _ _ _ (fun d q => h _ _ q) w) w) w
theorem wBin_mono {f : F2} {r : R2} (hf : VR2 X F r f) (ha : Mono ta) (hb : Mono tb) : Mono (wBin f ta tb) := fun z R R' h w =>
  ha _ _ _ (fun x z1 w => hb _ _ _ (fun y z2 w => hf.mono _ _ _ _ _ (fun d q => h _ _ q) w) w) w
theorem bin_runR {f : F2} {r : R2} (hf : VR2 X F r f) (ha : XE X F a ta) (hb : XE X F b tb) : ∀ σ H Q, liftR X.K F (wBinR f ta tb) σ H Q → tOp r (liftE X.K F ta) (liftE X.K F tb) σ H Q := fun σ H Q ⟨z, I, ok, w⟩ =>
  ha.at ok w fun x z1 v1 I1 H1 w ok1 s1 e1 => hb.at ok1 w fun y z2 v2 I2 H2 w ok2 s2 e2 =>
    hf.run ok2 (e1.mono s2.imm) e2 (hf.mono _ _ _ _ _ (fun d q => PostR.of (s1.trans s2) q) w)
theorem xr_op {op : Operator} {f : F2} {r : R2} (ho : OpR X (binaryOp op) r) (hf : VR2 X F r f) (ha : XE X F a ta) (hb : XE X F b tb) : XR X F (.BinOp a op b pos) (wBinR f ta tb) :=
  ⟨wBinR_mono hf ha.mono hb.mono, pe_imp (pe_op ho ha.run hb.run) (bin_runR hf ha hb)⟩
theorem xe_op {op : Operator} {f : F2} {r : R2} (ho : OpR X (binaryOp op) r) (hf : VR2 X F r f) (ha : XE X F a ta) (hb : XE X F b tb) : XE X F (.BinOp a op b pos) (wBin f ta tb) := (xr_op ho hf ha hb).xe
theorem xr_cmp {op : CmpOp} {f : F2} {r : R2} (ho : OpR X (compareOp op) r) (hf : VR2 X F r f) (ha : XE X F a ta) (hb : XE X F b tb) (hm : behindInMarks op b = false) : XR X F (.Compare a [op] [b] pos) (wBinR f ta tb) :=
  ⟨wBinR_mono hf ha.mono hb.mono, pe_imp (pe_cmpR ho ha.run hb.run hm) (bin_runR hf ha hb)⟩
theorem xe_cmp {op : CmpOp} {f : F2} {r : R2} (ho : OpR X (compareOp op) r) (hf : VR2 X F r f) (ha : XE X F a ta) (hb : XE X F b tb) (hm : behindInMarks op b = false) : XE X F (.Compare a [op] [b] pos) (wBin f ta tb) := (xr_cmp ho hf ha hb hm).xe
def wTest (t : WE) : WT := fun z R => t z fun x z1 => ∃ c, x = .d (.bool c) ∧ R c z1
theorem wTest_mono {t : WE} (h : Mono t) : Mono (wTest t) := fun z R R' k w => h _ _ _ (fun x z1 ⟨c, e, q⟩ => ⟨c, e, k _ _ q⟩) w
theorem xt_cmp {op : CmpOp} {f : F2} {r : R2} (ho : OpR X (compareOp op) r) (hf : VR2 X F r f) (ha : XE X F a ta) (hb : XE X F b tb) (hm : behindInMarks op b = false) : XT X F (.Compare a [op] [b] pos) (wTest (wBin f ta tb)) :=
  ⟨wTest_mono (wBin_mono hf ha.mono hb.mono), pt_imp (pt_cmpR ho ha.run hb.run hm) fun σ H Q ⟨z, I, ok, w⟩ => by
    refine bin_runR hf ha hb σ H _ ⟨z, I, ok, wBin_mono hf ha.mono hb.mono _ _ _ (fun x z1 q => q) w |> fun w => wBinR_mono (X := X) (F := F) hf ha.mono hb.mono _ (fun rv z1 => ∃ c, EV.d rv.toD = .d (.bool c) ∧ PostT X.K F z σ I H Q c z1) _ (fun rv z1 q => ?_) w⟩
    obtain ⟨c, e, q⟩ := q
    cases rv with
    | d x =>
      have e' : x = .bool c := by injection e
      subst e'
      intro v I' H' o s r
      cases r
      exact ⟨c, rfl, q I' H' o s⟩
    | n l =>
      have e' : PyData.list l = .bool c := by injection e
      cases e'⟩
/-- an expression that gives True or False, as a test -/
theorem xt_val {t : WE} (h : XE X F a t) (he : ∀ whole, isTrue a X.env whole = (do let v ← whole; standAt a.pos; holding [v] (truthy v)) := by intro _; rfl) : XT X F a (wTest t) :=
  ⟨wTest_mono h.mono, pt_imp (pt_val h.run he) fun σ H Q ⟨z, I, ok, w⟩ => h.at ok w fun x z1 v I' H' ⟨c, e, q⟩ o s ev => by
    subst e
    cases ev
    exact ⟨c, rfl, q I' H' o s⟩⟩
/-! ### and, or, not, if -/
def wAnd (t u : WT) : WT := fun z R => t z fun c z1 => if c = true then u z1 R else R false z1
def wOr (t u : WT) : WT := fun z R => t z fun c z1 => if c = true then R true z1 else u z1 R
def wNot (t : WT) : WT := fun z R => t z fun c z1 => R (!c) z1
theorem wAnd_mono {t u : WT} (h : Mono t) (g : Mono u) : Mono (wAnd t u) := fun z R R' k w => h _ _ _ (fun c z1 q => by
  cases c with
  | true => exact g _ _ _ k q
  | false => exact k _ _ q) w
theorem wOr_mono {t u : WT} (h : Mono t) (g : Mono u) : Mono (wOr t u) := fun z R R' k w => h _ _ _ (fun c z1 q => by
  cases c with
  | true => exact k _ _ q
  | false => exact g _ _ _ k q) w
theorem XW.xt {e : Expr} {t : WT} (h : XW X F e t) : XT X F e t := ⟨h.mono, h.run.pt⟩
variable {t u : WT} {rest : List Expr}
theorem xw_and1 (h : XT X F a t) : XW X F (.BoolOp .And [a] pos) t := ⟨h.mono, pw_imp (pw_and1 h.run) fun _ _ _ q => q⟩
theorem xw_or1 (h : XT X F a t) : XW X F (.BoolOp .Or [a] pos) t := ⟨h.mono, pw_imp (pw_or1 h.run) fun _ _ _ q => q⟩
theorem xw_and (ha : XT X F a t) (hb : XW X F (.BoolOp .And (b :: rest) pos) u) : XW X F (.BoolOp .And (a :: b :: rest) pos) (wAnd t u) :=
  ⟨wAnd_mono ha.mono hb.mono, pw_imp (pw_and ha.run hb.run) fun σ H Q ⟨z, I, ok, w⟩ => ha.at ok w fun c z1 I1 H1 q o s => by
    cases c with
    | true => exact hb.at o q fun c2 z2 I2 H2 q2 o2 s2 => q2 I2 H2 o2 (s.trans s2)
    | false => exact q I1 H1 o s⟩
theorem xw_or (ha : XT X F a t) (hb : XW X F (.BoolOp .Or (b :: rest) pos) u) : XW X F (.BoolOp .Or (a :: b :: rest) pos) (wOr t u) :=
  ⟨wOr_mono ha.mono hb.mono, pw_imp (pw_or ha.run hb.run) fun σ H Q ⟨z, I, ok, w⟩ => ha.at ok w fun c z1 I1 H1 q o s => by
    cases c with
    | true => exact q I1 H1 o s
    | false => exact hb.at o q fun c2 z2 I2 H2 q2 o2 s2 => q2 I2 H2 o2 (s.trans s2)⟩
theorem xt_not (h : XT X F a t) : XT X F (.UnaryOp .Not a pos) (wNot t) :=
  ⟨fun z R R' k w => h.mono _ _ _ (fun c z1 q => k _ _ q) w, pt_imp (pt_not h.run) fun σ H Q ⟨z, I, ok, w⟩ => h.at ok w fun c z1 I1 H1 q o s => q I1 H1 o s⟩
/-- and, or, not as values -/
def wAndV (t u : WE) : WE := fun z R => t z fun x z1 => ∃ c, x = .d (.bool c) ∧ if c = true then u z1 R else R (.d (.bool false)) z1
def wOrV (t u : WE) : WE := fun z R => t z fun x z1 => ∃ c, x = .d (.bool c) ∧ if c = true then R (.d (.bool true)) z1 else u z1 R
def wNotV (t : WE) : WE := fun z R => t z fun x z1 => ∃ c, x = .d (.bool c) ∧ R (.d (.bool (!c))) z1
theorem xe_one {op} (h : XE X F a ta) : XE X F (.BoolOp op [a] pos) ta := ⟨h.mono, pe_imp (pe_one h.run) fun _ _ _ q => q⟩
theorem xe_and (ha : XE X F a ta) (hb : XE X F (.BoolOp .And (b :: rest) pos) tb) : XE X F (.BoolOp .And (a :: b :: rest) pos) (wAndV ta tb) :=
  ⟨fun z R R' k w => ha.mono _ _ _ (fun x z1 ⟨c, e, q⟩ => ⟨c, e, by
    cases c with
    | true => exact hb.mono _ _ _ k q
    | false => exact k _ _ q⟩) w, pe_imp (pe_and ha.run hb.run) fun σ H Q ⟨z, I, ok, w⟩ => ha.at ok w fun x z1 v I1 H1 ⟨c, e, q⟩ o s ev => by
    subst e
    cases ev
    refine ⟨c, rfl, ?_⟩
    cases c with
    | true => exact hb.at o q fun x2 z2 v2 I2 H2 q2 o2 s2 e2 => q2 v2 I2 H2 o2 (s.trans s2) e2
    | false => exact q _ I1 H1 o s (.bl false)⟩
theorem xe_or (ha : XE X F a ta) (hb : XE X F (.BoolOp .Or (b :: rest) pos) tb) : XE X F (.BoolOp .Or (a :: b :: rest) pos) (wOrV ta tb) :=
  ⟨fun z R R' k w => ha.mono _ _ _ (fun x z1 ⟨c, e, q⟩ => ⟨c, e, by
    cases c with
    | true => exact k _ _ q
    | false => exact hb.mono _ _ _ k q⟩) w, pe_imp (pe_or ha.run hb.run) fun σ H Q ⟨z, I, ok, w⟩ => ha.at ok w fun x z1 v I1 H1 ⟨c, e, q⟩ o s ev => by
    subst e
    cases ev
    refine ⟨c, rfl, ?_⟩
    cases c with
    | true => exact q _ I1 H1 o s (.bl true)
    | false => exact hb.at o q fun x2 z2 v2 I2 H2 q2 o2 s2 e2 => q2 v2 I2 H2 o2 (s.trans s2) e2⟩
theorem xe_not (ha : XE X F a ta) : XE X F (.UnaryOp .Not a pos) (wNotV ta) :=
  ⟨fun z R R' k w => ha.mono _ _ _ (fun x z1 ⟨c, e, q⟩ => ⟨c, e, k _ _ q⟩) w, pe_imp (pe_not ha.run) fun σ H Q ⟨z, I, ok, w⟩ => ha.at ok w fun x z1 v I1 H1 ⟨c, e, q⟩ o s ev => by
    subst e
    cases ev
    exact ⟨c, rfl, q _ I1 H1 o s (.bl _)⟩⟩
def wIf (t : WT) (ta tb : WE) : WE := fun z R => t z fun c z1 => if c = true then ta z1 R else tb z1 R
theorem xe_if {c : Expr} (hc : XT X F c t) (ha : XE X F a ta) (hb : XE X F b tb) : XE X F (.IfExp c a b pos) (wIf t ta tb) :=
  ⟨fun z R R' k w => hc.mono _ _ _ (fun c z1 q => by
    cases c with
    | true => exact ha.mono _ _ _ k q
    | false => exact hb.mono _ _ _ k q) w, pe_imp (pe_ifExp hc.run ha.run hb.run) fun σ H Q ⟨z, I, ok, w⟩ => hc.at ok w fun c z1 I1 H1 q o s => by
    cases c with
    | true => exact ha.at o q fun x2 z2 v2 I2 H2 q2 o2 s2 e2 => q2 v2 I2 H2 o2 (s.trans s2) e2
    | false => exact hb.at o q fun x2 z2 v2 I2 H2 q2 o2 s2 e2 => q2 v2 I2 H2 o2 (s.trans s2) e2⟩
/-- a chain of two comparisons -/
def wChain (f g : F2) (ta tb tc : WE) : WE := fun z R => ta z fun x z1 => tb z1 fun y z2 => f z2 x y fun d => ∃ c, d = .d (.bool c) ∧
  if c = true then tc z2 fun w z3 => g z3 y w fun d => R (.d d.toD) z3 else R (.d (.bool false)) z2
end

/-! ### argument lists, displays -/
def wNil : WA := fun z R => R [] z
def wCons (t : WE) (u : WA) : WA := fun z R => t z fun x z1 => u z1 fun xs z2 => R (x :: xs) z2
theorem paired_mono {α β : Type} {A B : α → β → Prop} (h : ∀ a b, A a b → B a b) : ∀ {xs : List α} {ys : List β}, Paired A xs ys → Paired B xs ys
  | _, _, .nil => .nil
  | _, _, .cons r t => .cons (h _ _ r) (paired_mono h t)
section
variable {X : Cx} {F : Fx} {pos : Pos} {e : Expr} {es : List Expr} {t : WE} {u : WA}
theorem xa_nil : XA X F [] wNil := ⟨fun z R R' k w => k _ _ w, pa_imp pa_nil fun σ H Q ⟨z, I, ok, w⟩ => w [] I H ok .refl .nil⟩
theorem xa_cons (ha : XE X F e t) (hr : XA X F es u) (hs : starEach (e :: es) X.env = (false, eval e X.env) :: starEach es X.env := by rfl) : XA X F (e :: es) (wCons t u) :=
  ⟨fun z R R' k w => ha.mono _ _ _ (fun x z1 q => hr.mono _ _ _ (fun xs z2 q => k _ _ q) q) w, pa_imp (pa_cons ha.run hr.run hs) fun σ H Q ⟨z, I, ok, w⟩ =>
    ha.at ok w fun x z1 v I1 H1 q o s ev => hr.at o q fun xs z2 vs I2 H2 q o2 s2 evs => q (v :: vs) I2 H2 o2 (s.trans s2) (.cons (ev.mono s2.imm) evs)⟩
/-- all are data -/
def allD : List EV → Option (List D)
  | [] => some []
  | .d x :: r => (allD r).map (x :: ·)
  | .o _ :: _ => none
theorem allD_ok {K : PySem.W.Frag} {I : Hp} {σ : St} : ∀ {es : List EV} {vs : List V} {ds : List D}, Paired (EvOk K I σ) es vs → allD es = some ds → RpA K I vs ds
  | _, _, _, .nil, h => by cases h; exact .nil
  | _, _, _, .cons (a := .d x) r t, h => by
    unfold allD at h
    obtain ⟨ds, e, rfl⟩ := Option.map_eq_some_iff.mp h
    exact .cons r (allD_ok t e)
  | _, _, _, .cons (a := .o i) r t, h => by cases h
def wTup (u : WA) : WE := fun z R => u z fun es z1 => ∃ ds, allD es = some ds ∧ ds.length ≤ sizeLine ∧ R (.d (.tuple ds)) z1
theorem xe_tup {x1} (h : XA X F es u) : XE X F (.Tuple es x1 pos) (wTup u) :=
  ⟨fun z R R' k w => h.mono _ _ _ (fun es z1 ⟨ds, e, l, q⟩ => ⟨ds, e, l, k _ _ q⟩) w, pe_imp (pe_tup h.run) fun σ H Q ⟨z, I, ok, w⟩ => h.at ok w fun es z1 vs I1 H1 ⟨ds, e, l, q⟩ o s ev => by
    have r := allD_ok ev e
    refine ⟨by rw [r.length]; exact l, fun p hp => ?_⟩
    obtain ⟨o2, s2⟩ := o.alloc (.tup vs) hp
    exact q _ _ _ o2 (s.trans s2) (.tup (SqT.of upd_same) (r.mono s2.imm))⟩
end
end L3
namespace L3
open PySem PySem.Spec PyProof.Rows L2 PySem.SeqAt

/-! ### operators -/
section
variable {X : Cx} {F : Fx} {σ : St} {z : SS} {I H : Hp} {Q : VK}
/-- a scalar answer -/
theorem PostR.scal {d : D} {v : V} (k : PostR X.K F z σ I H Q (.d d)) (ok : Ok X.K F z σ I H) (r : Rp X.K I v d) : Q v H := k v I H ok .refl r
/-- a new tuple, a new list -/
theorem PostR.tup {ds : List D} {vs : List V} {p : Addr} (k : PostR X.K F z σ I H Q (.d (.tuple ds))) (ok : Ok X.K F z σ I H) (r : RpA X.K I vs ds) (hp : H p = none) : Q (.ref p) (upd H p (.tup vs)) := by
  obtain ⟨o2, s2⟩ := ok.alloc (.tup vs) hp
  exact k _ _ _ o2 s2 (.tup (SqT.of upd_same) (r.mono s2.imm))
theorem Ok.newL (ok : Ok X.K F z σ I H) {ds : List D} {vs : List V} {p : Addr} (r : RpA X.K I vs ds) (hp : H p = none) : Ok X.K F z σ I (upd H p (.lst vs)) ∧ Step z σ I H z I (upd H p (.lst vs)) ∧ New X.K F z σ I H (upd H p (.lst vs)) p ds := by
  obtain ⟨o2, s2⟩ := ok.fresh (.lst vs) hp
  exact ⟨o2, s2, hp, ⟨vs, upd_same, r⟩, ok.i0 hp, (ok.h0 hp).1, ok.nown hp⟩
theorem PostR.lst {ds : List D} {vs : List V} {p : Addr} (k : PostR X.K F z σ I H Q (.n ds)) (ok : Ok X.K F z σ I H) (r : RpA X.K I vs ds) (hp : H p = none) : Q (.ref p) (upd H p (.lst vs)) := by
  obtain ⟨o2, s2, n⟩ := ok.newL r hp
  exact k _ _ _ o2 s2 n
end
/-- the lists that stand as data or as own lists -/
def catL (z : SS) (x y : EV) (k : RV → Prop) : Prop := ∃ l m, lstOf z x = some l ∧ lstOf z y = some m ∧ l.length + m.length ≤ sizeLine ∧ k (.n (l ++ m))
def sAdd : F2 := fun z x y k => match x, y with
  | .d (.int i), .d (.int j) => k (.d (.int (i + j)))
  | .d (.str a), .d (.str b) => a.length + b.length ≤ sizeLine ∧ k (.d (.str (a ++ b)))
  | .d (.tuple a), .d (.tuple b) => a.length + b.length ≤ sizeLine ∧ k (.d (.tuple (a ++ b)))
  | x, y => catL z x y k
abbrev rAddX (K : PySem.W.Frag) : R2 := fun x y H Q => ((rI0 fun i j => .int (i + j)) x y H Q ∨ (∃ i j, x = .str i ∧ y = .str j ∧ i.length + j.length ≤ sizeLine ∧ Q (.str (i ++ j)) H)) ∨ (rCat x y H Q ∨ rCatA K x y H Q)
section
variable {X : Cx} {F : Fx}
theorem op_addX : OpR X (binaryOp .Add) (rAddX X.K) := OpR.or (OpR.or op_add op_add_str) (OpR.or op_cat op_catA)
theorem catL_run {σ : St} {z : SS} {I H : Hp} {x y : EV} {vx vy : V} {Q : VK} (ok : Ok X.K F z σ I H) (ex : EvOk X.K I σ x vx) (ey : EvOk X.K I σ y vy) (h : catL z x y (PostR X.K F z σ I H Q)) : rCat vx vy H Q := by
  obtain ⟨l, m, e1, e2, hz, k⟩ := h
  obtain ⟨a, vs, rfl, h1, r1⟩ := ok.lst ex e1
  obtain ⟨b, ws, rfl, h2, r2⟩ := ok.lst ey e2
  exact ⟨a, b, vs, ws, rfl, rfl, h1, h2, by rw [r1.length, r2.length]; exact hz, fun p hp => k.lst ok (r1.append r2) hp⟩
theorem vr_add : VR2 X F (rAddX X.K) sAdd where
  mono := fun z x y k k' h w => by
    unfold sAdd at w ⊢
    split at w
    · exact h _ w
    · exact ⟨w.1, h _ w.2⟩
    · exact ⟨w.1, h _ w.2⟩
    · obtain ⟨l, m, e1, e2, hz, q⟩ := w
      exact ⟨l, m, e1, e2, hz, h _ q⟩
  run := fun {σ z I H x y vx vy Q} ok ex ey w => by
    unfold sAdd at w
    split at w
    · cases ex; cases ey
      exact .inl (.inl ⟨_, _, rfl, rfl, w.scal ok (.int _)⟩)
    · cases ex; cases ey
      exact .inl (.inr ⟨_, _, rfl, rfl, w.1, w.2.scal ok (.str _)⟩)
    · rename_i a b
      cases ex with
      | tup h1 r1 =>
      cases ey with
      | tup h2 r2 =>
      refine .inr (.inr ⟨_, _, _, _, rfl, rfl, same_tup ok.sub h1, same_tup ok.sub h2, by rw [r1.length, r2.length]; exact w.1, fun e => ?_, fun e1 e => ?_, fun e1 e2 p hp => w.2.tup ok (r1.append r2) hp⟩)
      · subst e
        cases r1
        exact w.2.scal ok (.tup h2 r2)
      · subst e
        cases r2
        have := w.2
        rw [List.append_nil] at this
        exact this.scal ok (.tup h1 r1)
    · exact .inr (.inl (catL_run ok ex ey w))
end
/-- two ints, with a condition -/
def sII (C : Int → Int → Prop) (g : Int → Int → D) : F2 := fun _ x y k => ∃ i j, x = .d (.int i) ∧ y = .d (.int j) ∧ C i j ∧ k (.d (g i j))
def sII0 (g : Int → Int → D) : F2 := fun _ x y k => ∃ i j, x = .d (.int i) ∧ y = .d (.int j) ∧ k (.d (g i j))
section
variable {X : Cx} {F : Fx}
theorem vr_ii {C : Int → Int → Prop} {g : Int → Int → V} {g' : Int → Int → D} (hg : ∀ I i j, Rp X.K I (g i j) (g' i j)) : VR2 X F (rI C g) (sII C g') where
  mono := fun z x y k k' h ⟨i, j, e1, e2, c, q⟩ => ⟨i, j, e1, e2, c, h _ q⟩
  run := fun {σ z I H x y vx vy Q} ok ex ey ⟨i, j, e1, e2, c, w⟩ => by
    subst e1 e2
    cases ex; cases ey
    exact ⟨i, j, rfl, rfl, c, w.scal ok (hg _ _ _)⟩
theorem vr_ii0 {g : Int → Int → V} {g' : Int → Int → D} (hg : ∀ I i j, Rp X.K I (g i j) (g' i j)) : VR2 X F (rI0 g) (sII0 g') where
  mono := fun z x y k k' h ⟨i, j, e1, e2, q⟩ => ⟨i, j, e1, e2, h _ q⟩
  run := fun {σ z I H x y vx vy Q} ok ex ey ⟨i, j, e1, e2, w⟩ => by
    subst e1 e2
    cases ex; cases ey
    exact ⟨i, j, rfl, rfl, w.scal ok (hg _ _ _)⟩
end
abbrev sSub : F2 := sII0 fun i j => .int (i - j)
abbrev sFDiv : F2 := sII CDiv fun i j => .int (i / j)
abbrev sMod : F2 := sII (fun _ j => 0 < j) fun i j => .int (i % j)
abbrev sPow : F2 := sII CPow fun i j => .int (i ^ j.toNat)
abbrev sLt : F2 := sII0 fun i j => .bool (decide (i < j))
abbrev sLe : F2 := sII0 fun i j => .bool (decide (i ≤ j))
abbrev sGt : F2 := sII0 fun i j => .bool (decide (j < i))
abbrev sGe : F2 := sII0 fun i j => .bool (decide (j ≤ i))
/-- *: ints, a list or a tuple times an int -/
def sMul : F2 := fun z x y k => match x, y with
  | .d (.int i), .d (.int j) => CMul i j ∧ k (.d (.int (i * j)))
  | x, .d (.int j) => ∃ l, lstOf z x = some l ∧ -(2 ^ 63) ≤ j ∧ j < 2 ^ 63 ∧ l.length * j.toNat ≤ sizeLine ∧ k (.n (List.replicate j.toNat l).flatten)
  | _, _ => False
section
variable {X : Cx} {F : Fx}
theorem op_mulX : OpR X (binaryOp .Mult) (fun x y H Q => rI CMul (fun i j => .int (i * j)) x y H Q ∨ rRep x y H Q) := OpR.or op_mul op_rep
theorem vr_mul : VR2 X F (fun x y H Q => rI CMul (fun i j => .int (i * j)) x y H Q ∨ rRep x y H Q) sMul where
  mono := fun z x y k k' h w => by
    unfold sMul at w ⊢
    split at w
    · exact ⟨w.1, h _ w.2⟩
    · obtain ⟨l, e, a, b, c, q⟩ := w
      exact ⟨l, e, a, b, c, h _ q⟩
    · exact w
  run := fun {σ z I H x y vx vy Q} ok ex ey w => by
    unfold sMul at w
    split at w
    · cases ex; cases ey
      exact .inl ⟨_, _, rfl, rfl, w.1, w.2.scal ok (.int _)⟩
    · obtain ⟨l, e, a, b, c, q⟩ := w
      obtain ⟨p, vs, rfl, h1, r1⟩ := ok.lst ex e
      cases ey
      exact .inr ⟨p, _, vs, rfl, rfl, h1, a, b, by rw [r1.length]; exact c, fun p hp => q.lst ok (r1.rep _) hp⟩
    · exact w.elim
end
/-! ### ==, !=, in, not in -/
def sEqG (f : Bool → Bool) : F2 := fun z x y k => ∃ a b, evD z x = some a ∧ evD z y = some b ∧ a.plain = true ∧ b.plain = true ∧ min a.depth b.depth ≤ 60 ∧ k (.d (.bool (f (PyData.eqv a b))))
abbrev sEq : F2 := sEqG id
abbrev sNe : F2 := sEqG not
def rEqP (K : PySem.W.Frag) (f : Bool → Bool) : R2 := fun x y H Q => ∃ a b, Rp K H x a ∧ Rp K H y b ∧ a.plain = true ∧ b.plain = true ∧ min a.depth b.depth ≤ 60 ∧ Q (.bl (f (PyData.eqv a b))) H
/-- a text's signs in another; an item in a list or a tuple -/
def inD (x y : D) (f : Bool → Bool) (k : Bool → Prop) : Prop := match y with
  | .str t => ∃ u, x = .str u ∧ k (f (!(Builtin.Str.occurrences t u 0 t.length 1).isEmpty))
  | .list l => PyData.plainAll l = true ∧ x.plain = true ∧ min (PyData.depthAll l) x.depth ≤ 60 ∧ k (f (l.any fun y => PyData.eqv y x))
  | .tuple l => PyData.plainAll l = true ∧ x.plain = true ∧ min (PyData.depthAll l) x.depth ≤ 60 ∧ k (f (l.any fun y => PyData.eqv y x))
  | _ => False
def sInG (f : Bool → Bool) : F2 := fun z x y k => ∃ a b, evD z x = some a ∧ evD z y = some b ∧ inD a b f fun c => k (.d (.bool c))
abbrev sIn : F2 := sInG id
abbrev sNotIn : F2 := sInG not
def rInP (K : PySem.W.Frag) (f : Bool → Bool) : R2 := fun x y H Q => ∃ a b, Rp K H x a ∧ Rp K H y b ∧ inD a b f fun c => Q (.bl c) H
section
variable {X : Cx} {F : Fx} {A : Around}
theorem op_eqP (hu : X.A.units + 64 < cLine) : OpR X (compareOp .Eq) (rEqP X.K id) := by
  intro pins s σ H x y v u Q I rx ry h
  obtain ⟨d, e, hd, he, pd, pe, m, q⟩ := h
  obtain ⟨as, r1⟩ := hd.reads I v pd rx
  obtain ⟨bs, r2⟩ := he.reads I u pe ry
  exact eq_plain r1 r2 pd pe (by omega) ⟨.bl _, H, I, rfl, q⟩
theorem op_neP (hu : X.A.units + 64 < cLine) : OpR X (compareOp .NotEq) (rEqP X.K not) := by
  intro pins s σ H x y v u Q I rx ry h
  obtain ⟨d, e, hd, he, pd, pe, m, q⟩ := h
  obtain ⟨as, r1⟩ := hd.reads I v pd rx
  obtain ⟨bs, r2⟩ := he.reads I u pe ry
  exact ne_plain r1 r2 pd pe (by omega) ⟨.bl _, H, I, rfl, q⟩
theorem vr_eq {f : Bool → Bool} : VR2 X F (rEqP X.K f) (sEqG f) where
  mono := fun z x y k k' h ⟨a, b, e1, e2, p1, p2, m, q⟩ => ⟨a, b, e1, e2, p1, p2, m, h _ q⟩
  run := fun {σ z I H x y vx vy Q} ok ex ey ⟨a, b, e1, e2, p1, p2, m, w⟩ => ⟨a, b, ok.ev ex e1, ok.ev ey e2, p1, p2, m, w.scal ok (.bl _)⟩
theorem op_inP (hu : X.A.units + 64 < cLine) : OpR X (compareOp .In) (rInP X.K id) := by
  intro pins s σ H x y v u Q I rx ry h
  obtain ⟨d, e, hd, he, q⟩ := h
  unfold inD at q
  split at q
  · obtain ⟨w, rfl, q⟩ := q
    cases hd; cases he
    obtain ⟨t, rfl⟩ := rx
    obtain ⟨t', rfl⟩ := ry
    exact in_str (fin_bl I q rfl)
  · obtain ⟨pl, pd, m, q⟩ := q
    obtain ⟨as, r1⟩ := hd.reads I v pd rx
    obtain ⟨bs, r2⟩ := he.reads I u (by simpa [PyData.plain] using pl) ry
    exact in_list_data r2 r1 pl pd (by omega) ⟨.bl _, H, I, rfl, q⟩
  · obtain ⟨pl, pd, m, q⟩ := q
    obtain ⟨as, r1⟩ := hd.reads I v pd rx
    obtain ⟨bs, r2⟩ := he.reads I u (by simpa [PyData.plain] using pl) ry
    exact in_tuple_data r2 r1 pl pd (by omega) ⟨.bl _, H, I, rfl, q⟩
  · exact q.elim
theorem op_notinP (hu : X.A.units + 64 < cLine) : OpR X (compareOp .NotIn) (rInP X.K not) := by
  intro pins s σ H x y v u Q I rx ry h
  obtain ⟨d, e, hd, he, q⟩ := h
  unfold inD at q
  split at q
  · obtain ⟨w, rfl, q⟩ := q
    cases hd; cases he
    exact op_notin_str pins s σ H _ _ v u Q I rx ry ⟨_, _, rfl, rfl, q⟩
  · obtain ⟨pl, pd, m, q⟩ := q
    obtain ⟨as, r1⟩ := hd.reads I v pd rx
    obtain ⟨bs, r2⟩ := he.reads I u (by simpa [PyData.plain] using pl) ry
    exact notIn_list_data r2 r1 pl pd (by omega) ⟨.bl _, H, I, rfl, q⟩
  · obtain ⟨pl, pd, m, q⟩ := q
    obtain ⟨as, r1⟩ := hd.reads I v pd rx
    obtain ⟨bs, r2⟩ := he.reads I u (by simpa [PyData.plain] using pl) ry
    exact notIn_tuple_data r2 r1 pl pd (by omega) ⟨.bl _, H, I, rfl, q⟩
  · exact q.elim
theorem inD_mono {x y : D} {f : Bool → Bool} {k k' : Bool → Prop} (h : ∀ c, k c → k' c) (w : inD x y f k) : inD x y f k' := by
  unfold inD at w ⊢
  split at w
  · exact ⟨_, w.choose_spec.1, h _ w.choose_spec.2⟩
  · exact ⟨w.1, w.2.1, w.2.2.1, h _ w.2.2.2⟩
  · exact ⟨w.1, w.2.1, w.2.2.1, h _ w.2.2.2⟩
  · exact w
theorem vr_in {f : Bool → Bool} : VR2 X F (rInP X.K f) (sInG f) where
  mono := fun z x y k k' h ⟨a, b, e1, e2, q⟩ => ⟨a, b, e1, e2, inD_mono (fun c => h _) q⟩
  run := fun {σ z I H x y vx vy Q} ok ex ey ⟨a, b, e1, e2, w⟩ => ⟨a, b, ok.ev ex e1, ok.ev ey e2, inD_mono (fun c q => PostR.scal q ok (.bl _)) w⟩
/-- is None, is not None -/
def isNone : D → Bool
  | .none => true
  | _ => false
def sIsN (f : Bool → Bool) : F2 := fun z x y k => y = .d .none ∧ ∃ a, evD z x = some a ∧ k (.d (.bool (f (isNone a))))
theorem rp_non {K : PySem.W.Frag} {H : Hp} {v : V} {a : D} (r : Rp K H v a) : decide (v = .non) = isNone a := by
  cases r <;> rfl
theorem vr_isN : VR2 X F (fun x y H Q => y = .non ∧ Q (.bl (decide (x = .non))) H) (sIsN id) where
  mono := fun z x y k k' h ⟨e, a, e1, q⟩ => ⟨e, a, e1, h _ q⟩
  run := fun {σ z I H x y vx vy Q} ok ex ey ⟨e, a, e1, w⟩ => by
    subst e
    cases ey
    exact ⟨rfl, by rw [rp_non (ok.ev ex e1)]; exact w.scal ok (.bl _)⟩
theorem vr_notN : VR2 X F (fun x y H Q => y = .non ∧ Q (.bl (!decide (x = .non))) H) (sIsN not) where
  mono := fun z x y k k' h ⟨e, a, e1, q⟩ => ⟨e, a, e1, h _ q⟩
  run := fun {σ z I H x y vx vy Q} ok ex ey ⟨e, a, e1, w⟩ => by
    subst e
    cases ey
    exact ⟨rfl, by rw [rp_non (ok.ev ex e1)]; exact w.scal ok (.bl _)⟩
/-- is True, is False -/
def sIsB (f : Bool → Bool) : F2 := fun z x y k => ∃ a b, x = .d (.bool a) ∧ y = .d (.bool b) ∧ k (.d (.bool (f (decide (a = b)))))
theorem vr_isB : VR2 X F rIsB (sIsB id) where
  mono := fun z x y k k' h ⟨a, b, e1, e2, q⟩ => ⟨a, b, e1, e2, h _ q⟩
  run := fun {σ z I H x y vx vy Q} ok ex ey ⟨a, b, e1, e2, w⟩ => by
    subst e1 e2
    cases ex; cases ey
    exact ⟨a, b, rfl, rfl, w.scal ok (.bl _)⟩
end
/-! ### subscripts -/
def sIx : F2 := fun z x y k => ∃ i, y = .d (.int i) ∧ ((∃ l d, seqOf z x = some l ∧ atI l i = some d ∧ k (.d d)) ∨ (∃ t c, x = .d (.str t) ∧ t.length ≤ sizeLine ∧ atI t.cps.toList i = some c ∧ k (.d (.str ⟨#[c]⟩))))
theorem atI_rp {K : PySem.W.Frag} {I : Hp} {vs : List V} {l : List D} {i : Int} {d : D} (r : RpA K I vs l) (h : atI l i = some d) : ∃ v, atI vs i = some v ∧ Rp K I v d := by
  unfold atI at h ⊢
  rw [r.length]
  obtain ⟨j, e1, e2⟩ := Option.bind_eq_some_iff.mp h
  obtain ⟨v, e3, q⟩ := r.get e2
  exact ⟨v, by rw [e1]; exact e3, q⟩
section
variable {X : Cx} {F : Fx}
theorem vr_ix : VR2 X F (rIx X.K) sIx where
  mono := fun z x y k k' h ⟨i, e, q⟩ => ⟨i, e, by
    rcases q with ⟨l, d, e1, e2, q⟩ | ⟨t, c, e1, e2, e3, q⟩
    · exact .inl ⟨l, d, e1, e2, h _ q⟩
    · exact .inr ⟨t, c, e1, e2, e3, h _ q⟩⟩
  run := fun {σ z I H x y vx vy Q} ok ex ey ⟨i, e, w⟩ => by
    subst e
    cases ey
    rcases w with ⟨l, d, e1, e2, q⟩ | ⟨t, c, e1, e2, e3, q⟩
    · obtain ⟨a, vs, rfl, hq, r⟩ := ok.seq ex e1
      obtain ⟨v, e3, rv⟩ := atI_rp r e2
      rcases hq with hq | hq
      · exact .inl ⟨a, vs, i, v, rfl, rfl, hq, e3, q.scal ok rv⟩
      · exact .inr (.inl ⟨a, vs, i, v, rfl, rfl, hq, e3, q.scal ok rv⟩)
    · subst e1
      cases ex
      exact .inr (.inr ⟨t, i, c, rfl, rfl, e2, e3, q.scal ok (.str _)⟩)
theorem xe_ix {a b : Expr} {ta tb : WE} {pos : Pos} (ha : XE X F a ta) (hb : XE X F b tb) (hs : PlainIx b := by intro _ _; rfl) : XE X F (.Subscript a b pos) (wBin sIx ta tb) :=
  XR.xe ⟨wBinR_mono (X := X) (F := F) vr_ix ha.mono hb.mono, pe_imp (pe_ix ix_seq ha.run hb.run hs) (bin_runR vr_ix ha hb)⟩
end
/-- a slice's bounds on a list -/
def cutD {α : Type} (xs : List α) (lo hi : Option Int) : List α := (xs.drop (HT.sIx xs.length 0 lo)).take (HT.sIx xs.length xs.length hi - HT.sIx xs.length 0 lo)
def cutT (t : Str) (lo hi : Option Int) : Str := cutS t lo hi
/-- a slice's part -/
abbrev WO := SS → (Option Int → SS → Prop) → Prop
def liftO (K : PySem.W.Frag) (F : Fx) (t : WO) : TO := fun σ H Q => ∃ z I, Ok K F z σ I H ∧ t z fun o z' => ∀ I' H', Ok K F z' σ I' H' → Step z σ I H z' I' H' → Q o H'
structure XO (X : Cx) (F : Fx) (e : Option Expr) (t : WO) : Prop where
  mono : Mono t
  run : PO X e (liftO X.K F t)
def wNoPart : WO := fun z R => R none z
def wPart (t : WE) : WO := fun z R => t z fun x z1 => ∃ i, x = .d (.int i) ∧ R (some i) z1
theorem po_imp {X : Cx} {e : Option Expr} {t t' : TO} (h : PO X e t) (i : ∀ σ H Q, t' σ H Q → t σ H Q) : PO X e t' := ⟨fun pins s σ H Q I q => h.run pins s σ H Q I (i σ H Q q)⟩
section
variable {X : Cx} {F : Fx} {e : Expr} {t : WE}
theorem xo_none : XO X F none wNoPart := ⟨fun z R R' k w => k _ _ w, po_imp po_none fun σ H Q ⟨z, I, ok, w⟩ => w I H ok .refl⟩
theorem xo_some (h : XE X F e t) : XO X F (some e) (wPart t) := ⟨fun z R R' k w => h.mono _ _ _ (fun x z1 ⟨i, e, q⟩ => ⟨i, e, k _ _ q⟩) w, po_imp (po_some h.run) fun σ H Q ⟨z, I, ok, w⟩ => h.at ok w fun x z1 v I1 H1 ⟨i, e, q⟩ o s ev => by
  subst e
  cases ev
  exact ⟨i, rfl, q I1 H1 o s⟩⟩
theorem RpA.cut {K : PySem.W.Frag} {I : Hp} {vs : List V} {ds : List D} (r : RpA K I vs ds) (lo hi : Option Int) : RpA K I (cutV vs lo hi) (cutD ds lo hi) := by
  unfold cutV cutD
  rw [r.length]
  exact (r.drop _).take _
def sSl : SS → EV → Option Int → Option Int → (RV → Prop) → Prop := fun z x lo hi k => match evD z x with
  | some (.str t) => t.length ≤ sizeLine ∧ k (.d (.str (cutT t lo hi)))
  | some (.tuple l) => k (.d (.tuple (cutD l lo hi)))
  | some (.list l) => k (.n (cutD l lo hi))
  | _ => False
def wSl (te : WE) (tl th : WO) : WR := fun z R => te z fun x z1 => tl z1 fun lo z2 => th z2 fun hi z3 => sSl z3 x lo hi fun d => R d z3
theorem sSl_mono {z : SS} {x : EV} {lo hi : Option Int} {k k' : RV → Prop} (h : ∀ d, k d → k' d) (w : sSl z x lo hi k) : sSl z x lo hi k' := by
  unfold sSl at w ⊢
  split at w
  · exact ⟨w.1, h _ w.2⟩
  · exact h _ w
  · exact h _ w
  · exact w
theorem cutD_all {α : Type} {xs : List α} {lo hi : Option Int} (h : HT.sIx xs.length 0 lo = 0 ∧ HT.sIx xs.length xs.length hi = xs.length) : cutD xs lo hi = xs := by
  unfold cutD
  rw [h.1, h.2, List.drop_zero, Nat.sub_zero, List.take_length]
theorem xr_sl {lo hi : Option Expr} {tl th : WO} {p2 pos : Pos} (he : XE X F e t) (hl : XO X F lo tl) (hu : XO X F hi th) : XR X F (.Subscript e (.Slice lo hi none p2) pos) (wSl t tl th) where
  mono := fun z R R' k w => he.mono _ _ _ (fun x z1 w => hl.mono _ _ _ (fun lo z2 w => hu.mono _ _ _ (fun hi z3 w => sSl_mono (fun d q => k _ _ q) w) w) w) w
  run := pe_imp (pe_slice (SlR.or sl_str (SlR.or sl_tupA sl_list)) he.run hl.run hu.run) fun σ H Q ⟨z, I, ok, w⟩ => he.at ok w fun x z1 v I1 H1 wa o1 s1 ev =>
    ⟨z1, I1, o1, hl.mono _ _ _ (fun lo z2 wb I2 H2 o2 s2 => ⟨z2, I2, o2, hu.mono _ _ _ (fun hi z3 w I3 H3 o3 s3 => by
      have ev3 := (ev.mono s2.imm).mono s3.imm
      have s13 := s1.trans (s2.trans s3)
      unfold sSl at w
      split at w
      · rename_i t e
        have r := o3.ev ev3 e
        cases r
        exact .inl ⟨t, rfl, w.1, w.2 _ _ _ o3 s13 (.str _)⟩
      · rename_i l e
        have hx : x = .d (.tuple l) := by
          cases x with
          | d y => exact congrArg EV.d (Option.some.inj e)
          | o i => unfold evD at e; simp only at e; split at e <;> cases e
        subst hx
        cases ev3 with
        | tup hq r =>
        refine .inr (.inl ⟨_, _, rfl, same_tup o3.sub hq, fun hw => ?_, fun _ p hp => ?_⟩)
        · have e2 : cutD l lo hi = l := cutD_all (by rw [← r.length]; exact hw)
          rw [e2] at w
          exact w _ _ _ o3 s13 (.tup hq r)
        · obtain ⟨o4, s4⟩ := o3.alloc (.tup (cutV _ lo hi)) hp
          exact w _ _ _ o4 (s13.trans s4) (.tup (SqT.of upd_same) ((r.cut lo hi).mono s4.imm))
      · rename_i l e
        have hx : lstOf z3 x = some l := by
          cases x with
          | d y =>
            have : y = .list l := Option.some.inj e
            subst this; rfl
          | o i =>
            unfold evD at e; unfold lstOf
            simp only at e ⊢
            split at e <;> cases e
            rfl
        obtain ⟨a, vs, rfl, hq, r⟩ := o3.lst ev3 hx
        refine .inr (.inr ⟨a, vs, rfl, SqL.of hq, fun p hp => ?_⟩)
        obtain ⟨o4, s4, n⟩ := o3.newL (r.cut lo hi) hp
        exact w _ _ _ o4 (s13.trans s4) (n.back s13)
      · exact w.elim) wb⟩) wa⟩
end
end L3
namespace L3
open PySem PySem.Spec PyProof.Rows L2 PySem.SeqAt

/-! ### displays -/
section
variable {X : Cx} {F : Fx} {pos : Pos} {es : List Expr} {u : WA}
def wLst (u : WA) : WR := fun z R => u z fun es z1 => ∃ ds, allD es = some ds ∧ ds.length ≤ sizeLine ∧ R (.n ds) z1
theorem xr_lst (h : XA X F es u) : XR X F (.List es pos) (wLst u) :=
  ⟨fun z R R' k w => h.mono _ _ _ (fun es z1 ⟨ds, e, l, q⟩ => ⟨ds, e, l, k _ _ q⟩) w, pe_imp (pe_lst h.run) fun σ H Q ⟨z, I, ok, w⟩ => h.at ok w fun es z1 vs I1 H1 ⟨ds, e, l, q⟩ o s ev => by
    have r := allD_ok ev e
    refine ⟨by rw [r.length]; exact l, fun p hp => ?_⟩
    obtain ⟨o2, s2, n⟩ := o.newL r hp
    exact q _ _ _ o2 (s.trans s2) (n.back s)⟩
theorem xr_of {e : Expr} {t : WE} (h : XE X F e t) : XR X F e (fun z R => t z fun ev z1 => ∃ d, ev = .d d ∧ R (.d d) z1) :=
  ⟨fun z R R' k w => h.mono _ _ _ (fun ev z1 ⟨d, e, q⟩ => ⟨d, e, k _ _ q⟩) w, pe_imp h.run fun σ H Q ⟨z, I, ok, w⟩ => ⟨z, I, ok, h.mono _ _ _ (fun ev z1 ⟨d, e, q⟩ => by subst e; exact q) w⟩⟩
theorem xe_dct : PE X (.Dict [] [] pos) (fun σ H Q => ∀ p, H p = none → Q (.ref p) (upd H p (.dK []))) → XE X F (.Dict [] [] pos) (fun z R => R (.d (.dict [])) z) := fun h =>
  ⟨fun z R R' k w => k _ _ w, pe_imp h fun σ H Q ⟨z, I, ok, w⟩ p hp => by
    obtain ⟨o2, s2⟩ := ok.alloc (.dK []) hp
    exact w _ _ _ o2 s2 (.dct upd_same)⟩
end
/-! ### built-in functions -/
abbrev FC := SS → List EV → (RV → Prop) → Prop
structure VC (X : Cx) (F : Fx) (r : List V → Hp → VK → Prop) (f : FC) : Prop where
  mono : ∀ z xs k k', (∀ d, k d → k' d) → f z xs k → f z xs k'
  run : ∀ {σ : St} {z : SS} {I H : Hp} {xs : List EV} {vs : List V} {Q : VK}, Ok X.K F z σ I H → Paired (EvOk X.K I σ) xs vs → f z xs (PostR X.K F z σ I H Q) → r vs H Q
def wCB (f : FC) (u : WA) : WR := fun z R => u z fun es z1 => f z1 es fun r => R r z1
section
variable {X : Cx} {F : Fx} {pos p : Pos} {e : Expr} {es : List Expr} {u : WA} {f : FC} {r : List V → Hp → VK → Prop} {bid T : String} {x : Str}
theorem wCB_mono (hf : VC X F r f) (hu : Mono u) : Mono (wCB f u) := fun z R R' k w => hu _ _ _ (fun es z1 q => hf.mono _ _ _ _ (fun d q => k _ _ q) q) w
theorem cb_run (hf : VC X F r f) (ha : XA X F es u) : ∀ σ H Q, liftR X.K F (wCB f u) σ H Q → tCB r (liftA X.K F u) σ H Q := fun σ H Q ⟨z, I, ok, w⟩ =>
  ha.at ok w fun es z1 vs I1 H1 q o s ev => hf.run o ev (hf.mono _ _ _ _ (fun d q => PostR.of s q) q)
theorem xr_callB (hc : CallR X (.builtin bid) r) (hf : VC X F r f) (hg : Gl X x) (hm : X.mg x = none) (hv : bootBuiltins x = some (.builtin bid)) (ha : XA X F (e :: es) u) (hn : x ≠ "__name__" := by decide) (hdb : (x == ("__debug__" : Str)) = false := by decide)
    (he : starEach (e :: es) X.env = (false, eval e X.env) :: starEach es X.env := by rfl) (hpl : (backTo pos (starEach es X.env)).any (·.1) = false := by rfl) : XR X F (.Call (.Name x p) (e :: es) [] pos) (wCB f u) :=
  ⟨wCB_mono hf ha.mono, pe_imp (pe_callB hc hg hm hv ha.run hn hdb he hpl) (cb_run hf ha)⟩
theorem xr_callT (hc : CallR X (.type T) r) (hf : VC X F r f) (hg : Gl X x) (hm : X.mg x = none) (hv : bootBuiltins x = some (.type T)) (ha : XA X F (e :: es) u) (hn : x ≠ "__name__" := by decide) (hdb : (x == ("__debug__" : Str)) = false := by decide)
    (he : starEach (e :: es) X.env = (false, eval e X.env) :: starEach es X.env := by rfl) (hpl : (backTo pos (starEach es X.env)).any (·.1) = false := by rfl) : XR X F (.Call (.Name x p) (e :: es) [] pos) (wCB f u) :=
  ⟨wCB_mono hf ha.mono, pe_imp (pe_callTy hc hg hm hv ha.run hn hdb he hpl) (cb_run hf ha)⟩
/-- one argument -/
def f1 (g : SS → EV → (RV → Prop) → Prop) : FC := fun z xs k => ∃ x, xs = [x] ∧ g z x k
def f2 (g : SS → EV → EV → (RV → Prop) → Prop) : FC := fun z xs k => ∃ x y, xs = [x, y] ∧ g z x y k
theorem vc_1 {g : SS → EV → (RV → Prop) → Prop} (hm : ∀ z x k k', (∀ d, k d → k' d) → g z x k → g z x k')
    (h : ∀ {σ : St} {z : SS} {I H : Hp} {x : EV} {v : V} {Q : VK}, Ok X.K F z σ I H → EvOk X.K I σ x v → g z x (PostR X.K F z σ I H Q) → r [v] H Q) : VC X F r (f1 g) where
  mono := fun z xs k k' i ⟨x, e, q⟩ => ⟨x, e, hm _ _ _ _ i q⟩
  run := fun {σ z I H xs vs Q} ok ev ⟨x, e, q⟩ => by
    subst e
    cases ev with
    | cons e1 t =>
      cases t
      exact h ok e1 q
theorem vc_2 {g : SS → EV → EV → (RV → Prop) → Prop} (hm : ∀ z x y k k', (∀ d, k d → k' d) → g z x y k → g z x y k')
    (h : ∀ {σ : St} {z : SS} {I H : Hp} {x y : EV} {v w : V} {Q : VK}, Ok X.K F z σ I H → EvOk X.K I σ x v → EvOk X.K I σ y w → g z x y (PostR X.K F z σ I H Q) → r [v, w] H Q) : VC X F r (f2 g) where
  mono := fun z xs k k' i ⟨x, y, e, q⟩ => ⟨x, y, e, hm _ _ _ _ _ i q⟩
  run := fun {σ z I H xs vs Q} ok ev ⟨x, y, e, q⟩ => by
    subst e
    cases ev with
    | cons e1 t =>
      cases t with
      | cons e2 t =>
        cases t
        exact h ok e1 e2 q
/-- len -/
def sLen : SS → EV → (RV → Prop) → Prop := fun z x k => (∃ l, seqOf z x = some l ∧ k (.d (.int l.length))) ∨ (∃ t : Str, x = .d (.str t) ∧ t.length ≤ sizeLine ∧ k (.d (.int t.length))) ∨ (∃ l, x = .d (.dict [(.none, .list l)]) ∧ k (.d (.int l.length)))
theorem vc_len : VC X F (fun xs H Q => (∃ p ys, xs = [.ref p] ∧ (SqL X.K H p ys ∨ SqT X.K H p ys) ∧ Q (.int ys.length) H) ∨ (∃ z, xs = [.str z] ∧ z.length ≤ sizeLine ∧ Q (.int z.length) H)) (f1 sLen) :=
  vc_1 (fun z x k k' h w => by
    rcases w with ⟨l, e, q⟩ | ⟨t, e, l, q⟩ | ⟨l, e, q⟩
    · exact .inl ⟨l, e, h _ q⟩
    · exact .inr (.inl ⟨t, e, l, h _ q⟩)
    · exact .inr (.inr ⟨l, e, h _ q⟩)) fun {σ z I H x v Q} ok ev w => by
    rcases w with ⟨l, e, q⟩ | ⟨t, e, l, q⟩ | ⟨l, e, q⟩
    · obtain ⟨a, vs, rfl, hq, r⟩ := ok.seq ev e
      exact .inl ⟨a, vs, rfl, hq, by rw [r.length]; exact q.scal ok (.int _)⟩
    · subst e
      cases ev
      exact .inr ⟨t, rfl, l, q.scal ok (.int _)⟩
    · subst e
      cases ev with
      | scr hq r => exact .inl ⟨_, _, rfl, .inl (ok.sub.seq hq), by rw [r.length]; exact q.scal ok (.int _)⟩
theorem xe_len (hg : Gl X "len") (hm : X.mg "len" = none) (ha : XA X F [e] u) (he : starEach [e] X.env = (false, eval e X.env) :: starEach [] X.env := by rfl) : XE X F (.Call (.Name "len" p) [e] [] pos) (wFrz (wCB (f1 sLen) u)) :=
  (xr_callB (CallR.or call_len_seq call_len_str) vc_len hg hm PySem.boot_len ha (he := he)).xe
/-- abs, int, max, min of two ints -/
def sAbs : SS → EV → (RV → Prop) → Prop := fun z x k => ∃ i, x = .d (.int i) ∧ k (.d (.int (if i < 0 then -i else i)))
theorem vc_abs : VC X F (fun xs H Q => ∃ i, xs = [.int i] ∧ Q (.int (if i < 0 then -i else i)) H) (f1 sAbs) :=
  vc_1 (fun z x k k' h ⟨i, e, q⟩ => ⟨i, e, h _ q⟩) fun {σ z I H x v Q} ok ev ⟨i, e, q⟩ => by
    subst e
    cases ev
    exact ⟨i, rfl, q.scal ok (.int _)⟩
theorem xe_abs (hg : Gl X "abs") (hm : X.mg "abs" = none) (ha : XA X F [e] u) (he : starEach [e] X.env = (false, eval e X.env) :: starEach [] X.env := by rfl) : XE X F (.Call (.Name "abs" p) [e] [] pos) (wFrz (wCB (f1 sAbs) u)) :=
  (xr_callB call_abs vc_abs hg hm (by decide +kernel) ha (he := he)).xe
def sInt : SS → EV → (RV → Prop) → Prop := fun z x k => (∃ i, x = .d (.int i) ∧ k (.d (.int i))) ∨ ∃ b : Bool, x = .d (.bool b) ∧ k (.d (.int (if b then 1 else 0)))
theorem vc_int : VC X F (fun xs H Q => (∃ i, xs = [.int i] ∧ Q (.int i) H) ∨ ∃ k, xs = [.bl k] ∧ Q (.int (if k then 1 else 0)) H) (f1 sInt) :=
  vc_1 (fun z x k k' h w => w.elim (fun ⟨i, e, q⟩ => .inl ⟨i, e, h _ q⟩) fun ⟨b, e, q⟩ => .inr ⟨b, e, h _ q⟩) fun {σ z I H x v Q} ok ev w => by
    rcases w with ⟨i, e, q⟩ | ⟨b, e, q⟩
    · subst e
      cases ev
      exact .inl ⟨i, rfl, q.scal ok (.int _)⟩
    · subst e
      cases ev
      exact .inr ⟨b, rfl, q.scal ok (.int _)⟩
theorem xe_intc (hg : Gl X "int") (hm : X.mg "int" = none) (ha : XA X F [e] u) (he : starEach [e] X.env = (false, eval e X.env) :: starEach [] X.env := by rfl) : XE X F (.Call (.Name "int" p) [e] [] pos) (wFrz (wCB (f1 sInt) u)) :=
  (xr_callT call_int1 vc_int hg hm (by decide +kernel) ha (he := he)).xe
def sMax : SS → EV → EV → (RV → Prop) → Prop := fun z x y k => ∃ i j, x = .d (.int i) ∧ y = .d (.int j) ∧ k (.d (.int (if j > i then j else i)))
def sMin : SS → EV → EV → (RV → Prop) → Prop := fun z x y k => ∃ i j, x = .d (.int i) ∧ y = .d (.int j) ∧ k (.d (.int (if j < i then j else i)))
theorem vc_max : VC X F (fun xs H Q => ∃ i j, xs = [.int i, .int j] ∧ Q (.int (if j > i then j else i)) H) (f2 sMax) :=
  vc_2 (fun z x y k k' h ⟨i, j, e1, e2, q⟩ => ⟨i, j, e1, e2, h _ q⟩) fun {σ z I H x y v w Q} ok ev ew ⟨i, j, e1, e2, q⟩ => by
    subst e1 e2
    cases ev; cases ew
    exact ⟨i, j, rfl, q.scal ok (.int _)⟩
theorem vc_min : VC X F (fun xs H Q => ∃ i j, xs = [.int i, .int j] ∧ Q (.int (if j < i then j else i)) H) (f2 sMin) :=
  vc_2 (fun z x y k k' h ⟨i, j, e1, e2, q⟩ => ⟨i, j, e1, e2, h _ q⟩) fun {σ z I H x y v w Q} ok ev ew ⟨i, j, e1, e2, q⟩ => by
    subst e1 e2
    cases ev; cases ew
    exact ⟨i, j, rfl, q.scal ok (.int _)⟩
theorem xe_max2 {e' : Expr} (hc : X.calm = true) (hg : Gl X "max") (hm : X.mg "max" = none) (ha : XA X F [e, e'] u) (he : starEach [e, e'] X.env = (false, eval e X.env) :: starEach [e'] X.env := by rfl) (hpl : (backTo pos (starEach [e'] X.env)).any (·.1) = false := by rfl) :
    XE X F (.Call (.Name "max" p) [e, e'] [] pos) (wFrz (wCB (f2 sMax) u)) := (xr_callB (call_max2 hc) vc_max hg hm (by decide +kernel) ha (he := he) (hpl := hpl)).xe
theorem xe_min2 {e' : Expr} (hc : X.calm = true) (hg : Gl X "min") (hm : X.mg "min" = none) (ha : XA X F [e, e'] u) (he : starEach [e, e'] X.env = (false, eval e X.env) :: starEach [e'] X.env := by rfl) (hpl : (backTo pos (starEach [e'] X.env)).any (·.1) = false := by rfl) :
    XE X F (.Call (.Name "min" p) [e, e'] [] pos) (wFrz (wCB (f2 sMin) u)) := (xr_callB (call_min2 hc) vc_min hg hm (by decide +kernel) ha (he := he) (hpl := hpl)).xe
/-- sum of a list of ints; all, any of a list of bools -/
def sSum : SS → EV → (RV → Prop) → Prop := fun z x k => ∃ ns : List Int, lstOf z x = some (ns.map PyData.int) ∧ k (.d (.int ns.sum))
def sAll : SS → EV → (RV → Prop) → Prop := fun z x k => ∃ bs : List Bool, lstOf z x = some (bs.map PyData.bool) ∧ k (.d (.bool (bs.all id)))
def sAny : SS → EV → (RV → Prop) → Prop := fun z x k => ∃ bs : List Bool, lstOf z x = some (bs.map PyData.bool) ∧ k (.d (.bool (bs.any id)))
theorem vc_sum : VC X F (rSum X.K) (f1 sSum) :=
  vc_1 (fun z x k k' h ⟨ns, e, q⟩ => ⟨ns, e, h _ q⟩) fun {σ z I H x v Q} ok ev ⟨ns, e, q⟩ => by
    obtain ⟨a, vs, rfl, hq, r⟩ := ok.lst ev e
    rw [r.ints] at hq
    exact ⟨a, ns, rfl, SqL.of hq, q.scal ok (.int _)⟩
theorem vc_all : VC X F (rAll X.K) (f1 sAll) :=
  vc_1 (fun z x k k' h ⟨ns, e, q⟩ => ⟨ns, e, h _ q⟩) fun {σ z I H x v Q} ok ev ⟨ns, e, q⟩ => by
    obtain ⟨a, vs, rfl, hq, r⟩ := ok.lst ev e
    rw [r.bls] at hq
    exact ⟨a, ns, rfl, SqL.of hq, q.scal ok (.bl _)⟩
theorem vc_any : VC X F (rAny X.K) (f1 sAny) :=
  vc_1 (fun z x k k' h ⟨ns, e, q⟩ => ⟨ns, e, h _ q⟩) fun {σ z I H x v Q} ok ev ⟨ns, e, q⟩ => by
    obtain ⟨a, vs, rfl, hq, r⟩ := ok.lst ev e
    rw [r.bls] at hq
    exact ⟨a, ns, rfl, SqL.of hq, q.scal ok (.bl _)⟩
theorem xe_sum (hc : X.calm = true) (hg : Gl X "sum") (hm : X.mg "sum" = none) (ha : XA X F [e] u) (he : starEach [e] X.env = (false, eval e X.env) :: starEach [] X.env := by rfl) : XE X F (.Call (.Name "sum" p) [e] [] pos) (wFrz (wCB (f1 sSum) u)) := (xr_callB (cr_sum hc) vc_sum hg hm (by decide +kernel) ha (he := he)).xe
theorem xe_all (hc : X.calm = true) (hg : Gl X "all") (hm : X.mg "all" = none) (ha : XA X F [e] u) (he : starEach [e] X.env = (false, eval e X.env) :: starEach [] X.env := by rfl) : XE X F (.Call (.Name "all" p) [e] [] pos) (wFrz (wCB (f1 sAll) u)) := (xr_callB (cr_all hc) vc_all hg hm (by decide +kernel) ha (he := he)).xe
theorem xe_any (hc : X.calm = true) (hg : Gl X "any") (hm : X.mg "any" = none) (ha : XA X F [e] u) (he : starEach [e] X.env = (false, eval e X.env) :: starEach [] X.env := by rfl) : XE X F (.Call (.Name "any" p) [e] [] pos) (wFrz (wCB (f1 sAny) u)) := (xr_callB (cr_any hc) vc_any hg hm (by decide +kernel) ha (he := he)).xe
/-- list(xs), tuple(xs) of a list or a tuple (or of the script) -/
def sListOf : SS → EV → (RV → Prop) → Prop := fun z x k => (∃ l, seqOf z x = some l ∧ k (.n l)) ∨ (∃ l, x = .d (.dict [(.none, .list l)]) ∧ k (.n l))
theorem vc_list : VC X F (fun xs H Q => ∃ p ys, xs = [.ref p] ∧ (SqL X.K H p ys ∨ SqT X.K H p ys) ∧ ∀ l, H l = none → Q (.ref l) (upd H l (.lst ys))) (f1 sListOf) :=
  vc_1 (fun z x k k' h w => by
    rcases w with ⟨l, e, q⟩ | ⟨l, e, q⟩
    · exact .inl ⟨l, e, h _ q⟩
    · exact .inr ⟨l, e, h _ q⟩) fun {σ z I H x v Q} ok ev w => by
    rcases w with ⟨l, e, q⟩ | ⟨l, e, q⟩
    · obtain ⟨a, vs, rfl, hq, r⟩ := ok.seq ev e
      exact ⟨a, vs, rfl, hq, fun p hp => q.lst ok r hp⟩
    · subst e
      cases ev with
      | scr hq r => exact ⟨_, _, rfl, .inl (ok.sub.seq hq), fun p hp => q.lst ok r hp⟩
theorem xr_list (hg : Gl X "list") (hm : X.mg "list" = none) (ha : XA X F [e] u) (he : starEach [e] X.env = (false, eval e X.env) :: starEach [] X.env := by rfl) : XR X F (.Call (.Name "list" p) [e] [] pos) (wCB (f1 sListOf) u) := xr_callT call_list_of vc_list hg hm (by decide +kernel) ha (he := he)
def sTupOf : SS → EV → (RV → Prop) → Prop := fun z x k => ∃ l, seqOf z x = some l ∧ k (.d (.tuple l))
theorem vc_tup : VC X F (fun xs H Q => ∃ p ys, xs = [.ref p] ∧ ((SqL X.K H p ys ∧ ∀ l, H l = none → Q (.ref l) (upd H l (.tup ys))) ∨ (SqT X.K H p ys ∧ Q (.ref p) H))) (f1 sTupOf) :=
  vc_1 (fun z x k k' h ⟨l, e, q⟩ => ⟨l, e, h _ q⟩) fun {σ z I H x v Q} ok ev ⟨l, e, q⟩ => by
    cases hl : lstOf z x with
    | some m =>
      have em : m = l := by
        cases x with
        | d y => cases y <;> simp [lstOf, seqOf, evD] at hl e <;> exact hl.symm.trans e
        | o i =>
          unfold lstOf at hl; unfold seqOf evD at e
          simp only at hl e
          split at hl
          · rename_i h1; rw [h1] at e; simp at e hl; exact hl.symm.trans e
          · cases hl
      subst em
      obtain ⟨a, vs, rfl, hq, r⟩ := ok.lst ev hl
      exact ⟨a, vs, rfl, .inl ⟨SqL.of hq, fun p hp => q.tup ok r hp⟩⟩
    | none =>
      cases x with
      | d y =>
        cases y <;> simp [lstOf, seqOf, evD] at hl e
        subst e
        cases ev with
        | tup hq r => exact ⟨_, _, rfl, .inr ⟨same_tup ok.sub hq, q.scal ok (.tup hq r)⟩⟩
      | o i =>
        unfold lstOf at hl; unfold seqOf evD at e
        simp only at hl e
        split at hl
        · cases hl
        · rename_i h1
          split at e
          · rename_i h2; split at h2
            · rename_i h3; exact absurd h3 (h1 _ _)
            · cases h2
          · rename_i h2; split at h2
            · cases h2
            · cases h2
          · cases e
theorem xe_tuple (hg : Gl X "tuple") (hm : X.mg "tuple" = none) (ha : XA X F [e] u) (he : starEach [e] X.env = (false, eval e X.env) :: starEach [] X.env := by rfl) : XE X F (.Call (.Name "tuple" p) [e] [] pos) (wFrz (wCB (f1 sTupOf) u)) := (xr_callT call_tuple_of vc_tup hg hm (by decide +kernel) ha (he := he)).xe
/-- str of an int -/
def sStr : SS → EV → (RV → Prop) → Prop := fun z x k => ∃ i : Int, x = .d (.int i) ∧ i.natAbs.log2 < 1920 ∧ k (.d (.str (toString i)))
theorem vc_str : VC X F (fun xs H Q => ∃ i : Int, xs = [.int i] ∧ i.natAbs.log2 < 1920 ∧ Q (.str (toString i)) H) (f1 sStr) :=
  vc_1 (fun z x k k' h ⟨i, e, c, q⟩ => ⟨i, e, c, h _ q⟩) fun {σ z I H x v Q} ok ev ⟨i, e, c, q⟩ => by
    subst e
    cases ev
    exact ⟨i, rfl, c, q.scal ok (.str _)⟩
theorem xe_strc (hg : Gl X "str") (hm : X.mg "str" = none) (ha : XA X F [e] u) (he : starEach [e] X.env = (false, eval e X.env) :: starEach [] X.env := by rfl) : XE X F (.Call (.Name "str" p) [e] [] pos) (wFrz (wCB (f1 sStr) u)) := (xr_callT call_str_int vc_str hg hm (by decide +kernel) ha (he := he)).xe
end
/-! ### isinstance -/
def tyName : D → String
  | .none => "NoneType"
  | .bool _ => "bool"
  | .int _ => "int"
  | .str _ => "str"
  | .list _ => "list"
  | .tuple _ => "tuple"
  | .dict _ => "dict"
def isA (T : String) (d : D) : Bool := match d with
  | .none => false
  | .bool _ => T == "bool" || T == "int"
  | .int _ => T == "int"
  | .str _ => T == "str"
  | .list _ => T == "list"
  | .tuple _ => T == "tuple"
  | .dict _ => T == "dict"
def KitOk (T : String) : Prop := ∀ n ∈ ["NoneType", "bool", "int", "str", "list", "tuple", "dict"], kitB n T = some (match n with
  | "NoneType" => false | "bool" => T == "bool" || T == "int" | n => T == n)
instance : Decidable (KitOk T) := by unfold KitOk; infer_instance
theorem kit_d {T : String} (h : KitOk T) (d : D) : kitB (tyName d) T = some (isA T d) := by
  cases d <;> exact h _ (by simp [tyName])
theorem kit_int : KitOk "int" := by decide +kernel
theorem kit_bool : KitOk "bool" := by decide +kernel
theorem kit_str : KitOk "str" := by decide +kernel
theorem kit_list : KitOk "list" := by decide +kernel
theorem kit_tuple : KitOk "tuple" := by decide +kernel
theorem kit_dict : KitOk "dict" := by decide +kernel
theorem rp_ty {K : PySem.W.Frag} {H : Hp} {v : V} {d : D} (r : Rp K H v d) (hn : ∀ l, d ≠ .dict [(.none, l)]) : TyX K H v (.type (tyName d)) := by
  cases r with
  | non => exact .base .non
  | bl b => exact .base (.bl b)
  | int i => exact .base (.int i)
  | str x => exact .base (.str x)
  | lst e _ => exact .base (.lst e)
  | tup e _ =>
    rcases e with (e | ⟨o, e⟩) | ⟨o, its, n, e, c, _⟩
    · exact .base (.tup e)
    · exact .fTuple e
    · exact .kTuple e c
  | dct e => exact .base (.dK e)
  | scr e r => exact absurd rfl (hn _)
  | exc a => exact absurd rfl (hn _)
def wIsa (T : String) (t : WE) : WE := fun z R => t z fun x z1 => ∃ d, evD z1 x = some d ∧ (∀ l, d ≠ .dict [(.none, l)]) ∧ R (.d (.bool (isA T d))) z1
theorem xe_isa {X : Cx} {F : Fx} {pos p p2 : Pos} {e : Expr} {t : WE} {T : Str} {n : String} (hk : KitOk n) (hg : Gl X "isinstance") (hm : X.mg "isinstance" = none) (he : XE X F e t) (hT : Gl X T) (hTm : X.mg T = none) (hTv : bootBuiltins T = some (.type n))
    (h1 : starEach [e, .Name T p2] X.env = (false, eval e X.env) :: starEach [.Name T p2] X.env := by rfl) (hpl : (backTo pos (starEach [.Name T p2] X.env)).any (·.1) = false := by rfl) (hn : T ≠ "__name__" := by decide) (hd : (T == ("__debug__" : Str)) = false := by decide) :
    XE X F (.Call (.Name "isinstance" p) [e, .Name T p2] [] pos) (wIsa n t) where
  mono := fun z R R' k w => he.mono _ _ _ (fun x z1 ⟨d, e, n, q⟩ => ⟨d, e, n, k _ _ q⟩) w
  run := pe_imp (pe_callB call_isi hg hm (by decide +kernel) (pa_cons he.run (pa_cons (pe_bltn hT hTm hTv (show RelV (.ty n) (.type n) from rfl) hn hd) pa_nil) h1) (he := h1) (hpl := hpl)) fun σ H Q ⟨z, I, ok, w⟩ =>
    he.at ok w fun x z1 v I1 H1 ⟨d, e, hn, q⟩ o s ev => ⟨v, .ty n, .type (tyName d), .type n, isA n d, rfl, .ty n, rp_ty (o.ev ev e) hn, kit_ty (kit_d hk d), q _ I1 H1 o s (.bl _)⟩

/-! ### methods of built-in types -/
def tyE (T : String) (z : SS) (x : EV) : Prop := (T = "list" ∧ ∃ l, lstOf z x = some l) ∨ (T = "str" ∧ ∃ t, x = .d (.str t))
abbrev FM := SS → EV → List EV → (RV → SS → Prop) → Prop
structure VM (X : Cx) (F : Fx) (r : V → List V → Hp → VK → Prop) (f : FM) : Prop where
  mono : ∀ z x xs k k', (∀ d z', k d z' → k' d z') → f z x xs k → f z x xs k'
  run : ∀ {σ : St} {z : SS} {I H : Hp} {x : EV} {v : V} {xs : List EV} {vs : List V} {Q : VK}, Ok X.K F z σ I H → EvOk X.K I σ x v → Paired (EvOk X.K I σ) xs vs → f z x xs (PostX X.K F z σ I H Q) → r v vs H Q
def wBM (T : String) (f : FM) (t : WE) (u : WA) : WR := fun z R => t z fun x z1 => tyE T z1 x ∧ u z1 fun xs z2 => f z2 x xs R
def wBM0 (T : String) (f : FM) (t : WE) : WR := fun z R => t z fun x z1 => tyE T z1 x ∧ f z1 x [] R
theorem PostX.step {K : PySem.W.Frag} {F : Fx} {z z1 z' : SS} {σ : St} {I I1 H H1 : Hp} {Q : VK} {r : RV} (s : Step z σ I H z1 I1 H1) (k : PostX K F z σ I H Q r z') : PostX K F z1 σ I1 H1 Q r z' := by
  cases r with
  | d x => exact fun v I' H' o t r => k v I' H' o (s.trans t) r
  | n l => exact fun a I' H' o t n => k a I' H' o (s.trans t) (n.back s)
section
variable {X : Cx} {F : Fx} {pos apos : Pos} {o e : Expr} {es : List Expr} {t : WE} {u : WA} {f : FM} {r : V → List V → Hp → VK → Prop} {id T : String} {name : Str}
theorem tyE_ok {z : SS} {σ : St} {I H : Hp} {x : EV} {v : V} (ok : Ok X.K F z σ I H) (ev : EvOk X.K I σ x v) (h : tyE T z x) : tyV X.K T v H := by
  rcases h with ⟨rfl, l, e⟩ | ⟨rfl, s, e⟩
  · obtain ⟨a, vs, rfl, hq, _⟩ := ok.lst ev e
    exact .inl ⟨rfl, vs, SqL.of hq⟩
  · subst e
    cases ev
    exact rfl
theorem xr_bm0 (pa : PlainAttrs T) (slot : Slot T name id) (hty : typeOf (.builtin id) = pure (.type "method_descriptor")) (hm : MtR X id r) (hf : VM X F r f) (ho : XE X F o t)
    (hbase : attributeBase o name X.env (eval o X.env) = eval o X.env := by rfl) (hline : (apos.endLine == pos.line) = true := by rfl) : XR X F (.Call (.Attribute o name apos) [] [] pos) (wBM0 T f t) :=
  ⟨fun z R R' k w => ho.mono _ _ _ (fun x z1 ⟨ty, q⟩ => ⟨ty, hf.mono _ _ _ _ _ k q⟩) w, pe_imp (pe_bm0 pa slot hty hm ho.run hbase hline) fun σ H Q ⟨z, I, ok, w⟩ =>
    ho.at ok w fun x z1 v I1 H1 ⟨ty, q⟩ o s ev => ⟨tyE_ok o ev ty, hf.run o ev .nil (hf.mono _ _ _ _ _ (fun d z' q => PostX.step s q) q)⟩⟩
theorem xr_bm (pa : PlainAttrs T) (slot : Slot T name id) (hty : typeOf (.builtin id) = pure (.type "method_descriptor")) (hm : MtR X id r) (hf : VM X F r f) (ho : XE X F o t) (ha : XA X F (e :: es) u)
    (hbase : attributeBase o name X.env (eval o X.env) = eval o X.env := by rfl) (hfew : ((backTo pos (starEach (e :: es) X.env)).all (fun x => !x.1) && (backToKw pos (keywordEach [] X.env)).all (fun x => x.1.isSome) && decide ((e :: es).length + ([] : List Keyword).length + (if ([] : List Keyword).isEmpty then 0 else 1) < 30)) = true := by rfl)
    (hline : (apos.endLine == pos.line) = true := by rfl) (hs : starEach (e :: es) X.env = (false, eval e X.env) :: starEach es X.env := by rfl) (hplain : (backTo pos (starEach es X.env)).any (·.1) = false := by rfl) :
    XR X F (.Call (.Attribute o name apos) (e :: es) [] pos) (wBM T f t u) :=
  ⟨fun z R R' k w => ho.mono _ _ _ (fun x z1 ⟨ty, q⟩ => ⟨ty, ha.mono _ _ _ (fun xs z2 q => hf.mono _ _ _ _ _ k q) q⟩) w, pe_imp (pe_bm pa slot hty hm ho.run ha.run hbase hfew hline hs hplain) fun σ H Q ⟨z, I, ok, w⟩ =>
    ho.at ok w fun x z1 v I1 H1 ⟨ty, q⟩ o s ev => ⟨tyE_ok o ev ty, ha.at o q fun xs z2 vs I2 H2 q o2 s2 evs => hf.run o2 (ev.mono s2.imm) evs (hf.mono _ _ _ _ _ (fun d z' q => PostX.step (s.trans s2) q) q)⟩⟩
end
/-- the own list of a slot is changed -/
theorem Ok.mutate {K : PySem.W.Frag} {F : Fx} {z : SS} {σ : St} {I H : Hp} {i : Nat} {b : Option Nat} {l l' : List D} {a : Addr} {vs : List V} (ok : Ok K F z σ I H) (h : z[i]? = some (some (.own b l))) (ha : σ[i]? = some (some (.ref a))) (r : RpA K I vs l') :
    Ok K F (z.set i (some (.own b l'))) σ I (upd H a (.lst vs)) ∧ Step z σ I H (z.set i (some (.own b l'))) I (upd H a (.lst vs)) := by
  obtain ⟨a', ws, e1, e2, e3, r0, tg⟩ := ok.own i b l h
  rw [ha] at e1; cases e1
  have hlt : i < z.length := (List.getElem?_eq_some_iff.mp h).1
  have gs : ∀ (j : Nat) (x : Option S), (z.set i (some (.own b l')))[j]? = some x → (j = i ∧ x = some (.own b l')) ∨ (j ≠ i ∧ z[j]? = some x) := fun j x e => by
    by_cases hj : j = i
    · subst hj; rw [List.getElem?_set_self hlt] at e; exact .inl ⟨rfl, (Option.some.inj e).symm⟩
    · rw [List.getElem?_set_ne (Ne.symm hj)] at e; exact .inr ⟨hj, e⟩
  refine ⟨⟨by rw [List.length_set]; exact ok.len, fun j d e => ?_, fun j b' m e => ?_, fun j k b1 b2 m1 m2 c e f g1 g2 => ?_, fun c o e => ?_, ok.base, ok.new, fun c o e hw => ?_, fun c hw => ?_⟩, fun _ _ e => e, fun _ _ e => .inl e, fun c o e hn => ?_, fun j b' m e => ?_, fun c e => ?_⟩
  · rcases gs j _ e with ⟨_, q⟩ | ⟨_, q⟩
    · cases q
    · exact ok.val j d q
  · rcases gs j _ e with ⟨rfl, q⟩ | ⟨hj, q⟩
    · cases q
      exact ⟨a, vs, ha, upd_same, e3, r, tg⟩
    · obtain ⟨c, us, f1, f2, f3, f4, f5⟩ := ok.own j b' m q
      refine ⟨c, us, f1, ?_, f3, f4, f5⟩
      rw [upd_ne]; exact f2
      rintro rfl
      exact hj (ok.dis _ _ _ _ _ _ _ q h f1 ha)
  · have back : ∀ (j : Nat) (b' : Option Nat) (m : List D), (z.set i (some (.own b l')))[j]? = some (some (.own b' m)) → ∃ b2 m2, z[j]? = some (some (.own b2 m2)) := fun j b' m e => by
      rcases gs j _ e with ⟨rfl, q⟩ | ⟨_, q⟩
      · exact ⟨b, l, h⟩
      · exact ⟨b', m, q⟩
    obtain ⟨_, _, q1⟩ := back j _ _ e
    obtain ⟨_, _, q2⟩ := back k _ _ f
    exact ok.dis j k _ _ _ _ c q1 q2 g1 g2
  · have ne : c ≠ a := fun q => by subst q; rw [e3] at e; cases e
    rw [upd_ne ne]; exact ok.sub c o e
  · have ne : c ≠ a := fun q => by
      subst q
      unfold Tag at tg
      cases b with
      | some k => exact hw (List.mem_of_getElem? tg)
      | none => simp only at tg; rw [tg] at e; cases e
    rw [upd_ne ne]; exact ok.keep c o e hw
  · obtain ⟨f1, f2, us, f3⟩ := ok.wf c hw
    refine ⟨f1, f2, ?_⟩
    by_cases q : c = a
    · subst q; exact ⟨vs, upd_same⟩
    · exact ⟨us, by rw [upd_ne q]; exact f3⟩
  · have ne : c ≠ a := fun q => hn ⟨i, b, l, h, by rw [ha, q]⟩
    rw [upd_ne ne]; exact e
  · rcases gs j _ e with ⟨rfl, q⟩ | ⟨_, q⟩
    · cases q; exact ⟨l, h⟩
    · exact ⟨m, q⟩
  · by_cases q : c = a
    · subst q; rw [upd_same] at e; cases e
    · rw [upd_ne q] at e; exact e
def mAppend : FM := fun z x xs k => ∃ i b l d, x = .o i ∧ xs = [.d d] ∧ z[i]? = some (some (.own b l)) ∧ l.length < sizeLine ∧ k (.d .none) (z.set i (some (.own b (l ++ [d]))))
def mExtend : FM := fun z x xs k => ∃ i b l y m, x = .o i ∧ xs = [y] ∧ z[i]? = some (some (.own b l)) ∧ lstOf z y = some m ∧ l.length + m.length ≤ sizeLine ∧ k (.d .none) (z.set i (some (.own b (l ++ m))))
def mPop : FM := fun z x xs k => ∃ i b l d, x = .o i ∧ xs = [] ∧ z[i]? = some (some (.own b l)) ∧ l[l.length - 1]? = some d ∧ k (.d d) (z.set i (some (.own b l.dropLast)))
section
variable {X : Cx} {F : Fx}
theorem vm_append : VM X F rAppend mAppend where
  mono := fun z x xs k k' h ⟨i, b, l, d, e1, e2, e3, e4, q⟩ => ⟨i, b, l, d, e1, e2, e3, e4, h _ _ q⟩
  run := fun {σ z I H x v xs vs Q} ok ev evs ⟨i, b, l, d, e1, e2, e3, e4, q⟩ => by
    subst e1 e2
    cases evs with
    | cons e5 t =>
      cases t
      obtain ⟨a, ws, f1, f2, f3, r, tg⟩ := ok.own i b l e3
      rw [show σ[i]? = some (some v) from ev] at f1; cases f1
      obtain ⟨o2, s2⟩ := ok.mutate e3 ev (r.append (.cons (show Rp X.K I _ d from e5) .nil))
      exact ⟨a, ws, _, rfl, rfl, f2, by rw [r.length]; exact e4, q _ _ _ o2 s2 .non⟩
theorem vm_extend : VM X F rExtend mExtend where
  mono := fun z x xs k k' h ⟨i, b, l, y, m, e1, e2, e3, e4, e5, q⟩ => ⟨i, b, l, y, m, e1, e2, e3, e4, e5, h _ _ q⟩
  run := fun {σ z I H x v xs vs Q} ok ev evs ⟨i, b, l, y, m, e1, e2, e3, e4, e5, q⟩ => by
    subst e1 e2
    cases evs with
    | cons e6 t =>
      cases t
      obtain ⟨a, ws, f1, f2, f3, r, tg⟩ := ok.own i b l e3
      rw [show σ[i]? = some (some v) from ev] at f1; cases f1
      obtain ⟨c, us, rfl, g2, r2⟩ := ok.lst e6 e4
      obtain ⟨o2, s2⟩ := ok.mutate e3 ev (r.append r2)
      exact ⟨a, c, ws, us, rfl, rfl, f2, g2, by rw [r.length, r2.length]; exact e5, q _ _ _ o2 s2 .non⟩
theorem vm_pop : VM X F rPop mPop where
  mono := fun z x xs k k' h ⟨i, b, l, d, e1, e2, e3, e4, q⟩ => ⟨i, b, l, d, e1, e2, e3, e4, h _ _ q⟩
  run := fun {σ z I H x v xs vs Q} ok ev evs ⟨i, b, l, d, e1, e2, e3, e4, q⟩ => by
    subst e1 e2
    cases evs
    obtain ⟨a, ws, f1, f2, f3, r, tg⟩ := ok.own i b l e3
    rw [show σ[i]? = some (some v) from ev] at f1; cases f1
    obtain ⟨o2, s2⟩ := ok.mutate e3 ev r.dropLast
    obtain ⟨y, g1, g2⟩ := r.get e4
    exact ⟨a, ws, y, rfl, rfl, f2, by rw [r.length]; exact g1, q _ _ _ o2 s2 g2⟩
variable {pos apos : Pos} {o e : Expr} {t : WE} {u : WA}
theorem xr_append (ho : XE X F o t) (ha : XA X F [e] u) (hbase : attributeBase o "append" X.env (eval o X.env) = eval o X.env := by rfl) (hfew : ((backTo pos (starEach [e] X.env)).all (fun x => !x.1) && (backToKw pos (keywordEach [] X.env)).all (fun x => x.1.isSome)
      && decide ([e].length + ([] : List Keyword).length + (if ([] : List Keyword).isEmpty then 0 else 1) < 30)) = true := by rfl) (hline : (apos.endLine == pos.line) = true := by rfl) (hs : starEach [e] X.env = (false, eval e X.env) :: starEach [] X.env := by rfl) : XR X F (.Call (.Attribute o "append" apos) [e] [] pos) (wBM "list" mAppend t u) :=
  xr_bm PySem.F.plainAttrs_list PySem.F.slot_list_append PySem.F.type_list_append mt_append vm_append ho ha (hbase := hbase) (hfew := hfew) (hline := hline) (hs := hs)
theorem xr_extend (ho : XE X F o t) (ha : XA X F [e] u) (hbase : attributeBase o "extend" X.env (eval o X.env) = eval o X.env := by rfl) (hfew : ((backTo pos (starEach [e] X.env)).all (fun x => !x.1) && (backToKw pos (keywordEach [] X.env)).all (fun x => x.1.isSome)
      && decide ([e].length + ([] : List Keyword).length + (if ([] : List Keyword).isEmpty then 0 else 1) < 30)) = true := by rfl) (hline : (apos.endLine == pos.line) = true := by rfl) (hs : starEach [e] X.env = (false, eval e X.env) :: starEach [] X.env := by rfl) : XR X F (.Call (.Attribute o "extend" apos) [e] [] pos) (wBM "list" mExtend t u) :=
  xr_bm PySem.F.plainAttrs_list PySem.F.slot_list_extend PySem.F.type_list_extend mt_extend vm_extend ho ha (hbase := hbase) (hfew := hfew) (hline := hline) (hs := hs)
theorem xr_pop (ho : XE X F o t) (hbase : attributeBase o "pop" X.env (eval o X.env) = eval o X.env := by rfl) (hline : (apos.endLine == pos.line) = true := by rfl) : XR X F (.Call (.Attribute o "pop" apos) [] [] pos) (wBM0 "list" mPop t) :=
  xr_bm0 PySem.F.plainAttrs_list PySem.F.slot_list_pop PySem.F.type_list_pop mt_pop vm_pop ho hbase hline
end
end L3
namespace L3
open PySem PySem.Spec PyProof.Rows L2 PySem.SeqAt

/-! ### slots changed -/
section
variable {K : PySem.W.Frag} {F : Fx} {z : SS} {σ : St} {I H : Hp}
theorem get_set {α : Type} {l : List α} {i j : Nat} {x y : α} (h : (l.set i x)[j]? = some y) : (j = i ∧ y = x ∧ i < l.length) ∨ (j ≠ i ∧ l[j]? = some y) := by
  by_cases hj : j = i
  · subst hj
    by_cases hl : j < l.length
    · rw [List.getElem?_set_self hl] at h; exact .inl ⟨rfl, (Option.some.inj h).symm, hl⟩
    · rw [List.getElem?_eq_none (by rw [List.length_set]; omega)] at h; cases h
  · rw [List.getElem?_set_ne (Ne.symm hj)] at h; exact .inr ⟨hj, h⟩
/-- a slot is given a datum -/
theorem Ok.set (ok : Ok K F z σ I H) {i : Nat} {v : V} {d : D} (r : Rp K I v d) : Ok K F (z.set i (some (.val d))) (σ.set i (some v)) I H := by
  refine ⟨by simp [ok.len], fun j x e => ?_, fun j b l e => ?_, fun j k b b' l l' a e f g h => ?_, ok.sub, ok.base, ok.new, ok.keep, ok.wf⟩
  · rcases get_set e with ⟨rfl, q, hl⟩ | ⟨hj, q⟩
    · cases q
      exact ⟨v, by rw [List.getElem?_set_self (by rw [← ok.len]; exact hl)], r⟩
    · obtain ⟨w, e2, r2⟩ := ok.val j x q
      exact ⟨w, by rw [List.getElem?_set_ne (Ne.symm hj)]; exact e2, r2⟩
  · rcases get_set e with ⟨rfl, q, hl⟩ | ⟨hj, q⟩
    · cases q
    · obtain ⟨a, vs, e2, r2⟩ := ok.own j b l q
      exact ⟨a, vs, by rw [List.getElem?_set_ne (Ne.symm hj)]; exact e2, r2⟩
  · rcases get_set e with ⟨rfl, q, hl⟩ | ⟨hj, q⟩
    · cases q
    rcases get_set f with ⟨rfl, q', hl⟩ | ⟨hk, q'⟩
    · cases q'
    rw [List.getElem?_set_ne (Ne.symm hj)] at g
    rw [List.getElem?_set_ne (Ne.symm hk)] at h
    exact ok.dis j k b b' l l' a q q' g h
/-- a slot is forgotten -/
theorem Ok.kill (ok : Ok K F z σ I H) (i : Nat) : Ok K F (z.set i none) σ I H := by
  have back : ∀ (j : Nat) (x : S), (z.set i none)[j]? = some (some x) → z[j]? = some (some x) := fun j x e => by
    rcases get_set e with ⟨rfl, q, hl⟩ | ⟨hj, q⟩
    · cases q
    · exact q
  exact ⟨by simp [ok.len], fun j x e => ok.val j x (back _ _ e), fun j b l e => ok.own j b l (back _ _ e), fun j k b b' l l' a e f g h => ok.dis j k b b' l l' a (back _ _ e) (back _ _ f) g h, ok.sub, ok.base, ok.new, ok.keep, ok.wf⟩
/-- the same slots, other places: those that z does not know may be anything -/
theorem Ok.slots {σ' : St} (ok : Ok K F z σ I H) (hl : σ'.length = σ.length) (h : ∀ (i : Nat) (s : S), z[i]? = some (some s) → σ'[i]? = σ[i]?) : Ok K F z σ' I H := by
  refine ⟨by rw [ok.len, hl], fun j x e => ?_, fun j b l e => ?_, fun j k b b' l l' a e f g g' => ?_, ok.sub, ok.base, ok.new, ok.keep, ok.wf⟩
  · rw [h j _ e]; exact ok.val j x e
  · rw [h j _ e]; exact ok.own j b l e
  · rw [h j _ e] at g; rw [h k _ f] at g'
    exact ok.dis j k b b' l l' a e f g g'
/-- a slot is given a new list of its own -/
theorem Ok.setOwn (ok : Ok K F z σ I H) {i : Nat} {a : Addr} {vs : List V} {l : List D} (ha : H a = some (.lst vs)) (r : RpA K I vs l) (hi : I a = none) (h0 : F.H0 a = none) (hn : ¬ IsOwn z σ a) : Ok K F (z.set i (some (.own none l))) (σ.set i (some (.ref a))) I H := by
  refine ⟨by simp [ok.len], fun j x e => ?_, fun j b m e => ?_, fun j k b b' m m' c e f g h => ?_, ok.sub, ok.base, ok.new, ok.keep, ok.wf⟩
  · rcases get_set e with ⟨rfl, q, hl⟩ | ⟨hj, q⟩
    · cases q
    · obtain ⟨w, e2, r2⟩ := ok.val j x q
      exact ⟨w, by rw [List.getElem?_set_ne (Ne.symm hj)]; exact e2, r2⟩
  · rcases get_set e with ⟨rfl, q, hl⟩ | ⟨hj, q⟩
    · cases q
      exact ⟨a, vs, by rw [List.getElem?_set_self (by rw [← ok.len]; exact hl)], ha, hi, r, h0⟩
    · obtain ⟨c, ws, e2, r2⟩ := ok.own j b m q
      exact ⟨c, ws, by rw [List.getElem?_set_ne (Ne.symm hj)]; exact e2, r2⟩
  · rcases get_set e with ⟨rfl, q, hl⟩ | ⟨hj, q⟩
    · rcases get_set f with ⟨rfl, q', hl'⟩ | ⟨hk, q'⟩
      · rfl
      · rw [List.getElem?_set_self (by rw [← ok.len]; exact hl)] at g
        rw [List.getElem?_set_ne (Ne.symm hk)] at h
        cases g
        exact absurd ⟨k, _, _, q', h⟩ hn
    · rw [List.getElem?_set_ne (Ne.symm hj)] at g
      rcases get_set f with ⟨rfl, q', hl'⟩ | ⟨hk, q'⟩
      · rw [List.getElem?_set_self (by rw [← ok.len]; exact hl')] at h
        cases h
        exact absurd ⟨j, _, _, q, g⟩ hn
      · rw [List.getElem?_set_ne (Ne.symm hk)] at h
        exact ok.dis j k b b' m m' c q q' g h
end

/-! ### statements -/
structure En where
  nx : SS → Prop
  rt : RV → SS → Prop
  bk : SS → Prop := fun _ => False
  ct : SS → Prop := fun _ => False
structure En.le (E E' : En) : Prop where
  nx : ∀ z, E.nx z → E'.nx z
  rt : ∀ r z, E.rt r z → E'.rt r z
  bk : ∀ z, E.bk z → E'.bk z
  ct : ∀ z, E.ct z → E'.ct z
abbrev WS := En → SS → Prop
def MonoS (t : WS) : Prop := ∀ E E' z, E.le E' → t E z → t E' z
/-- a new list that goes out -/
structure Out (K : PySem.W.Frag) (F : Fx) (z : SS) (σ : St) (I H : Hp) (a : Addr) (l : List D) : Prop where
  at_ : ∃ vs, H a = some (.lst vs) ∧ RpA K I vs l
  imm : I a = none
  h0 : F.H0 a = none
  nown : ¬ IsOwn z σ a
def RtOf (K : PySem.W.Frag) (F : Fx) (I : Hp) (Q : VK) : RV → SS → Prop
  | .d d, z => ∀ v σ I' H, Ok K F z σ I' H → Same I I' → Rp K I' v d → Q v H
  | .n l, z => ∀ a σ I' H, Ok K F z σ I' H → Same I I' → Out K F z σ I' H a l → Q (.ref a) H
def NxOf (K : PySem.W.Frag) (F : Fx) (I : Hp) (Q : St → Hp → Prop) : SS → Prop := fun z => ∀ σ I' H, Ok K F z σ I' H → Same I I' → Q σ H
def endsOf (K : PySem.W.Frag) (F : Fx) (I : Hp) (D : Ends) : En := ⟨NxOf K F I D.nx, RtOf K F I D.rt, NxOf K F I D.bk, NxOf K F I D.ct⟩
def liftS (K : PySem.W.Frag) (F : Fx) (t : WS) : TS := fun D σ H => ∃ z I, Ok K F z σ I H ∧ t (endsOf K F I D) z
structure XS (X : Cx) (F : Fx) (st : Stmt) (t : WS) : Prop where
  mono : MonoS t
  run : PS X st (liftS X.K F t)
structure XSs (X : Cx) (F : Fx) (st : List Stmt) (t : WS) : Prop where
  mono : MonoS t
  run : PSs X st (liftS X.K F t)
theorem ps_imp {X : Cx} {e : Stmt} {t t' : TS} (h : PS X e t) (i : ∀ D σ H, t' D σ H → t D σ H) : PS X e t' := ⟨fun pins s σ H D I q => h.run pins s σ H D I (i D σ H q)⟩
theorem pss_imp {X : Cx} {e : List Stmt} {t t' : TS} (h : PSs X e t) (i : ∀ D σ H, t' D σ H → t D σ H) : PSs X e t' := ⟨fun pins s σ H D I q => h.run pins s σ H D I (i D σ H q)⟩
section
variable {K : PySem.W.Frag} {F : Fx} {I I' : Hp}
theorem NxOf.later {Q : St → Hp → Prop} {z : SS} (s : Same I I') (h : NxOf K F I Q z) : NxOf K F I' Q z := fun σ I2 H ok t => h σ I2 H ok (s.trans t)
theorem RtOf.later {Q : VK} {r : RV} {z : SS} (s : Same I I') (h : RtOf K F I Q r z) : RtOf K F I' Q r z := by
  cases r with
  | d x => exact fun v σ I2 H ok t r => h v σ I2 H ok (s.trans t) r
  | n l => exact fun a σ I2 H ok t o => h a σ I2 H ok (s.trans t) o
theorem endsOf.later {D : Ends} (s : Same I I') : (endsOf K F I D).le (endsOf K F I' D) := ⟨fun _ h => h.later s, fun _ _ h => h.later s, fun _ h => h.later s, fun _ h => h.later s⟩
theorem En.le.refl {E : En} : E.le E := ⟨fun _ h => h, fun _ _ h => h, fun _ h => h, fun _ h => h⟩
end
section
variable {X : Cx} {F : Fx} {st : Stmt} {rest : List Stmt} {t u : WS} {pos : Pos} {e : Expr} {te : WE} {tr : WR}
theorem XS.at {z : SS} {σ : St} {I I0 H : Hp} {E : En} {D : Ends} (h : XS X F st t) (ok : Ok X.K F z σ I H) (w : t E z) (le : E.le (endsOf X.K F I D)) : liftS X.K F t D σ H := ⟨z, I, ok, h.mono _ _ _ le w⟩
def wNext : WS := fun E z => E.nx z
def wSeq (t u : WS) : WS := fun E z => t { E with nx := fun z' => u E z' } z
theorem xss_nil : XSs X F [] wNext := ⟨fun E E' z l w => l.nx z w, pss_imp pss_nil fun D σ H ⟨z, I, ok, w⟩ => w σ I H ok (Same.refl _)⟩
theorem xss_one (h : XS X F st t) : XSs X F [st] t := ⟨h.mono, pss_imp (pss_one h.run) fun D σ H w => w⟩
theorem xss_cons (h : XS X F st t) (g : XSs X F rest u) : XSs X F (st :: rest) (wSeq t u) :=
  ⟨fun E E' z l w => h.mono { E with nx := fun z' => u E z' } _ _ ⟨fun z' w => g.mono _ _ _ l w, l.rt, l.bk, l.ct⟩ w, pss_imp (pss_cons h.run g.run) fun D σ H ⟨z, I, ok, w⟩ =>
    ⟨z, I, ok, h.mono { endsOf X.K F I D with nx := fun z' => u (endsOf X.K F I D) z' } _ _ ⟨fun z' w σ' I' H' ok' s => ⟨z', I', ok', g.mono _ _ _ (endsOf.later s) w⟩, fun _ _ q => q, fun _ q => q, fun _ q => q⟩ w⟩⟩
theorem xs_pass : XS X F (.Pass pos) wNext := ⟨fun E E' z l w => l.nx z w, ps_imp ps_pass fun D σ H ⟨z, I, ok, w⟩ => w σ I H ok (Same.refl _)⟩
theorem xs_break : XS X F (.Break pos) (fun E z => E.bk z) := ⟨fun E E' z l w => l.bk z w, ps_imp ps_break fun D σ H ⟨z, I, ok, w⟩ => w σ I H ok (Same.refl _)⟩
theorem xs_continue : XS X F (.Continue pos) (fun E z => E.ct z) := ⟨fun E E' z l w => l.ct z w, ps_imp ps_continue fun D σ H ⟨z, I, ok, w⟩ => w σ I H ok (Same.refl _)⟩
theorem xs_never : XS X F st (fun _ _ => False) := ⟨fun _ _ _ _ w => w, ps_imp ps_never fun D σ H ⟨z, I, ok, w⟩ => w⟩
/-- slots forgotten behind a statement -/
def killAll : List Nat → SS → SS
  | [], z => z
  | i :: r, z => killAll r (z.set i none)
theorem Ok.killAll {K : PySem.W.Frag} {σ : St} {I H : Hp} : ∀ {is : List Nat} {z : SS}, Ok K F z σ I H → Ok K F (killAll is z) σ I H
  | [], _, ok => ok
  | i :: r, _, ok => Ok.killAll (is := r) (ok.kill i)
def wKill (is : List Nat) (t : WS) : WS := fun E z => t { E with nx := fun z' => E.nx (killAll is z'), ct := fun z' => E.ct (killAll is z') } z
theorem NxOf.kill {K : PySem.W.Frag} {I : Hp} {Q : St → Hp → Prop} {is : List Nat} {z : SS} (h : NxOf K F I Q (killAll is z)) : NxOf K F I Q z := fun σ I' H ok s => h σ I' H ok.killAll s
theorem xss_kill (is : List Nat) (h : XSs X F rest t) : XSs X F rest (wKill is t) :=
  ⟨fun E E' z l w => h.mono { E with nx := fun z' => E.nx (killAll is z'), ct := fun z' => E.ct (killAll is z') } _ _ ⟨fun z' q => l.nx _ q, l.rt, l.bk, fun z' q => l.ct _ q⟩ w, pss_imp h.run fun D σ H ⟨z, I, ok, w⟩ =>
    ⟨z, I, ok, h.mono { endsOf X.K F I D with nx := fun z' => (endsOf X.K F I D).nx (killAll is z'), ct := fun z' => (endsOf X.K F I D).ct (killAll is z') } _ _ ⟨fun z' q => q.kill, fun _ _ q => q, fun _ q => q, fun z' q => q.kill⟩ w⟩⟩
/-- an own list becomes a datum -/
def frzS (i : Nat) (z : SS) : Option SS := match z[i]? with
  | some (some (.own none l)) => some (z.set i (some (.val (.list l))))
  | _ => none
theorem Ok.frzS {K : PySem.W.Frag} {σ : St} {I H : Hp} {i : Nat} {z z' : SS} (ok : Ok K F z σ I H) (h : frzS i z = some z') : ∃ I', Ok K F z' σ I' H ∧ Same I I' := by
  unfold L3.frzS at h
  split at h
  · rename_i l e
    cases h
    obtain ⟨a, vs, e1, e2, e3, r, tg⟩ := ok.own i none l e
    have k := ok.kill i
    have hn : ¬ IsOwn (z.set i none) σ a := fun ⟨j, b, m, f1, f2⟩ => by
      rcases get_set f1 with ⟨rfl, q, hl⟩ | ⟨hj, q⟩
      · cases q
      · exact hj (ok.dis _ _ _ _ _ _ _ q e f2 e1)
    have k2 := k.freezeAt e2 e3 tg hn
    have si := same_upd (o := HO.lst vs) e3
    have k3 := k2.set (i := i) (v := .ref a) (d := .list l) (.lst upd_same (r.mono si))
    rw [List.set_set] at k3
    have hs : σ.set i (some (.ref a)) = σ := by
      apply List.ext_getElem?
      intro j
      by_cases hj : j = i
      · subst hj
        rw [List.getElem?_set_self (List.getElem?_eq_some_iff.mp e1).1, e1]
      · rw [List.getElem?_set_ne (Ne.symm hj)]
    rw [hs] at k3
    exact ⟨_, k3, si⟩
  · cases h
def wFreeze (i : Nat) (t : WS) : WS := fun E z => ∃ z', frzS i z = some z' ∧ t E z'
theorem xs_freeze (i : Nat) (h : XS X F st t) : XS X F st (wFreeze i t) :=
  ⟨fun E E' z l ⟨z', e, w⟩ => ⟨z', e, h.mono _ _ _ l w⟩, ps_imp h.run fun D σ H ⟨z, I, ok, z', e, w⟩ => by
    obtain ⟨I', ok', s⟩ := ok.frzS e
    exact ⟨z', I', ok', h.mono _ _ _ (endsOf.later s) w⟩⟩
/-- expressions as statements; return -/
def wDrop (t : WE) : WS := fun E z => t z fun _ z' => E.nx z'
theorem xs_expr (h : XE X F e te) (hs : swapsWith e none pos.line X.env = pure false := by rfl) : XS X F (.Expr e pos) (wDrop te) :=
  ⟨fun E E' z l w => h.mono _ _ _ (fun _ _ q => l.nx _ q) w, ps_imp (ps_expr h.run hs) fun D σ H ⟨z, I, ok, w⟩ => h.at ok w fun _ z' v I' H' q o s _ => q σ I' H' o s.imm⟩
def wRet (t : WE) : WS := fun E z => t z fun ev z' => ∃ d, ev = .d d ∧ E.rt (.d d) z'
theorem xs_ret (h : XE X F e te) : XS X F (.Return (some e) pos) (wRet te) :=
  ⟨fun E E' z l w => h.mono _ _ _ (fun _ _ ⟨d, e, q⟩ => ⟨d, e, l.rt _ _ q⟩) w, ps_imp (ps_ret h.run) fun D σ H ⟨z, I, ok, w⟩ => h.at ok w fun ev z' v I' H' ⟨d, e, q⟩ o s r => by
    subst e
    exact q v σ I' H' o s.imm r⟩
def wRetR (t : WR) : WS := fun E z => t z fun r z' => E.rt r z'
theorem xs_retR (h : XR X F e tr) : XS X F (.Return (some e) pos) (wRetR tr) :=
  ⟨fun E E' z l w => h.mono _ _ _ (fun _ _ q => l.rt _ _ q) w, ps_imp (ps_ret h.run) fun D σ H ⟨z, I, ok, w⟩ => ⟨z, I, ok, h.mono _ _ _ (fun r z' q => by
    cases r with
    | d x => exact fun v I' H' o s r => q v σ I' H' o s.imm r
    | n l => exact fun a I' H' o s n => q a σ I' H' o s.imm ⟨n.at_, n.imm, n.h0, n.nown⟩) w⟩⟩
/-- return of an own list: it goes out -/
def wRetO (i : Nat) : WS := fun E z => ∃ l, z[i]? = some (some (.own none l)) ∧ E.rt (.n l) (z.set i none)
theorem xs_retO (i : Nat) {x : Str} {p : Pos} (hN : X.N[i]? = some x := by rfl) (hv : Vis X.env.scope x := by first | exact Or.inl rfl | exact Or.inr (Or.inl rfl) | exact Or.inr (Or.inr rfl)) (hd : (x == ("__debug__" : Str)) = false := by decide)
    (hcd : (x == ("__classdict__" : Str)) = false := by decide) : XS X F (.Return (some (.Name x p)) pos) (wRetO i) :=
  ⟨fun E E' z l ⟨m, e, q⟩ => ⟨m, e, l.rt _ _ q⟩, ps_imp (ps_ret (pv i hN hv hd hcd)) fun D σ H ⟨z, I, ok, l, e, q⟩ => by
    obtain ⟨a, vs, e1, e2, e3, r, tg⟩ := ok.own i none l e
    refine ⟨.ref a, e1, q a σ I H (ok.kill i) (Same.refl _) ⟨⟨vs, e2, r⟩, e3, tg, fun ⟨j, b, m, f1, f2⟩ => ?_⟩⟩
    rcases get_set f1 with ⟨rfl, q, hl⟩ | ⟨hj, q⟩
    · cases q
    · exact hj (ok.dis _ _ _ _ _ _ _ q e f2 e1)⟩
def wIfS (c : WT) (t u : WS) : WS := fun E z => c z fun b z' => if b = true then t E z' else u E z'
theorem xs_if {c : Expr} {a b : List Stmt} {tc : WT} (hc : XT X F c tc) (ha : XSs X F a t) (hb : XSs X F b u) : XS X F (.If c a b pos) (wIfS tc t u) :=
  ⟨fun E E' z l w => hc.mono _ _ _ (fun b z' q => by
    cases b with
    | true => exact ha.mono _ _ _ l q
    | false => exact hb.mono _ _ _ l q) w, ps_imp (ps_if hc.run ha.run hb.run) fun D σ H ⟨z, I, ok, w⟩ => hc.at ok w fun b z' I' H' q o s => by
    cases b with
    | true => exact ⟨z', I', o, ha.mono _ _ _ (endsOf.later s.imm) q⟩
    | false => exact ⟨z', I', o, hb.mono _ _ _ (endsOf.later s.imm) q⟩⟩
end

/-! ### targets -/
abbrev GS := D → SS → Option SS
structure Tgt (is : List Nat) (z : SS) (σ : St) (z' : SS) (σ' : St) : Prop where
  wp : ∀ vs : List Nat, (∀ i ∈ is, i ∈ vs) → wipe σ' vs = wipe σ vs
  own : ∀ a, IsOwn z' σ' a → IsOwn z σ a
  idx : ∀ (i : Nat) (b : Option Nat) (l : List D), z'[i]? = some (some (.own b l)) → z[i]? = some (some (.own b l))
structure XG (X : Cx) (F : Fx) (tg : Expr) (is : List Nat) (g : GS) : Prop where
  run : PG X tg (fun v σ H Q => ∃ z I d z', Ok X.K F z σ I H ∧ Rp X.K I v d ∧ g d z = some z' ∧ ∀ σ', Ok X.K F z' σ' I H → Tgt is z σ z' σ' → Q σ' H)
structure XGs (X : Cx) (F : Fx) (tgs : List Expr) (is : List Nat) (g : List D → SS → Option SS) : Prop where
  run : PGs X tgs (fun vs σ H Q => ∃ z I ds z', Ok X.K F z σ I H ∧ RpA X.K I vs ds ∧ g ds z = some z' ∧ ∀ σ', Ok X.K F z' σ' I H → Tgt is z σ z' σ' → Q σ' H)
theorem wipe_set {σ : St} {i : Nat} {x : Option V} : ∀ {vs : List Nat}, i ∈ vs → wipe (σ.set i x) vs = wipe σ vs
  | v :: vs, h => by
    unfold wipe
    by_cases e : i = v
    · subst e
      by_cases hm : i ∈ vs
      · rw [wipe_set hm]
      · have out : ∀ (ws : List Nat), i ∉ ws → wipe (σ.set i x) ws = (wipe σ ws).set i x := by
          intro ws
          induction ws with
          | nil => intro _; rfl
          | cons w ws ih =>
            intro hw
            unfold wipe
            rw [ih (fun q => hw (List.mem_cons_of_mem _ q)), List.set_comm _ _ (fun q => hw (by rw [q]; exact List.mem_cons_self))]
        rw [out vs hm, List.set_set]
    · rw [wipe_set (List.mem_of_ne_of_mem e h)]
def gNm (i : Nat) : GS := fun d z => some (z.set i (some (.val d)))
def gAll : List GS → List D → SS → Option SS
  | [], [], z => some z
  | g :: gs, d :: ds, z => (g d z).bind (gAll gs ds)
  | _, _, _ => none
def gTp (gs : List GS) : GS := fun d z => match d with
  | .tuple ds => gAll gs ds z
  | .list ds => gAll gs ds z
  | _ => none
section
variable {X : Cx} {F : Fx} {pos : Pos}
theorem xg_name {i : Nat} {x : Str} (hN : X.N.Nodup) (hi : X.N[i]? = some x) (hx : Loc X.env.scope x) (hf : X.fn x = true ∨ X.env.scope.names.lookup x = some .local := by first | exact .inl rfl | exact .inr rfl | assumption) : XG X F (.Name x pos) [i] (gNm i) :=
  ⟨⟨fun pins s σ H v u Q I r ⟨z, I1, d, z', ok, rv, e, q⟩ => (pg_name hN hi hx hf).run pins s σ H v u Q I r (by
    cases e
    refine q _ (ok.set rv) ⟨fun vs h => wipe_set (h i (by simp)), fun a ⟨j, b, l, e1, e2⟩ => ?_, fun j b l e1 => ?_⟩
    · rcases get_set e1 with ⟨rfl, q, hl⟩ | ⟨hj, q⟩
      · cases q
      · rw [List.getElem?_set_ne fun e => hj e.symm] at e2
        exact ⟨j, b, l, q, e2⟩
    · rcases get_set e1 with ⟨rfl, q, hl⟩ | ⟨hj, q⟩
      · cases q
      · exact q)⟩⟩
theorem xgs_nil : XGs X F [] [] (gAll []) := ⟨⟨fun pins s σ H vs us Q I r ⟨z, I1, ds, z', ok, rv, e, q⟩ => by
  refine pgs_nil.run pins s σ H vs us Q I r ?_
  cases rv with
  | nil =>
    cases e
    exact ⟨rfl, q σ ok ⟨fun _ _ => rfl, fun _ h => h, fun _ _ _ h => h⟩⟩
  | cons _ _ => cases e⟩⟩
theorem xgs_cons {e : Expr} {es : List Expr} {is js : List Nat} {g : GS} {gs : List GS} (h1 : XG X F e is g) (h2 : XGs X F es js (gAll gs))
    (hs : (assignEach (e :: es) X.env).map (·.2) = assign e X.env :: (assignEach es X.env).map (·.2) := by rfl) : XGs X F (e :: es) (is ++ js) (gAll (g :: gs)) := ⟨⟨fun pins s σ H vs us Q I r ⟨z, I1, ds, z', ok, rv, e, q⟩ => by
  refine (pgs_cons h1.run h2.run hs).run pins s σ H vs us Q I r ?_
  cases rv with
  | nil => cases e
  | cons r1 rr =>
    obtain ⟨z1, e1, e2⟩ := Option.bind_eq_some_iff.mp e
    refine ⟨_, _, rfl, z, I1, _, z1, ok, r1, e1, fun σ1 ok1 w1 => ⟨z1, I1, _, z', ok1, rr, e2, fun σ2 ok2 w2 => q σ2 ok2 ⟨fun vs h => ?_, fun a h => w1.own a (w2.own a h), fun i b l h => w1.idx i b l (w2.idx i b l h)⟩⟩⟩
    rw [w2.wp vs fun i hi => h i (List.mem_append_right _ hi), w1.wp vs fun i hi => h i (List.mem_append_left _ hi)]⟩⟩
theorem xg_tup {es : List Expr} {k : Nat} {is : List Nat} {gs : List GS} (hc : X.calm = true) (h : XGs X F es is (gAll gs)) (hl : gs.length = es.length := by rfl)
    (hn : (assignEach es X.env).length = es.length := by rfl) (hst : (assignEach es X.env).findIdx? (·.1) = none := by rfl) : XG X F (.Tuple es k pos) is (gTp gs) := ⟨⟨fun pins s σ H v u Q I r ⟨z, I1, d, z', ok, rv, e, q⟩ => by
  have len : ∀ (gs : List GS) (ds : List D) (z z' : SS), gAll gs ds z = some z' → gs.length = ds.length := by
    intro gs
    induction gs with
    | nil => intro ds z z' e; cases ds with
      | nil => rfl
      | cons _ _ => cases e
    | cons g gs ih => intro ds z z' e; cases ds with
      | nil => cases e
      | cons d ds =>
        obtain ⟨z1, _, e2⟩ := Option.bind_eq_some_iff.mp e
        simp [ih ds z1 z' e2]
  cases d with
  | tuple ds =>
    cases rv with
    | tup hq ra =>
      have e2 : gAll gs ds z = some z' := e
      exact (pg_tup hc h.run hn hst).run pins s σ H _ u Q I r ⟨_, _, rfl, same_tup ok.sub hq, by rw [ra.length, ← len gs ds z z' e2, hl], z, I1, ds, z', ok, ra, e2, q⟩
  | list ds =>
    cases rv with
    | lst hq ra =>
      have e2 : gAll gs ds z = some z' := e
      exact (pg_lst hc h.run hn hst).run pins s σ H _ u Q I r ⟨_, _, rfl, SqL.of (ok.sub _ _ hq), by rw [ra.length, ← len gs ds z z' e2, hl], z, I1, ds, z', ok, ra, e2, q⟩
  | none => cases e
  | bool _ => cases e
  | int _ => cases e
  | str _ => cases e
  | dict _ => cases e⟩⟩
end

/-! ### assignments -/
section
variable {X : Cx} {F : Fx} {pos pos' : Pos} {e tg : Expr} {te : WE} {tr : WR}
def wAsg (t : WE) (g : GS) : WS := fun E z => t z fun ev z1 => ∃ d z2, ev = .d d ∧ g d z1 = some z2 ∧ E.nx z2
theorem xs_asg {is : List Nat} {g : GS} (h : XE X F e te) (hg : XG X F tg is g) (hs : swapsWithSole [tg] e pos.line X.env = pure false := by rfl) (hw : swappedStores [tg] e X.env = pure none := by rfl)
    (h1 : (assignEach [tg] X.env).map (·.2) = [assign tg X.env] := by rfl) : XS X F (.Assign [tg] e pos) (wAsg te g) :=
  ⟨fun E E' z l w => h.mono _ _ _ (fun ev z1 ⟨d, z2, e, f, q⟩ => ⟨d, z2, e, f, l.nx _ q⟩) w, ps_imp (ps_asg h.run hg.run hs hw h1) fun D σ H ⟨z, I, ok, w⟩ => h.at ok w fun ev z1 v I1 H1 ⟨d, z2, e, f, q⟩ o s r => by
    subst e
    exact ⟨z1, I1, d, z2, o, r, f, fun σ' ok' _ => q σ' I1 H1 ok' s.imm⟩⟩
def wSet (i : Nat) (t : WE) : WS := fun E z => t z fun ev z1 => ∃ d, ev = .d d ∧ E.nx (z1.set i (some (.val d)))
theorem xs_set {i : Nat} {x : Str} (hN : X.N.Nodup) (hi : X.N[i]? = some x) (hx : Loc X.env.scope x) (h : XE X F e te) (hs : swapsWith e (some (.Name x pos')) pos.line X.env = pure false := by rfl) (hf : X.fn x = true ∨ X.env.scope.names.lookup x = some .local := by first | exact .inl rfl | exact .inr rfl | assumption) :
    XS X F (.Assign [.Name x pos'] e pos) (wSet i te) :=
  ⟨fun E E' z l w => h.mono _ _ _ (fun ev z1 ⟨d, e, q⟩ => ⟨d, e, l.nx _ q⟩) w, ps_imp (ps_set hN hi hx h.run hs hf) fun D σ H ⟨z, I, ok, w⟩ => h.at ok w fun ev z1 v I1 H1 ⟨d, e, q⟩ o s r => by
    subst e
    exact q _ I1 H1 (o.set r) s.imm⟩
/-- name = a new list: its own -/
def wSetO (i : Nat) (t : WR) : WS := fun E z => t z fun r z1 => ∃ l, r = .n l ∧ E.nx (z1.set i (some (.own none l)))
theorem xs_setO {i : Nat} {x : Str} (hN : X.N.Nodup) (hi : X.N[i]? = some x) (hx : Loc X.env.scope x) (h : XR X F e tr) (hs : swapsWith e (some (.Name x pos')) pos.line X.env = pure false := by rfl) (hf : X.fn x = true ∨ X.env.scope.names.lookup x = some .local := by first | exact .inl rfl | exact .inr rfl | assumption) :
    XS X F (.Assign [.Name x pos'] e pos) (wSetO i tr) :=
  ⟨fun E E' z l w => h.mono _ _ _ (fun r z1 ⟨d, e, q⟩ => ⟨d, e, l.nx _ q⟩) w, ps_imp (ps_set hN hi hx h.run hs hf) fun D σ H ⟨z, I, ok, w⟩ => ⟨z, I, ok, h.mono _ _ _ (fun r z1 ⟨l, e, q⟩ => by
    subst e
    intro a I1 H1 o s n
    obtain ⟨vs, f1, f2⟩ := n.at_
    exact q _ I1 H1 (o.setOwn f1 f2 n.imm n.h0 n.nown) s.imm) w⟩⟩
/-- own[i] = e -/
def wPut (t to ti : WE) : WS := fun E z => t z fun ev z1 => to z1 fun o z2 => ti z2 fun i z3 => ∃ d s k b l j, ev = .d d ∧ o = .o s ∧ i = .d (.int k) ∧ z3[s]? = some (some (.own b l)) ∧ ixN l.length k = some j ∧ E.nx (z3.set s (some (.own b (l.set j d))))
theorem xs_put {o i : Expr} {to ti : WE} (h : XE X F e te) (ho : XE X F o to) (hi : XE X F i ti)
    (ha : ∀ v, assign (.Subscript o i pos') X.env v = (do
      let a0 ← holding [v] (eval o X.env)
      let a1 ← holding [v, a0] (eval i X.env)
      standAt pos'
      holding [v, a0, a1] (setItem a0 a1 v)
      release [v, a0, a1] []) := by intro _; rfl) (hs : swapsWithSole [.Subscript o i pos'] e pos.line X.env = pure false := by rfl) (hw : swappedStores [.Subscript o i pos'] e X.env = pure none := by rfl)
    (h1 : (assignEach [.Subscript o i pos'] X.env).map (·.2) = [assign (.Subscript o i pos') X.env] := by rfl) : XS X F (.Assign [.Subscript o i pos'] e pos) (wPut te to ti) :=
  ⟨fun E E' z l w => h.mono _ _ _ (fun _ _ w => ho.mono _ _ _ (fun _ _ w => hi.mono _ _ _ (fun _ _ ⟨d, s, k, b, m, j, e1, e2, e3, e4, e5, q⟩ => ⟨d, s, k, b, m, j, e1, e2, e3, e4, e5, l.nx _ q⟩) w) w) w,
    ps_imp (ps_asg h.run (pg_sub ho.run hi.run set_list ha) hs hw h1) fun D σ H ⟨z, I, ok, w⟩ => h.at ok w fun ev z1 v I1 H1 w o1 s1 r1 => ho.at o1 w fun ov z2 v2 I2 H2 w o2 s2 r2 => hi.at o2 w fun iv z3 v3 I3 H3 ⟨d, sl, k, b, m, j, e1, e2, e3, e4, e5, q⟩ o3 s3 r3 => by
      subst e1 e2 e3
      cases r3
      obtain ⟨a, ws, f1, f2, f3, r, tg⟩ := o3.own sl b m e4
      rw [show σ[sl]? = some (some v2) from r2] at f1; cases f1
      obtain ⟨o4, s4⟩ := o3.mutate e4 r2 (r.set j (Rp.mono s3.imm (Rp.mono s2.imm r1)))
      exact ⟨a, ws, k, j, rfl, rfl, f2, by rw [r.length]; exact e5, q σ I3 _ o4 ((s1.imm.trans s2.imm).trans s3.imm)⟩⟩
end

/-! ### while -/
section
variable {X : Cx} {F : Fx} {pos : Pos}
def wWhile (c : WT) (t : WS) : WS := fun E z => ∃ P : Nat → SS → Prop, (∃ m, P m z) ∧ ∀ m z, P m z → c z fun b z1 => if b = true then t { nx := fun z' => ∃ m', m' < m ∧ P m' z', rt := E.rt, bk := E.nx, ct := fun z' => ∃ m', m' < m ∧ P m' z' } z1 else E.nx z1
theorem xs_while {c : Expr} {body : List Stmt} {tc : WT} {t : WS} (hp : PassesOwn (model X.prog X.w) X.A X.env X.xe) (hc : XT X F c tc) (hb : XSs X F body t) : XS X F (.While c body [] pos) (wWhile tc t) :=
  ⟨fun E E' z l ⟨P, h0, h⟩ => ⟨P, h0, fun m z p => hc.mono _ _ _ (fun b z1 q => by
    cases b with
    | true => exact hb.mono { nx := fun z' => ∃ m', m' < m ∧ P m' z', rt := E.rt, bk := E.nx, ct := fun z' => ∃ m', m' < m ∧ P m' z' } _ _ ⟨fun _ q => q, l.rt, fun _ q => l.nx _ q, fun _ q => q⟩ q
    | false => exact l.nx _ q) (h m z p)⟩, ps_imp (ps_while hp hc.run hb.run) fun D σ H ⟨z, I, ok, P, ⟨m0, p0⟩, h⟩ => by
    refine ⟨fun m σ H => ∃ z I', Ok X.K F z σ I' H ∧ Same I I' ∧ P m z, ⟨m0, z, I, ok, Same.refl _, p0⟩, ?_⟩
    rintro m σ1 H1 ⟨z1, I1, ok1, s1, p1⟩
    refine hc.at ok1 (h m z1 p1) fun b z2 I2 H2 q o2 s2 => ?_
    cases b with
    | true =>
      refine ⟨fun σ' H' => ∃ m', m' < m ∧ ∃ z I', Ok X.K F z σ' I' H' ∧ Same I I' ∧ P m' z, fun σ' H' ⟨m', hm, r⟩ => ⟨m', hm, r⟩, z2, I2, o2, hb.mono _ _ _ ?_ q⟩
      have s12 := s1.trans s2.imm
      exact ⟨fun z' ⟨m', hm, p⟩ σ' I' H' ok' s' => ⟨m', hm, z', I', ok', s12.trans s', p⟩, fun _ _ q => q.later s12, fun _ q => q.later s12, fun z' ⟨m', hm, p⟩ σ' I' H' ok' s' => ⟨m', hm, z', I', ok', s12.trans s', p⟩⟩
    | false => exact q _ I2 H2 o2 (s1.trans s2.imm)⟩
end
end L3
namespace L3
open PySem PySem.Spec PyProof.Rows L2 PySem.SeqAt

/-! ### what is walked -/
def Serves (K : PySem.W.Frag) (F : Fx) (J : It) (items : List D) (I1 : Hp) : Prop := ∀ (z : SS) (σ : St) (I H : Hp), Ok K F z σ I H → Same I1 I →
  (∀ i, i < items.length → J.go i H) ∧ J.stop items.length H ∧ ∀ i x H', i < items.length → J.yld i H x H' → ∃ I' d, items[i]? = some d ∧ Ok K F z σ I' H' ∧ Step z σ I H z I' H' ∧ Rp K I' x d
abbrev WI := SS → (List D → SS → Prop) → Prop
def liftI (K : PySem.W.Frag) (F : Fx) (t : WI) : TI := fun σ H R => ∃ z I, Ok K F z σ I H ∧ t z fun items z' => ∀ J I' H', Ok K F z' σ I' H' → Step z σ I H z' I' H' → Serves K F J items I' → R J H'
structure XI (X : Cx) (F : Fx) (tg iter : Expr) (t : WI) : Prop where
  mono : Mono t
  run : PI X tg iter (liftI X.K F t)
theorem pi_imp {X : Cx} {tg e : Expr} {t t' : TI} (h : PI X tg e t) (i : ∀ σ H R, t' σ H R → t σ H R) : PI X tg e t' := ⟨fun pins s σ H R I q => h.run pins s σ H R I (i σ H R q)⟩
section
variable {K : PySem.W.Frag} {F : Fx}
theorem serves_list {a : Addr} {vs : List V} {l : List D} {I1 : Hp} (ha : I1 a = some (.lst vs)) (r : RpA K I1 vs l) : Serves K F (Itl K a) l I1 := fun z σ I H ok s => by
  have hq : SqL K H a vs := SqL.of (ok.sub _ _ (s _ _ ha))
  refine ⟨fun i hi => ?_, ⟨vs, hq, by rw [r.length]; exact Nat.le_refl _⟩, fun i x H' hi y => ?_⟩
  · have hi' : i < vs.length := by rw [r.length]; exact hi
    exact ⟨vs, vs[i], hq, by simp [hi']⟩
  · obtain ⟨rfl, y⟩ := y
    obtain ⟨d, e, rd⟩ := r.get' (y vs hq)
    exact ⟨I, d, e, ok, .refl, rd.mono s⟩
theorem serves_tup {a : Addr} {vs : List V} {l : List D} {I1 : Hp} (ha : SqT K I1 a vs) (r : RpA K I1 vs l) : Serves K F (Itt K a) l I1 := fun z σ I H ok s => by
  have hq : SqT K H a vs := same_tup ok.sub (same_tup s ha)
  refine ⟨fun i hi => ?_, ⟨vs, hq, by rw [r.length]; exact Nat.le_refl _⟩, fun i x H' hi y => ?_⟩
  · have hi' : i < vs.length := by rw [r.length]; exact hi
    exact ⟨vs, vs[i], hq, by simp [hi']⟩
  · obtain ⟨rfl, y⟩ := y
    obtain ⟨d, e, rd⟩ := r.get' (y vs hq)
    exact ⟨I, d, e, ok, .refl, rd.mono s⟩
def signs (t : Str) : List D := t.cps.toList.map fun c => .str ⟨#[c]⟩
theorem serves_str {t : Str} {I1 : Hp} : Serves K F (Its t) (signs t) I1 := fun z σ I H ok s => by
  have hl : (signs t).length = t.cps.size := by simp [signs]
  refine ⟨fun i hi => by rw [hl] at hi; exact hi, by rw [hl]; exact Nat.le_refl _, fun i x H' hi y => ?_⟩
  obtain ⟨rfl, c, e, rfl⟩ := y
  exact ⟨I, .str ⟨#[c]⟩, by simp [signs, e], ok, .refl, .str _⟩
def rangeD (lo hi : Int) : List D := (List.range (hi - lo).toNat).map fun (i : Nat) => .int (lo + (i : Int))
theorem serves_range {lo : Int} {n : Nat} {I1 : Hp} : Serves K F (Itr lo n) ((List.range n).map fun (i : Nat) => PyData.int (lo + i)) I1 := fun z σ I H ok s => by
  have hl : ((List.range n).map fun (i : Nat) => PyData.int (lo + i)).length = n := by simp
  refine ⟨fun i hi => by rw [hl] at hi; exact hi, by rw [hl]; exact Nat.le_refl _, fun i x H' hi y => ?_⟩
  rw [hl] at hi
  obtain ⟨rfl, rfl⟩ := y
  exact ⟨I, .int (lo + i), by simp [hi], ok, .refl, .int _⟩
end
def srcOf : EV → Option (List D)
  | .d (.list l) => some l
  | .d (.tuple l) => some l
  | .d (.str t) => some (signs t)
  | _ => none
section
variable {X : Cx} {F : Fx} {tg e : Expr} {t : WE} {te : TE}
theorem pi_any (he : PE X e te) : PI X tg e (fun σ H R => te σ H fun x K1 => (∃ a xs, x = .ref a ∧ SqL X.K K1 a xs ∧ R (Itl X.K a) K1) ∨ (∃ a xs, x = .ref a ∧ SqT X.K K1 a xs ∧ R (Itt X.K a) K1) ∨ (∃ t, x = .str t ∧ R (Its t) K1)) := by
  refine ⟨fun ps0 s σ H R I h => ?_⟩
  refine thn (he.run ps0 s σ H _ I h) fun v u1 ⟨x, K1, J1, m1, q1⟩ => ?_
  rcases q1 with ⟨a, xs, rfl, hq, q⟩ | ⟨a, xs, rfl, hq, q⟩ | ⟨y, rfl, q⟩
  · cases m1
    obtain ⟨cs0, rv0, p, hz0⟩ := J1.list hq
    refine wpAny_pyIter_list p.isList ?_
    refine ⟨u1.heap.objs.size, [u1.heap.objs.size], _, _, K1, rfl, J1.kept (t' := u1.toks) fun b o e => Heap.get?_push_of_some _ e, turn_list a _, ⟨_, Heap.get?_push_size _ rfl, rfl, rfl⟩, fun b hb0 => ?_, q⟩
    have e : b = u1.heap.objs.size := by simpa using hb0
    subst e
    exact J1.fpOk (Nat.le_refl _) (J1.hok.fresh (Nat.le_refl _))
  · cases m1
    obtain ⟨cs0, rv0, p, hz0⟩ := J1.tuple hq
    refine wpAny_pyIter_tuple (show u1.heap.IsTuple a cs0.toArray from p) ?_
    refine ⟨u1.heap.objs.size, [u1.heap.objs.size], _, _, K1, rfl, J1.kept (t' := u1.toks) fun b o e => Heap.get?_push_of_some _ e, turn_tuple a _, ⟨_, Heap.get?_push_size _ rfl, rfl, rfl⟩, fun b hb0 => ?_, q⟩
    have e : b = u1.heap.objs.size := by simpa using hb0
    subst e
    exact J1.fpOk (Nat.le_refl _) (J1.hok.fresh (Nat.le_refl _))
  · obtain ⟨t, rfl⟩ := m1
    cases ha : y.cps.all (· < 128)
    · exact wpAny_pyIter_wide ha (pi_one (tk := u1.toks) J1 _ (turn_str _ y t "str_iterator" (.inr rfl)) ⟨_, Heap.get?_push_size _ rfl, rfl, rfl⟩ q)
    · exact wpAny_pyIter_ascii ha (pi_one (tk := u1.toks) J1 _ (turn_str _ y t "str_ascii_iterator" (.inl rfl)) ⟨_, Heap.get?_push_size _ rfl, rfl, rfl⟩ q)
def wSrc (t : WE) : WI := fun z R => t z fun ev z1 => ∃ l, srcOf ev = some l ∧ R l z1
theorem xi_any (he : XE X F e t) : XI X F tg e (wSrc t) :=
  ⟨fun z R R' k w => he.mono _ _ _ (fun ev z1 ⟨l, e, q⟩ => ⟨l, e, k _ _ q⟩) w, pi_imp (pi_any he.run) fun σ H R ⟨z, I, ok, w⟩ => he.at ok w fun ev z1 v I1 H1 ⟨l, e, q⟩ o s r => by
    cases ev with
    | o i => cases e
    | d y =>
      cases y <;> simp [srcOf] at e
      · subst e
        cases r
        exact .inr (.inr ⟨_, rfl, q _ I1 H1 o s serves_str⟩)
      · subst e
        cases r with
        | lst h ra => exact .inl ⟨_, _, rfl, SqL.of (o.sub _ _ h), q _ I1 H1 o s (serves_list h ra)⟩
      · subst e
        cases r with
        | tup h ra => exact .inr (.inl ⟨_, _, rfl, same_tup o.sub h, q _ I1 H1 o s (serves_tup h ra)⟩)⟩
/-- ranges -/
def wRng1 (u : WA) : WI := fun z R => u z fun es z1 => ∃ j, es = [.d (.int j)] ∧ -(2 ^ 62) ≤ j ∧ j < 2 ^ 62 ∧ R (rangeD 0 j) z1
def wRng2 (u : WA) : WI := fun z R => u z fun es z1 => ∃ i j, es = [.d (.int i), .d (.int j)] ∧ (-(2 ^ 62) ≤ i ∧ i < 2 ^ 62 ∧ -(2 ^ 62) ≤ j ∧ j < 2 ^ 62) ∧ R (rangeD i j) z1
theorem xi_range1 {a : Expr} {u : WA} {p pos : Pos} (hg : Gl X "range") (hm : X.mg "range" = none) (ha : XA X F [a] u) (hs : starEach [a] X.env = [(false, eval a X.env)] := by rfl) : XI X F tg (.Call (.Name "range" p) [a] [] pos) (wRng1 u) :=
  ⟨fun z R R' k w => ha.mono _ _ _ (fun es z1 ⟨j, e, a, b, q⟩ => ⟨j, e, a, b, k _ _ q⟩) w, pi_imp (pi_range1 hg hm ha.run hs) fun σ H R ⟨z, I, ok, w⟩ => ha.at ok w fun es z1 vs I1 H1 ⟨j, e, a, b, q⟩ o s ev => by
    subst e
    cases ev with
    | cons e1 t =>
      cases t
      cases e1
      refine ⟨j, rfl, a, b, q _ I1 H1 o s ?_⟩
      have := @serves_range X.K F 0 j.toNat I1
      unfold rangeD
      rw [Int.sub_zero]
      exact this⟩
theorem xi_range2 {a b : Expr} {u : WA} {p pos : Pos} (hg : Gl X "range") (hm : X.mg "range" = none) (ha : XA X F [a, b] u) (hs : starEach [a, b] X.env = [(false, eval a X.env), (false, eval b X.env)] := by rfl) (hs2 : starEach [b] X.env = [(false, eval b X.env)] := by rfl) :
    XI X F tg (.Call (.Name "range" p) [a, b] [] pos) (wRng2 u) :=
  ⟨fun z R R' k w => ha.mono _ _ _ (fun es z1 ⟨i, j, e, a, q⟩ => ⟨i, j, e, a, k _ _ q⟩) w, pi_imp (pi_range2 hg hm ha.run hs hs2) fun σ H R ⟨z, I, ok, w⟩ => ha.at ok w fun es z1 vs I1 H1 ⟨i, j, e, a, q⟩ o s ev => by
    subst e
    cases ev with
    | cons e1 t =>
      cases t with
      | cons e2 t =>
        cases t
        cases e1; cases e2
        exact ⟨i, j, rfl, a, q _ I1 H1 o s serves_range⟩⟩
/-- list(range(..)) -/
def wLRg (lo : WE) : WR := fun z R => lo z fun x z1 => ∃ j, x = .d (.int j) ∧ RgOk 0 j ∧ R (.n (rangeD 0 j)) z1
theorem rgV_rp {K : PySem.W.Frag} {I : Hp} (a b : Int) : RpA K I (rgV a b) (rangeD a b) := by
  have h : ∀ (n : Nat), RpA K I ((List.range n).map fun (i : Nat) => V.int (a + i)) ((List.range n).map fun (i : Nat) => PyData.int (a + i)) := fun n => by
    induction n with
    | zero => exact .nil
    | succ n ih =>
      rw [List.range_succ, List.map_append, List.map_append]
      exact ih.append (.cons (.int _) .nil)
  have e : rgV a b = (List.range (b - a).toNat).map fun (i : Nat) => V.int (a + i) := by
    unfold rgV
    first | rfl | simp
  rw [e]
  exact h _
theorem xr_listrg {a : Expr} {t : WE} {p p2 pos pos2 : Pos} (hc : X.calm = true) (hg : Gl X "list") (hm : X.mg "list" = none) (hg2 : Gl X "range") (hm2 : X.mg "range" = none) (ha : XE X F a t) (na : starEach [a] X.env = (false, eval a X.env) :: starEach [] X.env := by rfl)
    (nb : starEach [.Call (.Name "range" p2) [a] [] pos2] X.env = (false, eval (.Call (.Name "range" p2) [a] [] pos2) X.env) :: starEach [] X.env := by rfl) : XR X F (.Call (.Name "list" p) [.Call (.Name "range" p2) [a] [] pos2] [] pos) (wLRg t) :=
  ⟨fun z R R' k w => ha.mono _ _ _ (fun x z1 ⟨j, e, c, q⟩ => ⟨j, e, c, k _ _ q⟩) w, pe_imp (pe_listRg hc hg hm (prg_1 hg2 hm2 ha.run na) nb) fun σ H Q ⟨z, I, ok, w⟩ => ha.at ok w fun x z1 v I1 H1 ⟨j, e, c, q⟩ o s ev => by
    subst e
    cases ev
    refine ⟨j, rfl, c, fun p hp => ?_⟩
    obtain ⟨o2, s2, n⟩ := o.newL (rgV_rp 0 j) hp
    exact q _ _ _ o2 (s.trans s2) (n.back s)⟩
end
/-! ### enumerate of a tuple -/
def tupItO (l : Addr) : Obj := { cls := .type "tuple_iterator", data := .fields #[.ref l, .int 0 0] }
def enumO (n : Addr) : Obj := { cls := .type "enumerate", data := .fields #[.none, .bool false, .ref n, rawInt 0, .none, .none] }
theorem meets_enumerate_newT (l : Addr) (items : Array Value) : Meets (Builtin.«enumerate.__new__» ⟨[.type "enumerate", .ref l], []⟩) fun _ R s =>
    s.heap.IsTuple l items ∧ R (.ok (.ret (.ref (s.heap.push (tupItO l)).objs.size))) { s with heap := (s.heap.push (tupItO l)).push (enumO s.heap.objs.size) } := by
  refine .of_wp fun P W Ar Rr u hu => ?_
  obtain ⟨hp0, gl, dd, tk, os⟩ := u
  obtain ⟨isT0, hu⟩ := hu
  have hsub := sub_enumerate
  have isT : Heap.IsTuple (Shared.heap ⟨hp0, gl, dd, tk, os⟩) l items := isT0
  wp_walk
  refine wpAny_stack_any fun _ => wpAny_pure ?_
  split
  · rename_i c _ _ _ _ _
    generalize (c == Value.type "enumerate") = cb
    cases cb <;> (wp_walk using wpAny_pyIter_tuple isT; exact ⟨_, rfl, hu⟩)
  · wp_walk using wpAny_pyIter_tuple isT
    exact ⟨_, rfl, hu⟩
theorem call_enumerate_tup {P : Program} {W : World} {Ar : Around} {Ex : Value → Shared → Prop} {u : Shared} {l : Addr} {cells : Array Value} {Q : Value → Shared → Prop} (isT : u.heap.IsTuple l cells)
    (h : ∀ hh, IsEnum hh (u.heap.objs.size + 1) u.heap.objs.size 0 .none → hh.IsTupleIter u.heap.objs.size l 0 → hh.objs.size = u.heap.objs.size + 2 → (∀ b o, u.heap.get? b = some o → hh.get? b = some o) → Q (.ref (u.heap.objs.size + 1)) { u with heap := hh }) :
    wpAny (model P W) Ar (call (.type "enumerate") [.ref l]) Q Ex u := by
  have sz : (u.heap.push (tupItO l)).objs.size = u.heap.objs.size + 1 := Heap.size_push ..
  have isE : IsEnum ((u.heap.push (tupItO l)).push (enumO u.heap.objs.size)) (u.heap.objs.size + 1) u.heap.objs.size 0 .none := by
    have g := Heap.get?_push_size (u.heap.push (tupItO l)) (o := enumO u.heap.objs.size) rfl
    rw [sz] at g
    exact g
  have fin := h _ isE ⟨_, Heap.get?_push_of_some _ (Heap.get?_push_size _ rfl), rfl, rfl⟩ (by rw [Heap.size_push, sz]) fun b o x => Heap.get?_push_of_some _ (Heap.get?_push_of_some _ x)
  refine callType_new F.called_enumerate (by decide) (F.typeCall_enumerate_1 _) (F.newCall_enumerate_1 _)
    (fun obj => F.args_object_init_2 obj _) F.entry_enumerate_new (meets_enumerate_newT l cells) ⟨isT, ?_⟩
  show _ ∧ _
  rw [sz]
  exact ⟨⟨_, isE, rfl⟩, fin⟩
def IteT (K : PySem.W.Frag) (a : Addr) : It :=
  ⟨fun i H => ∃ (xs : List V) (x : V), SqT K H a xs ∧ xs[i]? = some x, fun i H v H' => ∃ T x, v = .ref T ∧ H T = none ∧ H' = upd H T (.tup [.int (i : Nat), x]) ∧ ∀ xs, SqT K H a xs → xs[i]? = some x, fun i H => ∃ xs : List V, SqT K H a xs ∧ xs.length = i⟩
theorem turn_enumT {P : Program} {w : World} {K : PySem.W.Frag} {elts : List Expr} {kk : Nat} {tpos : Pos} (a e it : Addr) :
    Turn P w K (.Tuple elts kk tpos) (IteT K a) [e, it] e (fun i h => (∃ was, IsEnum h e it ((i : Nat) : Int) was) ∧ h.IsTupleIter it a i ∧ e ≠ it ∧ a ≠ it) where
  mem := by simp
  obj := fun i h stt b hb0 => by
    obtain ⟨⟨was, isE⟩, ⟨o, ob, oc, od⟩, _⟩ := stt
    have e' : b = e ∨ b = it := by simpa using hb0
    rcases e' with z | z
    · rw [z]; exact ⟨_, isE, fun v q => nomatch q⟩
    · rw [z]; exact ⟨o, ob, fun v q => by rw [od] at q; cases q⟩
  keep := fun i h hh1 stt k => let ⟨⟨was, isE⟩, hi, dI⟩ := stt; ⟨⟨was, k e (by simp) _ isE⟩, hi.at fun o q => k it (by simp) o q, dI⟩
  item := by
    intro X hP hw hK oc i ps0 s σ H E J fps stt gv
    subst hP hw hK
    obtain ⟨⟨was, isE⟩, isI, dI, dA⟩ := stt
    obtain ⟨xs, x, hq, hxx⟩ := gv
    obtain ⟨cs0, rv0, p, hz0⟩ := J.tuple hq
    obtain ⟨u, hu, ru⟩ := rv0.get hxx
    have ltE : e < s.heap.objs.size := Heap.lt_size isE
    have ltI : it < s.heap.objs.size := by obtain ⟨_, q, _⟩ := isI; exact Heap.lt_size q
    have neE : a ≠ e := fun q => by
      obtain ⟨o, ob, oc', _⟩ := id p
      rw [q] at ob
      rw [show s.heap.get? e = some _ from isE] at ob
      cases ob
      simp at oc'
    have pT : s.heap.IsTuple a cs0.toArray := p
    refine wpAny_pyNext_enum_itemD (Draws.tuple (prog := X.prog) (w := X.w) (A := X.A.in1) (show X.A.in1.handled = none from J.ok.hd oc) it a dA cs0.toArray) isE ⟨isI, pT⟩ (n := cs0.toArray.size) (by have := (List.getElem?_eq_some_iff.mp hu).1; simpa using this) dI (by simp [dI, Ne.symm neE]) fun y hh1 tk hy ob hst' hT hsz hkk => ?_
    have ey : y = u := by
      have hy' : cs0.toArray[i]? = some y := hy
      simp at hy'
      rw [hu] at hy'
      exact (Option.some.inj hy').symm
    subst ey
    refine ⟨_, rfl, wpAny_letOwnedTupleGo_enum (s := { s with heap := hh1, toks := tk + 1 }) ob fun h'' isE' sbx => ?_⟩
    have hT2 : h''.get? s.heap.objs.size = some { cls := .type "tuple", data := .seq #[.int i tk, y] } := (sbx.2 _ (Nat.ne_of_gt ltE)).trans hT
    have nw : ObjOk X.prog X.w (upd H s.heap.objs.size (.tup [.int (i : Nat), x])) h'' s.heap.objs.size (.tup [.int (i : Nat), x]) :=
      ⟨by show 2 ≤ sizeLine; decide, [.int i tk, y], .cons ⟨_, rfl⟩ (.cons ru .nil), ⟨_, hT2, rfl, _, rfl⟩⟩
    have J1 : Inv X ps0 σ (upd H s.heap.objs.size (.tup [.int (i : Nat), x])) { s with heap := h'', toks := tk + 1 } :=
      J.turnedNew (ch := [e, it]) (fun b ob hb0 q => (sbx.2 b (fun z => hb0 (by simp [z]))).trans (hkk b ob (fun z => hb0 (by simp [z])) (fun z => hb0 (by simp [z])) q)) fps (Nat.le_refl _) nw
    refine ⟨.ref s.heap.objs.size, _, J1, rfl, ⟨_, x, rfl, J.hok.fresh (Nat.le_refl _), rfl, fun ys hy => by rw [J.tuple_inj hy hq]; exact hxx⟩, ⟨⟨y, ?_⟩, hst'.1.at fun o q => (sbx.2 it (Ne.symm dI)).trans q, dI, dA⟩, fun b hb0 => ?_⟩
    · rw [show ((i + 1 : Nat) : Int) = (i : Int) + 1 from by omega]; exact isE'
    · have ltb : b < s.heap.objs.size := by
        have e' : b = e ∨ b = it := by simpa using hb0
        rcases e' with z | z
        · rw [z]; exact ltE
        · rw [z]; exact ltI
      rw [upd_ne (Nat.ne_of_lt ltb)]
      exact (fps b hb0).1
  done := by
    intro X hP hw hK oc i ps0 s σ H E J fps stt gv
    subst hP hw hK
    obtain ⟨⟨was, isE⟩, isI, dI, dA⟩ := stt
    obtain ⟨xs, hq, hxx⟩ := gv
    obtain ⟨cs0, rv0, p, hz0⟩ := J.tuple hq
    obtain ⟨f0, f1, f2, f3, f4, f5⟩ := fps it (by simp)
    have hl := rv0.length
    have pT : s.heap.IsTuple a cs0.toArray := p
    have ei : i = cs0.toArray.size := by rw [List.size_toArray, ← hl, hxx]
    subst ei
    exact wpAny_pyNext_enum_endD (Draws.tuple (prog := X.prog) (w := X.w) (A := X.A.in1) (show X.A.in1.handled = none from J.ok.hd oc) it a dA cs0.toArray) isE ⟨isI, pT⟩ fun hh1 eb => ⟨rfl, J.turned (t' := s.toks) (fun b o hb0 q => eb b o hb0 q) f0 f1 f3 f4 f5⟩
  self := fun A i s Q E stt h => let ⟨⟨_, isE⟩, _⟩ := stt; wpAny_pyIter_enum isE h
theorem pi_enumT {X : Cx} {e : Expr} {ta : TA} {p pos tpos : Pos} {elts : List Expr} {kk : Nat} (gv : Gl X "enumerate") (hm : X.mg "enumerate" = none) (ha : PA X [e] ta) (hs : starEach [e] X.env = [(false, eval e X.env)] := by rfl) :
    PI X (.Tuple elts kk tpos) (.Call (.Name "enumerate" p) [e] [] pos) (fun σ H R => ta σ H fun vs K1 => ∃ a xs, vs = [.ref a] ∧ ((SqL X.K K1 a xs ∧ R (Ite X.K a) K1) ∨ (SqT X.K K1 a xs ∧ R (IteT X.K a) K1))) := by
  refine ⟨fun ps0 s σ H R J h => ?_⟩
  refine Call_ (ld_blt J gv hm boot_enumerate (PyProof.Rows.callWith_type1 (thn (ha.run pos ps0 s σ H _ J h) fun us u1 ⟨vs, K1, J1, r1, q1⟩ => ?_) hs rfl))
  obtain ⟨a, xs, ex, q1⟩ := q1
  subst ex
  cases r1 with
  | cons r rr =>
    cases rr
    cases r
    have fr : ∀ b ∈ [u1.heap.objs.size + 1, u1.heap.objs.size], FpOk X ps0 K1 b := fun b hb0 => by
      have e' : b = u1.heap.objs.size + 1 ∨ b = u1.heap.objs.size := by simpa using hb0
      have hle : u1.heap.objs.size ≤ b := by
        rcases e' with z | z
        · rw [z]; exact Nat.le_add_right _ _
        · rw [z]; exact Nat.le_refl _
      exact J1.fpOk hle (J1.hok.fresh hle)
    rcases q1 with ⟨hq, q⟩ | ⟨hq, q⟩
    · obtain ⟨cs0, rv0, p', hz0⟩ := J1.list hq
      refine call_enumerate_list p'.isList fun hh1 isE isI hsz hkk => wpAny_pyIter_enum isE ?_
      have J2 : Inv X ps0 σ K1 { u1 with heap := hh1 } := J1.kept (t' := u1.toks) hkk
      exact ⟨u1.heap.objs.size + 1, [u1.heap.objs.size + 1, u1.heap.objs.size], _, _, K1, rfl, J2, turn_enum a (u1.heap.objs.size + 1) u1.heap.objs.size, ⟨⟨.none, isE⟩, isI, Nat.succ_ne_self _⟩, fr, q⟩
    · obtain ⟨cs0, rv0, p', hz0⟩ := J1.tuple hq
      have hal : a < u1.heap.objs.size := by
        obtain ⟨o, ob, _⟩ := id p'
        exact Heap.lt_size ob
      refine call_enumerate_tup (show u1.heap.IsTuple a cs0.toArray from p') fun hh1 isE isI hsz hkk => wpAny_pyIter_enum isE ?_
      have J2 : Inv X ps0 σ K1 { u1 with heap := hh1 } := J1.kept (t' := u1.toks) hkk
      exact ⟨u1.heap.objs.size + 1, [u1.heap.objs.size + 1, u1.heap.objs.size], _, _, K1, rfl, J2, turn_enumT a (u1.heap.objs.size + 1) u1.heap.objs.size, ⟨⟨.none, isE⟩, isI, Nat.succ_ne_self _, Nat.ne_of_lt hal⟩, fr, q⟩
def enumD (l : List D) : List D := l.zipIdx.map fun p => .tuple [.int (p.2 : Nat), p.1]
theorem enumD_len (l : List D) : (enumD l).length = l.length := by simp [enumD]
theorem enumD_get {l : List D} {i : Nat} {d : D} (h : l[i]? = some d) : (enumD l)[i]? = some (.tuple [.int (i : Nat), d]) := by
  simp [enumD, h]
section
variable {K : PySem.W.Frag} {F : Fx}
theorem pair_ok {z : SS} {σ : St} {I H : Hp} {T : Addr} {x : V} {d : D} {n : Nat} (ok : Ok K F z σ I H) (hT : H T = none) (r : Rp K I x d) :
    ∃ I', Ok K F z σ I' (upd H T (.tup [.int n, x])) ∧ Step z σ I H z I' (upd H T (.tup [.int n, x])) ∧ Rp K I' (.ref T) (.tuple [.int n, d]) := by
  obtain ⟨o2, s2⟩ := ok.alloc (.tup [.int n, x]) hT
  exact ⟨_, o2, s2, .tup (SqT.of upd_same) (.cons (.int _) (.cons (r.mono s2.imm) .nil))⟩
theorem serves_enum {a : Addr} {vs : List V} {l : List D} {I1 : Hp} (ha : I1 a = some (.lst vs)) (r : RpA K I1 vs l) : Serves K F (Ite K a) (enumD l) I1 := fun z σ I H ok s => by
  have hq : SqL K H a vs := SqL.of (ok.sub _ _ (s _ _ ha))
  rw [enumD_len]
  refine ⟨fun i hi => ?_, ⟨vs, hq, by rw [r.length]; exact Nat.le_refl _⟩, fun i x H' hi y => ?_⟩
  · have hi' : i < vs.length := by rw [r.length]; exact hi
    exact ⟨vs, vs[i], hq, by simp [hi']⟩
  · obtain ⟨T, x', rfl, hT, rfl, y⟩ := y
    obtain ⟨d, e, rd⟩ := r.get' (y vs hq)
    obtain ⟨I', o2, s2, r2⟩ := pair_ok (n := i) ok hT (rd.mono s)
    exact ⟨I', _, enumD_get e, o2, s2, r2⟩
theorem serves_enumT {a : Addr} {vs : List V} {l : List D} {I1 : Hp} (ha : SqT K I1 a vs) (r : RpA K I1 vs l) : Serves K F (IteT K a) (enumD l) I1 := fun z σ I H ok s => by
  have hq : SqT K H a vs := same_tup ok.sub (same_tup s ha)
  rw [enumD_len]
  refine ⟨fun i hi => ?_, ⟨vs, hq, r.length⟩, fun i x H' hi y => ?_⟩
  · have hi' : i < vs.length := by rw [r.length]; exact hi
    exact ⟨vs, vs[i], hq, by simp [hi']⟩
  · obtain ⟨T, x', rfl, hT, rfl, y⟩ := y
    obtain ⟨d, e, rd⟩ := r.get' (y vs hq)
    obtain ⟨I', o2, s2, r2⟩ := pair_ok (n := i) ok hT (rd.mono s)
    exact ⟨I', _, enumD_get e, o2, s2, r2⟩
end
def itemsD : D → Option (List D)
  | .list l => some l
  | .tuple l => some l
  | _ => none
def wEnum (u : WA) : WI := fun z R => u z fun es z1 => ∃ d l, es = [.d d] ∧ itemsD d = some l ∧ R (enumD l) z1
theorem xi_enum {X : Cx} {F : Fx} {e : Expr} {u : WA} {p pos tpos : Pos} {elts : List Expr} {kk : Nat} (hg : Gl X "enumerate") (hm : X.mg "enumerate" = none) (ha : XA X F [e] u) (hs : starEach [e] X.env = [(false, eval e X.env)] := by rfl) :
    XI X F (.Tuple elts kk tpos) (.Call (.Name "enumerate" p) [e] [] pos) (wEnum u) :=
  ⟨fun z R R' k w => ha.mono _ _ _ (fun es z1 ⟨d, l, e1, e2, q⟩ => ⟨d, l, e1, e2, k _ _ q⟩) w, pi_imp (pi_enumT hg hm ha.run hs) fun σ H R ⟨z, I, ok, w⟩ => ha.at ok w fun es z1 vs I1 H1 ⟨d, l, e1, e2, q⟩ o s ev => by
    subst e1
    cases ev with
    | cons r t =>
      cases t
      cases d <;> simp [itemsD] at e2
      · subst e2
        cases r with
        | lst h ra => exact ⟨_, _, rfl, .inl ⟨SqL.of (o.sub _ _ h), q _ I1 H1 o s (serves_enum h ra)⟩⟩
      · subst e2
        cases r with
        | tup h ra => exact ⟨_, _, rfl, .inr ⟨same_tup o.sub h, q _ I1 H1 o s (serves_enumT h ra)⟩⟩⟩
end L3
namespace L3
open PySem PySem.Spec PyProof.Rows L2 PySem.SeqAt

/-! ### for -/
def wForL (g : GS) (t : WS) (E : En) : List D → SS → Prop
  | [], z => E.nx z
  | x :: xs, z => ∃ z1, g x z = some z1 ∧ t { nx := fun z' => wForL g t E xs z', rt := E.rt, bk := E.nx, ct := fun z' => wForL g t E xs z' } z1
def wFor (s : WI) (g : GS) (t : WS) : WS := fun E z => s z fun items z1 => wForL g t E items z1
theorem wForL_mono {g : GS} {t : WS} (h : MonoS t) {E E' : En} (le : E.le E') : ∀ (l : List D) (z : SS), wForL g t E l z → wForL g t E' l z
  | [], z, w => le.nx z w
  | x :: xs, z, ⟨z1, e, w⟩ => ⟨z1, e, h { nx := fun z' => wForL g t E xs z', rt := E.rt, bk := E.nx, ct := fun z' => wForL g t E xs z' } _ _ ⟨fun z' q => wForL_mono h le xs z' q, le.rt, le.nx, fun z' q => wForL_mono h le xs z' q⟩ w⟩
section
variable {X : Cx} {F : Fx} {pos : Pos} {tg iter : Expr} {body : List Stmt} {s : WI} {g : GS} {t : WS} {is : List Nat}
theorem xs_for (hp : PassesOwn (model X.prog X.w) X.A X.env X.xe) (hc : X.calm = true) (hi : XI X F tg iter s) (hg : XG X F tg is g) (hb : XSs X F body t)
    (hs : ∀ x, foldedSetIterable iter X.env x = pure x := by intro _; rfl) : XS X F (.For tg iter body [] pos) (wFor s g t) :=
  ⟨fun E E' z l w => hi.mono _ _ _ (fun items z1 q => wForL_mono hb.mono l items z1 q) w, ps_imp (ps_for hp hc hi.run hg.run hb.run hs) fun D σ H ⟨z, I, ok, w⟩ => ⟨z, I, ok, hi.mono _ _ _ (fun items z1 w J I1 H1 ok1 s1 sv => by
    refine ⟨fun i m σ H => m = items.length - i ∧ i ≤ items.length ∧ ∃ z I', Ok X.K F z σ I' H ∧ Same I1 I' ∧ wForL g t (endsOf X.K F I D) (items.drop i) z, ⟨items.length, by simp, Nat.zero_le _, z1, I1, ok1, Same.refl _, by simpa using w⟩, ?_⟩
    rintro i m σ2 H2 ⟨rfl, hi, z2, I2, ok2, s2, w2⟩
    obtain ⟨go, stop, yld⟩ := sv z2 σ2 I2 H2 ok2 s2
    by_cases hlt : i < items.length
    · refine .inr ⟨go i hlt, fun σ' H' => ∃ z I', Ok X.K F z σ' I' H' ∧ Same I1 I' ∧ wForL g t (endsOf X.K F I D) (items.drop (i + 1)) z, fun σ' H' ⟨z', I', a, b, c⟩ => ⟨items.length - (i + 1), by omega, rfl, hlt, z', I', a, b, c⟩, fun x H' y => ?_⟩
      obtain ⟨I3, d, e, ok3, s3, r⟩ := yld i x H' hlt y
      have ed : items.drop i = d :: items.drop (i + 1) := by
        rw [List.drop_eq_getElem_cons hlt]
        rw [List.getElem?_eq_getElem hlt] at e
        rw [Option.some.inj e]
      rw [ed] at w2
      obtain ⟨z4, e4, w4⟩ := w2
      refine ⟨z2, I3, d, z4, ok3, r, e4, fun σ' ok' _ => ⟨z4, I3, ok', hb.mono { nx := fun z' => wForL g t (endsOf X.K F I D) (items.drop (i + 1)) z', rt := (endsOf X.K F I D).rt, bk := (endsOf X.K F I D).nx, ct := fun z' => wForL g t (endsOf X.K F I D) (items.drop (i + 1)) z' } _ _ ?_ w4⟩⟩
      have s13 := s2.trans s3.imm
      have s03 := s1.imm.trans s13
      exact ⟨fun z' q σ' I' H' ok' s' => ⟨z', I', ok', s13.trans s', q⟩, fun _ _ q => q.later s03, fun _ q => q.later s03, fun z' q σ' I' H' ok' s' => ⟨z', I', ok', s13.trans s', q⟩⟩
    · have e : i = items.length := by omega
      subst e
      refine .inl ⟨stop, ?_⟩
      rw [List.drop_length] at w2
      exact w2 σ2 I2 H2 ok2 (s1.imm.trans s2)) w⟩⟩
end

/-! ### list comprehensions -/
structure CI (K : PySem.W.Frag) (F : Fx) (zb : SS) (σb : St) (Ib Hb : Hp) (a : Addr) (z : SS) (σ : St) (I H : Hp) (acc : List D) : Prop where
  ok : Ok K F z σ I H
  imm : Same Ib I
  new : ∀ c o, I c = some o → Ib c = some o ∨ Hb c = none ∨ IsOwn zb σb c
  keep : ∀ c o, Hb c = some o → ¬ IsOwn zb σb c → H c = some o
  own : ∀ c, IsOwn z σ c → IsOwn zb σb c
  osub : ∀ (i : Nat) (b : Option Nat) (l : List D), z[i]? = some (some (.own b l)) → ∃ l' : List D, zb[i]? = some (some (.own b l'))
  there : ∀ c, H c = none → Hb c = none
  acc : ∃ vs, H a = some (.lst vs) ∧ RpA K I vs acc
  dI : I a = none
  d0 : F.H0 a = none
  dW : a ∉ F.W
  dB : Hb a = none
  dO : ¬ IsOwn zb σb a
section
variable {K : PySem.W.Frag} {F : Fx} {zb z z' : SS} {σb σ σ' : St} {Ib Hb I H I' H' : Hp} {a : Addr} {acc : List D}
theorem CI.step (c : CI K F zb σb Ib Hb a z σ I H acc) (ok : Ok K F z' σ I' H') (s : Step z σ I H z' I' H') : CI K F zb σb Ib Hb a z' σ I' H' acc where
  ok := ok
  imm := c.imm.trans s.imm
  new := fun b o h => by
    rcases s.new b o h with h | h | h
    · exact c.new b o h
    · exact .inr (.inl (c.there b h))
    · exact .inr (.inr (c.own b h))
  keep := fun b o h hn => s.keep b o (c.keep b o h hn) fun q => hn (c.own b q)
  own := fun b h => c.own b (s.own h)
  osub := fun i b l h => by
    obtain ⟨l1, h1⟩ := s.osub i b l h
    exact c.osub i b l1 h1
  there := fun b h => c.there b (s.there b h)
  acc := by
    obtain ⟨vs, e, r⟩ := c.acc
    exact ⟨vs, s.keep a _ e fun q => c.dO (c.own a q), r.mono s.imm⟩
  dI := by
    cases q : I' a with
    | none => rfl
    | some o =>
      rcases s.new a o q with h | h | h
      · rw [c.dI] at h; cases h
      · obtain ⟨vs, e, _⟩ := c.acc
        rw [h] at e; cases e
      · exact absurd (c.own a h) c.dO
  d0 := c.d0
  dW := c.dW
  dB := c.dB
  dO := c.dO
theorem CI.app (c : CI K F zb σb Ib Hb a z σ I H acc) {d : D} {v : V} (r : Rp K I v d) : ∃ vs, H a = some (.lst vs) ∧ vs.length = acc.length ∧ CI K F zb σb Ib Hb a z σ I (upd H a (.lst (vs ++ [v]))) (acc ++ [d]) := by
  obtain ⟨vs, e, ra⟩ := c.acc
  have hn : ¬ IsOwn z σ a := fun q => c.dO (c.own a q)
  refine ⟨vs, e, ra.length, ⟨⟨c.ok.len, c.ok.val, fun i b l h => ?_, c.ok.dis, fun b o h => ?_, c.ok.base, c.ok.new, fun b o h hw => ?_, fun b hw => ?_⟩, c.imm, c.new, fun b o h hn => ?_, c.own, c.osub, fun b h => ?_, ⟨_, upd_same, ra.append (.cons r .nil)⟩, c.dI, c.d0, c.dW, c.dB, c.dO⟩⟩
  · obtain ⟨p, ws, e1, e2, e3⟩ := c.ok.own i b l h
    have ne : p ≠ a := fun q => hn ⟨i, b, l, h, by rw [e1, q]⟩
    exact ⟨p, ws, e1, by rw [upd_ne ne]; exact e2, e3⟩
  · have ne : b ≠ a := fun q => by subst q; rw [c.dI] at h; cases h
    rw [upd_ne ne]; exact c.ok.sub b o h
  · have ne : b ≠ a := fun q => by subst q; rw [c.d0] at h; cases h
    rw [upd_ne ne]; exact c.ok.keep b o h hw
  · obtain ⟨f1, f2, ws, f3⟩ := c.ok.wf b hw
    have ne : b ≠ a := fun q => c.dW (by rw [← q]; exact hw)
    exact ⟨f1, f2, ws, by rw [upd_ne ne]; exact f3⟩
  · have ne : b ≠ a := fun q => by subst q; rw [c.dB] at h; cases h
    rw [upd_ne ne]; exact c.keep b o h hn
  · by_cases q : b = a
    · subst q; exact c.dB
    · rw [upd_ne q] at h; exact c.there b h
theorem killAll_len : ∀ (is : List Nat) (z : SS), (killAll is z).length = z.length
  | [], _ => rfl
  | i :: r, z => by unfold killAll; rw [killAll_len r, List.length_set]
theorem killAll_get : ∀ {is : List Nat} {z : SS} {j : Nat} {x : S}, (killAll is z)[j]? = some (some x) → j ∉ is ∧ z[j]? = some (some x)
  | [], _, _, _, h => ⟨by simp, h⟩
  | i :: r, z, j, x, h => by
    unfold killAll at h
    obtain ⟨h1, h2⟩ := killAll_get h
    rcases get_set h2 with ⟨rfl, q, hl⟩ | ⟨hj, q⟩
    · cases q
    · exact ⟨by simp [hj, h1], q⟩
/-- the block's own names forgotten -/
theorem CI.wiped (c : CI K F zb σb Ib Hb a z σ' I H acc) {vs : List Nat} (hw : wipe σ' vs = wipe σ vs) : CI K F zb σb Ib Hb a (killAll vs z) (wipe σ vs) I H acc := by
  have hl : (wipe σ vs).length = σ'.length := by rw [← hw, wipe_length]
  have ok2 : Ok K F (killAll vs z) (wipe σ vs) I H := (c.ok.killAll (is := vs)).slots hl fun i s h => by
    rw [← hw]; exact wipe_out (killAll_get h).1
  refine ⟨ok2, c.imm, c.new, c.keep, fun b ⟨i, t, l, e1, e2⟩ => ?_, fun i b l h => c.osub i b l (killAll_get h).2, c.there, c.acc, c.dI, c.d0, c.dW, c.dB, c.dO⟩
  obtain ⟨h1, h2⟩ := killAll_get e1
  rw [← hw, wipe_out h1] at e2
  exact c.own b ⟨i, t, l, h2, e2⟩
theorem CI.tgt {is : List Nat} (c : CI K F zb σb Ib Hb a z σ I H acc) (ok : Ok K F z' σ' I H) (t : Tgt is z σ z' σ') : CI K F zb σb Ib Hb a z' σ' I H acc :=
  ⟨ok, c.imm, c.new, c.keep, fun b h => c.own b (t.own b h), fun i b l h => c.osub i b l (t.idx i b l h), c.there, c.acc, c.dI, c.d0, c.dW, c.dB, c.dO⟩
end
def restS : List Nat → SS → SS → SS
  | [], _, z' => z'
  | i :: r, z, z' => (restS r z z').set i (match z[i]? with
    | some (some (.val d)) => some (.val d)
    | _ => none)
theorem restS_len : ∀ (is : List Nat) (z z' : SS), (restS is z z').length = z'.length
  | [], _, _ => rfl
  | i :: r, z, z' => by unfold restS; rw [List.length_set, restS_len r]
theorem restS_get : ∀ {is : List Nat} {z z' : SS} {j : Nat} {x : S}, (restS is z z')[j]? = some (some x) → (j ∉ is ∧ z'[j]? = some (some x)) ∨ (∃ d, x = .val d ∧ z[j]? = some (some (.val d)))
  | [], _, _, _, _, h => .inl ⟨by simp, h⟩
  | i :: r, z, z', j, x, h => by
    unfold restS at h
    rcases get_set h with ⟨rfl, q, hl⟩ | ⟨hj, q⟩
    · split at q
      · rename_i d e
        cases q
        exact .inr ⟨d, rfl, e⟩
      · cases q
    · rcases restS_get q with ⟨h1, h2⟩ | h2
      · exact .inl ⟨by simp [hj, h1], h2⟩
      · exact .inr h2
section
variable {K : PySem.W.Frag} {F : Fx} {zb z : SS} {σ : St} {Ib Hb I H : Hp} {a : Addr} {acc : List D}
/-- the comprehension is made -/
theorem CI.done (c : CI K F zb σ Ib Hb a z (wipe σ vs) I H acc) (okb : Ok K F zb σ Ib Hb) : Ok K F (restS vs zb z) σ I H ∧ Step zb σ Ib Hb (restS vs zb z) I H ∧ New K F (restS vs zb z) σ I Hb H a acc := by
  have hl : z.length = σ.length := by rw [c.ok.len, wipe_length]
  have owns : ∀ (i : Nat) (b : Option Nat) (l : List D), (restS vs zb z)[i]? = some (some (.own b l)) → i ∉ vs ∧ z[i]? = some (some (.own b l)) := fun i b l h => by
    rcases restS_get h with h | ⟨d, q, _⟩
    · exact h
    · cases q
  have isown : ∀ p, IsOwn (restS vs zb z) σ p → IsOwn z (wipe σ vs) p := fun p ⟨i, b, l, e1, e2⟩ => by
    obtain ⟨h1, h2⟩ := owns i b l e1
    exact ⟨i, b, l, h2, by rw [wipe_out h1]; exact e2⟩
  refine ⟨⟨by rw [restS_len, hl], fun i d h => ?_, fun i b l h => ?_, fun i j b b' l l' p e f g h => ?_, c.ok.sub, c.ok.base, c.ok.new, c.ok.keep, c.ok.wf⟩, ⟨c.imm, c.new, c.keep, fun i b l h => c.osub i b l (owns i b l h).2, c.there⟩, ⟨c.dB, c.acc, c.dI, c.d0, fun q => c.dO (c.own a (isown a q))⟩⟩
  · rcases restS_get h with ⟨h1, h2⟩ | ⟨d', q, h2⟩
    · obtain ⟨v, e, r⟩ := c.ok.val i d h2
      exact ⟨v, by rw [← wipe_out h1]; exact e, r⟩
    · cases q
      obtain ⟨v, e, r⟩ := okb.val i _ h2
      exact ⟨v, e, r.mono c.imm⟩
  · obtain ⟨h1, h2⟩ := owns i b l h
    obtain ⟨p, ws, e1, e2⟩ := c.ok.own i b l h2
    exact ⟨p, ws, by rw [← wipe_out h1]; exact e1, e2⟩
  · obtain ⟨h1, h2⟩ := owns i b l e
    obtain ⟨h3, h4⟩ := owns j b' l' f
    exact c.ok.dis i j b b' l l' p h2 h4 (by rw [wipe_out h1]; exact g) (by rw [wipe_out h3]; exact h)
/-- a comprehension begins -/
theorem Ok.begin (ok : Ok K F z σ I H) (hp : H a = none) (vs : List Nat) : CI K F z σ I H a (L3.killAll vs z) (wipe σ vs) I (upd H a (.lst [])) [] := by
  obtain ⟨o2, s2⟩ := ok.fresh (.lst []) hp
  have c : CI K F z σ I H a z σ I (upd H a (.lst [])) [] := ⟨o2, s2.imm, s2.new, s2.keep, fun _ h => h, s2.osub, s2.there, ⟨[], upd_same, .nil⟩, ok.i0 hp, (ok.h0 hp).1, (ok.h0 hp).2, hp, ok.nown hp⟩
  exact c.wiped rfl
end
structure XTs (X : Cx) (F : Fx) (ifs : List Expr) (t : WT) : Prop where
  mono : Mono t
  run : PTs X ifs (liftT X.K F t)
theorem pts_imp {X : Cx} {e : List Expr} {t t' : TT} (h : PTs X e t) (i : ∀ σ H Q, t' σ H Q → t σ H Q) : PTs X e t' := ⟨fun pins s σ H Q I q => h.run pins s σ H Q I (i σ H Q q)⟩
def wYes : WT := fun z R => R true z
theorem xts_nil {X : Cx} {F : Fx} : XTs X F [] wYes := ⟨fun z R R' k w => k _ _ w, pts_imp pts_nil fun σ H Q ⟨z, I, ok, w⟩ => w I H ok .refl⟩
theorem xts_one {X : Cx} {F : Fx} {c : Expr} {t : WT} (h : XT X F c t) : XTs X F [c] t := ⟨h.mono, pts_one h.run⟩
def wLcL (g : GS) (own : List Nat) (tt : WT) (te : WE) (k : List D → SS → Prop) : List D → List D → SS → Prop
  | [], acc, z => k acc z
  | x :: xs, acc, z => ∃ z1, g x z = some z1 ∧ tt z1 fun b z2 => if b = true then te z2 fun ev z3 => ∃ d, ev = .d d ∧ acc.length < sizeLine ∧ wLcL g own tt te k xs (acc ++ [d]) (killAll own z3) else wLcL g own tt te k xs acc (killAll own z2)
theorem wLcL_mono {g : GS} {own : List Nat} {tt : WT} {te : WE} {k k' : List D → SS → Prop} (ht : Mono tt) (he : Mono te) (hk : ∀ acc z, k acc z → k' acc z) : ∀ (l acc : List D) (z : SS), wLcL g own tt te k l acc z → wLcL g own tt te k' l acc z
  | [], acc, z, w => hk acc z w
  | x :: xs, acc, z, ⟨z1, e, w⟩ => ⟨z1, e, ht _ _ _ (fun b z2 q => by
    cases b with
    | true => exact he _ _ _ (fun ev z3 ⟨d, e, l, q⟩ => ⟨d, e, l, wLcL_mono ht he hk xs _ _ q⟩) q
    | false => exact wLcL_mono ht he hk xs _ _ q) w⟩
def wLc (s : WI) (g : GS) (own : List Nat) (tt : WT) (te : WE) : WR := fun z R => s z fun items z1 => wLcL g own tt te (fun acc z' => R (.n acc) (restS own z1 z')) items [] (killAll own z1)
def wLcL2 (g : GS) (own : List Nat) (tt : WT) (s1 : WI) (g1 : GS) (vs1 : List Nat) (tt1 : WT) (te : WE) (k : List D → SS → Prop) : List D → List D → SS → Prop
  | [], acc, z => k acc z
  | x :: xs, acc, z => ∃ z1, g x z = some z1 ∧ tt z1 fun b z2 => if b = true then s1 z2 fun items z3 => wLcL g1 vs1 tt1 te (fun acc' z4 => wLcL2 g own tt s1 g1 vs1 tt1 te k xs acc' (killAll own z4)) items acc (killAll vs1 z3) else wLcL2 g own tt s1 g1 vs1 tt1 te k xs acc (killAll own z2)
def wLc2 (s : WI) (g : GS) (own : List Nat) (tt : WT) (s1 : WI) (g1 : GS) (vs1 : List Nat) (tt1 : WT) (te : WE) : WR := fun z R => s z fun items z1 => wLcL2 g own tt s1 g1 vs1 tt1 te (fun acc z' => R (.n acc) (restS own z1 z')) items [] (killAll own z1)
section
variable {X : Cx} {F : Fx} {tg iter elt : Expr} {g : GS} {tt : WT} {te : WE} {vs : List Nat}
/-- one clause's loop -/
theorem lc_loop {is : List Nat} {ifs : List Expr} {J : It} {items acc : List D} {I1 : Hp} {zb : SS} {σb : St} {Ib Hb : Hp} {a : Addr} {k : List D → SS → Prop} {Fin : Hp → Prop} {z : SS} {σ : St} {I H : Hp} {gt : TG} {t1 : TT} {t2 : TE}
    (hg : ∀ v σ H Q, (∃ z I d z', Ok X.K F z σ I H ∧ Rp X.K I v d ∧ g d z = some z' ∧ ∀ σ', Ok X.K F z' σ' I H → Tgt is z σ z' σ' → Q σ' H) → gt v σ H Q) (hv : ∀ i ∈ is, i ∈ vs)
    (ht : ∀ σ H Q, liftT X.K F tt σ H Q → t1 σ H Q) (mt : Mono tt) (he : ∀ σ H Q, liftE X.K F te σ H Q → t2 σ H Q) (me : Mono te)
    (sv : Serves X.K F J items I1) (c : CI X.K F zb σb Ib Hb a z (wipe σ vs) I H acc) (hI : Same I1 I) (w : wLcL g vs tt te k items acc z)
    (fin : ∀ z I H acc, CI X.K F zb σb Ib Hb a z (wipe σ vs) I H acc → k acc z → Fin H) :
    ∃ W : Nat → Nat → Hp → Prop, (∃ m, W 0 m H) ∧ ∀ i m H, W i m H →
      (J.stop i H ∧ Fin H) ∨ (J.go i H ∧ ∃ Nx : Hp → Prop, (∀ H', Nx H' → ∃ m', m' < m ∧ W (i + 1) m' H') ∧ ∀ x H', J.yld i H x H' → gt x (wipe σ vs) H' fun σ2 H2 => wipe σ2 vs = wipe σ vs ∧ t1 σ2 H2 fun b H3 =>
        if b = true then t2 σ2 H3 fun y H4 => ∃ acc, H4 a = some (.lst acc) ∧ acc.length < sizeLine ∧ Nx (upd H4 a (.lst (acc ++ [y]))) else Nx H3) := by
  refine ⟨fun i m H => m = items.length - i ∧ i ≤ items.length ∧ ∃ z I acc, CI X.K F zb σb Ib Hb a z (wipe σ vs) I H acc ∧ Same I1 I ∧ wLcL g vs tt te k (items.drop i) acc z, ⟨items.length, by simp, Nat.zero_le _, z, I, acc, c, hI, by simpa using w⟩, ?_⟩
  rintro i m H2 ⟨rfl, hi, z2, I2, acc2, c2, s2, w2⟩
  obtain ⟨go, stop, yld⟩ := sv z2 _ I2 H2 c2.ok s2
  by_cases hlt : i < items.length
  · refine .inr ⟨go i hlt, fun H' => ∃ z I acc, CI X.K F zb σb Ib Hb a z (wipe σ vs) I H' acc ∧ Same I1 I ∧ wLcL g vs tt te k (items.drop (i + 1)) acc z, fun H' ⟨z', I', acc', p, q, r⟩ => ⟨items.length - (i + 1), by omega, rfl, hlt, z', I', acc', p, q, r⟩, fun x H' y => ?_⟩
    obtain ⟨I3, d, e, ok3, s3, r⟩ := yld i x H' hlt y
    have ed : items.drop i = d :: items.drop (i + 1) := by
      rw [List.drop_eq_getElem_cons hlt]
      rw [List.getElem?_eq_getElem hlt] at e
      rw [Option.some.inj e]
    rw [ed] at w2
    obtain ⟨z4, e4, w4⟩ := w2
    have c3 := c2.step ok3 s3
    refine hg _ _ _ _ ⟨z2, I3, d, z4, ok3, r, e4, fun σ' ok' tg => ⟨?_, ?_⟩⟩
    · have := tg.wp vs hv
      rw [this]
      have hww : ∀ (ws : List Nat), wipe (wipe σ ws) ws = wipe σ ws := by
        intro ws
        have hs : ∀ (us : List Nat), (∀ i ∈ us, i ∈ ws) → wipe (wipe σ us) ws = wipe σ ws := by
          intro us
          induction us with
          | nil => intro _; rfl
          | cons u us ih =>
            intro hm
            show wipe ((wipe σ us).set u none) ws = _
            rw [wipe_set (hm u List.mem_cons_self), ih fun i hi => hm i (List.mem_cons_of_mem _ hi)]
        exact hs ws fun _ h => h
      rw [hww]
    · have hw' : wipe σ' vs = wipe σ vs := by
        have := tg.wp vs hv
        rw [this]
        have hs : ∀ (us : List Nat), (∀ i ∈ us, i ∈ vs) → wipe (wipe σ us) vs = wipe σ vs := by
          intro us
          induction us with
          | nil => intro _; rfl
          | cons u us ih =>
            intro hm
            show wipe ((wipe σ us).set u none) vs = _
            rw [wipe_set (hm u List.mem_cons_self), ih fun i hi => hm i (List.mem_cons_of_mem _ hi)]
        exact hs vs fun _ h => h
      have c4 := c3.tgt ok' tg
      refine ht _ _ _ ⟨z4, I3, ok', mt _ _ _ (fun b z5 q I5 H5 o5 s5 => ?_) w4⟩
      have c5 := c4.step o5 s5
      cases b with
      | true =>
        simp only [if_true] at q ⊢
        refine he _ _ _ ⟨z5, I5, o5, me _ _ _ (fun ev z6 ⟨d', e', hl, q⟩ v I6 H6 o6 s6 r6 => ?_) q⟩
        subst e'
        obtain ⟨ws, f1, f2, c7⟩ := (c5.step o6 s6).app r6
        exact ⟨ws, f1, by rw [f2]; exact hl, _, I6, _, c7.wiped hw', ((s2.trans s3.imm).trans s5.imm).trans s6.imm, q⟩
      | false =>
        simp only [Bool.false_eq_true, if_false] at q ⊢
        exact ⟨_, I5, _, c5.wiped hw', (s2.trans s3.imm).trans s5.imm, q⟩
  · have e : i = items.length := by omega
    subst e
    rw [List.drop_length] at w2
    exact .inl ⟨stop, fin z2 I2 H2 acc2 c2 w2⟩
variable {ifs : List Expr} {scope : Scope} {own : List (Str × Nat)} {pos : Pos} {s : WI} {is : List Nat}
theorem lc_run {σ : St} {H : Hp} {Q : VK} (hi : Mono s) (hv : ∀ i ∈ is, i ∈ own.map (·.2)) (mt : Mono tt) (me : Mono te) (h : liftR X.K F (wLc s g (own.map (·.2)) tt te) σ H Q) :
    tLc (liftI X.K F s) (fun v σ H Q => ∃ z I d z', Ok X.K F z σ I H ∧ Rp X.K I v d ∧ g d z = some z' ∧ ∀ σ', Ok X.K F z' σ' I H → Tgt is z σ z' σ' → Q σ' H) (liftT X.K F tt) (liftE X.K F te) (own.map (·.2)) σ H Q := by
  obtain ⟨z, I, ok, w⟩ := h
  refine ⟨z, I, ok, hi _ _ _ (fun items z1 w J I1 H1 ok1 s1 sv a ha => ?_) w⟩
  refine lc_loop (X := X) (ifs := []) (fun _ _ _ _ q => q) hv (fun _ _ _ q => q) mt (fun _ _ _ q => q) me sv (ok1.begin ha (own.map (·.2))) (Same.refl _) w fun z2 I2 H2 acc c q => ?_
  obtain ⟨o3, s3, n⟩ := c.done ok1
  exact q a I2 H2 o3 (s1.trans s3) (n.back s1)
theorem xr_lc (hc : X.calm = true) (hN : X.N.Nodup) (hi : XI X F tg iter s) (ok : BlkOk X.N X.env.scope scope own) (hv : ∀ i ∈ is, i ∈ own.map (·.2))
    (hg : ∀ (s : Shared) (H : Hp) (C : Addr) (cl : List (Str × Addr)) (fp : List Addr), XG (X.blk s H scope (compEnvC scope cl C X.env) fp) F tg is g) (ht : ∀ (s : Shared) (H : Hp) (C : Addr) (cl : List (Str × Addr)) (fp : List Addr), XTs (X.blk s H scope (compEnvC scope cl C X.env) fp) F ifs tt)
    (he : ∀ (s : Shared) (H : Hp) (C : Addr) (cl : List (Str × Addr)) (fp : List Addr), XE (X.blk s H scope (compEnvC scope cl C X.env) fp) F elt te) (mt : Mono tt) (me : Mono te) (hs : ∀ x, foldedSetIterable iter X.env x = pure x := by intro _; rfl) :
    XR X F (.ListComp elt [⟨tg, iter, ifs, 0⟩] scope pos) (wLc s g (own.map (·.2)) tt te) :=
  ⟨fun z R R' k w => hi.mono _ _ _ (fun items z1 q => wLcL_mono mt me (fun acc z q => k _ _ q) _ _ _ q) w,
    pe_imp (pe_lc hc hN hi.run ok (fun s H C cl fp => (hg s H C cl fp).run) (fun s H C cl fp => (ht s H C cl fp).run) (fun s H C cl fp => (he s H C cl fp).run) hs) fun σ H Q h => lc_run hi.mono hv mt me h⟩
/-- name = [..] -/
def wLcSet (i : Nat) (t : WR) : WS := fun E z => t z fun r z1 => E.nx (z1.set i (some (.val r.toD)))
theorem xs_setLc {i : Nat} {y : Str} {py spos : Pos} (hc : X.calm = true) (hN : X.N.Nodup) (hy : X.N[i]? = some y) (hyl : X.env.scope.names.lookup y = some .local)
    (hsw : swapsWith (.ListComp elt [⟨tg, iter, ifs, 0⟩] scope pos) (some (.Name y py)) spos.line X.env = pure true) (hi : XI X F tg iter s) (ok : BlkOk X.N X.env.scope scope own) (hv : ∀ i ∈ is, i ∈ own.map (·.2))
    (hg : ∀ (s : Shared) (H : Hp) (C : Addr) (cl : List (Str × Addr)) (fp : List Addr), XG (X.blk s H scope (compEnvC scope cl C X.env) fp) F tg is g) (ht : ∀ (s : Shared) (H : Hp) (C : Addr) (cl : List (Str × Addr)) (fp : List Addr), XTs (X.blk s H scope (compEnvC scope cl C X.env) fp) F ifs tt)
    (he : ∀ (s : Shared) (H : Hp) (C : Addr) (cl : List (Str × Addr)) (fp : List Addr), XE (X.blk s H scope (compEnvC scope cl C X.env) fp) F elt te) (mt : Mono tt) (me : Mono te) (hs : ∀ x, foldedSetIterable iter X.env x = pure x := by intro _; rfl) :
    XS X F (.Assign [.Name y py] (.ListComp elt [⟨tg, iter, ifs, 0⟩] scope pos) spos) (wLcSet i (wLc s g (own.map (·.2)) tt te)) :=
  ⟨fun E E' z l w => hi.mono _ _ _ (fun items z1 q => wLcL_mono mt me (fun acc z q => l.nx _ q) _ _ _ q) w,
    ps_imp (ps_setLc hc hN hy hyl hsw hi.run ok (fun s H C cl fp => (hg s H C cl fp).run) (fun s H C cl fp => (ht s H C cl fp).run) (fun s H C cl fp => (he s H C cl fp).run) hs) fun D σ H ⟨z, I, o, w⟩ => by
      refine lc_run (X := X) (Q := fun x H1 => gName i x σ H1 D.nx) hi.mono hv mt me ⟨z, I, o, hi.mono _ _ _ (fun items z1 q => wLcL_mono mt me (fun acc z' q => ?_) _ _ _ q) w⟩
      refine PostX.frz fun v I' H' o' s' r => ?_
      exact q _ I' H' (o'.set r) s'.imm⟩
end
end L3
namespace L3
open PySem PySem.Spec PyProof.Rows L2 PySem.SeqAt

/-! ### comprehensions of two clauses -/
section
variable {X : Cx} {F : Fx} {tg iter tg1 iter1 elt : Expr} {g g1 : GS} {tt tt1 : WT} {te : WE} {vs1 : List Nat}
variable {ifs ifs1 : List Expr} {scope : Scope} {own : List (Str × Nat)} {pos : Pos} {s s1 : WI} {is is1 : List Nat}
theorem wLcL2_mono {k k' : List D → SS → Prop} {own : List Nat} (ht : Mono tt) (hs : Mono s1) (ht1 : Mono tt1) (he : Mono te) (hk : ∀ acc z, k acc z → k' acc z) : ∀ (l acc : List D) (z : SS), wLcL2 g own tt s1 g1 vs1 tt1 te k l acc z → wLcL2 g own tt s1 g1 vs1 tt1 te k' l acc z
  | [], acc, z, w => hk acc z w
  | x :: xs, acc, z, ⟨z1, e, w⟩ => ⟨z1, e, ht _ _ _ (fun b z2 q => by
    cases b with
    | true => exact hs _ _ _ (fun items z3 q => wLcL_mono ht1 he (fun acc' z4 q => wLcL2_mono ht hs ht1 he hk xs _ _ q) _ _ _ q) q
    | false => exact wLcL2_mono ht hs ht1 he hk xs _ _ q) w⟩
theorem wipe_wipe {σ : St} {us ws : List Nat} (h : ∀ i ∈ us, i ∈ ws) : wipe (wipe σ us) ws = wipe σ ws := by
  induction us with
  | nil => rfl
  | cons u us ih =>
    show wipe ((wipe σ us).set u none) ws = _
    rw [wipe_set (h u List.mem_cons_self), ih fun i hi => h i (List.mem_cons_of_mem _ hi)]
theorem lc2_run {σ : St} {Hz : Hp} {Q : VK} (hi : Mono s) (hv : ∀ i ∈ is, i ∈ own.map (·.2)) (hv1 : ∀ i ∈ is1, i ∈ vs1) (hvo : ∀ i ∈ vs1, i ∈ own.map (·.2)) (mt : Mono tt) (ms : Mono s1) (mt1 : Mono tt1) (me : Mono te) (h : liftR X.K F (wLc2 s g (own.map (·.2)) tt s1 g1 vs1 tt1 te) σ Hz Q) :
    tLc2 (liftI X.K F s) (fun v σ H Q => ∃ z I d z', Ok X.K F z σ I H ∧ Rp X.K I v d ∧ g d z = some z' ∧ ∀ σ', Ok X.K F z' σ' I H → Tgt is z σ z' σ' → Q σ' H) (liftT X.K F tt) (liftI X.K F s1)
      (fun v σ H Q => ∃ z I d z', Ok X.K F z σ I H ∧ Rp X.K I v d ∧ g1 d z = some z' ∧ ∀ σ', Ok X.K F z' σ' I H → Tgt is1 z σ z' σ' → Q σ' H) (liftT X.K F tt1) (liftE X.K F te) (own.map (·.2)) vs1 σ Hz Q := by
  obtain ⟨zz, Iz, okz, w⟩ := h
  refine ⟨zz, Iz, okz, hi _ _ _ (fun items z1 w J I1 H1 ok1 st1 sv a ha => ?_) w⟩
  generalize hvs : own.map (·.2) = vs at *
  refine ⟨fun i m H => m = items.length - i ∧ i ≤ items.length ∧ ∃ z I acc, CI X.K F z1 σ I1 H1 a z (wipe σ vs) I H acc ∧ Same I1 I ∧ wLcL2 g vs tt s1 g1 vs1 tt1 te (fun acc z' => PostX X.K F zz σ Iz Hz Q (.n acc) (restS vs z1 z')) (items.drop i) acc z,
    ⟨items.length, by simp, Nat.zero_le _, _, I1, [], ok1.begin ha vs, Same.refl _, by simpa using w⟩, ?_⟩
  rintro i m H2 ⟨rfl, hi, z2, I2, acc2, c2, s2, w2⟩
  obtain ⟨go, stop, yld⟩ := sv z2 _ I2 H2 c2.ok s2
  by_cases hlt : i < items.length
  · refine .inr ⟨go i hlt, fun H' => ∃ z I acc, CI X.K F z1 σ I1 H1 a z (wipe σ vs) I H' acc ∧ Same I1 I ∧ wLcL2 g vs tt s1 g1 vs1 tt1 te (fun acc z' => PostX X.K F zz σ Iz Hz Q (.n acc) (restS vs z1 z')) (items.drop (i + 1)) acc z, fun H' ⟨z', I', acc', p, q, r⟩ => ⟨items.length - (i + 1), by omega, rfl, hlt, z', I', acc', p, q, r⟩, fun x H' y => ?_⟩
    obtain ⟨I3, d, e, ok3, s3, r⟩ := yld i x H' hlt y
    have ed : items.drop i = d :: items.drop (i + 1) := by
      rw [List.drop_eq_getElem_cons hlt]
      rw [List.getElem?_eq_getElem hlt] at e
      rw [Option.some.inj e]
    rw [ed] at w2
    obtain ⟨z4, e4, w4⟩ := w2
    have c3 := c2.step ok3 s3
    refine ⟨z2, I3, d, z4, ok3, r, e4, fun σ' ok' tg => ⟨?_, ?_⟩⟩
    · rw [tg.wp vs hv, wipe_wipe fun _ h => h]
    · have hw' : wipe σ' vs = wipe σ vs := by rw [tg.wp vs hv, wipe_wipe fun _ h => h]
      have c4 := c3.tgt ok' tg
      refine ⟨z4, I3, ok', mt _ _ _ (fun b z5 q I5 H5 o5 s5 => ?_) w4⟩
      have c5 := c4.step o5 s5
      cases b with
      | true =>
        simp only [if_true] at q ⊢
        refine ⟨z5, I5, o5, ms _ _ _ (fun items1 z6 q J1 I6 H6 o6 s6 sv1 => ?_) q⟩
        have c6 := c5.step o6 s6
        refine lc_loop (X := X) (ifs := []) (is := is1) (k := fun acc' z4 => wLcL2 g vs tt s1 g1 vs1 tt1 te (fun acc z' => PostX X.K F zz σ Iz Hz Q (.n acc) (restS vs z1 z')) (items.drop (i + 1)) acc' (killAll vs z4)) (fun _ _ _ _ q => q) hv1 (fun _ _ _ q => q) mt1 (fun _ _ _ q => q) me sv1 (c6.wiped rfl) (Same.refl _) q fun z7 I7 H7 acc7 c7 q7 => ?_
        have c8 := c7.wiped (vs := vs) (σ := σ) (by rw [wipe_wipe hvo, hw'])
        exact ⟨_, I7, _, c8, c8.imm, q7⟩
      | false =>
        simp only [Bool.false_eq_true, if_false] at q ⊢
        exact ⟨_, I5, _, c5.wiped hw', (s2.trans s3.imm).trans s5.imm, q⟩
  · have e : i = items.length := by omega
    subst e
    rw [List.drop_length] at w2
    obtain ⟨o3, s3, n⟩ := c2.done ok1
    exact .inl ⟨stop, w2 a I2 H2 o3 (st1.trans s3) (n.back st1)⟩
theorem xr_lc2 (hc : X.calm = true) (hN : X.N.Nodup) (hi : XI X F tg iter s) (ok : BlkOk X.N X.env.scope scope own) (hv : ∀ i ∈ is, i ∈ own.map (·.2)) (hv1 : ∀ i ∈ is1, i ∈ vs1) (hvo : ∀ i ∈ vs1, i ∈ own.map (·.2))
    (hg : ∀ (s : Shared) (H : Hp) (C : Addr) (cl : List (Str × Addr)) (fp : List Addr), XG (X.blk s H scope (compEnvC scope cl C X.env) fp) F tg is g) (ht : ∀ (s : Shared) (H : Hp) (C : Addr) (cl : List (Str × Addr)) (fp : List Addr), XTs (X.blk s H scope (compEnvC scope cl C X.env) fp) F ifs tt)
    (hi1 : ∀ (s : Shared) (H : Hp) (C : Addr) (cl : List (Str × Addr)) (fp : List Addr), XI (X.blk s H scope (compEnvC scope cl C X.env) fp) F tg1 iter1 s1)
    (hg1 : ∀ (s : Shared) (H : Hp) (C : Addr) (cl : List (Str × Addr)) (fp : List Addr), XG (X.blk s H scope (compEnvC scope cl C X.env) fp) F tg1 is1 g1) (ht1 : ∀ (s : Shared) (H : Hp) (C : Addr) (cl : List (Str × Addr)) (fp : List Addr), XTs (X.blk s H scope (compEnvC scope cl C X.env) fp) F ifs1 tt1)
    (he : ∀ (s : Shared) (H : Hp) (C : Addr) (cl : List (Str × Addr)) (fp : List Addr), XE (X.blk s H scope (compEnvC scope cl C X.env) fp) F elt te) (mt : Mono tt) (ms : Mono s1) (mt1 : Mono tt1) (me : Mono te) (hs : ∀ x, foldedSetIterable iter X.env x = pure x := by intro _; rfl) (hs1 : ∀ env x, foldedSetIterable iter1 env x = pure x := by intro _ _; rfl) :
    XR X F (.ListComp elt [⟨tg, iter, ifs, 0⟩, ⟨tg1, iter1, ifs1, 0⟩] scope pos) (wLc2 s g (own.map (·.2)) tt s1 g1 vs1 tt1 te) :=
  ⟨fun z R R' k w => hi.mono _ _ _ (fun items z1 q => wLcL2_mono mt ms mt1 me (fun acc z q => k _ _ q) _ _ _ q) w,
    pe_imp (pe_lc2 hc hN hi.run ok hvo (fun s H C cl fp => (hg s H C cl fp).run) (fun s H C cl fp => (ht s H C cl fp).run) (fun s H C cl fp => (hi1 s H C cl fp).run) (fun s H C cl fp => (hg1 s H C cl fp).run) (fun s H C cl fp => (ht1 s H C cl fp).run) (fun s H C cl fp => (he s H C cl fp).run) hs hs1) fun σ H Q h => lc2_run hi.mono hv hv1 hvo mt ms mt1 me h⟩
theorem xs_setLc2 {i : Nat} {y : Str} {py spos : Pos} (hc : X.calm = true) (hN : X.N.Nodup) (hy : X.N[i]? = some y) (hyl : X.env.scope.names.lookup y = some .local)
    (hsw : swapsWith (.ListComp elt [⟨tg, iter, ifs, 0⟩, ⟨tg1, iter1, ifs1, 0⟩] scope pos) (some (.Name y py)) spos.line X.env = pure true) (hi : XI X F tg iter s) (ok : BlkOk X.N X.env.scope scope own) (hv : ∀ i ∈ is, i ∈ own.map (·.2)) (hv1 : ∀ i ∈ is1, i ∈ vs1) (hvo : ∀ i ∈ vs1, i ∈ own.map (·.2))
    (hg : ∀ (s : Shared) (H : Hp) (C : Addr) (cl : List (Str × Addr)) (fp : List Addr), XG (X.blk s H scope (compEnvC scope cl C X.env) fp) F tg is g) (ht : ∀ (s : Shared) (H : Hp) (C : Addr) (cl : List (Str × Addr)) (fp : List Addr), XTs (X.blk s H scope (compEnvC scope cl C X.env) fp) F ifs tt)
    (hi1 : ∀ (s : Shared) (H : Hp) (C : Addr) (cl : List (Str × Addr)) (fp : List Addr), XI (X.blk s H scope (compEnvC scope cl C X.env) fp) F tg1 iter1 s1)
    (hg1 : ∀ (s : Shared) (H : Hp) (C : Addr) (cl : List (Str × Addr)) (fp : List Addr), XG (X.blk s H scope (compEnvC scope cl C X.env) fp) F tg1 is1 g1) (ht1 : ∀ (s : Shared) (H : Hp) (C : Addr) (cl : List (Str × Addr)) (fp : List Addr), XTs (X.blk s H scope (compEnvC scope cl C X.env) fp) F ifs1 tt1)
    (he : ∀ (s : Shared) (H : Hp) (C : Addr) (cl : List (Str × Addr)) (fp : List Addr), XE (X.blk s H scope (compEnvC scope cl C X.env) fp) F elt te) (mt : Mono tt) (ms : Mono s1) (mt1 : Mono tt1) (me : Mono te) (hs : ∀ x, foldedSetIterable iter X.env x = pure x := by intro _; rfl) (hs1 : ∀ env x, foldedSetIterable iter1 env x = pure x := by intro _ _; rfl) :
    XS X F (.Assign [.Name y py] (.ListComp elt [⟨tg, iter, ifs, 0⟩, ⟨tg1, iter1, ifs1, 0⟩] scope pos) spos) (wLcSet i (wLc2 s g (own.map (·.2)) tt s1 g1 vs1 tt1 te)) :=
  ⟨fun E E' z l w => hi.mono _ _ _ (fun items z1 q => wLcL2_mono mt ms mt1 me (fun acc z q => l.nx _ q) _ _ _ q) w,
    ps_imp (ps_setLc2 hc hN hy hyl hsw hi.run ok hvo (fun s H C cl fp => (hg s H C cl fp).run) (fun s H C cl fp => (ht s H C cl fp).run) (fun s H C cl fp => (hi1 s H C cl fp).run) (fun s H C cl fp => (hg1 s H C cl fp).run) (fun s H C cl fp => (ht1 s H C cl fp).run) (fun s H C cl fp => (he s H C cl fp).run) hs hs1) fun D σ H ⟨z, I, o, w⟩ => by
      refine lc2_run (X := X) (Q := fun x H1 => gName i x σ H1 D.nx) hi.mono hv hv1 hvo mt ms mt1 me ⟨z, I, o, hi.mono _ _ _ (fun items z1 q => wLcL2_mono mt ms mt1 me (fun acc z' q => ?_) _ _ _ q) w⟩
      refine PostX.frz fun v I' H' o' s' r => ?_
      exact q _ I' H' (o'.set r) s'.imm⟩
end

/-! ### calls of the text's own defs -/
/-- an argument: a datum, or a list of the caller's own that the def may change -/
inductive AV where
  | val (d : D)
  | own (l : List D)
/-- what a def promises: from its arguments, what its answer and the list behind it (where it has one) are to satisfy -/
abbrev FS := List AV → (RV → Option (List D) → Prop) → Prop
def MonoF (p : FS) : Prop := ∀ as R R', (∀ r o, R r o → R' r o) → p as R → p as R'
inductive ArgsOk (K : PySem.W.Frag) (I H : Hp) : List V → List AV → Option Addr → Prop
  | nil : ArgsOk K I H [] [] none
  | val {v : V} {d : D} {vs : List V} {as : List AV} {w : Option Addr} : Rp K I v d → ArgsOk K I H vs as w → ArgsOk K I H (v :: vs) (.val d :: as) w
  | own {a : Addr} {ws : List V} {l : List D} {vs : List V} {as : List AV} : H a = some (.lst ws) → I a = none → RpA K I ws l → ArgsOk K I H vs as none → ArgsOk K I H (.ref a :: vs) (.own l :: as) (some a)
def OutOk (K : PySem.W.Frag) (I' H' : Hp) : Option Addr → Option (List D) → Prop
  | some a, some l => I' a = none ∧ ∃ ws, H' a = some (.lst ws) ∧ RpA K I' ws l
  | none, none => True
  | _, _ => False
def RvOk (K : PySem.W.Frag) (I' H H' : Hp) (v : V) : RV → Prop
  | .d d => Rp K I' v d
  | .n l => ∃ a vs, v = .ref a ∧ H' a = some (.lst vs) ∧ RpA K I' vs l ∧ I' a = none ∧ H a = none
structure RetOk (K : PySem.W.Frag) (I H : Hp) (w : Option Addr) (rv : RV) (out : Option (List D)) (v : V) (I' H' : Hp) : Prop where
  imm : Same I I'
  sub : Same I' H'
  new : ∀ a o, I' a = some o → I a = some o ∨ H a = none
  keep : ∀ a o, H a = some o → w ≠ some a → H' a = some o
  out : OutOk K I' H' w out
  rv : RvOk K I' H H' v rv
def spOf (K : PySem.W.Frag) (p : FS) : Sp := fun vs H Q _ => ∃ I as w, ArgsOk K I H vs as w ∧ Same I H ∧ p as fun rv out => ∀ v I' H', RetOk K I H w rv out v I' H' → Q v H'
def argsOf (z : SS) : List EV → Option (List AV × Option Nat)
  | [] => some ([], none)
  | .d x :: r => (argsOf z r).map fun p => (.val x :: p.1, p.2)
  | .o i :: r => match z[i]?, argsOf z r with
    | some (some (.own _ l)), some (as, none) => some (.own l :: as, some i)
    | _, _ => none
def putOut (z : SS) : Option Nat → Option (List D) → Option SS
  | none, none => some z
  | some j, some l => match z[j]? with
    | some (some (.own b _)) => some (z.set j (some (.own b l)))
    | _ => none
  | _, _ => none
def wCall (p : FS) (u : WA) : WR := fun z R => u z fun es z1 => ∃ as j, argsOf z1 es = some (as, j) ∧ p as fun rv out => ∃ z2, putOut z1 j out = some z2 ∧ R rv z2
section
variable {K : PySem.W.Frag} {F : Fx} {z z2 : SS} {σ : St} {I H I' H' : Hp}
def SameArg (z : SS) (σ : St) : Option Nat → Option Addr → Prop
  | some i, some a => σ[i]? = some (some (.ref a)) ∧ ∃ b l, z[i]? = some (some (.own b l))
  | none, none => True
  | _, _ => False
theorem args_ok (ok : Ok K F z σ I H) : ∀ {es : List EV} {vs : List V} {as : List AV} {j : Option Nat}, Paired (EvOk K I σ) es vs → argsOf z es = some (as, j) → ∃ w, ArgsOk K I H vs as w ∧ SameArg z σ j w
  | _, _, _, _, .nil, h => by cases h; exact ⟨none, .nil, trivial⟩
  | _, _, _, _, .cons (a := .d x) r t, h => by
    unfold argsOf at h
    obtain ⟨⟨as, j⟩, e, q⟩ := Option.map_eq_some_iff.mp h
    cases q
    obtain ⟨w, h1, h2⟩ := args_ok ok t e
    exact ⟨w, .val r h1, h2⟩
  | _, _, _, _, .cons (a := .o i) r t, h => by
    unfold argsOf at h
    split at h
    · rename_i b l as e1 e2
      cases h
      obtain ⟨w, h1, h2⟩ := args_ok ok t e2
      obtain ⟨a, ws, f1, f2, f3, f4, f5⟩ := ok.own i b l e1
      rw [show σ[i]? = some (some _) from r] at f1; cases f1
      cases w with
      | some _ => exact h2.elim
      | none => exact ⟨some a, .own f2 f3 f4 h1, r, b, l, e1⟩
    · cases h
/-- behind a call -/
theorem Ok.called (ok : Ok K F z σ I H) {j : Option Nat} {w : Option Addr} {out : Option (List D)} {rv : RV} {v : V} (sa : SameArg z σ j w) (r : RetOk K I H w rv out v I' H') (hp : putOut z j out = some z2) :
    Ok K F z2 σ I' H' ∧ Step z σ I H z2 I' H' := by
  have inew : ∀ a, H a ≠ none → I a = none → I' a = none := fun a h1 h2 => by
    cases q : I' a with
    | none => rfl
    | some o =>
      rcases r.new a o q with h | h
      · rw [h2] at h; cases h
      · exact absurd h h1
  have fh0 : ∀ a, H a = none → F.H0 a = none := fun a h => (ok.h0 h).1
  have wown : ∀ a, w = some a → IsOwn z σ a := fun a e => by
    subst e
    cases j with
    | none => exact sa.elim
    | some i => exact ⟨i, sa.2.choose, sa.2.choose_spec.choose, sa.2.choose_spec.choose_spec, sa.1⟩
  have there : ∀ a, H' a = none → H a = none := fun a h => by
    cases q : H a with
    | none => rfl
    | some o =>
      by_cases e : w = some a
      · subst e
        cases out with
        | none => exact r.out.elim
        | some l =>
          obtain ⟨_, ws, e2, _⟩ := r.out
          rw [h] at e2; cases e2
      · rw [r.keep a o q e] at h; cases h
  -- the slots behind
  have slot : ∀ (i : Nat) (b : Option Nat) (l : List D), z2[i]? = some (some (.own b l)) → ∃ l0 a, z[i]? = some (some (.own b l0)) ∧ σ[i]? = some (some (.ref a)) ∧ ∃ ws, H' a = some (.lst ws) ∧ RpA K I' ws l := fun i b l h => by
    cases j with
    | none =>
      cases out with
      | some _ => cases hp
      | none =>
        cases hp
        obtain ⟨a, ws, f1, f2, f3, f4, f5⟩ := ok.own i b l h
        cases w with
        | some _ => exact sa.elim
        | none => exact ⟨l, a, h, f1, ws, r.keep a _ f2 (by simp), f4.mono r.imm⟩
    | some k =>
      cases out with
      | none => cases hp
      | some l' =>
        cases w with
        | none => exact sa.elim
        | some c =>
          obtain ⟨s1, b', l0, s2⟩ := sa
          unfold putOut at hp
          simp only [s2] at hp
          cases hp
          rcases get_set h with ⟨rfl, q, hl⟩ | ⟨hk, q⟩
          · cases q
            obtain ⟨_, ws, e1, e2⟩ := r.out
            exact ⟨l0, c, s2, s1, ws, e1, e2⟩
          · obtain ⟨a, ws, f1, f2, f3, f4, f5⟩ := ok.own i b l q
            refine ⟨l, a, q, f1, ws, r.keep a _ f2 fun e => hk ?_, f4.mono r.imm⟩
            cases e
            exact ok.dis _ _ _ _ _ _ _ q s2 f1 s1
  have vals : ∀ (i : Nat) (d : D), z2[i]? = some (some (.val d)) → z[i]? = some (some (.val d)) := fun i d h => by
    unfold putOut at hp
    split at hp
    · cases hp; exact h
    · split at hp
      · cases hp
        rcases get_set h with ⟨rfl, q, hl⟩ | ⟨hk, q⟩
        · cases q
        · exact q
      · cases hp
    · cases hp
  have len : z2.length = z.length := by
    unfold putOut at hp
    split at hp
    · cases hp; rfl
    · split at hp
      · cases hp; simp
      · cases hp
    · cases hp
  refine ⟨⟨by rw [len, ok.len], fun i d h => ?_, fun i b l h => ?_, fun i k b b' l l' a e f g h => ?_, r.sub, ok.base.trans r.imm, fun a o h => ?_, fun a o h hw => ?_, fun a hw => ?_⟩, ⟨r.imm, fun a o h => ?_, fun a o h hn => ?_, fun i b l h => ?_, there⟩⟩
  · obtain ⟨v, e, rr⟩ := ok.val i d (vals i d h)
    exact ⟨v, e, rr.mono r.imm⟩
  · obtain ⟨l0, a, e1, e2, ws, e3, e4⟩ := slot i b l h
    obtain ⟨a', us, f1, f2, f3, f4, f5⟩ := ok.own i b l0 e1
    rw [e2] at f1; cases f1
    exact ⟨a, ws, e2, e3, inew a (by rw [f2]; simp) f3, e4, f5⟩
  · obtain ⟨_, _, e1, _⟩ := slot i b l e
    obtain ⟨_, _, e2, _⟩ := slot k b' l' f
    exact ok.dis i k _ _ _ _ a e1 e2 g h
  · rcases r.new a o h with h | h
    · exact ok.new a o h
    · exact .inr (fh0 a h)
  · refine r.keep a o (ok.keep a o h hw) fun e => ?_
    obtain ⟨i, b, l, e1, e2⟩ := wown a e
    obtain ⟨a', us, f1, f2, f3, f4, f5⟩ := ok.own i b l e1
    rw [e2] at f1; cases f1
    unfold Tag at f5
    cases b with
    | some k => exact hw (List.mem_of_getElem? f5)
    | none => simp only at f5; rw [f5] at h; cases h
  · obtain ⟨f1, f2, ws, f3⟩ := ok.wf a hw
    refine ⟨inew a (by rw [f3]; simp) f1, f2, ?_⟩
    by_cases e : w = some a
    · subst e
      cases out with
      | none => exact r.out.elim
      | some l =>
        obtain ⟨_, us, e2, _⟩ := r.out
        exact ⟨us, e2⟩
    · exact ⟨ws, r.keep a _ f3 e⟩
  · rcases r.new a o h with h | h
    · exact .inl h
    · exact .inr (.inl h)
  · exact r.keep a o h fun e => hn (wown a e)
  · obtain ⟨l0, a, e1, _⟩ := slot i b l h
    exact ⟨l0, e1⟩
theorem isOwn_of {z : SS} {σ : St} {j : Option Nat} {w : Option Addr} (sa : SameArg z σ j w) : ∀ a, w = some a → IsOwn z σ a := fun a e => by
  subst e
  cases j with
  | none => exact sa.elim
  | some i => exact ⟨i, sa.2.choose, sa.2.choose_spec.choose, sa.2.choose_spec.choose_spec, sa.1⟩
end
section
variable {X : Cx} {k : Nat} {f : Addr} {fd : FuncData} {ps : List Str} {p : FS} {x : Str} {pp pos : Pos} {F : Fx} {e : Expr} {es : List Expr} {u : WA}
theorem call_run (hp : MonoF p) (ha : XA X F es u) {σ : St} {H : Hp} {Q : VK} {E : XK} (h : liftR X.K F (wCall p u) σ H Q) : tCall (spOf X.K p) [] E (liftA X.K F u) σ H Q := by
  obtain ⟨z, I, ok, w⟩ := h
  refine ha.at ok w fun es z1 vs I1 H1 ⟨as, j, ea, q⟩ o s ev => ?_
  obtain ⟨w', ao, sa⟩ := args_ok o ev ea
  show spOf X.K p (vs ++ []) H1 Q E
  rw [List.append_nil]
  refine ⟨I1, as, w', ao, o.sub, hp _ _ _ (fun rv out ⟨z2, e2, q⟩ v I' H' r => ?_) q⟩
  obtain ⟨o2, s2⟩ := o.called sa r e2
  have st := s.trans s2
  cases rv with
  | d x => exact q v I' H' o2 st r.rv
  | n l =>
    obtain ⟨a, ws, rfl, e3, e4, e5, e6⟩ := r.rv
    refine q a I' H' o2 st ⟨s.there a e6, ⟨ws, e3, e4⟩, e5, (o.h0 e6).1, fun hn => ?_⟩
    obtain ⟨i, b, m, g1, g2⟩ := hn
    obtain ⟨l0, g3⟩ := s2.osub i b m g1
    obtain ⟨a', us, f1, f2, _⟩ := o.own i b l0 g3
    rw [g2] at f1; cases f1
    rw [e6] at f2; cases f2
theorem wCall_mono (hp : MonoF p) (hu : Mono u) : Mono (wCall p u) := fun z R R' k w => hu _ _ _ (fun es z1 ⟨as, j, e, q⟩ => ⟨as, j, e, hp _ _ _ (fun rv out ⟨z2, e2, q⟩ => ⟨z2, e2, k _ _ q⟩) q⟩) w
theorem xr_call (hp : MonoF p) (Fn : FnOk X.prog X.w X.K X.mg X.base CX0 k f fd ps (spOf X.K p)) (hr : Room k X.A) (hg : Gl X x) (hm : X.mg x = some (.ref f)) (hk : PySem.W.keepIn X.K (.ref f) = true) (hb : Binds X.K fd ps [])
    (ha : XA X F (e :: es) u) (hdb : (x == ("__debug__" : Str)) = false := by decide) (he : starEach (e :: es) X.env = (false, eval e X.env) :: starEach es X.env := by rfl) (hpl : (backTo pos (starEach es X.env)).any (·.1) = false := by rfl) :
    XR X F (.Call (.Name x pp) (e :: es) [] pos) (wCall p u) :=
  ⟨wCall_mono hp ha.mono, pe_imp (pe_call Fn hr hg hm hk hb .nil pass0 ha.run hdb he hpl) fun σ H Q h => call_run hp ha h⟩
theorem xr_call0 (hp : MonoF p) (Fn : FnOk X.prog X.w X.K X.mg X.base CX0 k f fd ps (spOf X.K p)) (hr : Room k X.A) (hg : Gl X x) (hm : X.mg x = some (.ref f)) (hk : PySem.W.keepIn X.K (.ref f) = true) (hb : Binds X.K fd ps [])
    (hdb : (x == ("__debug__" : Str)) = false := by decide) : XR X F (.Call (.Name x pp) [] [] pos) (wCall p wNil) :=
  ⟨wCall_mono hp (xa_nil (X := X) (F := F)).mono, pe_imp (pe_call0 Fn hr hg hm hk hb .nil pass0 hdb) fun σ H Q h => by
    obtain ⟨z, I, ok, w⟩ := h
    have := call_run (X := X) (F := F) (es := []) (E := E0) hp xa_nil ⟨z, I, ok, w⟩
    obtain ⟨z', I', ok', w'⟩ := this
    exact w' [] I' H ok' .refl .nil⟩
end

/-! ### a def keeps its promise -/
def startS (n : Nat) (as : List AV) : SS := (as.map fun a => match a with
  | .val d => some (.val d)
  | .own l => some (.own (some 0) l)) ++ List.replicate (n - as.length) none
def findOwn : SS → Option (List D)
  | [] => none
  | some (.own (some _) l) :: _ => some l
  | _ :: r => findOwn r
def hasOwn : List AV → Bool
  | [] => false
  | .own _ :: _ => true
  | .val _ :: r => hasOwn r
def outOf (o : Bool) (z : SS) : Option (Option (List D)) := if o then (findOwn z).map some else some none
def retEn (o : Bool) (R : RV → Option (List D) → Prop) : En where
  nx := fun z => ∃ out, outOf o z = some out ∧ R (.d .none) out
  rt := fun rv z => ∃ out, outOf o z = some out ∧ R rv out
theorem findOwn_at : ∀ {z : SS} {l : List D}, findOwn z = some l → ∃ (i : Nat) (k : Nat), z[i]? = some (some (.own (some k) l))
  | [], _, h => by cases h
  | some (.own (some k) m) :: r, l, h => by
    cases h
    exact ⟨0, k, rfl⟩
  | none :: r, l, h => by
    obtain ⟨i, k, e⟩ := findOwn_at (z := r) h
    exact ⟨i + 1, k, e⟩
  | some (.val d) :: r, l, h => by
    obtain ⟨i, k, e⟩ := findOwn_at (z := r) h
    exact ⟨i + 1, k, e⟩
  | some (.own none m) :: r, l, h => by
    obtain ⟨i, k, e⟩ := findOwn_at (z := r) h
    exact ⟨i + 1, k, e⟩
section
variable {K : PySem.W.Frag} {I H : Hp}
theorem ArgsOk.len : ∀ {vs : List V} {as : List AV} {w : Option Addr}, ArgsOk K I H vs as w → vs.length = as.length
  | _, _, _, .nil => rfl
  | _, _, _, .val _ t => by simp [ArgsOk.len t]
  | _, _, _, .own _ _ _ t => by simp [ArgsOk.len t]
theorem ArgsOk.has : ∀ {vs : List V} {as : List AV} {w : Option Addr}, ArgsOk K I H vs as w → hasOwn as = w.isSome
  | _, _, _, .nil => rfl
  | _, _, _, .val _ t => by
    have := ArgsOk.has t
    exact this
  | _, _, _, .own _ _ _ t => rfl
theorem args_val : ∀ {vs : List V} {as : List AV} {w : Option Addr} {i : Nat} {d : D}, ArgsOk K I H vs as w → as[i]? = some (.val d) → ∃ v, vs[i]? = some v ∧ Rp K I v d
  | _, _, _, _, _, .nil, h => by simp at h
  | _, _, _, 0, _, .val r t, h => by simp at h; subst h; exact ⟨_, rfl, r⟩
  | _, _, _, i + 1, _, .val r t, h => by
    obtain ⟨v, e, q⟩ := args_val (i := i) t (by simpa using h)
    exact ⟨v, by simpa using e, q⟩
  | _, _, _, 0, _, .own _ _ _ t, h => by simp at h
  | _, _, _, i + 1, _, .own _ _ _ t, h => by
    obtain ⟨v, e, q⟩ := args_val (i := i) t (by simpa using h)
    exact ⟨v, by simpa using e, q⟩
theorem args_own : ∀ {vs : List V} {as : List AV} {w : Option Addr} {i : Nat} {l : List D}, ArgsOk K I H vs as w → as[i]? = some (.own l) → ∃ a ws, w = some a ∧ vs[i]? = some (.ref a) ∧ H a = some (.lst ws) ∧ I a = none ∧ RpA K I ws l
  | _, _, _, _, _, .nil, h => by simp at h
  | _, _, _, 0, _, .val r t, h => by simp at h
  | _, _, _, i + 1, _, .val r t, h => by
    obtain ⟨a, ws, e1, e2, q⟩ := args_own (i := i) t (by simpa using h)
    exact ⟨a, ws, e1, by simpa using e2, q⟩
  | _, _, _, 0, _, .own h1 h2 h3 t, h => by simp at h; subst h; exact ⟨_, _, rfl, rfl, h1, h2, h3⟩
  | _, _, _, i + 1, _, .own _ _ _ t, h => by
    obtain ⟨a, ws, e1, _⟩ := args_own (i := i) t (by simpa using h)
    cases e1
theorem args_one : ∀ {vs : List V} {as : List AV} {w : Option Addr} {i j : Nat} {l m : List D}, ArgsOk K I H vs as w → as[i]? = some (.own l) → as[j]? = some (.own m) → i = j
  | _, _, _, _, _, _, _, .nil, h, _ => by simp at h
  | _, _, _, 0, _, _, _, .val r t, h, _ => by simp at h
  | _, _, _, _, 0, _, _, .val r t, _, h => by simp at h
  | _, _, _, i + 1, j + 1, _, _, .val r t, h, g => by rw [args_one (i := i) (j := j) t (by simpa using h) (by simpa using g)]
  | _, _, _, 0, 0, _, _, .own _ _ _ t, _, _ => rfl
  | _, _, _, i + 1, _, _, _, .own _ _ _ t, h, _ => by
    obtain ⟨a, ws, e1, _⟩ := args_own (i := i) t (by simpa using h)
    cases e1
  | _, _, _, _, j + 1, _, _, .own _ _ _ t, _, h => by
    obtain ⟨a, ws, e1, _⟩ := args_own (i := j) t (by simpa using h)
    cases e1
theorem start_get {n : Nat} {as : List AV} {i : Nat} {s : S} (h : (startS n as)[i]? = some (some s)) : ∃ a, as[i]? = some a ∧ s = (match a with | .val d => .val d | .own l => .own (some 0) l) := by
  unfold startS at h
  by_cases hi : i < as.length
  · rw [List.getElem?_append_left (by simpa using hi)] at h
    rw [List.getElem?_map] at h
    obtain ⟨a, e, q⟩ := Option.map_eq_some_iff.mp h
    refine ⟨a, e, ?_⟩
    cases a <;> simpa using q.symm
  · rw [List.getElem?_append_right (by simpa using hi)] at h
    have := List.mem_of_getElem? h
    rw [List.mem_replicate] at this
    cases this.2
theorem Ok.start {vs : List V} {as : List AV} {w : Option Addr} {N : List Str} (ha : ArgsOk K I H vs as w) (hs : Same I H) (hn : as.length ≤ N.length) : Ok K ⟨I, H, w.toList⟩ (startS N.length as) (L2.start N vs) I H := by
  have sget : ∀ (i : Nat) (v : V), vs[i]? = some v → (L2.start N vs)[i]? = some (some v) := fun i v h => by
    unfold L2.start
    have hl : i < vs.length := (List.getElem?_eq_some_iff.mp h).1
    rw [List.getElem?_append_left (by simpa using hl), List.getElem?_map, h]
    rfl
  have hl := ha.len
  refine ⟨?_, fun i d h => ?_, fun i b l h => ?_, fun i j b b' l l' a e f _ _ => ?_, hs, Same.refl _, fun a o h => .inl h, fun a o h _ => h, fun a hw => ?_⟩
  · unfold startS L2.start
    simp only [List.length_append, List.length_map, List.length_replicate]
    omega
  · obtain ⟨a, e, q⟩ := start_get h
    cases a with
    | val d' =>
      cases q
      obtain ⟨v, e2, r⟩ := args_val ha e
      exact ⟨v, sget i v e2, r⟩
    | own l => cases q
  · obtain ⟨a, e, q⟩ := start_get h
    cases a with
    | val d' => cases q
    | own l' =>
      cases q
      obtain ⟨a, ws, rfl, e2, e3, e4, e5⟩ := args_own ha e
      exact ⟨a, ws, sget i _ e2, e3, e4, e5, rfl⟩
  · obtain ⟨a1, e1, q1⟩ := start_get e
    obtain ⟨a2, e2, q2⟩ := start_get f
    cases a1 with
    | val d' => cases q1
    | own l1 =>
      cases a2 with
      | val d' => cases q2
      | own l2 => exact args_one ha e1 e2
  · cases w with
    | none => simp at hw
    | some c =>
      have e : a = c := by simpa using hw
      subst e
      have find : ∀ {vs : List V} {as : List AV} {w : Option Addr}, ArgsOk K I H vs as w → w = some a → I a = none ∧ ∃ ws, H a = some (.lst ws) := by
        intro vs as w h
        induction h with
        | nil => intro e; cases e
        | val _ _ ih => exact ih
        | own h1 h2 h3 _ _ => intro e; cases e; exact ⟨h2, _, h1⟩
      obtain ⟨g1, ws, g2⟩ := find ha rfl
      exact ⟨g1, by show H a ≠ none; rw [g2]; simp, ws, g2⟩
end
/-- THE RULE for a def -/
theorem fn_ok {P : Program} {w : World} {K : PySem.W.Frag} {mg : Str → Option Value} {base : Heap} {x qual : Str} {st : Stmt} {f : Addr} {fd : FuncData} {N ps : List Str} {k : Nat} {p : FS} {t : WS} (Fn : Fun K x qual st f fd) (Sc : FnScope N ps (defScope st))
    (hlen : ∀ as R, p as R → as.length = ps.length)
    (hb : ∀ (cdv : Value) (A : Around) (outer : List Env) (s : Shared) (H : Hp) (E : XK) (F : Fx), Room k (A.deeper (envOfC qual (defScope st) s.heap.objs.size f cdv)) → XSs (cxOf CX0 P w K mg base N qual (defScope st) f cdv A outer s H E).nox F (defBody st) t)
    (vc : ∀ as R, p as R → t (retEn (hasOwn as) R) (startS N.length as)) : FnOk P w K mg base CX0 (k + 1) f fd ps (spOf K p) := by
  have hN : ps.length ≤ N.length := by
    have := congrArg List.length Sc.pre
    rw [List.length_take] at this
    omega
  refine Fn.ok Sc (fun vs H Q E ⟨I, as, w, ha, _, hp⟩ => by rw [ha.len, hlen _ _ hp]) (fun cdv A outer s H vs Q E hr ⟨I, as, w, ha, hs, hp⟩ => ?_)
  have hx := hb cdv A outer s H E ⟨I, H, w.toList⟩ hr
  refine ⟨_, hx.run, startS N.length as, I, Ok.start ha hs (by rw [hlen _ _ hp]; exact hN), hx.mono _ _ _ ?_ (vc as _ hp)⟩
  have fin : ∀ (z : SS) (out : Option (List D)) (σ : St) (I' H' : Hp) (rv : RV) (v : V), outOf (hasOwn as) z = some out → Ok K ⟨I, H, w.toList⟩ z σ I' H' → Same I I' → RvOk K I' H H' v rv → RetOk K I H w rv out v I' H' := by
    intro z out σ I' H' rv v ho ok hi rk
    refine ⟨hi, ok.sub, ok.new, fun a o h hw => ok.keep a o h (fun q => hw ?_), ?_, rk⟩
    · cases w with
      | none => simp at q
      | some c => simp at q; rw [q]
    · rw [ha.has] at ho
      cases w with
      | none => cases ho; trivial
      | some c =>
        unfold outOf at ho
        simp only [Option.isSome_some, if_true] at ho
        obtain ⟨l, e, q⟩ := Option.map_eq_some_iff.mp ho
        subst q
        obtain ⟨i, k, e⟩ := findOwn_at e
        obtain ⟨a, ws, f1, f2, f3, f4, f5⟩ := ok.own i _ l e
        have ec : c = a := by
          have : [c][k]? = some a := f5
          cases k with
          | zero => simpa using this
          | succ k => simp at this
        subst ec
        exact ⟨f3, ws, f2, f4⟩
  refine ⟨fun z ⟨out, ho, q⟩ σ I' H' ok s' => q _ I' H' (fin z out σ I' H' (.d .none) .non ho ok s' .non), fun rv z ⟨out, ho, q⟩ => ?_, fun _ h => h.elim, fun _ h => h.elim⟩
  cases rv with
  | d x => exact fun v σ I' H' ok s' r => q v I' H' (fin z out σ I' H' (.d x) v ho ok s' r)
  | n l => exact fun a σ I' H' ok s' o => q _ I' H' (fin z out σ I' H' (.n l) _ ho ok s' ⟨a, o.at_.choose, rfl, o.at_.choose_spec.1, o.at_.choose_spec.2, o.imm, o.h0⟩)
/-- the law's own promise, and its end -/
def pLaw : FS := fun as R => ∃ ns : List Int, as = [.val (.dict [(.none, .list (ns.map PyData.int))])] ∧ ns.length ≤ 63 ∧ R (.d (.bool true)) none
theorem pLaw_end {K : PySem.W.Frag} {H : Hp} {a : Addr} {ns : List Int} (hl : ns.length ≤ 63) (hS : SqL K H a (ns.map V.int)) : spOf K pLaw [.ref a] H (fun v _ => v = .bl true) fun _ _ _ => False :=
  ⟨H, _, none, .val (.scr hS (rpA_ints ns)) .nil, Same.refl _, ns, rfl, hl, fun v I' H' r => by
    have := r.rv
    cases this
    rfl⟩
end L3
namespace L3
open PySem PySem.Spec PyProof.Rows L2 PySem.SeqAt

section
variable {X : Cx} {F : Fx} {pos : Pos} {a b c : Expr} {ta tb tc : WE}
theorem wChain_mono {f g : F2} {r r' : R2} (hf : VR2 X F r f) (hg : VR2 X F r' g) (ha : Mono ta) (hb : Mono tb) (hc : Mono tc) : Mono (wChain f g ta tb tc) := fun z R R' k w =>
  ha _ _ _ (fun x z1 w => hb _ _ _ (fun y z2 w => hf.mono _ _ _ _ _ (fun d ⟨c, e, q⟩ => ⟨c, e, by
    cases c with
    | true => exact hc _ _ _ (fun v z3 w => hg.mono _ _ _ _ _ (fun d q => k _ _ q) w) q
    | false => exact k _ _ q⟩) w) w) w
theorem PostR.frz {K : PySem.W.Frag} {z : SS} {σ : St} {I H : Hp} {Q : VK} {r : RV} (q : Post K F z σ I H Q (.d r.toD) z) : PostR K F z σ I H Q r := by
  cases r with
  | d x => exact fun v I' H' o s r => q v I' H' o s r
  | n l =>
    intro a I' H' o s n
    have ⟨I2, o2, s2, r2⟩ := n.frz o s
    exact q _ I2 H' o2 s2 r2
theorem chain_run {f g : F2} {r r' : R2} (hf : VR2 X F r f) (hg : VR2 X F r' g) (ha : XE X F a ta) (hb : XE X F b tb) (hc : XE X F c tc) : ∀ σ H Q, liftE X.K F (wChain f g ta tb tc) σ H Q → tChain r r' (liftE X.K F ta) (liftE X.K F tb) (liftE X.K F tc) σ H Q := fun σ H Q ⟨z, I, ok, w⟩ =>
  ha.at ok w fun x z1 v1 I1 H1 w ok1 s1 e1 => hb.at ok1 w fun y z2 v2 I2 H2 w ok2 s2 e2 =>
    hf.run ok2 (e1.mono s2.imm) e2 (hf.mono _ _ _ _ _ (fun d ⟨c, e, q⟩ => by
      subst e
      intro v I3 H3 o3 s3 r3
      cases r3
      refine ⟨c, rfl, ?_⟩
      cases c with
      | true =>
        simp only [if_true] at q ⊢
        have ok3 : Ok X.K F z2 σ I3 H3 := o3
        refine hc.at o3 q fun w z4 v4 I4 H4 q o4 s4 e4 => ?_
        refine hg.run o4 ((e2.mono s3.imm).mono s4.imm) e4 (hg.mono _ _ _ _ _ (fun d q => PostR.frz (Post.step (((s1.trans s2).trans s3).trans s4) q)) q)
      | false =>
        simp only [Bool.false_eq_true, if_false] at q ⊢
        exact q _ I3 H3 o3 ((s1.trans s2).trans s3) (.bl false)) w)
theorem xe_chain {op op' : CmpOp} {f g : F2} {r r' : R2} (ho : OpR X (compareOp op) r) (ho' : OpR X (compareOp op') r') (hf : VR2 X F r f) (hg : VR2 X F r' g) (ha : XE X F a ta) (hb : XE X F b tb) (hc : XE X F c tc)
    (hm : lastMarks [op, op'] [b, c] = false := by with_unfolding_all rfl) : XE X F (.Compare a [op, op'] [b, c] pos) (wChain f g ta tb tc) :=
  ⟨wChain_mono hf hg ha.mono hb.mono hc.mono, pe_imp (pe_chain ho ho' ha.run hb.run hc.run hm) (chain_run hf hg ha hb hc)⟩
theorem xt_chain {op op' : CmpOp} {f g : F2} {r r' : R2} (ho : OpR X (compareOp op) r) (ho' : OpR X (compareOp op') r') (hf : VR2 X F r f) (hg : VR2 X F r' g) (ha : XE X F a ta) (hb : XE X F b tb) (hc : XE X F c tc)
    (hm : lastMarks [op, op'] [b, c] = false := by with_unfolding_all rfl) : XT X F (.Compare a [op, op'] [b, c] pos) (wTest (wChain f g ta tb tc)) :=
  ⟨wTest_mono (wChain_mono hf hg ha.mono hb.mono hc.mono), pt_imp (pt_chain ho ho' ha.run hb.run hc.run hm) fun σ H Q ⟨z, I, ok, w⟩ => by
    refine chain_run hf hg ha hb hc σ H _ ⟨z, I, ok, wChain_mono hf hg ha.mono hb.mono hc.mono _ _ _ (fun x z1 q v I' H' o s e => ?_) w⟩
    obtain ⟨c, rfl, q⟩ := q
    cases e
    exact ⟨c, rfl, q I' H' o s⟩⟩
/-- -a -/
def wNeg (t : WE) : WE := fun z R => t z fun x z1 => ∃ i, x = .d (.int i) ∧ R (.d (.int (-i))) z1
theorem xe_neg (h : XE X F a ta) : XE X F (.UnaryOp .USub a pos) (wNeg ta) :=
  ⟨fun z R R' k w => h.mono _ _ _ (fun x z1 ⟨i, e, q⟩ => ⟨i, e, k _ _ q⟩) w, pe_imp (pe_un un_neg h.run) fun σ H Q ⟨z, I, ok, w⟩ => h.at ok w fun x z1 v I' H' ⟨i, e, q⟩ o s ev => by
    subst e
    cases ev
    exact ⟨i, rfl, q _ I' H' o s (.int _)⟩⟩
theorem xe_gI {x : Str} {i : Int} (hg : Gl X x) (hm : ∃ t, X.mg x = some (.int i t)) (hd : (x == ("__debug__" : Str)) = false := by decide) : XE X F (.Name x pos) (wC (.int i)) := xe_glob hg hm.choose_spec (show RelV (.int i) _ from ⟨_, rfl⟩) (fun _ => .int _) hd
theorem xe_gS {x : Str} {y : Str} (hg : Gl X x) (hm : ∃ t, X.mg x = some (.str y t)) (hd : (x == ("__debug__" : Str)) = false := by decide) : XE X F (.Name x pos) (wC (.str y)) := xe_glob hg hm.choose_spec (show RelV (.str y) _ from ⟨_, rfl⟩) (fun _ => .str _) hd
def wDct : WE := fun z R => R (.d (.dict [])) z
theorem xe_dict0 : XE X F (.Dict [] [] pos) wDct := xe_dct (pe_imp pe_dnewK fun σ H Q h => h)
end
section
variable {X : Cx} {F : Fx} {tg iter elt tg1 iter1 : Expr} {g g1 : GS} {tt tt1 : WT} {te : WE} {vs1 : List Nat}
variable {ifs ifs1 : List Expr} {scope : Scope} {own : List (Str × Nat)} {pos : Pos} {s s1 : WI} {is is1 : List Nat}
abbrev B0 (X : Cx) (scope : Scope) : Cx := X.blk {} (fun _ => none) scope (compEnvC scope [] 0 X.env) []
theorem xr_lcA (own : List (Str × Nat)) (hc : X.calm = true) (hN : X.N.Nodup) (hi : XI X F tg iter s) (ok : BlkOk X.N X.env.scope scope own)
    (hg : ∀ (s : Shared) (H : Hp) (C : Addr) (cl : List (Str × Addr)) (fp : List Addr), XG (X.blk s H scope (compEnvC scope cl C X.env) fp) F tg is g) (ht : ∀ (s : Shared) (H : Hp) (C : Addr) (cl : List (Str × Addr)) (fp : List Addr), XTs (X.blk s H scope (compEnvC scope cl C X.env) fp) F ifs tt)
    (he : ∀ (s : Shared) (H : Hp) (C : Addr) (cl : List (Str × Addr)) (fp : List Addr), XE (X.blk s H scope (compEnvC scope cl C X.env) fp) F elt te) (hv : ∀ i ∈ is, i ∈ own.map (·.2) := by decide) (hs : ∀ x, foldedSetIterable iter X.env x = pure x := by intro _; rfl) :
    XR X F (.ListComp elt [⟨tg, iter, ifs, 0⟩] scope pos) (wLc s g (own.map (·.2)) tt te) := xr_lc hc hN hi ok hv hg ht he (ht {} (fun _ => none) 0 [] []).mono (he {} (fun _ => none) 0 [] []).mono hs
theorem xs_setLcA (own : List (Str × Nat)) {i : Nat} {y : Str} {py spos : Pos} (hc : X.calm = true) (hN : X.N.Nodup) (hy : X.N[i]? = some y) (hyl : X.env.scope.names.lookup y = some .local)
    (hsw : swapsWith (.ListComp elt [⟨tg, iter, ifs, 0⟩] scope pos) (some (.Name y py)) spos.line X.env = pure true) (hi : XI X F tg iter s) (ok : BlkOk X.N X.env.scope scope own)
    (hg : ∀ (s : Shared) (H : Hp) (C : Addr) (cl : List (Str × Addr)) (fp : List Addr), XG (X.blk s H scope (compEnvC scope cl C X.env) fp) F tg is g) (ht : ∀ (s : Shared) (H : Hp) (C : Addr) (cl : List (Str × Addr)) (fp : List Addr), XTs (X.blk s H scope (compEnvC scope cl C X.env) fp) F ifs tt)
    (he : ∀ (s : Shared) (H : Hp) (C : Addr) (cl : List (Str × Addr)) (fp : List Addr), XE (X.blk s H scope (compEnvC scope cl C X.env) fp) F elt te) (hv : ∀ i ∈ is, i ∈ own.map (·.2) := by decide) (hs : ∀ x, foldedSetIterable iter X.env x = pure x := by intro _; rfl) :
    XS X F (.Assign [.Name y py] (.ListComp elt [⟨tg, iter, ifs, 0⟩] scope pos) spos) (wLcSet i (wLc s g (own.map (·.2)) tt te)) := xs_setLc hc hN hy hyl hsw hi ok hv hg ht he (ht {} (fun _ => none) 0 [] []).mono (he {} (fun _ => none) 0 [] []).mono hs
theorem xr_lc2A (own : List (Str × Nat)) (vs1 : List Nat) (hc : X.calm = true) (hN : X.N.Nodup) (hi : XI X F tg iter s) (ok : BlkOk X.N X.env.scope scope own)
    (hg : ∀ (s : Shared) (H : Hp) (C : Addr) (cl : List (Str × Addr)) (fp : List Addr), XG (X.blk s H scope (compEnvC scope cl C X.env) fp) F tg is g) (ht : ∀ (s : Shared) (H : Hp) (C : Addr) (cl : List (Str × Addr)) (fp : List Addr), XTs (X.blk s H scope (compEnvC scope cl C X.env) fp) F ifs tt)
    (hi1 : ∀ (s : Shared) (H : Hp) (C : Addr) (cl : List (Str × Addr)) (fp : List Addr), XI (X.blk s H scope (compEnvC scope cl C X.env) fp) F tg1 iter1 s1)
    (hg1 : ∀ (s : Shared) (H : Hp) (C : Addr) (cl : List (Str × Addr)) (fp : List Addr), XG (X.blk s H scope (compEnvC scope cl C X.env) fp) F tg1 is1 g1) (ht1 : ∀ (s : Shared) (H : Hp) (C : Addr) (cl : List (Str × Addr)) (fp : List Addr), XTs (X.blk s H scope (compEnvC scope cl C X.env) fp) F ifs1 tt1)
    (he : ∀ (s : Shared) (H : Hp) (C : Addr) (cl : List (Str × Addr)) (fp : List Addr), XE (X.blk s H scope (compEnvC scope cl C X.env) fp) F elt te)
    (hv : ∀ i ∈ is, i ∈ own.map (·.2) := by decide) (hv1 : ∀ i ∈ is1, i ∈ vs1 := by decide) (hvo : ∀ i ∈ vs1, i ∈ own.map (·.2) := by decide) (hs : ∀ x, foldedSetIterable iter X.env x = pure x := by intro _; rfl) (hs1 : ∀ env x, foldedSetIterable iter1 env x = pure x := by intro _ _; rfl) :
    XR X F (.ListComp elt [⟨tg, iter, ifs, 0⟩, ⟨tg1, iter1, ifs1, 0⟩] scope pos) (wLc2 s g (own.map (·.2)) tt s1 g1 vs1 tt1 te) :=
  xr_lc2 hc hN hi ok hv hv1 hvo hg ht hi1 hg1 ht1 he (ht {} (fun _ => none) 0 [] []).mono (hi1 {} (fun _ => none) 0 [] []).mono (ht1 {} (fun _ => none) 0 [] []).mono (he {} (fun _ => none) 0 [] []).mono hs hs1
theorem xs_setLc2A (own : List (Str × Nat)) (vs1 : List Nat) {i : Nat} {y : Str} {py spos : Pos} (hc : X.calm = true) (hN : X.N.Nodup) (hy : X.N[i]? = some y) (hyl : X.env.scope.names.lookup y = some .local)
    (hsw : swapsWith (.ListComp elt [⟨tg, iter, ifs, 0⟩, ⟨tg1, iter1, ifs1, 0⟩] scope pos) (some (.Name y py)) spos.line X.env = pure true) (hi : XI X F tg iter s) (ok : BlkOk X.N X.env.scope scope own)
    (hg : ∀ (s : Shared) (H : Hp) (C : Addr) (cl : List (Str × Addr)) (fp : List Addr), XG (X.blk s H scope (compEnvC scope cl C X.env) fp) F tg is g) (ht : ∀ (s : Shared) (H : Hp) (C : Addr) (cl : List (Str × Addr)) (fp : List Addr), XTs (X.blk s H scope (compEnvC scope cl C X.env) fp) F ifs tt)
    (hi1 : ∀ (s : Shared) (H : Hp) (C : Addr) (cl : List (Str × Addr)) (fp : List Addr), XI (X.blk s H scope (compEnvC scope cl C X.env) fp) F tg1 iter1 s1)
    (hg1 : ∀ (s : Shared) (H : Hp) (C : Addr) (cl : List (Str × Addr)) (fp : List Addr), XG (X.blk s H scope (compEnvC scope cl C X.env) fp) F tg1 is1 g1) (ht1 : ∀ (s : Shared) (H : Hp) (C : Addr) (cl : List (Str × Addr)) (fp : List Addr), XTs (X.blk s H scope (compEnvC scope cl C X.env) fp) F ifs1 tt1)
    (he : ∀ (s : Shared) (H : Hp) (C : Addr) (cl : List (Str × Addr)) (fp : List Addr), XE (X.blk s H scope (compEnvC scope cl C X.env) fp) F elt te)
    (hv : ∀ i ∈ is, i ∈ own.map (·.2) := by decide) (hv1 : ∀ i ∈ is1, i ∈ vs1 := by decide) (hvo : ∀ i ∈ vs1, i ∈ own.map (·.2) := by decide) (hs : ∀ x, foldedSetIterable iter X.env x = pure x := by intro _; rfl) (hs1 : ∀ env x, foldedSetIterable iter1 env x = pure x := by intro _ _; rfl) :
    XS X F (.Assign [.Name y py] (.ListComp elt [⟨tg, iter, ifs, 0⟩, ⟨tg1, iter1, ifs1, 0⟩] scope pos) spos) (wLcSet i (wLc2 s g (own.map (·.2)) tt s1 g1 vs1 tt1 te)) :=
  xs_setLc2 hc hN hy hyl hsw hi ok hv hv1 hvo hg ht hi1 hg1 ht1 he (ht {} (fun _ => none) 0 [] []).mono (hi1 {} (fun _ => none) 0 [] []).mono (ht1 {} (fun _ => none) 0 [] []).mono (he {} (fun _ => none) 0 [] []).mono hs hs1
end
/-- name = [..], the name's own list -/
theorem xs_setLcO {X : Cx} {F : Fx} {tg iter elt : Expr} {g : GS} {tt : WT} {te : WE} {ifs : List Expr} {scope : Scope} {pos : Pos} {s : WI} {is : List Nat} (own : List (Str × Nat)) {i : Nat} {y : Str} {py spos : Pos} (hc : X.calm = true) (hN : X.N.Nodup) (hy : X.N[i]? = some y) (hyl : X.env.scope.names.lookup y = some .local)
    (hsw : swapsWith (.ListComp elt [⟨tg, iter, ifs, 0⟩] scope pos) (some (.Name y py)) spos.line X.env = pure true) (hi : XI X F tg iter s) (ok : BlkOk X.N X.env.scope scope own)
    (hg : ∀ (s : Shared) (H : Hp) (C : Addr) (cl : List (Str × Addr)) (fp : List Addr), XG (X.blk s H scope (compEnvC scope cl C X.env) fp) F tg is g) (ht : ∀ (s : Shared) (H : Hp) (C : Addr) (cl : List (Str × Addr)) (fp : List Addr), XTs (X.blk s H scope (compEnvC scope cl C X.env) fp) F ifs tt)
    (he : ∀ (s : Shared) (H : Hp) (C : Addr) (cl : List (Str × Addr)) (fp : List Addr), XE (X.blk s H scope (compEnvC scope cl C X.env) fp) F elt te) (hv : ∀ i ∈ is, i ∈ own.map (·.2) := by decide) (hs : ∀ x, foldedSetIterable iter X.env x = pure x := by intro _; rfl) :
    XS X F (.Assign [.Name y py] (.ListComp elt [⟨tg, iter, ifs, 0⟩] scope pos) spos) (wSetO i (wLc s g (own.map (·.2)) tt te)) :=
  have mt := (ht {} (fun _ => none) 0 [] []).mono
  have me := (he {} (fun _ => none) 0 [] []).mono
  ⟨fun E E' z l w => hi.mono _ _ _ (fun items z1 q => wLcL_mono mt me (fun acc z ⟨m, e, q⟩ => ⟨m, e, l.nx _ q⟩) _ _ _ q) w,
    ps_imp (ps_setLc hc hN hy hyl hsw hi.run ok (fun s H C cl fp => (hg s H C cl fp).run) (fun s H C cl fp => (ht s H C cl fp).run) (fun s H C cl fp => (he s H C cl fp).run) hs) fun D σ H ⟨z, I, o, w⟩ => by
      refine lc_run (X := X) (Q := fun x H1 => gName i x σ H1 D.nx) hi.mono hv mt me ⟨z, I, o, hi.mono _ _ _ (fun items z1 q => wLcL_mono mt me (fun acc z' q => ?_) _ _ _ q) w⟩
      obtain ⟨m, e, q⟩ := q
      injection e with e
      subst e
      intro a I' H' o' s' n
      obtain ⟨vs, f1, f2⟩ := n.at_
      exact q _ I' H' (o'.setOwn f1 f2 n.imm n.h0 n.nown) s'.imm⟩
/-! ### count -/
def mCount : FM := fun z x xs k => ∃ l d, lstOf z x = some l ∧ xs = [.d d] ∧ PyData.plainAll l = true ∧ d.plain = true ∧ min (PyData.depthAll l) d.depth ≤ 60 ∧ k (.d (.int ((l.countP fun y => PyData.eqv y d : Nat) : Int))) z
def rCountD (K : PySem.W.Frag) : V → List V → Hp → VK → Prop := fun x vs H Q => ∃ a us l v d, x = .ref a ∧ vs = [v] ∧ SqL K H a us ∧ RpA K H us l ∧ Rp K H v d ∧ PyData.plainAll l = true ∧ d.plain = true ∧ min (PyData.depthAll l) d.depth ≤ 60 ∧ Q (.int ((l.countP fun y => PyData.eqv y d : Nat) : Int)) H
section
variable {X : Cx} {F : Fx}
theorem mt_countD (hu : X.A.units + 64 < cLine) : MtR X "list.count" (rCountD X.K) := by
  intro pins s σ H x xs v us Q I rx rv h
  obtain ⟨a, ws, l, y, d, rfl, rfl, hq, ra, rd, p1, p2, m, q⟩ := h
  cases rx
  obtain ⟨u, rfl, ru⟩ := Vals.one rv
  obtain ⟨its, r2, pl, _⟩ := I.list hq
  obtain ⟨as, hr⟩ := RpA.reads I its ra p1 r2
  obtain ⟨bs, hd⟩ := Rp.reads I u rd p2 ru
  exact count_list_data pl.isList (by simpa using hr) hd p1 p2 (by omega) ⟨.int _, H, I.tok _, ⟨_, rfl⟩, q⟩
theorem vm_count : VM X F (rCountD X.K) mCount where
  mono := fun z x xs k k' h ⟨l, d, e1, e2, p1, p2, m, q⟩ => ⟨l, d, e1, e2, p1, p2, m, h _ _ q⟩
  run := fun {σ z I H x v xs vs Q} ok ev evs ⟨l, d, e1, e2, p1, p2, m, q⟩ => by
    subst e2
    cases evs with
    | cons e6 t =>
      cases t
      obtain ⟨c, us, rfl, g2, r2⟩ := ok.lst ev e1
      exact ⟨c, us, l, _, d, rfl, rfl, SqL.of g2, r2.mono ok.sub, Rp.mono ok.sub e6, p1, p2, m, q _ I H ok .refl (.int _)⟩
variable {pos apos : Pos} {o e : Expr} {t : WE} {u : WA}
theorem xr_count (hu : X.A.units + 64 < cLine) (ho : XE X F o t) (ha : XA X F [e] u) (hbase : attributeBase o "count" X.env (eval o X.env) = eval o X.env := by rfl) (hfew : ((backTo pos (starEach [e] X.env)).all (fun x => !x.1) && (backToKw pos (keywordEach [] X.env)).all (fun x => x.1.isSome)
      && decide ([e].length + ([] : List Keyword).length + (if ([] : List Keyword).isEmpty then 0 else 1) < 30)) = true := by rfl) (hline : (apos.endLine == pos.line) = true := by rfl) (hs : starEach [e] X.env = (false, eval e X.env) :: starEach [] X.env := by rfl) : XR X F (.Call (.Attribute o "count" apos) [e] [] pos) (wBM "list" mCount t u) :=
  xr_bm PySem.F.plainAttrs_list PySem.F.slot_list_count PySem.F.type_list_count (mt_countD hu) vm_count ho ha (hbase := hbase) (hfew := hfew) (hline := hline) (hs := hs)
end
/-! ### tuple times an int -/
section
variable {X : Cx} {Fx' : Fx}
theorem int_rmul_tuple1 (l : Addr) (items : Array Value) (n : Nat) (dd : Option Addr) (sl : Array (Option Value)) (u : Tok) :
    Meets (Builtin.«tuple.__mul__» ⟨[.ref l, .int 1 u], []⟩) (fun _ R s => s.heap.get? l = some { cls := .type "tuple", dict := dd, data := .seq items n, slots := sl } ∧ R (.ok (.ret (.ref l))) s) :=
  .of_wp fun P W Ar Rr u hu => by
    obtain ⟨hp0, gl, dd0, tk, os⟩ := u
    obtain ⟨at0, hu⟩ := hu
    wp_walk using wpAny_loadPart' at0
    exact ⟨_, rfl, hu⟩
def rRepT1 (K : PySem.W.Frag) : R2 := fun x y H Q => ∃ l xs, x = .ref l ∧ y = .int 1 ∧ SqT K H l xs ∧ Q (.ref l) H
theorem op_repT1 : OpR X (binaryOp .Mult) (rRepT1 X.K) := by
  intro pins s σ H x y v u Q I rx ry h
  obtain ⟨l, xs, rfl, rfl, hq, q⟩ := h
  cases rx
  obtain ⟨t, rfl⟩ := ry
  obtain ⟨its, r, ⟨o, ho, hc, n, hd⟩, _⟩ := I.tuple hq
  obtain ⟨cls, dd, data, sl⟩ := o
  simp only at hc hd
  subst hc hd
  refine wpAny_binaryOp_repeat_ref (T := "tuple") (U := "int") (by decide) ⟨_, ho, rfl⟩ (fun s' => typeIs_int s' 1 t) noFill_tuple_mul F.fills_int_mul F.slot_int_rmul repeat_tuple F.slot_int_index.lookup
    (call_meets F.slot_int_rmul (typeIs_int s 1 t) F.entry_int_rmul (F.args_int_rmul_2 _ _) (int_rmul_tuple 1 t l its.toArray n dd sl)
      ⟨ho, rfl, ⟨_, ho, rfl⟩, call_meets F.slot_tuple_mul ⟨_, ho, rfl⟩ F.entry_tuple_mul (F.args_tuple_mul_2 _ _) (int_rmul_tuple1 l its.toArray n dd sl t) ⟨ho, ?_⟩⟩)
  exact ⟨.ref l, H, I, rfl, q⟩
/-- a tuple times a positive int -/
def sMulT : F2 := fun _ x y k => ∃ l j, x = .d (.tuple l) ∧ y = .d (.int j) ∧ l ≠ [] ∧ 1 ≤ j ∧ j ≤ 1000 ∧ l.length ≤ 1000 ∧ k (.d (.tuple (List.replicate j.toNat l).flatten))
theorem op_mulT : OpR X (binaryOp .Mult) (fun x y H Q => rRepT1 X.K x y H Q ∨ rRepT X.K x y H Q) := OpR.or op_repT1 op_repT
theorem vr_mulT : VR2 X Fx' (fun x y H Q => rRepT1 X.K x y H Q ∨ rRepT X.K x y H Q) sMulT where
  mono := fun z x y k k' h ⟨l, j, e1, e2, a, b, c, d, q⟩ => ⟨l, j, e1, e2, a, b, c, d, h _ q⟩
  run := fun {σ z I H x y vx vy Q} ok ex ey ⟨l, j, e1, e2, hn, h1, h2, h3, q⟩ => by
    subst e1 e2
    cases ey
    cases ex with
    | tup hq r =>
    by_cases hj : j = 1
    · subst hj
      have e : (List.replicate (1 : Int).toNat l).flatten = l := by
        show (List.replicate 1 l).flatten = l
        simp
      rw [e] at q
      exact .inl ⟨_, _, rfl, rfl, same_tup ok.sub hq, q.scal ok (.tup hq r)⟩
    · refine .inr ⟨_, j, _, rfl, rfl, same_tup ok.sub hq, fun e => hn ?_, by omega, h2, by rw [r.length]; exact h3, fun p hp => q.tup ok (r.rep _) hp⟩
      subst e
      cases r
      rfl
end
/-! ### the def of the text as it stands -/
structure Fd (P : Program) (w : World) (K : PySem.W.Frag) (mg : Str → Option Value) (base : Heap) (x : Str) (k : Nat) (ps : List Str) (p : FS) where
  f : Addr
  fd : FuncData
  ok : FnOk P w K mg base CX0 k f fd ps (spOf K p)
  mg : mg x = some (.ref f)
  kp : PySem.W.keepIn K (Value.ref f) = true
  b : Binds K fd ps []
end L3
/-! Rules to run a body by hand: one a construct, the continuation last. -/
namespace L3
open PySem PySem.Spec PyProof.Rows L2 PySem.SeqAt
section
variable {z z1 : SS} {R : EV → SS → Prop} {RR : RV → SS → Prop} {RA : List EV → SS → Prop} {RT : Bool → SS → Prop} {RI : List D → SS → Prop} {RO : Option Int → SS → Prop} {E : En} {k : RV → Prop}
variable {i j : Int} {n m : Nat} {d x y : D} {a b : Str} {l l' : List D} {c c' : Bool}
variable {t u ta tb tc : WE} {tr : WR} {ts us : WS} {tt tu : WT} {wa : WA} {wi wi1 : WI} {wo wo' : WO} {g g1 : GS} {f f' : F2} {fc : FC} {fm : FM} {ev ew : EV}
-- statements
theorem i_seq (h : ts { E with nx := fun z' => us E z' } z) : wSeq ts us E z := h
theorem i_next (h : E.nx z) : wNext E z := h
theorem i_kill {is : List Nat} (h : ts { E with nx := fun z' => E.nx (killAll is z'), ct := fun z' => E.ct (killAll is z') } z) : wKill is ts E z := h
theorem i_freeze (e : frzS n z = some z1) (h : ts E z1) : wFreeze n ts E z := ⟨z1, e, h⟩
theorem i_drop (h : t z fun _ z' => E.nx z') : wDrop t E z := h
theorem i_ret (h : t z fun ev z' => ∃ d, ev = .d d ∧ E.rt (.d d) z') : wRet t E z := h
theorem i_retR (h : tr z fun r z' => E.rt r z') : wRetR tr E z := h
theorem i_retO (e : z[n]? = some (some (.own none l))) (h : E.rt (.n l) (z.set n none)) : wRetO n E z := ⟨l, e, h⟩
theorem i_ifS (h : tt z fun b z' => if b = true then ts E z' else us E z') : wIfS tt ts us E z := h
theorem i_set (h : t z fun ev z1 => ∃ d, ev = .d d ∧ E.nx (z1.set n (some (.val d)))) : wSet n t E z := h
theorem i_setO (h : tr z fun r z1 => ∃ l, r = .n l ∧ E.nx (z1.set n (some (.own none l)))) : wSetO n tr E z := h
theorem i_lcSet (h : tr z fun r z1 => E.nx (z1.set n (some (.val r.toD)))) : wLcSet n tr E z := h
theorem i_asg (h : t z fun ev z1 => ∃ d z2, ev = .d d ∧ g d z1 = some z2 ∧ E.nx z2) : wAsg t g E z := h
theorem i_put (h : t z fun ev z1 => ta z1 fun o z2 => tb z2 fun i z3 => ∃ d s k b l j, ev = .d d ∧ o = .o s ∧ i = .d (.int k) ∧ z3[s]? = some (some (.own b l)) ∧ ixN l.length k = some j ∧ E.nx (z3.set s (some (.own b (l.set j d))))) : wPut t ta tb E z := h
theorem i_for (h : wi z fun items z1 => wForL g ts E items z1) : wFor wi g ts E z := h
-- tests
theorem i_test (h : t z fun x z1 => ∃ c, x = .d (.bool c) ∧ RT c z1) : wTest t z RT := h
theorem i_tnot (h : tt z fun c z1 => RT (!c) z1) : wNot tt z RT := h
theorem i_tand (h : tt z fun c z1 => if c = true then tu z1 RT else RT false z1) : wAnd tt tu z RT := h
theorem i_tor (h : tt z fun c z1 => if c = true then RT true z1 else tu z1 RT) : wOr tt tu z RT := h
theorem i_yes (h : RT true z) : wYes z RT := h
-- expressions
theorem i_var (e : z[n]? = some (some (.val d))) (h : R (.d d) z) : wVar n z R := by unfold wVar; rw [e]; exact h
theorem i_varO {b : Option Nat} (e : z[n]? = some (some (.own b l))) (h : R (.o n) z) : wVar n z R := by unfold wVar; rw [e]; exact h
theorem i_c (h : R (.d d) z) : wC d z R := h
theorem i_dct (h : R (.d (.dict [])) z) : wDct z R := h
theorem i_frz (h : tr z fun r z' => R (.d r.toD) z') : wFrz tr z R := h
theorem i_bin (h : ta z fun x z1 => tb z1 fun y z2 => f z2 x y fun d => R (.d d.toD) z2) : wBin f ta tb z R := h
theorem i_binR (h : ta z fun x z1 => tb z1 fun y z2 => f z2 x y fun d => RR d z2) : wBinR f ta tb z RR := h
theorem i_cb (h : wa z fun es z1 => fc z1 es fun r => RR r z1) : wCB fc wa z RR := h
theorem i_nil (h : RA [] z) : wNil z RA := h
theorem i_cons (h : t z fun x z1 => wa z1 fun xs z2 => RA (x :: xs) z2) : wCons t wa z RA := h
theorem i_tup (h : wa z fun es z1 => ∃ ds, allD es = some ds ∧ ds.length ≤ sizeLine ∧ R (.d (.tuple ds)) z1) : wTup wa z R := h
theorem i_lst (h : wa z fun es z1 => ∃ ds, allD es = some ds ∧ ds.length ≤ sizeLine ∧ RR (.n ds) z1) : wLst wa z RR := h
theorem i_neg (h : t z fun x z1 => ∃ i, x = .d (.int i) ∧ R (.d (.int (-i))) z1) : wNeg t z R := h
theorem i_isa {T : String} (h : t z fun x z1 => ∃ d, evD z1 x = some d ∧ (∀ l, d ≠ .dict [(.none, l)]) ∧ R (.d (.bool (isA T d))) z1) : wIsa T t z R := h
theorem i_andV (h : ta z fun x z1 => ∃ c, x = .d (.bool c) ∧ if c = true then tb z1 R else R (.d (.bool false)) z1) : wAndV ta tb z R := h
theorem i_orV (h : ta z fun x z1 => ∃ c, x = .d (.bool c) ∧ if c = true then R (.d (.bool true)) z1 else tb z1 R) : wOrV ta tb z R := h
theorem i_notV (h : t z fun x z1 => ∃ c, x = .d (.bool c) ∧ R (.d (.bool (!c))) z1) : wNotV t z R := h
theorem i_if (h : tt z fun c z1 => if c = true then ta z1 R else tb z1 R) : wIf tt ta tb z R := h
theorem i_chain (h : ta z fun x z1 => tb z1 fun y z2 => f z2 x y fun d => ∃ c, d = .d (.bool c) ∧ if c = true then tc z2 fun w z3 => f' z3 y w fun d => R (.d d.toD) z3 else R (.d (.bool false)) z2) : wChain f f' ta tb tc z R := h
theorem i_sl (h : t z fun x z1 => wo z1 fun lo z2 => wo' z2 fun hi z3 => sSl z3 x lo hi fun d => RR d z3) : wSl t wo wo' z RR := h
theorem i_noPart (h : RO none z) : wNoPart z RO := h
theorem i_part (h : t z fun x z1 => ∃ i, x = .d (.int i) ∧ RO (some i) z1) : wPart t z RO := h
theorem i_bm {T : String} (h : t z fun x z1 => tyE T z1 x ∧ wa z1 fun xs z2 => fm z2 x xs RR) : wBM T fm t wa z RR := h
theorem i_bm0 {T : String} (h : t z fun x z1 => tyE T z1 x ∧ fm z1 x [] RR) : wBM0 T fm t z RR := h
theorem i_lrg (h : t z fun x z1 => ∃ j, x = .d (.int j) ∧ RgOk 0 j ∧ RR (.n (rangeD 0 j)) z1) : wLRg t z RR := h
theorem i_call {p : FS} (h : wa z fun es z1 => ∃ as j, argsOf z1 es = some (as, j) ∧ p as fun rv out => ∃ z2, putOut z1 j out = some z2 ∧ RR rv z2) : wCall p wa z RR := h
theorem i_src (h : t z fun ev z1 => ∃ l, srcOf ev = some l ∧ RI l z1) : wSrc t z RI := h
theorem i_rng1 (h : wa z fun es z1 => ∃ j, es = [.d (.int j)] ∧ -(2 ^ 62) ≤ j ∧ j < 2 ^ 62 ∧ RI (rangeD 0 j) z1) : wRng1 wa z RI := h
theorem i_rng2 (h : wa z fun es z1 => ∃ i j, es = [.d (.int i), .d (.int j)] ∧ (-(2 ^ 62) ≤ i ∧ i < 2 ^ 62 ∧ -(2 ^ 62) ≤ j ∧ j < 2 ^ 62) ∧ RI (rangeD i j) z1) : wRng2 wa z RI := h
theorem i_enum (h : wa z fun es z1 => ∃ d l, es = [.d d] ∧ itemsD d = some l ∧ RI (enumD l) z1) : wEnum wa z RI := h
theorem i_lc {own : List Nat} {tt : WT} {te : WE} (h : wi z fun items z1 => wLcL g own tt te (fun acc z' => RR (.n acc) (restS own z1 z')) items [] (killAll own z1)) : wLc wi g own tt te z RR := h
theorem i_lc2 {own vs : List Nat} {tt tt1 : WT} {te : WE} (h : wi z fun items z1 => wLcL2 g own tt wi1 g1 vs tt1 te (fun acc z' => RR (.n acc) (restS own z1 z')) items [] (killAll own z1)) : wLc2 wi g own tt wi1 g1 vs tt1 te z RR := h
-- what continuations ask
theorem i_exD {P : D → Prop} (h : P d) : ∃ x, EV.d d = .d x ∧ P x := ⟨d, rfl, h⟩
theorem i_exB {P : Bool → Prop} (h : P c) : ∃ x, EV.d (.bool c) = .d (.bool x) ∧ P x := ⟨c, rfl, h⟩
theorem i_exRB {P : Bool → Prop} (h : P c) : ∃ x, RV.d (.bool c) = .d (.bool x) ∧ P x := ⟨c, rfl, h⟩
theorem i_exI {P : Int → Prop} (h : P i) : ∃ x, EV.d (.int i) = .d (.int x) ∧ P x := ⟨i, rfl, h⟩
theorem i_exN {P : List D → Prop} (h : P l) : ∃ x, RV.n l = .n x ∧ P x := ⟨l, rfl, h⟩
theorem i_ifT {A B : Prop} (e : c = true) (h : A) : if c = true then A else B := by rw [if_pos e]; exact h
theorem i_ifF {A B : Prop} (e : c = false) (h : B) : if c = true then A else B := by rw [if_neg (by rw [e]; decide)]; exact h
theorem i_ifB {A B : Prop} (h : c = true → A) (h' : c = false → B) : if c = true then A else B := by
  cases e : c with
  | true => rw [if_pos rfl]; exact h e
  | false => rw [if_neg (by decide)]; exact h' e
theorem i_ifD {A B p : Prop} [Decidable p] (h : p → A) (h' : ¬ p → B) : if decide p = true then A else B := by
  by_cases e : p
  · rw [if_pos (decide_eq_true e)]; exact h e
  · rw [if_neg (by rw [decide_eq_false e]; decide)]; exact h' e
theorem i_allD {P : List D → Prop} {es : List EV} (e : allD es = some l) (e2 : l.length ≤ sizeLine) (h : P l) : ∃ ds, allD es = some ds ∧ ds.length ≤ sizeLine ∧ P ds := ⟨l, e, e2, h⟩
theorem i_args {P : List AV → Option Nat → Prop} {es : List EV} {as : List AV} {o : Option Nat} (e : argsOf z es = some (as, o)) (h : P as o) : ∃ as j, argsOf z es = some (as, j) ∧ P as j := ⟨as, o, e, h⟩
theorem i_out {P : SS → Prop} {o : Option Nat} {out : Option (List D)} (e : putOut z o out = some z1) (h : P z1) : ∃ z2, putOut z o out = some z2 ∧ P z2 := ⟨z1, e, h⟩
theorem i_rt {o : Bool} {Q : RV → Option (List D) → Prop} {rv : RV} {out : Option (List D)} (e : outOf o z = some out) (h : Q rv out) : (retEn o Q).rt rv z := ⟨out, e, h⟩
theorem i_srcOf {P : List D → Prop} (e : srcOf ev = some l) (h : P l) : ∃ l, srcOf ev = some l ∧ P l := ⟨l, e, h⟩
theorem i_evD {P : D → Prop} (e : evD z ev = some d) (e2 : ∀ l, d ≠ .dict [(.none, l)]) (h : P d) : ∃ d, evD z ev = some d ∧ (∀ l, d ≠ .dict [(.none, l)]) ∧ P d := ⟨d, e, e2, h⟩
theorem i_rngD {P : Int → Prop} (a : -(2 ^ 62) ≤ i) (b : i < 2 ^ 62) (h : P i) : ∃ j, [EV.d (.int i)] = [.d (.int j)] ∧ -(2 ^ 62) ≤ j ∧ j < 2 ^ 62 ∧ P j := ⟨i, rfl, a, b, h⟩
theorem i_rngD2 {P : Int → Int → Prop} (a : -(2 ^ 62) ≤ i ∧ i < 2 ^ 62 ∧ -(2 ^ 62) ≤ j ∧ j < 2 ^ 62) (h : P i j) : ∃ i' j', [EV.d (.int i), .d (.int j)] = [.d (.int i'), .d (.int j')] ∧ (-(2 ^ 62) ≤ i' ∧ i' < 2 ^ 62 ∧ -(2 ^ 62) ≤ j' ∧ j' < 2 ^ 62) ∧ P i' j' := ⟨i, j, rfl, a, h⟩
theorem i_lrgD {P : Int → Prop} (a : RgOk 0 i) (h : P i) : ∃ j, EV.d (.int i) = .d (.int j) ∧ RgOk 0 j ∧ P j := ⟨i, rfl, a, h⟩
theorem i_enumD {P : List D → Prop} (e : itemsD d = some l) (h : P (enumD l)) : ∃ d' l, [EV.d d] = [.d d'] ∧ itemsD d' = some l ∧ P (enumD l) := ⟨d, l, rfl, e, h⟩
theorem i_putD {P : SS → Prop} {s : Nat} {b : Option Nat} {jj : Nat} (e1 : z[s]? = some (some (.own b l))) (e2 : ixN l.length i = some jj) (h : P (z.set s (some (.own b (l.set jj d))))) :
    ∃ d' s' k b' l' j', EV.d d = .d d' ∧ EV.o s = .o s' ∧ EV.d (.int i) = .d (.int k) ∧ z[s']? = some (some (.own b' l')) ∧ ixN l'.length k = some j' ∧ P (z.set s' (some (.own b' (l'.set j' d')))) := ⟨d, s, i, b, l, jj, rfl, rfl, rfl, e1, e2, h⟩
theorem i_asgD {P : SS → Prop} (e : g d z = some z1) (h : P z1) : ∃ d' z2, EV.d d = .d d' ∧ g d' z = some z2 ∧ P z2 := ⟨d, z1, rfl, e, h⟩
theorem le_line {n : Nat} (h : n ≤ 100000) : n ≤ sizeLine := by rw [sizeLine_eq]; omega
theorem lt_line {n : Nat} (h : n ≤ 100000) : n < sizeLine := by rw [sizeLine_eq]; omega
theorem pow_ok {i j : Int} (h : 0 ≤ j ∧ j ≤ 1000000 ∧ i.natAbs < 2 ^ 64) : CPow i j := h
-- operators
theorem i_addI (h : k (.d (.int (i + j)))) : sAdd z (.d (.int i)) (.d (.int j)) k := h
theorem i_addS (e : a.length + b.length ≤ sizeLine) (h : k (.d (.str (a ++ b)))) : sAdd z (.d (.str a)) (.d (.str b)) k := ⟨e, h⟩
theorem i_addT (e : l.length + l'.length ≤ sizeLine) (h : k (.d (.tuple (l ++ l')))) : sAdd z (.d (.tuple l)) (.d (.tuple l')) k := ⟨e, h⟩
theorem i_addL (e1 : lstOf z ev = some l) (e2 : lstOf z ew = some l') (e : l.length + l'.length ≤ sizeLine) (h : k (.n (l ++ l'))) : sAdd z ev ew k := by
  have c : catL z ev ew k := ⟨l, l', e1, e2, e, h⟩
  unfold sAdd
  split
  · cases e1
  · cases e1
  · cases e1
  · exact c
theorem i_sub (h : k (.d (.int (i - j)))) : sSub z (.d (.int i)) (.d (.int j)) k := ⟨i, j, rfl, rfl, h⟩
theorem i_mul (e : CMul i j) (h : k (.d (.int (i * j)))) : sMul z (.d (.int i)) (.d (.int j)) k := ⟨e, h⟩
theorem i_mulL (e1 : lstOf z ev = some l) (a : -(2 ^ 63) ≤ j) (b : j < 2 ^ 63) (e : l.length * j.toNat ≤ sizeLine) (h : k (.n (List.replicate j.toNat l).flatten)) : sMul z ev (.d (.int j)) k := by
  cases ev with
  | o n => exact ⟨l, e1, a, b, e, h⟩
  | d y => cases y <;> first | exact ⟨l, e1, a, b, e, h⟩ | cases e1
theorem i_mulT (e : l ≠ []) (a : 1 ≤ j) (b : j ≤ 1000) (c : l.length ≤ 1000) (h : k (.d (.tuple (List.replicate j.toNat l).flatten))) : sMulT z (.d (.tuple l)) (.d (.int j)) k := ⟨l, j, rfl, rfl, e, a, b, c, h⟩
theorem i_fdiv (e : CDiv i j) (h : k (.d (.int (i / j)))) : sFDiv z (.d (.int i)) (.d (.int j)) k := ⟨i, j, rfl, rfl, e, h⟩
theorem i_mod (e : 0 < j) (h : k (.d (.int (i % j)))) : sMod z (.d (.int i)) (.d (.int j)) k := ⟨i, j, rfl, rfl, e, h⟩
theorem i_pow (e : CPow i j) (h : k (.d (.int (i ^ j.toNat)))) : sPow z (.d (.int i)) (.d (.int j)) k := ⟨i, j, rfl, rfl, e, h⟩
theorem i_lt (h : k (.d (.bool (decide (i < j))))) : sLt z (.d (.int i)) (.d (.int j)) k := ⟨i, j, rfl, rfl, h⟩
theorem i_le (h : k (.d (.bool (decide (i ≤ j))))) : sLe z (.d (.int i)) (.d (.int j)) k := ⟨i, j, rfl, rfl, h⟩
theorem i_gt (h : k (.d (.bool (decide (j < i))))) : sGt z (.d (.int i)) (.d (.int j)) k := ⟨i, j, rfl, rfl, h⟩
theorem i_ge (h : k (.d (.bool (decide (j ≤ i))))) : sGe z (.d (.int i)) (.d (.int j)) k := ⟨i, j, rfl, rfl, h⟩
/-- ==, != of scalars -/
theorem eqv_int : PyData.eqv (.int i) (.int j) = decide (i = j) := by simp [PyData.eqv, Bool.beq_eq_decide_eq]
theorem eqv_bool : PyData.eqv (.bool c) (.bool c') = decide (c = c') := by cases c <;> cases c' <;> rfl
theorem eqv_str : PyData.eqv (.str a) (.str b) = decide (a = b) := by simp [PyData.eqv, Bool.beq_eq_decide_eq]
theorem i_eqI (h : k (.d (.bool (decide (i = j))))) : sEq z (.d (.int i)) (.d (.int j)) k := ⟨_, _, rfl, rfl, rfl, rfl, by simp [PyData.depth], by rw [eqv_int]; exact h⟩
theorem i_neI (h : k (.d (.bool (!decide (i = j))))) : sNe z (.d (.int i)) (.d (.int j)) k := ⟨_, _, rfl, rfl, rfl, rfl, by simp [PyData.depth], by rw [eqv_int]; exact h⟩
theorem i_eqB (h : k (.d (.bool (decide (c = c'))))) : sEq z (.d (.bool c)) (.d (.bool c')) k := ⟨_, _, rfl, rfl, rfl, rfl, by simp [PyData.depth], by rw [eqv_bool]; exact h⟩
theorem i_neB (h : k (.d (.bool (!decide (c = c'))))) : sNe z (.d (.bool c)) (.d (.bool c')) k := ⟨_, _, rfl, rfl, rfl, rfl, by simp [PyData.depth], by rw [eqv_bool]; exact h⟩
theorem i_eqS (h : k (.d (.bool (decide (a = b))))) : sEq z (.d (.str a)) (.d (.str b)) k := ⟨_, _, rfl, rfl, rfl, rfl, by simp [PyData.depth], by rw [eqv_str]; exact h⟩
theorem i_neS (h : k (.d (.bool (!decide (a = b))))) : sNe z (.d (.str a)) (.d (.str b)) k := ⟨_, _, rfl, rfl, rfl, rfl, by simp [PyData.depth], by rw [eqv_str]; exact h⟩
theorem i_isN (e : evD z ev = some d) (h : k (.d (.bool (isNone d)))) : sIsN id z ev (.d .none) k := ⟨rfl, d, e, h⟩
theorem i_notN (e : evD z ev = some d) (h : k (.d (.bool (!isNone d)))) : sIsN not z ev (.d .none) k := ⟨rfl, d, e, h⟩
theorem i_isB (h : k (.d (.bool (decide (c = c'))))) : sIsB id z (.d (.bool c)) (.d (.bool c')) k := ⟨c, c', rfl, rfl, h⟩
theorem i_ix (e : seqOf z ev = some l) (e2 : atI l i = some d) (h : k (.d d)) : sIx z ev (.d (.int i)) k := ⟨i, rfl, .inl ⟨l, d, e, e2, h⟩⟩
theorem i_ixS {cc : Nat} (e : a.length ≤ sizeLine) (e2 : atI a.cps.toList i = some cc) (h : k (.d (.str ⟨#[cc]⟩))) : sIx z (.d (.str a)) (.d (.int i)) k := ⟨i, rfl, .inr ⟨a, cc, rfl, e, e2, h⟩⟩
theorem i_slS {lo hi : Option Int} (e : a.length ≤ sizeLine) (h : k (.d (.str (cutT a lo hi)))) : sSl z (.d (.str a)) lo hi k := ⟨e, h⟩
theorem i_slT {lo hi : Option Int} (h : k (.d (.tuple (cutD l lo hi)))) : sSl z (.d (.tuple l)) lo hi k := h
theorem i_slL {lo hi : Option Int} (e : evD z ev = some (.list l)) (h : k (.n (cutD l lo hi))) : sSl z ev lo hi k := by unfold sSl; rw [e]; exact h
-- built-in functions
theorem i_f1 {g : SS → EV → (RV → Prop) → Prop} (h : g z ev k) : f1 g z [ev] k := ⟨ev, rfl, h⟩
theorem i_f2 {g : SS → EV → EV → (RV → Prop) → Prop} (h : g z ev ew k) : f2 g z [ev, ew] k := ⟨ev, ew, rfl, h⟩
theorem i_len (e : seqOf z ev = some l) (h : k (.d (.int l.length))) : sLen z ev k := .inl ⟨l, e, h⟩
theorem i_lenS (e : a.length ≤ sizeLine) (h : k (.d (.int a.length))) : sLen z (.d (.str a)) k := .inr (.inl ⟨a, rfl, e, h⟩)
theorem i_abs (h : k (.d (.int (if i < 0 then -i else i)))) : sAbs z (.d (.int i)) k := ⟨i, rfl, h⟩
theorem i_int (h : k (.d (.int i))) : sInt z (.d (.int i)) k := .inl ⟨i, rfl, h⟩
theorem i_intB (h : k (.d (.int (if c then 1 else 0)))) : sInt z (.d (.bool c)) k := .inr ⟨c, rfl, h⟩
theorem i_max (h : k (.d (.int (if j > i then j else i)))) : sMax z (.d (.int i)) (.d (.int j)) k := ⟨i, j, rfl, rfl, h⟩
theorem i_min (h : k (.d (.int (if j < i then j else i)))) : sMin z (.d (.int i)) (.d (.int j)) k := ⟨i, j, rfl, rfl, h⟩
theorem i_sum {ns : List Int} (e : lstOf z ev = some (ns.map PyData.int)) (h : k (.d (.int ns.sum))) : sSum z ev k := ⟨ns, e, h⟩
theorem i_all {bs : List Bool} (e : lstOf z ev = some (bs.map PyData.bool)) (h : k (.d (.bool (bs.all id)))) : sAll z ev k := ⟨bs, e, h⟩
theorem i_any {bs : List Bool} (e : lstOf z ev = some (bs.map PyData.bool)) (h : k (.d (.bool (bs.any id)))) : sAny z ev k := ⟨bs, e, h⟩
theorem i_list (e : seqOf z ev = some l) (h : k (.n l)) : sListOf z ev k := .inl ⟨l, e, h⟩
theorem i_listScr (h : k (.n l)) : sListOf z (.d (.dict [(.none, .list l)])) k := .inr ⟨l, rfl, h⟩
theorem i_tuple (e : seqOf z ev = some l) (h : k (.d (.tuple l))) : sTupOf z ev k := ⟨l, e, h⟩
theorem i_str (e : i.natAbs.log2 < 1920) (h : k (.d (.str (toString i)))) : sStr z (.d (.int i)) k := ⟨i, rfl, e, h⟩
-- methods
theorem i_tyL {P : Prop} (e : lstOf z ev = some l) (h : P) : tyE "list" z ev ∧ P := ⟨.inl ⟨rfl, l, e⟩, h⟩
theorem i_tyS {P : Prop} (h : P) : tyE "str" z (.d (.str a)) ∧ P := ⟨.inr ⟨rfl, a, rfl⟩, h⟩
theorem i_append {b : Option Nat} (e : z[n]? = some (some (.own b l))) (e2 : l.length < sizeLine) (h : RR (.d .none) (z.set n (some (.own b (l ++ [d]))))) : mAppend z (.o n) [.d d] RR := ⟨n, b, l, d, rfl, rfl, e, e2, h⟩
theorem i_extend {b : Option Nat} (e : z[n]? = some (some (.own b l))) (e1 : lstOf z ev = some l') (e2 : l.length + l'.length ≤ sizeLine) (h : RR (.d .none) (z.set n (some (.own b (l ++ l'))))) : mExtend z (.o n) [ev] RR := ⟨n, b, l, ev, l', rfl, rfl, e, e1, e2, h⟩
theorem i_pop {b : Option Nat} (e : z[n]? = some (some (.own b l))) (e2 : l[l.length - 1]? = some d) (h : RR (.d d) (z.set n (some (.own b l.dropLast)))) : mPop z (.o n) [] RR := ⟨n, b, l, d, rfl, rfl, e, e2, h⟩
end
/-! ### loops by what holds between the turns -/
theorem forL_inv {g : GS} {t : WS} {E : En} {items : List D} (P : Nat → SS → Prop) (step : ∀ (i : Nat) (x : D) (z : SS), items[i]? = some x → P i z → ∀ N : SS → Prop, (∀ z', P (i + 1) z' → N z') → ∃ z1, g x z = some z1 ∧ t { nx := N, rt := E.rt, bk := E.nx, ct := N } z1)
    (fin : ∀ z, P items.length z → E.nx z) {z : SS} (h0 : P 0 z) : wForL g t E items z := by
  have go : ∀ (k i : Nat) (z : SS), k = items.length - i → i ≤ items.length → P i z → wForL g t E (items.drop i) z := by
    intro k
    induction k with
    | zero =>
      intro i z hk hi p
      have e : i = items.length := by omega
      subst e
      rw [List.drop_length]
      exact fin z p
    | succ k ih =>
      intro i z hk hi p
      have hlt : i < items.length := by omega
      rw [List.drop_eq_getElem_cons hlt]
      obtain ⟨z1, e, w⟩ := step i items[i] z (List.getElem?_eq_getElem hlt) p (fun z' => wForL g t E (items.drop (i + 1)) z') fun z' p' => ih (i + 1) z' (by omega) hlt p'
      exact ⟨z1, e, w⟩
  have := go items.length 0 z (by simp) (Nat.zero_le _) h0
  simpa using this
theorem rangeD_get {lo hi : Int} {i : Nat} {x : D} (h : (rangeD lo hi)[i]? = some x) : x = .int (lo + i) ∧ lo + i < hi := by
  unfold rangeD at h
  rw [List.getElem?_map] at h
  obtain ⟨j, e, q⟩ := Option.map_eq_some_iff.mp h
  obtain ⟨h1, h2⟩ := List.getElem?_eq_some_iff.mp e
  rw [List.getElem_range] at h2
  subst h2
  rw [List.length_range] at h1
  exact ⟨q.symm, by omega⟩
theorem rangeD_len (lo hi : Int) : (rangeD lo hi).length = (hi - lo).toNat := by unfold rangeD; simp
/-- over range(lo, hi) -/
theorem forR_inv {g : GS} {t : WS} {E : En} {lo hi : Int} (P : Nat → SS → Prop) (step : ∀ (i : Nat) (z : SS), lo + i < hi → P i z → ∀ N : SS → Prop, (∀ z', P (i + 1) z' → N z') → ∃ z1, g (.int (lo + i)) z = some z1 ∧ t { nx := N, rt := E.rt, bk := E.nx, ct := N } z1)
    (fin : ∀ z, P (hi - lo).toNat z → E.nx z) {z : SS} (h0 : P 0 z) : wForL g t E (rangeD lo hi) z :=
  forL_inv P (fun i x z e p N hN => by
    obtain ⟨rfl, hlt⟩ := rangeD_get e
    exact step i z hlt p N hN) (fun z p => fin z (by rw [rangeD_len] at p; exact p)) h0
theorem lcL_inv {g : GS} {own : List Nat} {tt : WT} {te : WE} {k : List D → SS → Prop} {items : List D} (P : Nat → List D → SS → Prop)
    (step : ∀ (i : Nat) (x : D) (acc : List D) (z : SS), items[i]? = some x → P i acc z → ∀ N : List D → SS → Prop, (∀ acc' z', P (i + 1) acc' z' → N acc' z') →
      ∃ z1, g x z = some z1 ∧ tt z1 fun b z2 => if b = true then te z2 fun ev z3 => ∃ d, ev = .d d ∧ acc.length < sizeLine ∧ N (acc ++ [d]) (killAll own z3) else N acc (killAll own z2))
    (fin : ∀ acc z, P items.length acc z → k acc z) {acc : List D} {z : SS} (h0 : P 0 acc z) : wLcL g own tt te k items acc z := by
  have go : ∀ (m i : Nat) (acc : List D) (z : SS), m = items.length - i → i ≤ items.length → P i acc z → wLcL g own tt te k (items.drop i) acc z := by
    intro m
    induction m with
    | zero =>
      intro i acc z hk hi p
      have e : i = items.length := by omega
      subst e
      rw [List.drop_length]
      exact fin acc z p
    | succ m ih =>
      intro i acc z hk hi p
      have hlt : i < items.length := by omega
      rw [List.drop_eq_getElem_cons hlt]
      obtain ⟨z1, e, w⟩ := step i items[i] acc z (List.getElem?_eq_getElem hlt) p (fun acc z' => wLcL g own tt te k (items.drop (i + 1)) acc z') fun acc z' p' => ih (i + 1) acc z' (by omega) hlt p'
      exact ⟨z1, e, w⟩
  have := go items.length 0 acc z (by simp) (Nat.zero_le _) h0
  simpa using this
/-- a comprehension that only reads: the map -/
theorem lcL_map {g : GS} {own : List Nat} {te : WE} {k : List D → SS → Prop} {items : List D} {z0 : SS} (fn : D → D) (hl : items.length ≤ sizeLine)
    (step : ∀ (x : D), x ∈ items → ∀ N : D → SS → Prop, (∀ z, killAll own z = z0 → N (fn x) z) → ∃ z1, g x z0 = some z1 ∧ te z1 fun ev z3 => ∃ d, ev = .d d ∧ N d z3) (fin : k (items.map fn) z0) : wLcL g own wYes te k items [] z0 := by
  refine lcL_inv (P := fun i acc z => acc = (items.take i).map fn ∧ z = z0) (fun i x acc z e h N hN => ?_) (fun acc z h => ?_) ⟨by simp, rfl⟩
  · obtain ⟨ea, ez⟩ := h
    have hm := List.mem_of_getElem? e
    have hlt : i < items.length := (List.getElem?_eq_some_iff.mp e).1
    have hacc : acc.length < sizeLine := by
      rw [ea, List.length_map, List.length_take]
      omega
    have hn : N (acc ++ [fn x]) z0 := by
      refine hN _ _ ⟨?_, rfl⟩
      rw [ea, List.take_add_one, e]
      simp
    obtain ⟨z1, e1, w⟩ := step x hm (fun d z3 => acc.length < sizeLine ∧ N (acc ++ [d]) (killAll own z3)) fun z' hz => ⟨hacc, by rw [hz]; exact hn⟩
    rw [ez]
    exact ⟨z1, e1, i_yes (i_ifT rfl w)⟩
  · obtain ⟨ea, ez⟩ := h
    rw [ea, ez, List.take_length]
    exact fin

end L3
/-! Further constructs: list(range(a, b)). -/
namespace L3
open PySem PySem.Spec PyProof.Rows L2 PySem.SeqAt
section
variable {X : Cx} {F : Fx}
def wLRg2 (lo hi : WE) : WR := fun z R => lo z fun x z1 => hi z1 fun y z2 => ∃ i j, x = .d (.int i) ∧ y = .d (.int j) ∧ RgOk i j ∧ R (.n (rangeD i j)) z2
theorem xr_listrg2 {a b : Expr} {t u : WE} {p p2 pos pos2 : Pos} (hc : X.calm = true) (hg : Gl X "list") (hm : X.mg "list" = none) (hg2 : Gl X "range") (hm2 : X.mg "range" = none) (ha : XE X F a t) (hb : XE X F b u)
    (na : starEach [a, b] X.env = (false, eval a X.env) :: starEach [b] X.env := by rfl) (nb : starEach [b] X.env = (false, eval b X.env) :: starEach [] X.env := by rfl) (hp : (backTo pos2 (starEach [b] X.env)).any (·.1) = false := by rfl)
    (nc : starEach [.Call (.Name "range" p2) [a, b] [] pos2] X.env = (false, eval (.Call (.Name "range" p2) [a, b] [] pos2) X.env) :: starEach [] X.env := by rfl) : XR X F (.Call (.Name "list" p) [.Call (.Name "range" p2) [a, b] [] pos2] [] pos) (wLRg2 t u) :=
  ⟨fun z R R' k w => ha.mono _ _ _ (fun x z1 q => hb.mono _ _ _ (fun y z2 ⟨i, j, e1, e2, c, q⟩ => ⟨i, j, e1, e2, c, k _ _ q⟩) q) w,
    pe_imp (pe_listRg hc hg hm (prg_2 hg2 hm2 ha.run hb.run na nb hp) nc) fun σ H Q ⟨z, I, ok, w⟩ => ha.at ok w fun x z1 v1 I1 H1 w o1 s1 e1 => hb.at o1 w fun y z2 v2 I2 H2 ⟨i, j, ex, ey, c, q⟩ o2 s2 e2 => by
      subst ex ey
      cases e1
      cases e2
      refine ⟨i, j, rfl, rfl, c, fun p hp => ?_⟩
      obtain ⟨o3, s3, n⟩ := o2.newL (rgV_rp i j) hp
      exact q _ _ _ o3 ((s1.trans s2).trans s3) (n.back (s1.trans s2))⟩
end
theorem i_lrg2 {z : SS} {ta tb : WE} {RR : RV → SS → Prop} (h : ta z fun x z1 => tb z1 fun y z2 => ∃ i j, x = .d (.int i) ∧ y = .d (.int j) ∧ RgOk i j ∧ RR (.n (rangeD i j)) z2) : wLRg2 ta tb z RR := h
end L3
/-! The walk by instances: one instance a construct, found by the goal's head; a whole stretch is one search. -/
namespace L3
open PySem PySem.Spec PyProof.Rows L2 PySem.SeqAt
class Stp (G : Prop) (G' : outParam Prop) : Prop where
  imp : G' → G
class Stps (G : Prop) (G' : outParam Prop) : Prop where
  imp : G' → G
class Run (G : Prop) (G' : outParam Prop) : Prop where
  imp : G' → G
instance (priority := 10) stps0 {G : Prop} : Stps G G := ⟨fun h => h⟩
instance stps1 {G G1 G2 : Prop} [a : Stp G G1] [b : Stps G1 G2] : Stps G G2 := ⟨fun h => a.imp (b.imp h)⟩
instance run1 {G G1 G2 : Prop} [a : Stp G G1] [b : Stps G1 G2] : Run G G2 := ⟨fun h => a.imp (b.imp h)⟩
/-! ### slots -/
class At (z : SS) (n : Nat) (s : outParam S) : Prop where
  e : z[n]? = some (some s)
instance {s : S} {z : SS} : At (some s :: z) 0 s := ⟨rfl⟩
instance {x : Option S} {z : SS} {n : Nat} {s : S} [a : At z n s] : At (x :: z) (n + 1) s := ⟨by rw [List.getElem?_cons_succ]; exact a.e⟩
class Put (z : SS) (n : Nat) (s : Option S) (z' : outParam SS) : Prop where
  e : z.set n s = z'
instance {x s : Option S} {z : SS} : Put (x :: z) 0 s (s :: z) := ⟨rfl⟩
instance {x s : Option S} {z z' : SS} {n : Nat} [a : Put z n s z'] : Put (x :: z) (n + 1) s (x :: z') := ⟨by rw [List.set_cons_succ, a.e]⟩
class Kil (is : List Nat) (z : SS) (z' : outParam SS) : Prop where
  e : killAll is z = z'
instance {z : SS} : Kil [] z z := ⟨rfl⟩
instance {i : Nat} {is : List Nat} {z z1 z2 : SS} [a : Put z i none z1] [b : Kil is z1 z2] : Kil (i :: is) z z2 := ⟨by unfold killAll; rw [a.e, b.e]⟩
class AtO (z : SS) (n : Nat) : Prop where
  e : (match z[n]? with | some (some (.val d)) => some (S.val d) | _ => none) = none
instance {z : SS} : AtO (none :: z) 0 := ⟨rfl⟩
instance {b : Option Nat} {l : List D} {z : SS} : AtO (some (.own b l) :: z) 0 := ⟨rfl⟩
instance {x : Option S} {z : SS} {n : Nat} [a : AtO z n] : AtO (x :: z) (n + 1) := ⟨by rw [List.getElem?_cons_succ]; exact a.e⟩
class Rst (is : List Nat) (z z1 : SS) (z2 : outParam SS) : Prop where
  e : restS is z z1 = z2
instance {z z1 : SS} : Rst [] z z1 z1 := ⟨rfl⟩
instance {i : Nat} {is : List Nat} {z z1 z2 z3 : SS} {d : D} [a : Rst is z z1 z2] [b : At z i (.val d)] [c : Put z2 i (some (.val d)) z3] : Rst (i :: is) z z1 z3 := ⟨by unfold restS; rw [a.e, b.e]; exact c.e⟩
instance {i : Nat} {is : List Nat} {z z1 z2 z3 : SS} [a : Rst is z z1 z2] [b : AtO z i] [c : Put z2 i none z3] : Rst (i :: is) z z1 z3 := ⟨by
  unfold restS
  rw [a.e]
  have := b.e
  split
  · rename_i h; rw [h] at this; cases this
  · exact c.e⟩
class EvIs (z : SS) (e : EV) (d : outParam D) : Prop where
  e : evD z e = some d
instance {z : SS} {d : D} : EvIs z (.d d) d := ⟨rfl⟩
instance {z : SS} {i : Nat} {b : Option Nat} {l : List D} [a : At z i (.own b l)] : EvIs z (.o i) (.list l) := ⟨by unfold evD; simp only; rw [a.e]⟩
class LstIs (z : SS) (e : EV) (l : outParam (List D)) : Prop where
  e : lstOf z e = some l
instance {z : SS} {l : List D} : LstIs z (.d (.list l)) l := ⟨rfl⟩
instance {z : SS} {i : Nat} {b : Option Nat} {l : List D} [a : At z i (.own b l)] : LstIs z (.o i) l := ⟨by unfold lstOf; simp only; rw [a.e]⟩
class SeqIs (z : SS) (e : EV) (l : outParam (List D)) : Prop where
  e : seqOf z e = some l
instance {z : SS} {l : List D} : SeqIs z (.d (.list l)) l := ⟨rfl⟩
instance {z : SS} {l : List D} : SeqIs z (.d (.tuple l)) l := ⟨rfl⟩
instance {z : SS} {i : Nat} {b : Option Nat} {l : List D} [a : At z i (.own b l)] : SeqIs z (.o i) l := ⟨by unfold seqOf evD; simp only; rw [a.e]⟩
class SrcIs (e : EV) (l : outParam (List D)) : Prop where
  e : srcOf e = some l
instance {l : List D} : SrcIs (.d (.list l)) l := ⟨rfl⟩
instance {l : List D} : SrcIs (.d (.tuple l)) l := ⟨rfl⟩
instance {t : Str} : SrcIs (.d (.str t)) (signs t) := ⟨rfl⟩
class AllIs (es : List EV) (n : Nat) (ds : outParam (List D)) : Prop where
  e : allD es = some ds
  l : ds.length ≤ n
instance {n : Nat} : AllIs [] n [] := ⟨rfl, Nat.zero_le _⟩
instance {d : D} {es : List EV} {n : Nat} {ds : List D} [a : AllIs es n ds] : AllIs (.d d :: es) (n + 1) (d :: ds) := ⟨by unfold allD; rw [a.e]; rfl, by rw [List.length_cons]; exact Nat.succ_le_succ a.l⟩
class ArgIs (z : SS) (es : List EV) (as : outParam (List AV)) (j : outParam (Option Nat)) : Prop where
  e : argsOf z es = some (as, j)
class ItsIs (d : D) (l : outParam (List D)) : Prop where
  e : itemsD d = some l
instance {l : List D} : ItsIs (.list l) l := ⟨rfl⟩
instance {l : List D} : ItsIs (.tuple l) l := ⟨rfl⟩

instance {z : SS} : ArgIs z [] [] none := ⟨rfl⟩
instance {z : SS} {d : D} {es : List EV} {as : List AV} {j : Option Nat} [a : ArgIs z es as j] : ArgIs z (.d d :: es) (.val d :: as) j := ⟨by unfold argsOf; rw [a.e]; rfl⟩
instance {z : SS} {i : Nat} {b : Option Nat} {l : List D} {es : List EV} {as : List AV} [q : At z i (.own b l)] [a : ArgIs z es as none] : ArgIs z (.o i :: es) (.own l :: as) (some i) := ⟨by unfold argsOf; simp only [a.e, q.e]⟩
class FrzIs (n : Nat) (z : SS) (z' : outParam SS) : Prop where
  e : frzS n z = some z'
instance {n : Nat} {z z' : SS} {l : List D} [a : At z n (.own none l)] [b : Put z n (some (.val (.list l))) z'] : FrzIs n z z' := ⟨by unfold frzS; rw [a.e]; simp only; rw [b.e]⟩
class FOwn (z : SS) (l : outParam (List D)) : Prop where
  e : findOwn z = some l
instance {k : Nat} {l : List D} {z : SS} : FOwn (some (.own (some k) l) :: z) l := ⟨rfl⟩
instance {z : SS} {l : List D} [a : FOwn z l] : FOwn (none :: z) l := ⟨a.e⟩
instance {d : D} {z : SS} {l : List D} [a : FOwn z l] : FOwn (some (.val d) :: z) l := ⟨a.e⟩
instance {m : List D} {z : SS} {l : List D} [a : FOwn z l] : FOwn (some (.own none m) :: z) l := ⟨a.e⟩
class Tg (g : GS) (d : D) (z : SS) (z' : outParam SS) : Prop where
  e : g d z = some z'
class TgA (gs : List GS) (ds : List D) (z : SS) (z' : outParam SS) : Prop where
  e : gAll gs ds z = some z'
instance {z z' : SS} {i : Nat} {d : D} [a : Put z i (some (.val d)) z'] : Tg (gNm i) d z z' := ⟨by unfold gNm; rw [a.e]⟩
instance {z : SS} : TgA [] [] z z := ⟨rfl⟩
instance {g : GS} {gs : List GS} {d : D} {ds : List D} {z z1 z2 : SS} [a : Tg g d z z1] [b : TgA gs ds z1 z2] : TgA (g :: gs) (d :: ds) z z2 := ⟨by unfold gAll; rw [a.e]; exact b.e⟩
instance {gs : List GS} {ds : List D} {z z1 : SS} [a : TgA gs ds z z1] : Tg (gTp gs) (.tuple ds) z z1 := ⟨a.e⟩
instance {gs : List GS} {ds : List D} {z z1 : SS} [a : TgA gs ds z z1] : Tg (gTp gs) (.list ds) z z1 := ⟨a.e⟩
/-! ### truth values that are known -/
class BIs (b : Bool) (c : outParam Bool) : Prop where
  e : b = c
instance : BIs true true := ⟨rfl⟩
instance : BIs false false := ⟨rfl⟩
instance {b : Bool} [a : BIs b true] : BIs (!b) false := ⟨by rw [a.e]; rfl⟩
instance {b : Bool} [a : BIs b false] : BIs (!b) true := ⟨by rw [a.e]; rfl⟩
instance {b c : Bool} [a : BIs b c] : BIs (id b) c := ⟨a.e⟩
instance : BIs (isA "int" (PyData.none)) false := ⟨rfl⟩
instance {b : Bool} : BIs (isA "int" (PyData.bool b)) true := ⟨rfl⟩
instance {i : Int} : BIs (isA "int" (PyData.int i)) true := ⟨rfl⟩
instance {s : Str} : BIs (isA "int" (PyData.str s)) false := ⟨rfl⟩
instance {l : List D} : BIs (isA "int" (PyData.list l)) false := ⟨rfl⟩
instance {l : List D} : BIs (isA "int" (PyData.tuple l)) false := ⟨rfl⟩
instance : BIs (isA "bool" (PyData.none)) false := ⟨rfl⟩
instance {b : Bool} : BIs (isA "bool" (PyData.bool b)) true := ⟨rfl⟩
instance {i : Int} : BIs (isA "bool" (PyData.int i)) false := ⟨rfl⟩
instance {s : Str} : BIs (isA "bool" (PyData.str s)) false := ⟨rfl⟩
instance {l : List D} : BIs (isA "bool" (PyData.list l)) false := ⟨rfl⟩
instance {l : List D} : BIs (isA "bool" (PyData.tuple l)) false := ⟨rfl⟩
instance : BIs (isA "str" (PyData.none)) false := ⟨rfl⟩
instance {b : Bool} : BIs (isA "str" (PyData.bool b)) false := ⟨rfl⟩
instance {i : Int} : BIs (isA "str" (PyData.int i)) false := ⟨rfl⟩
instance {s : Str} : BIs (isA "str" (PyData.str s)) true := ⟨rfl⟩
instance {l : List D} : BIs (isA "str" (PyData.list l)) false := ⟨rfl⟩
instance {l : List D} : BIs (isA "str" (PyData.tuple l)) false := ⟨rfl⟩
instance : BIs (isA "list" (PyData.none)) false := ⟨rfl⟩
instance {b : Bool} : BIs (isA "list" (PyData.bool b)) false := ⟨rfl⟩
instance {i : Int} : BIs (isA "list" (PyData.int i)) false := ⟨rfl⟩
instance {s : Str} : BIs (isA "list" (PyData.str s)) false := ⟨rfl⟩
instance {l : List D} : BIs (isA "list" (PyData.list l)) true := ⟨rfl⟩
instance {l : List D} : BIs (isA "list" (PyData.tuple l)) false := ⟨rfl⟩
instance : BIs (isA "tuple" (PyData.none)) false := ⟨rfl⟩
instance {b : Bool} : BIs (isA "tuple" (PyData.bool b)) false := ⟨rfl⟩
instance {i : Int} : BIs (isA "tuple" (PyData.int i)) false := ⟨rfl⟩
instance {s : Str} : BIs (isA "tuple" (PyData.str s)) false := ⟨rfl⟩
instance {l : List D} : BIs (isA "tuple" (PyData.list l)) false := ⟨rfl⟩
instance {l : List D} : BIs (isA "tuple" (PyData.tuple l)) true := ⟨rfl⟩

/-! ### what a computed value is handed to -/
def frzK (R : EV → SS → Prop) : RV → SS → Prop := fun r z => R (.d r.toD) z
def binK (R : EV → SS → Prop) (z : SS) : RV → Prop := fun r => R (.d r.toD) z
def outK (z : SS) (j : Option Nat) (RR : RV → SS → Prop) : RV → Option (List D) → Prop := fun rv out => ∃ z2, putOut z j out = some z2 ∧ RR rv z2
section
variable {z z1 z2 : SS} {R : EV → SS → Prop} {RR : RV → SS → Prop} {RA : List EV → SS → Prop} {RT : Bool → SS → Prop} {RI : List D → SS → Prop} {RO : Option Int → SS → Prop} {E : En} {k : RV → Prop} {N : SS → Prop} {rt : RV → SS → Prop} {bk ct : SS → Prop}
variable {i j : Int} {n m : Nat} {d x y : D} {a b : Str} {l l' : List D} {c c' : Bool}
variable {t u ta tb tc : WE} {tr : WR} {ts us : WS} {tt tu : WT} {wa : WA} {wi wi1 : WI} {wo wo' : WO} {g g1 : GS} {f f' : F2} {fc : FC} {fm : FM} {ev ew : EV} {es : List EV}
instance : Stp (frzK R (.d d) z) (R (.d d) z) := ⟨fun h => h⟩
instance : Stp (frzK R (.n l) z) (R (.d (.list l)) z) := ⟨fun h => h⟩
instance : Stp (binK R z (.d d)) (R (.d d) z) := ⟨fun h => h⟩
instance : Stp (binK R z (.n l)) (R (.d (.list l)) z) := ⟨fun h => h⟩
instance {rv : RV} : Stp (outK z none RR rv none) (RR rv z) := ⟨fun h => ⟨z, rfl, h⟩⟩
instance {rv : RV} {bb : Option Nat} [p : At z n (.own bb l')] [q : Put z n (some (.own bb l)) z1] : Stp (outK z (some n) RR rv (some l)) (RR rv z1) := ⟨fun h => ⟨z1, by unfold putOut; simp only [p.e, q.e], h⟩⟩
-- statements
instance : Stp (wSeq ts us ⟨N, rt, bk, ct⟩ z) (ts ⟨fun z' => us ⟨N, rt, bk, ct⟩ z', rt, bk, ct⟩ z) := ⟨fun h => h⟩
instance : Stp (wNext ⟨N, rt, bk, ct⟩ z) (N z) := ⟨fun h => h⟩
def killK (is : List Nat) (N : SS → Prop) : SS → Prop := fun z => N (killAll is z)
instance {is : List Nat} [q : Kil is z z1] : Stp (killK is N z) (N z1) := ⟨fun h => by unfold killK; rw [q.e]; exact h⟩
instance {is : List Nat} : Stp (wKill is ts ⟨N, rt, bk, ct⟩ z) (ts ⟨killK is N, rt, bk, killK is ct⟩ z) := ⟨fun h => h⟩
instance : Stp (wDrop t ⟨N, rt, bk, ct⟩ z) (t z fun _ z' => N z') := ⟨fun h => h⟩
def retK (rt : RV → SS → Prop) : EV → SS → Prop := fun ev z' => ∃ d, ev = .d d ∧ rt (.d d) z'
instance : Stp (retK rt (.d d) z) (rt (.d d) z) := ⟨fun h => ⟨d, rfl, h⟩⟩
instance : Stp (wRet t ⟨N, rt, bk, ct⟩ z) (t z (retK rt)) := ⟨fun h => h⟩
instance : Stp (wRetR tr ⟨N, rt, bk, ct⟩ z) (tr z fun r z' => rt r z') := ⟨fun h => h⟩
instance [p : At z n (.own none l)] [q : Put z n none z1] : Stp (wRetO n ⟨N, rt, bk, ct⟩ z) (rt (.n l) z1) := ⟨fun h => ⟨l, p.e, by rw [q.e]; exact h⟩⟩
instance : Stp (wIfS tt ts us ⟨N, rt, bk, ct⟩ z) (tt z fun b z' => if b = true then ts ⟨N, rt, bk, ct⟩ z' else us ⟨N, rt, bk, ct⟩ z') := ⟨fun h => h⟩
def setK (n : Nat) (N : SS → Prop) : EV → SS → Prop := fun ev z1 => ∃ d, ev = .d d ∧ N (z1.set n (some (.val d)))
instance [q : Put z n (some (.val d)) z1] : Stp (setK n N (.d d) z) (N z1) := ⟨fun h => ⟨d, rfl, by rw [q.e]; exact h⟩⟩
instance : Stp (wSet n t ⟨N, rt, bk, ct⟩ z) (t z (setK n N)) := ⟨fun h => h⟩
def setOK (n : Nat) (N : SS → Prop) : RV → SS → Prop := fun r z1 => ∃ l, r = .n l ∧ N (z1.set n (some (.own none l)))
instance [q : Put z n (some (.own none l)) z1] : Stp (setOK n N (.n l) z) (N z1) := ⟨fun h => ⟨l, rfl, by rw [q.e]; exact h⟩⟩
instance : Stp (wSetO n tr ⟨N, rt, bk, ct⟩ z) (tr z (setOK n N)) := ⟨fun h => h⟩
def lcK (n : Nat) (N : SS → Prop) : RV → SS → Prop := fun r z1 => N (z1.set n (some (.val r.toD)))
instance [q : Put z n (some (.val (.list l))) z1] : Stp (lcK n N (.n l) z) (N z1) := ⟨fun h => by unfold lcK; rw [show (RV.n l).toD = .list l from rfl, q.e]; exact h⟩
instance [q : Put z n (some (.val d)) z1] : Stp (lcK n N (.d d) z) (N z1) := ⟨fun h => by unfold lcK; rw [show (RV.d d).toD = d from rfl, q.e]; exact h⟩
instance : Stp (wLcSet n tr ⟨N, rt, bk, ct⟩ z) (tr z (lcK n N)) := ⟨fun h => h⟩
def asgK (g : GS) (N : SS → Prop) : EV → SS → Prop := fun ev z1 => ∃ d z2, ev = .d d ∧ g d z1 = some z2 ∧ N z2
instance [q : Tg g d z z1] : Stp (asgK g N (.d d) z) (N z1) := ⟨fun h => ⟨d, z1, rfl, q.e, h⟩⟩
instance : Stp (wAsg t g ⟨N, rt, bk, ct⟩ z) (t z (asgK g N)) := ⟨fun h => h⟩
instance : Stp (wPut t ta tb ⟨N, rt, bk, ct⟩ z) (t z fun ev z1 => ta z1 fun o z2 => tb z2 fun i z3 => ∃ d s k b l j, ev = .d d ∧ o = .o s ∧ i = .d (.int k) ∧ z3[s]? = some (some (.own b l)) ∧ ixN l.length k = some j ∧ N (z3.set s (some (.own b (l.set j d))))) := ⟨fun h => h⟩
instance : Stp (wFor wi g ts ⟨N, rt, bk, ct⟩ z) (wi z fun items z1 => wForL g ts ⟨N, rt, bk, ct⟩ items z1) := ⟨fun h => h⟩
instance {W : SS → Prop} [q : Tg g d z z1] : Stp (∃ z2, g d z = some z2 ∧ W z2) (W z1) := ⟨fun h => ⟨z1, q.e, h⟩⟩
instance [q : FrzIs n z z1] : Stp (wFreeze n ts ⟨N, rt, bk, ct⟩ z) (ts ⟨N, rt, bk, ct⟩ z1) := ⟨fun h => ⟨z1, q.e, h⟩⟩
-- tests
def testK (RT : Bool → SS → Prop) : EV → SS → Prop := fun x z1 => ∃ c, x = .d (.bool c) ∧ RT c z1
instance : Stp (testK RT (.d (.bool c)) z) (RT c z) := ⟨fun h => ⟨c, rfl, h⟩⟩
instance : Stp (wTest t z RT) (t z (testK RT)) := ⟨fun h => h⟩
instance : Stp (wNot tt z RT) (tt z fun c z1 => RT (!c) z1) := ⟨fun h => h⟩
instance : Stp (wAnd tt tu z RT) (tt z fun c z1 => if c = true then tu z1 RT else RT false z1) := ⟨fun h => h⟩
instance : Stp (wOr tt tu z RT) (tt z fun c z1 => if c = true then RT true z1 else tu z1 RT) := ⟨fun h => h⟩
instance : Stp (wYes z RT) (RT true z) := ⟨fun h => h⟩
-- expressions
instance [q : At z n (.val d)] : Stp (wVar n z R) (R (.d d) z) := ⟨fun h => by unfold wVar; rw [q.e]; exact h⟩
instance {bb : Option Nat} [q : At z n (.own bb l)] : Stp (wVar n z R) (R (.o n) z) := ⟨fun h => by unfold wVar; rw [q.e]; exact h⟩
instance : Stp (wC d z R) (R (.d d) z) := ⟨fun h => h⟩
instance : Stp (wDct z R) (R (.d (.dict [])) z) := ⟨fun h => h⟩
instance : Stp (wFrz tr z R) (tr z (frzK R)) := ⟨fun h => h⟩
instance : Stp (wBin f ta tb z R) (ta z fun x z1 => tb z1 fun y z2 => f z2 x y (binK R z2)) := ⟨fun h => h⟩
instance : Stp (wBinR f ta tb z RR) (ta z fun x z1 => tb z1 fun y z2 => f z2 x y fun d => RR d z2) := ⟨fun h => h⟩
instance : Stp (wCB fc wa z RR) (wa z fun es z1 => fc z1 es fun r => RR r z1) := ⟨fun h => h⟩
instance : Stp (wNil z RA) (RA [] z) := ⟨fun h => h⟩
instance : Stp (wCons t wa z RA) (t z fun x z1 => wa z1 fun xs z2 => RA (x :: xs) z2) := ⟨fun h => h⟩
def tupK (R : EV → SS → Prop) : List EV → SS → Prop := fun es z1 => ∃ ds, allD es = some ds ∧ ds.length ≤ sizeLine ∧ R (.d (.tuple ds)) z1
instance [q : AllIs es 60 l] : Stp (tupK R es z) (R (.d (.tuple l)) z) := ⟨fun h => ⟨l, q.e, le_line (Nat.le_trans q.l (by decide)), h⟩⟩
instance : Stp (wTup wa z R) (wa z (tupK R)) := ⟨fun h => h⟩
def lstK (RR : RV → SS → Prop) : List EV → SS → Prop := fun es z1 => ∃ ds, allD es = some ds ∧ ds.length ≤ sizeLine ∧ RR (.n ds) z1
instance [q : AllIs es 60 l] : Stp (lstK RR es z) (RR (.n l) z) := ⟨fun h => ⟨l, q.e, le_line (Nat.le_trans q.l (by decide)), h⟩⟩
instance : Stp (wLst wa z RR) (wa z (lstK RR)) := ⟨fun h => h⟩
instance : Stp (wNeg t z R) (t z fun x z1 => ∃ i, x = .d (.int i) ∧ R (.d (.int (-i))) z1) := ⟨fun h => h⟩
class NoScr (d : D) : Prop where
  e : ∀ l, d ≠ .dict [(.none, l)]
instance : NoScr .none := ⟨fun _ e => nomatch e⟩
instance : NoScr (.bool c) := ⟨fun _ e => nomatch e⟩
instance : NoScr (.int i) := ⟨fun _ e => nomatch e⟩
instance : NoScr (.str a) := ⟨fun _ e => nomatch e⟩
instance : NoScr (.list l) := ⟨fun _ e => nomatch e⟩
instance : NoScr (.tuple l) := ⟨fun _ e => nomatch e⟩
instance {T : String} : Stp (wIsa T t z R) (t z fun x z1 => ∃ d, evD z1 x = some d ∧ (∀ l, d ≠ .dict [(.none, l)]) ∧ R (.d (.bool (isA T d))) z1) := ⟨fun h => h⟩
instance {P : D → Prop} [q : EvIs z ev d] [r : NoScr d] : Stp (∃ d, evD z ev = some d ∧ (∀ l, d ≠ .dict [(.none, l)]) ∧ P d) (P d) := ⟨fun h => ⟨d, q.e, r.e, h⟩⟩
instance : Stp (wAndV ta tb z R) (ta z fun x z1 => ∃ c, x = .d (.bool c) ∧ if c = true then tb z1 R else R (.d (.bool false)) z1) := ⟨fun h => h⟩
instance : Stp (wOrV ta tb z R) (ta z fun x z1 => ∃ c, x = .d (.bool c) ∧ if c = true then R (.d (.bool true)) z1 else tb z1 R) := ⟨fun h => h⟩
instance : Stp (wNotV t z R) (t z fun x z1 => ∃ c, x = .d (.bool c) ∧ R (.d (.bool (!c))) z1) := ⟨fun h => h⟩
instance : Stp (wIf tt ta tb z R) (tt z fun c z1 => if c = true then ta z1 R else tb z1 R) := ⟨fun h => h⟩
instance : Stp (wChain f f' ta tb tc z R) (ta z fun x z1 => tb z1 fun y z2 => f z2 x y fun d => ∃ c, d = .d (.bool c) ∧ if c = true then tc z2 fun w z3 => f' z3 y w (binK R z3) else R (.d (.bool false)) z2) := ⟨fun h => h⟩
instance : Stp (wSl t wo wo' z RR) (t z fun x z1 => wo z1 fun lo z2 => wo' z2 fun hi z3 => sSl z3 x lo hi fun d => RR d z3) := ⟨fun h => h⟩
instance : Stp (wNoPart z RO) (RO none z) := ⟨fun h => h⟩
instance : Stp (wPart t z RO) (t z fun x z1 => ∃ i, x = .d (.int i) ∧ RO (some i) z1) := ⟨fun h => h⟩
instance {T : String} : Stp (wBM T fm t wa z RR) (t z fun x z1 => tyE T z1 x ∧ wa z1 fun xs z2 => fm z2 x xs RR) := ⟨fun h => h⟩
instance {T : String} : Stp (wBM0 T fm t z RR) (t z fun x z1 => tyE T z1 x ∧ fm z1 x [] RR) := ⟨fun h => h⟩
instance : Stp (wLRg t z RR) (t z fun x z1 => ∃ j, x = .d (.int j) ∧ RgOk 0 j ∧ RR (.n (rangeD 0 j)) z1) := ⟨fun h => h⟩
instance : Stp (wLRg2 ta tb z RR) (ta z fun x z1 => tb z1 fun y z2 => ∃ i j, x = .d (.int i) ∧ y = .d (.int j) ∧ RgOk i j ∧ RR (.n (rangeD i j)) z2) := ⟨fun h => h⟩
def callK (p : FS) (RR : RV → SS → Prop) : List EV → SS → Prop := fun es z1 => ∃ as j, argsOf z1 es = some (as, j) ∧ p as (outK z1 j RR)
instance {p : FS} {as : List AV} {o : Option Nat} [q : ArgIs z es as o] : Stp (callK p RR es z) (p as (outK z o RR)) := ⟨fun h => ⟨as, o, q.e, h⟩⟩
instance {p : FS} : Stp (wCall p wa z RR) (wa z (callK p RR)) := ⟨fun h => h⟩
def srcK (RI : List D → SS → Prop) : EV → SS → Prop := fun ev z1 => ∃ l, srcOf ev = some l ∧ RI l z1
instance [q : SrcIs ev l] : Stp (srcK RI ev z) (RI l z) := ⟨fun h => ⟨l, q.e, h⟩⟩
instance : Stp (wSrc t z RI) (t z (srcK RI)) := ⟨fun h => h⟩
instance : Stp (wRng1 wa z RI) (wa z fun es z1 => ∃ j, es = [.d (.int j)] ∧ -(2 ^ 62) ≤ j ∧ j < 2 ^ 62 ∧ RI (rangeD 0 j) z1) := ⟨fun h => h⟩
instance : Stp (wRng2 wa z RI) (wa z fun es z1 => ∃ i j, es = [.d (.int i), .d (.int j)] ∧ (-(2 ^ 62) ≤ i ∧ i < 2 ^ 62 ∧ -(2 ^ 62) ≤ j ∧ j < 2 ^ 62) ∧ RI (rangeD i j) z1) := ⟨fun h => h⟩
def enmK (RI : List D → SS → Prop) : List EV → SS → Prop := fun es z1 => ∃ d l, es = [.d d] ∧ itemsD d = some l ∧ RI (enumD l) z1
instance [q : ItsIs d l] : Stp (enmK RI [.d d] z) (RI (enumD l) z) := ⟨fun h => ⟨d, l, rfl, q.e, h⟩⟩
instance : Stp (wEnum wa z RI) (wa z (enmK RI)) := ⟨fun h => h⟩
def restK (own : List Nat) (z1 : SS) (RR : RV → SS → Prop) : List D → SS → Prop := fun acc z' => RR (.n acc) (restS own z1 z')
def lcLK (g : GS) (own : List Nat) (tt : WT) (te : WE) (RR : RV → SS → Prop) : List D → SS → Prop := fun items z1 => wLcL g own tt te (restK own z1 RR) items [] (killAll own z1)
instance {own : List Nat} [q : Kil own z z1] : Stp (lcLK g own tt t RR l z) (wLcL g own tt t (restK own z RR) l [] z1) := ⟨fun h => by unfold lcLK; rw [q.e]; exact h⟩
instance {own : List Nat} [q : Rst own z z1 z2] : Stp (restK own z RR l z1) (RR (.n l) z2) := ⟨fun h => by unfold restK; rw [q.e]; exact h⟩
instance {own : List Nat} : Stp (wLc wi g own tt t z RR) (wi z (lcLK g own tt t RR)) := ⟨fun h => h⟩
def lc2K (g : GS) (own : List Nat) (tt : WT) (wi1 : WI) (g1 : GS) (vs : List Nat) (tt1 : WT) (te : WE) (RR : RV → SS → Prop) : List D → SS → Prop := fun items z1 => wLcL2 g own tt wi1 g1 vs tt1 te (restK own z1 RR) items [] (killAll own z1)
instance {own vs : List Nat} {tt1 : WT} [q : Kil own z z1] : Stp (lc2K g own tt wi1 g1 vs tt1 t RR l z) (wLcL2 g own tt wi1 g1 vs tt1 t (restK own z RR) l [] z1) := ⟨fun h => by unfold lc2K; rw [q.e]; exact h⟩
instance {own vs : List Nat} {tt1 : WT} : Stp (wLc2 wi g own tt wi1 g1 vs tt1 t z RR) (wi z (lc2K g own tt wi1 g1 vs tt1 t RR)) := ⟨fun h => h⟩
-- what continuations ask
instance {P : D → Prop} : Stp (∃ x, EV.d d = .d x ∧ P x) (P d) := ⟨fun h => ⟨d, rfl, h⟩⟩
instance {P : Bool → Prop} : Stp (∃ x, EV.d (.bool c) = .d (.bool x) ∧ P x) (P c) := ⟨fun h => ⟨c, rfl, h⟩⟩
instance {P : Bool → Prop} : Stp (∃ x, RV.d (.bool c) = .d (.bool x) ∧ P x) (P c) := ⟨fun h => ⟨c, rfl, h⟩⟩
instance {P : List D → Prop} : Stp (∃ x, RV.n l = .n x ∧ P x) (P l) := ⟨fun h => ⟨l, rfl, h⟩⟩
instance i_exI' {P : Int → Prop} : Stp (∃ x, EV.d (.int i) = .d (.int x) ∧ P x) (P i) := ⟨fun h => ⟨i, rfl, h⟩⟩
instance {P : Prop} [q : LstIs z ev l] : Stp (tyE "list" z ev ∧ P) P := ⟨fun h => ⟨.inl ⟨rfl, l, q.e⟩, h⟩⟩
instance {P : Prop} : Stp (tyE "str" z (.d (.str a)) ∧ P) P := ⟨fun h => ⟨.inr ⟨rfl, a, rfl⟩, h⟩⟩
instance {A B : Prop} [q : BIs c true] : Stp (if c = true then A else B) A := ⟨fun h => by rw [q.e]; exact h⟩
instance {A B : Prop} [q : BIs c false] : Stp (if c = true then A else B) B := ⟨fun h => by rw [q.e]; exact h⟩
def rtK (o : Bool) (Q : RV → Option (List D) → Prop) : RV → SS → Prop := fun rv z => ∃ out, outOf o z = some out ∧ Q rv out
def nxK (o : Bool) (Q : RV → Option (List D) → Prop) : SS → Prop := fun z => rtK o Q (.d .none) z
theorem start_en {t : WS} {o : Bool} {Q : RV → Option (List D) → Prop} (h : t ⟨nxK o Q, rtK o Q, fun _ => False, fun _ => False⟩ z) : t (retEn o Q) z := h
instance {Q : RV → Option (List D) → Prop} {rv : RV} : Stp (rtK false Q rv z) (Q rv none) := ⟨fun h => ⟨none, rfl, h⟩⟩
instance {Q : RV → Option (List D) → Prop} {rv : RV} [q : FOwn z l] : Stp (rtK true Q rv z) (Q rv (some l)) := ⟨fun h => ⟨some l, by unfold outOf; rw [q.e]; rfl, h⟩⟩
instance {o : Bool} {Q : RV → Option (List D) → Prop} : Stp (nxK o Q z) (rtK o Q (.d .none) z) := ⟨fun h => h⟩
theorem i_asgK (e : g d z = some z1) (h : N z1) : asgK g N (.d d) z := ⟨d, z1, rfl, e, h⟩
theorem i_srcK (e : srcOf ev = some l) (h : RI l z) : srcK RI ev z := ⟨l, e, h⟩
theorem i_enmK (e : itemsD d = some l) (h : RI (enumD l) z) : enmK RI [.d d] z := ⟨d, l, rfl, e, h⟩
theorem i_tupK (e : allD es = some l) (e2 : l.length ≤ sizeLine) (h : R (.d (.tuple l)) z) : tupK R es z := ⟨l, e, e2, h⟩
theorem i_lstK (e : allD es = some l) (e2 : l.length ≤ sizeLine) (h : RR (.n l) z) : lstK RR es z := ⟨l, e, e2, h⟩
theorem i_callK {p : FS} {as : List AV} {o : Option Nat} (e : argsOf z es = some (as, o)) (h : p as (outK z o RR)) : callK p RR es z := ⟨as, o, e, h⟩
theorem i_lrgP {P : Prop} (a : RgOk i j) (h : P) : RgOk i j ∧ P := ⟨a, h⟩
theorem j_put {P : SS → Prop} {b : Option Nat} {jj : Nat} [q : At z n (.own b l)] (e2 : ixN l.length i = some jj) [r : Put z n (some (.own b (l.set jj d))) z1] (h : P z1) :
    ∃ d' s' k b' l' j', EV.d d = .d d' ∧ EV.o n = .o s' ∧ EV.d (.int i) = .d (.int k) ∧ z[s']? = some (some (.own b' l')) ∧ ixN l'.length k = some j' ∧ P (z.set s' (some (.own b' (l'.set j' d')))) := ⟨d, n, i, b, l, jj, rfl, rfl, rfl, q.e, e2, by rw [r.e]; exact h⟩
theorem j_append {b : Option Nat} [q : At z n (.own b l)] (e2 : l.length < sizeLine) [r : Put z n (some (.own b (l ++ [d]))) z1] (h : RR (.d .none) z1) : mAppend z (.o n) [.d d] RR := ⟨n, b, l, d, rfl, rfl, q.e, e2, by rw [r.e]; exact h⟩
theorem j_extend {b : Option Nat} [q : At z n (.own b l)] [p : LstIs z ev l'] (e2 : l.length + l'.length ≤ sizeLine) [r : Put z n (some (.own b (l ++ l'))) z1] (h : RR (.d .none) z1) : mExtend z (.o n) [ev] RR := ⟨n, b, l, ev, l', rfl, rfl, q.e, p.e, e2, by rw [r.e]; exact h⟩
theorem j_pop {b : Option Nat} [q : At z n (.own b l)] (e2 : l[l.length - 1]? = some d) [r : Put z n (some (.own b l.dropLast)) z1] (h : RR (.d d) z1) : mPop z (.o n) [] RR := ⟨n, b, l, d, rfl, rfl, q.e, e2, by rw [r.e]; exact h⟩
theorem j_addL [q : LstIs z ev l] [p : LstIs z ew l'] (e : l.length + l'.length ≤ sizeLine) (h : k (.n (l ++ l'))) : sAdd z ev ew k := i_addL q.e p.e e h
theorem j_ix [q : SeqIs z ev l] (e2 : atI l i = some d) (h : k (.d d)) : sIx z ev (.d (.int i)) k := i_ix q.e e2 h
theorem i_frzK {rv : RV} (h : R (.d rv.toD) z) : frzK R rv z := h
-- operators
instance : Stp (sAdd z (.d (.int i)) (.d (.int j)) k) (k (.d (.int (i + j)))) := ⟨fun h => h⟩
instance : Stp (sSub z (.d (.int i)) (.d (.int j)) k) (k (.d (.int (i - j)))) := ⟨i_sub⟩
instance : Stp (sLt z (.d (.int i)) (.d (.int j)) k) (k (.d (.bool (decide (i < j))))) := ⟨i_lt⟩
instance : Stp (sLe z (.d (.int i)) (.d (.int j)) k) (k (.d (.bool (decide (i ≤ j))))) := ⟨i_le⟩
instance : Stp (sGt z (.d (.int i)) (.d (.int j)) k) (k (.d (.bool (decide (j < i))))) := ⟨i_gt⟩
instance : Stp (sGe z (.d (.int i)) (.d (.int j)) k) (k (.d (.bool (decide (j ≤ i))))) := ⟨i_ge⟩
instance : Stp (sEq z (.d (.int i)) (.d (.int j)) k) (k (.d (.bool (decide (i = j))))) := ⟨i_eqI⟩
instance : Stp (sNe z (.d (.int i)) (.d (.int j)) k) (k (.d (.bool (!decide (i = j))))) := ⟨i_neI⟩
instance : Stp (sEq z (.d (.bool c)) (.d (.bool c')) k) (k (.d (.bool (decide (c = c'))))) := ⟨i_eqB⟩
instance : Stp (sNe z (.d (.bool c)) (.d (.bool c')) k) (k (.d (.bool (!decide (c = c'))))) := ⟨i_neB⟩
instance : Stp (sEq z (.d (.str a)) (.d (.str b)) k) (k (.d (.bool (decide (a = b))))) := ⟨i_eqS⟩
instance : Stp (sNe z (.d (.str a)) (.d (.str b)) k) (k (.d (.bool (!decide (a = b))))) := ⟨i_neS⟩
instance : Stp (sIsB id z (.d (.bool c)) (.d (.bool c')) k) (k (.d (.bool (decide (c = c'))))) := ⟨i_isB⟩
instance [q : EvIs z ev d] : Stp (sIsN id z ev (.d .none) k) (k (.d (.bool (isNone d)))) := ⟨i_isN q.e⟩
instance [q : EvIs z ev d] : Stp (sIsN not z ev (.d .none) k) (k (.d (.bool (!isNone d)))) := ⟨i_notN q.e⟩
instance {gg : SS → EV → (RV → Prop) → Prop} : Stp (f1 gg z [ev] k) (gg z ev k) := ⟨i_f1⟩
instance {gg : SS → EV → EV → (RV → Prop) → Prop} : Stp (f2 gg z [ev, ew] k) (gg z ev ew k) := ⟨i_f2⟩
instance [q : SeqIs z ev l] : Stp (sLen z ev k) (k (.d (.int l.length))) := ⟨i_len q.e⟩
instance : Stp (sAbs z (.d (.int i)) k) (k (.d (.int (if i < 0 then -i else i)))) := ⟨i_abs⟩
instance : Stp (sInt z (.d (.int i)) k) (k (.d (.int i))) := ⟨i_int⟩
instance : Stp (sInt z (.d (.bool c)) k) (k (.d (.int (if c then 1 else 0)))) := ⟨i_intB⟩
instance : Stp (sMax z (.d (.int i)) (.d (.int j)) k) (k (.d (.int (if j > i then j else i)))) := ⟨i_max⟩
instance : Stp (sMin z (.d (.int i)) (.d (.int j)) k) (k (.d (.int (if j < i then j else i)))) := ⟨i_min⟩
instance : Stp (sListOf z (.d (.dict [(.none, .list l)])) k) (k (.n l)) := ⟨i_listScr⟩
instance [q : SeqIs z ev l] : Stp (sListOf z ev k) (k (.n l)) := ⟨i_list q.e⟩
instance [q : SeqIs z ev l] : Stp (sTupOf z ev k) (k (.d (.tuple l))) := ⟨i_tuple q.e⟩
instance {lo hi : Option Int} : Stp (sSl z (.d (.tuple l)) lo hi k) (k (.d (.tuple (cutD l lo hi)))) := ⟨i_slT⟩
instance {lo hi : Option Int} [q : LstIs z ev l] : Stp (sSl z ev lo hi k) (k (.n (cutD l lo hi))) := ⟨fun h => i_slL (by
  cases ev with
  | d y =>
    have e := q.e
    cases y <;> simp [lstOf] at e
    subst e; rfl
  | o n =>
    have e := q.e
    unfold lstOf at e
    unfold evD
    simp only at e ⊢
    split at e
    · cases e; rename_i h; simp only [h]
    · cases e) h⟩
end
end L3
/-! Exceptions of the text's own classes: made, raised, let out of a def, caught, their fields read. -/
namespace L3
open PySem PySem.Spec PyProof.Rows L2 PySem.SeqAt
/-- an exception: its class's name, its fields as they stand -/
structure Xn where
  c : Str
  fs : List (Str × D)
/-- what is wished of an exception that leaves, with the slots at that moment -/
abbrev XC := Xn → SS → Prop
def XdOk (K : PySem.W.Frag) (I : Hp) (dd : Addr) (fs : List (Str × D)) : Prop := ∃ fv : List (Str × V), I dd = some (.xd fv) ∧ Paired (fun (p : Str × V) (q : Str × D) => p.1 = q.1 ∧ Rp K I p.2 q.2) fv fs
def XnOk (K : PySem.W.Frag) (mg : Str → Option Value) (I : Hp) (x : Xn) (cls : Value) (d : Option Addr) : Prop := ∃ C dd, mg x.c = some (.ref C) ∧ cls = .ref C ∧ d = some dd ∧ XdOk K I dd x.fs
def wxOf (K : PySem.W.Frag) (mg : Str → Option Value) (F : Fx) (W : XC) : WX := fun cls d σ H => ∃ z I x, Ok K F z σ I H ∧ XnOk K mg I x cls d ∧ W x z
section
variable {K : PySem.W.Frag} {mg : Str → Option Value} {F : Fx} {z : SS} {σ : St} {I I' H : Hp}
theorem XdOk.mono {dd : Addr} {fs : List (Str × D)} (s : Same I I') (h : XdOk K I dd fs) : XdOk K I' dd fs := by
  obtain ⟨fv, e, p⟩ := h
  exact ⟨fv, s _ _ e, paired_mono (fun a b ⟨e, r⟩ => ⟨e, r.mono s⟩) p⟩
theorem XnOk.mono {x : Xn} {cls : Value} {d : Option Addr} (s : Same I I') (h : XnOk K mg I x cls d) : XnOk K mg I' x cls d := by
  obtain ⟨C, dd, a, b, c, e⟩ := h
  exact ⟨C, dd, a, b, c, e.mono s⟩
theorem paired_lookup {n : Str} {d : D} : ∀ {fv : List (Str × V)} {fs : List (Str × D)}, Paired (fun (p : Str × V) (q : Str × D) => p.1 = q.1 ∧ Rp K I p.2 q.2) fv fs → fs.lookup n = some d → ∃ v, fv.lookup n = some v ∧ Rp K I v d
  | _, _, .nil, h => by cases h
  | (a, v) :: _, (b, y) :: _, .cons ⟨e, r⟩ t, h => by
    have e' : a = b := e
    subst e'
    by_cases q : n = a
    · subst q
      rw [List.lookup_cons_self] at h
      cases h
      exact ⟨v, List.lookup_cons_self, r⟩
    · have qb : (n == a) = false := by simpa using q
      rw [List.lookup_cons, qb] at h
      obtain ⟨w, h1, h2⟩ := paired_lookup t h
      exact ⟨w, by rw [List.lookup_cons, qb]; exact h1, h2⟩
theorem paired_zip {vs : List V} {ds : List D} : ∀ (ns : List Str), RpA K I vs ds → Paired (fun (p : Str × V) (q : Str × D) => p.1 = q.1 ∧ Rp K I p.2 q.2) (ns.zip vs) (ns.zip ds)
  | [], _ => .nil
  | n :: ns, r => by
    cases r with
    | nil => exact .nil
    | cons h t => exact .cons ⟨rfl, h⟩ (paired_zip ns t)
theorem paired_app {α β : Type} {P : α → β → Prop} : ∀ {a : List α} {b : List β} {c : List α} {d : List β}, Paired P a b → Paired P c d → Paired P (a ++ c) (b ++ d)
  | _, _, _, _, .nil, h => h
  | _, _, _, _, .cons r t, h => .cons r (paired_app t h)
theorem paired_rev {α β : Type} {P : α → β → Prop} : ∀ {a : List α} {b : List β}, Paired P a b → Paired P a.reverse b.reverse
  | _, _, .nil => .nil
  | _, _, .cons r t => by
    rw [List.reverse_cons, List.reverse_cons]
    exact paired_app (paired_rev t) (.cons r .nil)
end

/-! ### a class of the text's own exceptions -/
/-- what __init__(self, n, ..), which stores each argument under its name, asks and gives -/
def spInit (K : PySem.W.Frag) (C : Addr) (ns : List Str) : Sp := fun vs H Q _ => ∃ (a : Addr) (ws : List V), vs = .ref a :: ws ∧ ws.length = ns.length ∧ H a = some (exo a C none) ∧
  ∀ dx, H dx = none → Q .non (upd (upd H dx (exd dx (ns.zip ws).reverse)) a (exo a C (some dx)))
structure Ec (P : Program) (w : World) (K : PySem.W.Frag) (mg : Str → Option Value) (base : Heap) (x : Str) (C : Addr) (k : Nat) (ns : List Str) : Prop where
  mgc : mg x = some (.ref C)
  ox : OexC K C
  xf : XfC K C
  no : ∀ n ∈ ns, PySem.W.findIn K (.ref C) n = some none
  len : ns.length ≤ 900
  ini : ∃ (fI : Addr) (fd : FuncData) (ps : List Str), PySem.W.findIn K (.ref C) "__init__" = some (some (.ref fI)) ∧ PySem.W.typeIn K (.ref fI) = some (.type "function") ∧ FnOk P w K mg base CX0 k fI fd ps (spInit K C ns) ∧ Binds K fd ps []
def wRaise (W : XC) (c : Str) (ns : List Str) (u : WA) : WS := fun _ z => u z fun es z1 => ∃ ds, allD es = some ds ∧ ds.length = ns.length ∧ W ⟨c, (ns.zip ds).reverse⟩ z1
theorem upd_none {H : Hp} {a d : Addr} {o u : HO} {o' : HO} (ha : H a = none) (hd : d ≠ a) : upd (del (upd (upd (upd H a o) d u) a o') a) d u = upd H d u := by
  funext b
  unfold upd del
  by_cases h1 : b = d
  · rw [if_pos h1, if_pos h1]
  · rw [if_neg h1, if_neg h1]
    by_cases h2 : b = a
    · rw [if_pos h2, h2, ha]
    · simp only [if_neg h2, if_neg h1]
theorem upd_none' {H : Hp} {a d : Addr} {o u u' : HO} {o' : HO} (ha : H a = none) (hd : d ≠ a) : upd (del (upd (upd (upd H a o) d u) a o') a) d u' = upd H d u' := by
  funext b
  unfold upd del
  by_cases h1 : b = d
  · rw [if_pos h1, if_pos h1]
  · rw [if_neg h1, if_neg h1]
    by_cases h2 : b = a
    · rw [if_pos h2, h2, ha]
    · simp only [if_neg h2, if_neg h1]
section
variable {X : Cx} {F : Fx} {W : XC} {C : Addr} {k : Nat} {ns : List Str} {x : Str} {e : Expr} {es : List Expr} {u : WA} {p p2 pos : Pos}
theorem xs_raise (hc : X.calm = true) (tk : Takes X (wxOf X.K X.mg F W)) (T : Ec X.prog X.w X.K X.mg X.base x C k ns) (hr : Room (k + 1) X.A) (hg : Gl X x) (ha : XA X F (e :: es) u)
    (hdb : (x == ("__debug__" : Str)) = false := by decide) (he : starEach (e :: es) X.env = (false, eval e X.env) :: starEach es X.env := by rfl) (hpl : (backTo p2 (starEach es X.env)).any (·.1) = false := by rfl) :
    XS X F (.Raise (some (.Call (.Name x p) (e :: es) [] p2)) none pos) (wRaise W x ns u) := by
  obtain ⟨fI, fd, ps, iC, tI, F1, hb⟩ := T.ini
  refine ⟨fun E E' z l w => w, ps_imp (ps_raise hc tk (pmk_oex (CX := CX0) T.ox iC tI F1 hr hb .nil pass0 hg T.mgc ha.run hdb he hpl)) fun D σ H ⟨z, I, ok, w⟩ => ?_⟩
  refine ha.at ok w fun es z1 vs I1 H1 ⟨ds, ed, hl, q⟩ o s ev => ?_
  have r := allD_ok ev ed
  have hlv : vs.length = ns.length := by rw [r.length, hl]
  refine ⟨by have := T.len; omega, fun a na => ⟨a, vs, by rw [List.append_nil], hlv, upd_same, fun dx nd => ?_⟩⟩
  have hda : dx ≠ a := fun z => by rw [z, upd_same] at nd; cases nd
  have hd1 : H1 dx = none := by rw [upd_ne hda] at nd; exact nd
  refine ⟨rfl, dx, (ns.zip vs).reverse, upd_same, by rw [upd_ne hda, upd_same], hd1, ?_⟩
  rw [upd_none' na hda]
  obtain ⟨o2, s2⟩ := o.alloc (.xd (ns.zip vs).reverse) hd1
  exact ⟨z1, _, _, o2, ⟨C, dx, T.mgc, rfl, rfl, _, upd_same, paired_rev (paired_zip ns (r.mono s2.imm))⟩, q⟩
end
/-! ### defs that may let an exception out -/
abbrev FSX := List AV → (RV → Option (List D) → Prop) → (Xn → Option (List D) → Prop) → Prop
def MonoX (p : FSX) : Prop := ∀ as R R' E E', (∀ r o, R r o → R' r o) → (∀ x o, E x o → E' x o) → p as R E → p as R' E'
structure XRet (K : PySem.W.Frag) (mg : Str → Option Value) (I H : Hp) (w : Option Addr) (x : Xn) (out : Option (List D)) (cls : Value) (d : Option Addr) (I' H' : Hp) : Prop where
  imm : Same I I'
  sub : Same I' H'
  new : ∀ a o, I' a = some o → I a = some o ∨ H a = none
  keep : ∀ a o, H a = some o → w ≠ some a → H' a = some o
  out : OutOk K I' H' w out
  xn : XnOk K mg I' x cls d
def spOfX (K : PySem.W.Frag) (mg : Str → Option Value) (p : FSX) : Sp := fun vs H Q E => ∃ I as w, ArgsOk K I H vs as w ∧ Same I H ∧ p as (fun rv out => ∀ v I' H', RetOk K I H w rv out v I' H' → Q v H') fun x out => ∀ cls d I' H', XRet K mg I H w x out cls d I' H' → E cls d H'
def wCallX (W : XC) (p : FSX) (u : WA) : WR := fun z R => u z fun es z1 => ∃ as j, argsOf z1 es = some (as, j) ∧ p as (fun rv out => ∃ z2, putOut z1 j out = some z2 ∧ R rv z2) fun x out => ∃ z2, putOut z1 j out = some z2 ∧ W x z2

section
variable {X : Cx} {k : Nat} {f : Addr} {fd : FuncData} {ps : List Str} {p : FSX} {W : XC} {x : Str} {pp pos : Pos} {F : Fx} {e : Expr} {es : List Expr} {u : WA}
theorem XRet.ret {K : PySem.W.Frag} {mg : Str → Option Value} {I H I' H' : Hp} {w : Option Addr} {x : Xn} {out : Option (List D)} {cls : Value} {d : Option Addr} (r : XRet K mg I H w x out cls d I' H') : RetOk K I H w (.d .none) out .non I' H' :=
  ⟨r.imm, r.sub, r.new, r.keep, r.out, .non⟩
theorem callX_run (hp : MonoX p) (ha : XA X F es u) {σ : St} {H : Hp} {Q : VK} (h : liftR X.K F (wCallX W p u) σ H Q) : tCallS (spOfX X.K X.mg p) (fun σ => L2.WE (wxOf X.K X.mg F W) σ) (liftA X.K F u) σ H Q := by
  obtain ⟨z, I, ok, w⟩ := h
  refine ha.at ok w fun es z1 vs I1 H1 ⟨as, j, ea, q⟩ o s ev => ?_
  obtain ⟨w', ao, sa⟩ := args_ok o ev ea
  refine ⟨I1, as, w', ao, o.sub, hp _ _ _ _ _ (fun rv out ⟨z2, e2, q⟩ v I' H' r => ?_) (fun x out ⟨z2, e2, q⟩ cls d I' H' r => ?_) q⟩
  · obtain ⟨o2, s2⟩ := o.called sa r e2
    have st := s.trans s2
    cases rv with
    | d x => exact q v I' H' o2 st r.rv
    | n l =>
      obtain ⟨a, ws, rfl, e3, e4, e5, e6⟩ := r.rv
      refine q a I' H' o2 st ⟨s.there a e6, ⟨ws, e3, e4⟩, e5, (o.h0 e6).1, fun hn => ?_⟩
      obtain ⟨i, b, m, g1, g2⟩ := hn
      obtain ⟨l0, g3⟩ := s2.osub i b m g1
      obtain ⟨a', us, f1, f2, _⟩ := o.own i b l0 g3
      rw [g2] at f1; cases f1
      rw [e6] at f2; cases f2
  · obtain ⟨o2, s2⟩ := o.called sa r.ret e2
    exact ⟨z2, I', x, o2, r.xn, q⟩
theorem wCallX_mono (hp : MonoX p) (hu : Mono u) : Mono (wCallX W p u) := fun z R R' k w => hu _ _ _ (fun es z1 ⟨as, j, e, q⟩ => ⟨as, j, e, hp _ _ _ _ _ (fun rv out ⟨z2, e2, q⟩ => ⟨z2, e2, k _ _ q⟩) (fun _ _ q => q) q⟩) w
theorem xr_callX (tk : Takes X (wxOf X.K X.mg F W)) (hp : MonoX p) (Fn : FnOk X.prog X.w X.K X.mg X.base (L2.CX X.prog X.w) k f fd ps (spOfX X.K X.mg p)) (hr : Room k X.A) (hg : Gl X x) (hm : X.mg x = some (.ref f)) (hk : PySem.W.keepIn X.K (.ref f) = true) (hb : Binds X.K fd ps [])
    (ha : XA X F (e :: es) u) (hdb : (x == ("__debug__" : Str)) = false := by decide) (he : starEach (e :: es) X.env = (false, eval e X.env) :: starEach es X.env := by rfl) (hpl : (backTo pos (starEach es X.env)).any (·.1) = false := by rfl) :
    XR X F (.Call (.Name x pp) (e :: es) [] pos) (wCallX W p u) :=
  ⟨wCallX_mono hp ha.mono, pe_imp (pe_callS Fn hr hg hm hk hb (fun σ => passAt tk σ) ha.run hdb he hpl) fun σ H Q h => callX_run hp ha h⟩
/-- where nothing is caught or let out -/
theorem takes_no {X : Cx} {F : Fx} : Takes X (wxOf X.K X.mg F fun _ _ => False) := (takes0 (X := X)).imp fun _ _ _ _ ⟨_, _, _, _, _, q⟩ => q
end
/-- what a def's wishes are at an exception -/
def retX (o : Bool) (E : Xn → Option (List D) → Prop) : XC := fun x z => ∃ out, outOf o z = some out ∧ E x out
/-- THE RULE for a def that may let an exception out -/
theorem fn_okX {P : Program} {w : World} {K : PySem.W.Frag} {mg : Str → Option Value} {base : Heap} {x qual : Str} {st : Stmt} {f : Addr} {fd : FuncData} {N ps : List Str} {k : Nat} {p : FSX} {t : XC → WS} (Fn : Fun K x qual st f fd) (Sc : FnScope N ps (defScope st))
    (hlen : ∀ as R E, p as R E → as.length = ps.length)
    (hb : ∀ (cdv : Value) (A : Around) (outer : List Env) (s : Shared) (H : Hp) (E : XK) (F : Fx) (W : XC), Room k (A.deeper (envOfC qual (defScope st) s.heap.objs.size f cdv)) →
      Takes (cxOf (L2.CX P w) P w K mg base N qual (defScope st) f cdv A outer s H E) (wxOf K mg F W) →
      PassesOwn (model P w) (cxOf (L2.CX P w) P w K mg base N qual (defScope st) f cdv A outer s H E).A (cxOf (L2.CX P w) P w K mg base N qual (defScope st) f cdv A outer s H E).env (cxOf (L2.CX P w) P w K mg base N qual (defScope st) f cdv A outer s H E).xe →
      XSs (cxOf (L2.CX P w) P w K mg base N qual (defScope st) f cdv A outer s H E) F (defBody st) (t W))
    (vc : ∀ as R E, p as R E → t (retX (hasOwn as) E) (retEn (hasOwn as) R) (startS N.length as)) : FnOk P w K mg base (L2.CX P w) (k + 1) f fd ps (spOfX K mg p) := by
  have hN : ps.length ≤ N.length := by
    have := congrArg List.length Sc.pre
    rw [List.length_take] at this
    omega
  refine Fn.okX Sc (fun vs H Q E ⟨I, as, w, ha, _, hp⟩ => by rw [ha.len, hlen _ _ _ hp]) (fun cdv A outer s H vs Q E hr ⟨I, as, w', ha, hs, hp⟩ => ?_)
  have fin : ∀ (z : SS) (out : Option (List D)) (σ : St) (I' H' : Hp) (rv : RV) (v : V), outOf (hasOwn as) z = some out → Ok K ⟨I, H, w'.toList⟩ z σ I' H' → RvOk K I' H H' v rv → RetOk K I H w' rv out v I' H' := by
    intro z out σ I' H' rv v ho ok rk
    refine ⟨ok.base, ok.sub, ok.new, fun a o h hw => ok.keep a o h (fun q => hw ?_), ?_, rk⟩
    · cases w' with
      | none => simp at q
      | some c => simp at q; rw [q]
    · rw [ha.has] at ho
      cases w' with
      | none => cases ho; trivial
      | some c =>
        unfold outOf at ho
        simp only [Option.isSome_some, if_true] at ho
        obtain ⟨l, e, q⟩ := Option.map_eq_some_iff.mp ho
        subst q
        obtain ⟨i, k, e⟩ := findOwn_at e
        obtain ⟨a, ws, f1, f2, f3, f4, f5⟩ := ok.own i _ l e
        have ec : c = a := by
          have : [c][k]? = some a := f5
          cases k with
          | zero => simpa using this
          | succ k => simp at this
        subst ec
        exact ⟨f3, ws, f2, f4⟩
  have tk := takes_of (X := cxOf (L2.CX P w) P w K mg base N qual (defScope st) f cdv A outer s H E) (E := E) rfl rfl rfl rfl
  have hx := hb cdv A outer s H E ⟨I, H, w'.toList⟩ (retX (hasOwn as) fun x out => ∀ cls d I' H', XRet K mg I H w' x out cls d I' H' → E cls d H') hr
    (tk.imp fun cls d σ H' ⟨z, I', x, ok, xn, out, ho, q⟩ => by
      have r := fin z out σ I' H' (.d .none) .non ho ok .non
      exact q cls d I' H' ⟨r.imm, r.sub, r.new, r.keep, r.out, xn⟩) (passes_of rfl)
  refine ⟨_, hx.run, startS N.length as, I, Ok.start ha hs (by rw [hlen _ _ _ hp]; exact hN), hx.mono _ _ _ ?_ (vc as _ _ hp)⟩
  refine ⟨fun z ⟨out, ho, q⟩ σ I' H' ok s' => q _ I' H' (fin z out σ I' H' (.d .none) .non ho ok .non), fun rv z ⟨out, ho, q⟩ => ?_, fun _ h => h.elim, fun _ h => h.elim⟩
  cases rv with
  | d x => exact fun v σ I' H' ok s' r => q v I' H' (fin z out σ I' H' (.d x) v ho ok r)
  | n l => exact fun a σ I' H' ok s' o => q _ I' H' (fin z out σ I' H' (.n l) _ ho ok ⟨a, o.at_.choose, rfl, o.at_.choose_spec.1, o.at_.choose_spec.2, o.imm, o.h0⟩)

/-! ### try: .. except C as n: .. -/
def exD (a : Nat) : D := .dict [(.none, .int (a : Nat))]
def Fx.at (F : Fx) (I : Hp) : Fx := { F with I0 := I }
section
variable {K : PySem.W.Frag} {F : Fx} {z z' : SS} {σ σ' : St} {I I' H H' : Hp}
theorem Ok.atI (ok : Ok K F z σ I H) : Ok K (F.at I) z σ I H := ⟨ok.len, ok.val, ok.own, ok.dis, ok.sub, Same.refl _, fun a o h => .inl h, ok.keep, ok.wf⟩
theorem Ok.backI (ok0 : Ok K F z σ I H) (ok : Ok K (F.at I) z' σ' I' H') : Ok K F z' σ' I' H' := ⟨ok.len, ok.val, ok.own, ok.dis, ok.sub, ok0.base.trans ok.base, fun a o h => by
  rcases ok.new a o h with h | h
  · exact ok0.new a o h
  · exact .inr h, ok.keep, ok.wf⟩
/-- a slot that is not told may be left to anything -/
theorem Ok.lose (ok : Ok K F z σ I H) (i : Nat) (v : Option V) : Ok K F (z.set i none) (σ.set i v) I H := (ok.kill i).slots (by simp) fun j s h => by
  rcases get_set h with ⟨rfl, q, _⟩ | ⟨hj, q⟩
  · cases q
  · rw [List.getElem?_set_ne (Ne.symm hj)]
end
def wTryAs (W : XC) (m : Str → Option Bool) (i : Nat) (t : XC → WS) (ts : Nat → Xn → WS) : WS := fun E z => ∃ (W' : XC) (E1 : En), E1.le E ∧ t W' E1 z ∧ ∀ x z1, W' x z1 → ∃ b, m x.c = some b ∧
  (b = true → ∀ a : Nat, ∃ E0 : En, E0.le ⟨fun z' => E.nx (z'.set i none), E.rt, fun z' => E.bk (z'.set i none), fun z' => E.ct (z'.set i none)⟩ ∧ ts a x E0 (z1.set i (some (.val (exD a))))) ∧ (b = false → W x z1)
theorem En.le.trans {A B C : En} (h : A.le B) (g : B.le C) : A.le C := ⟨fun z q => g.nx z (h.nx z q), fun r z q => g.rt r z (h.rt r z q), fun z q => g.bk z (h.bk z q), fun z q => g.ct z (h.ct z q)⟩
section
variable {X : Cx} {F : Fx} {W : XC} {m : Str → Option Bool} {i : Nat} {n cx : Str} {c : Value} {body suite : List Stmt} {b₀ : Stmt} {np pos pos' : Pos} {t : XC → WS} {ts : Nat → Xn → WS}
theorem xs_try_as (hs : X.stack = X.env :: X.outer) (hf : X.env.frame = some X.env.locals) (hN : X.N.Nodup) (hi : X.N[i]? = some n) (hln : X.env.kindOf n = some .local) (hc : Names X cx c) (tk : Takes X (wxOf X.K X.mg F W))
    (hm : ∀ (y : Str) (b : Bool), m y = some b → ∃ C : Addr, X.mg y = some (.ref C) ∧ PySem.W.exmOne X.K (.ref C) c = some b)
    (hb : ∀ (F' : Fx) (W' : XC) (pn : List (Addr × Obj)) (xe : Value → Shared → Prop), Takes (X.tr pn xe) (wxOf X.K X.mg F' W') → PassesOwn (model X.prog X.w) X.A X.env xe → XSs (X.tr pn xe) F' body (t W'))
    (hsu : ∀ (a : Addr) (x : Xn) (oe : Obj) (cls : Value) (d : Option Addr) (pn : List (Addr × Obj)) (F' : Fx), Zc cls d oe → (∃ vs, oe.data = .fields vs) → XnOk X.K X.mg F'.I0 x cls d → m x.c = some true → XSs (X.suite a ((a, oe) :: pn)) F' (b₀ :: suite) (ts a x)) :
    XS X F (.Try body [.ExceptHandler (some (.Name cx np)) (some n) (b₀ :: suite) pos'] [] [] pos) (wTryAs W m i t ts) where
  mono := fun E E' z l ⟨W', E1, l1, w, h⟩ => ⟨W', E1, l1.trans l, w, fun x z1 q => by
    obtain ⟨b, e, h1, h2⟩ := h x z1 q
    refine ⟨b, e, fun hb a => ?_, h2⟩
    obtain ⟨E0, l0, q0⟩ := h1 hb a
    exact ⟨E0, l0.trans ⟨fun z q => l.nx _ q, l.rt, fun z q => l.bk _ q, fun z q => l.ct _ q⟩, q0⟩⟩
  run := ps_imp (ps_try_as (X := X) (Wout := wxOf X.K X.mg F W) (i := i) (tb := fun W0 D σ H => ∃ (z : SS) (I : Hp) (W' : XC) (E1 : En) (F' : Fx), Ok X.K F' z σ I H ∧ (∀ cls d σ' H', wxOf X.K X.mg F' W' cls d σ' H' → W0 cls d σ' H') ∧ E1.le (endsOf X.K F' I D) ∧ t W' E1 z)
      (ts := fun a cls d D σ H => ∃ (F' : Fx) (z : SS) (I : Hp) (x : Xn) (E0 : En), Ok X.K F' z σ I H ∧ XnOk X.K X.mg F'.I0 x cls d ∧ m x.c = some true ∧ E0.le (endsOf X.K F' I D) ∧ ts a x E0 z) hs hf hN hi hln hc tk
      (fun W0 pn xe tk0 hp0 => ⟨fun pins s σ H D I ⟨z, I1, W', E1, F', ok, hw, l1, w⟩ => by
        have hx := hb F' W' pn xe (tk0.imp hw) hp0
        exact hx.run.run pins s σ H D I ⟨z, I1, ok, hx.mono _ _ _ l1 w⟩⟩)
      (fun a oe cls d pn hz hd => ⟨fun pins s σ H D I ⟨F', z, I1, x, E0, ok, xn, mx, l0, w⟩ => by
        have hx := hsu a x oe cls d pn F' hz hd xn mx
        exact hx.run.run pins s σ H D I ⟨z, I1, ok, hx.mono _ _ _ l0 w⟩⟩)) fun D σ H ⟨z, I, ok, W', E1, l1, w, h⟩ => by
    refine ⟨z, I, W', E1, F.at I, ok.atI, fun cls d σ' H' ⟨z1, I1, x, ok1, xn, q⟩ => ?_, l1.trans ?_, w⟩
    · obtain ⟨b, e, h1, h2⟩ := h x z1 q
      obtain ⟨C, g1, g2⟩ := hm _ _ e
      have ecls : cls = .ref C := by
        obtain ⟨C', dd, a1, a2, _⟩ := xn
        rw [g1] at a1
        cases a1
        exact a2
      refine ⟨b, by rw [ecls]; exact g2, fun hb a na => ?_, fun hb => ⟨z1, I1, x, ok.backI ok1, xn, h2 hb⟩⟩
      obtain ⟨E0, l0, q0⟩ := h1 hb a
      subst hb
      have ok2 := (ok1.atI).set (i := i) (v := .ref a) (d := exD a) (.exc a)
      refine ⟨(F.at I).at I1, _, I1, x, E0, ok2, xn, e, l0.trans ⟨fun z2 q2 σ2 I2 H2 ok3 s3 => ?_, fun r z2 q2 => ?_, fun z2 q2 σ2 I2 H2 ok3 s3 => ?_, fun z2 q2 σ2 I2 H2 ok3 s3 => ?_⟩, q0⟩
      · exact q2 _ I2 H2 ((ok.backI (ok1.backI ok3)).lose i none) (ok1.base.trans s3)
      · cases r with
        | d y => exact fun v σ2 I2 H2 ok3 s3 rv => q2 v σ2 I2 H2 (ok.backI (ok1.backI ok3)) (ok1.base.trans s3) rv
        | n l => exact fun a2 σ2 I2 H2 ok3 s3 ov => q2 a2 σ2 I2 H2 (ok.backI (ok1.backI ok3)) (ok1.base.trans s3) ⟨ov.at_, ov.imm, ov.h0, ov.nown⟩
      · exact q2 _ I2 H2 ((ok.backI (ok1.backI ok3)).lose i none) (ok1.base.trans s3)
      · exact q2 _ I2 H2 ((ok.backI (ok1.backI ok3)).lose i none) (ok1.base.trans s3)
    · refine ⟨fun z2 q2 σ2 I2 H2 ok3 s3 => q2 _ I2 H2 (ok.backI ok3) s3, fun r z2 q2 => ?_, fun z2 q2 σ2 I2 H2 ok3 s3 => q2 _ I2 H2 (ok.backI ok3) s3, fun z2 q2 σ2 I2 H2 ok3 s3 => q2 _ I2 H2 (ok.backI ok3) s3⟩
      cases r with
      | d y => exact fun v σ2 I2 H2 ok3 s3 rv => q2 v σ2 I2 H2 (ok.backI ok3) s3 rv
      | n l => exact fun a2 σ2 I2 H2 ok3 s3 ov => q2 a2 σ2 I2 H2 (ok.backI ok3) s3 ⟨ov.at_, ov.imm, ov.h0, ov.nown⟩
/-- e.f of the exception in hand -/
def wXf (a : Nat) (x : Xn) (f : Str) (t : WE) : WE := fun z R => t z fun ev z1 => ev = .d (exD a) ∧ ∃ d, x.fs.lookup f = some d ∧ R (.d d) z1
theorem xe_xf {a : Addr} {x : Xn} {oe : Obj} {cls : Value} {d : Option Addr} {pn : List (Addr × Obj)} {e : Expr} {te : WE} {f : Str} (hT : ∀ C, X.mg x.c = some (.ref C) → XfC X.K C ∧ PySem.W.findIn X.K (.ref C) f = some none)
    (hz : Zc cls d oe) (hf : ∃ vs, oe.data = .fields vs) (xn : XnOk X.K X.mg F.I0 x cls d) (he : XE (X.suite a ((a, oe) :: pn)) F e te) (hb : attributeBase e f X.env (eval e X.env) = eval e X.env := by rfl) :
    XE (X.suite a ((a, oe) :: pn)) F (.Attribute e f pos) (wXf a x f te) := by
  obtain ⟨C, dd, g1, g2, g3, g4⟩ := xn
  obtain ⟨T, hno⟩ := hT C g1
  subst g2
  refine ⟨fun z R R' k w => he.mono _ _ _ (fun ev z1 ⟨e, d, l, q⟩ => ⟨e, d, l, k _ _ q⟩) w, pe_imp (pe_xf T hno hz hf he.run hb) fun σ H Q ⟨z, I, ok, w⟩ => he.at ok w fun ev z1 v I1 H1 ⟨e1, dv, l, q⟩ o s r => ?_⟩
  subst e1
  cases r
  obtain ⟨fv, e2, p2⟩ := g4.mono o.base
  obtain ⟨v, h1, h2⟩ := paired_lookup p2 l
  exact ⟨rfl, rfl, dd, fv, v, g3, o.sub _ _ e2, h1, q v I1 H1 o s h2⟩
end

/-! ### __init__ -/
section
variable {P : Program} {w : World} {K : PySem.W.Frag} {mg : Str → Option Value} {base : Heap} {qual : Str} {st : Stmt} {f : Addr} {fd : FuncData} {C : Addr} {n n2 : Str}
theorem init1 (Fn : Fun K "__init__" qual st f fd) (Sc : FnScope ["self", n] ["self", n] (defScope st)) (T : OexC K C) (hno : PySem.W.findIn K (.ref C) n = some none)
    (hb : ∀ (cdv : Value) (A : Around) (outer : List Env) (s : Shared) (H : Hp) (E : XK), PSs (cxOf CX0 P w K mg base ["self", n] qual (defScope st) f cdv A outer s H E).nox (defBody st) (tOst K n (tVar 0) (tVar 1))) :
    FnOk P w K mg base CX0 1 f fd ["self", n] (spInit K C [n]) := by
  refine Fn.ok Sc (fun vs H Q E ⟨a, ws, e, l, _⟩ => by rw [e, List.length_cons, l]; rfl) (fun cdv A outer s H vs Q E _ ⟨a, ws, e, l, ha, q⟩ => ?_)
  subst e
  match ws, l with
  | [y], _ =>
    exact ⟨_, hb cdv A outer s H E, y, rfl, .ref a, rfl, a, C, rfl, T, hno, .inl ⟨ha, fun dx nd _ => q dx nd⟩⟩
theorem init2 (Fn : Fun K "__init__" qual st f fd) (Sc : FnScope ["self", n, n2] ["self", n, n2] (defScope st)) (T : OexC K C) (hno : PySem.W.findIn K (.ref C) n = some none) (hno2 : PySem.W.findIn K (.ref C) n2 = some none)
    (hb : ∀ (cdv : Value) (A : Around) (outer : List Env) (s : Shared) (H : Hp) (E : XK), PSs (cxOf CX0 P w K mg base ["self", n, n2] qual (defScope st) f cdv A outer s H E).nox (defBody st) (tSeq (tOst K n (tVar 0) (tVar 1)) (tOst K n2 (tVar 0) (tVar 2)))) :
    FnOk P w K mg base CX0 1 f fd ["self", n, n2] (spInit K C [n, n2]) := by
  refine Fn.ok Sc (fun vs H Q E ⟨a, ws, e, l, _⟩ => by rw [e, List.length_cons, l]; rfl) (fun cdv A outer s H vs Q E _ ⟨a, ws, e, l, ha, q⟩ => ?_)
  subst e
  match ws, l with
  | [y, y2], _ =>
    refine ⟨_, hb cdv A outer s H E, y, rfl, .ref a, rfl, a, C, rfl, T, hno, .inl ⟨ha, fun dx nd ne => ?_⟩⟩
    refine ⟨y2, rfl, .ref a, rfl, a, C, rfl, T, hno2, .inr ⟨dx, [(n, y)], upd_same, by rw [upd_ne ne, upd_same], by simp, ?_⟩⟩
    have e : upd (upd (upd H dx (exd dx [(n, y)])) a (exo a C (some dx))) dx (exd dx [(n2, y2), (n, y)]) = upd (upd H dx (exd dx [(n2, y2), (n, y)])) a (exo a C (some dx)) := by
      funext b
      unfold upd
      by_cases h1 : b = dx
      · rw [if_pos h1, if_neg (by rw [h1]; exact ne), if_pos h1]
      · by_cases h2 : b = a
        · rw [if_neg h1, if_pos h2, if_pos h2]
        · simp only [if_neg h1, if_neg h2]
    rw [e]
    exact q dx nd
end
end L3
/-! Texts times numbers, join, constant tuples of the module, what a return hands out; instances for the walk. -/
namespace L3
open PySem PySem.Spec PyProof.Rows L2 PySem.SeqAt
/-! ### a text times an int -/
def MulS (a : Str) (n : Int) : Prop := -(2 ^ 63) ≤ n ∧ n < 2 ^ 63 ∧ a.length * n.toNat ≤ sizeLine
theorem MulS.ok {a : Str} {n : Int} (h : MulS a n) : MulOk a n := by
  obtain ⟨h1, h2, h3⟩ := h
  have h4 := h3
  rw [sizeLine_eq] at h3
  refine ⟨by rw [Bool.or_eq_false_iff]; exact ⟨decide_eq_false (by omega), decide_eq_false (by omega)⟩, fun hn _ => ?_, fun hn _ => ?_⟩
  · obtain ⟨m, rfl⟩ := Int.eq_ofNat_of_zero_le (show 0 ≤ n by omega)
    rw [Int.toNat_natCast] at h3
    have hm : 0 < m := by omega
    have : a.length ≤ 16777216 := Nat.le_trans (Nat.le_mul_of_pos_right _ hm) h3
    have hmul : (a.length : Int) * (m : Int) ≤ 16777216 := by
      have := Int.ofNat_le.mpr h3
      rwa [Int.natCast_mul] at this
    have : (a.length : Int) ≤ (2 ^ 63 - 1) / (m : Int) := (Int.le_ediv_iff_mul_le (by omega)).mpr (by omega)
    omega
  · exact decide_eq_false (by omega)
def sMulX : F2 := fun z x y k => match x, y with
  | .d (.str a), .d (.int n) => MulS a n ∧ k (.d (.str (Txt.mul a n)))
  | x, y => sMul z x y k
section
variable {X : Cx} {F : Fx}
theorem op_mulS : OpR X (binaryOp .Mult) (fun x y H Q => ∃ a n, x = .str a ∧ y = .int n ∧ MulS a n ∧ Q (.str (Txt.mul a n)) H) := by
  intro pins s σ H x y v u Q I rx ry h
  obtain ⟨a, n, rfl, rfl, hm, q⟩ := h
  obtain ⟨t, rfl⟩ := rx
  obtain ⟨t', rfl⟩ := ry
  exact SB.mul hm.ok fun t2 k => ⟨.str _, H, I.tok k, ⟨t2, rfl⟩, q⟩
abbrev rMulX : R2 := fun x y H Q => (∃ a n, x = .str a ∧ y = .int n ∧ MulS a n ∧ Q (.str (Txt.mul a n)) H) ∨ (rI CMul (fun i j => .int (i * j)) x y H Q ∨ rRep x y H Q)
theorem op_mulXX : OpR X (binaryOp .Mult) rMulX := OpR.or op_mulS op_mulX
theorem vr_mulX : VR2 X F rMulX sMulX where
  mono := fun z x y k k' h w => by
    unfold sMulX at w ⊢
    split at w
    · exact ⟨w.1, h _ w.2⟩
    · exact (vr_mul (X := X) (F := F)).mono _ _ _ _ _ h w
  run := fun {σ z I H x y vx vy Q} ok ex ey w => by
    unfold sMulX at w
    split at w
    · cases ex; cases ey
      exact .inl ⟨_, _, rfl, rfl, w.1, w.2.scal ok (.str _)⟩
    · exact .inr (vr_mul.run ok ex ey w)
/-! ### join -/
def mJoin : FM := fun z x xs k => ∃ a y ys, x = .d (.str a) ∧ xs = [y] ∧ lstOf z y = some (ys.map PyData.str) ∧ (ys.map (·.length)).sum + ys.length * a.length ≤ 16777216 ∧ k (.d (.str (Txt.join a ys))) z
theorem RpA.strsV {K : PySem.W.Frag} {I : Hp} : ∀ {ns : List Str} {vs : List V}, RpA K I vs (ns.map PyData.str) → vs = ns.map V.str
  | [], _, h => by cases h; rfl
  | n :: ns, _, h => by
    cases h with
    | cons r t => cases r; rw [RpA.strsV t]; rfl
theorem vm_join : VM X F (fun x xs H Q => ∃ a p, ∃ ys : List Str, x = .str a ∧ xs = [.ref p] ∧ (SqL X.K H p (ys.map V.str) ∨ SqT X.K H p (ys.map V.str)) ∧ (ys.map (·.length)).sum + ys.length * a.length ≤ 16777216 ∧ Q (.str (Txt.join a ys)) H) mJoin where
  mono := fun z x xs k k' h ⟨a, y, ys, e1, e2, e3, e4, q⟩ => ⟨a, y, ys, e1, e2, e3, e4, h _ _ q⟩
  run := fun {σ z I H x v xs vs Q} ok ev evs ⟨a, y, ys, e1, e2, e3, e4, q⟩ => by
    subst e1 e2
    cases ev
    cases evs with
    | cons e6 t =>
      cases t
      obtain ⟨c, us, rfl, g2, r2⟩ := ok.lst e6 e3
      have := r2.strsV
      subst this
      exact ⟨a, c, ys, rfl, rfl, .inl (SqL.of g2), e4, q _ I H ok .refl (.str _)⟩
variable {pos apos p : Pos} {o e : Expr} {t : WE} {u : WA}
theorem xr_join (ho : XE X F o t) (ha : XA X F [e] u) (hbase : attributeBase o "join" X.env (eval o X.env) = eval o X.env := by rfl) (hfew : ((backTo pos (starEach [e] X.env)).all (fun x => !x.1) && (backToKw pos (keywordEach [] X.env)).all (fun x => x.1.isSome)
      && decide ([e].length + ([] : List Keyword).length + (if ([] : List Keyword).isEmpty then 0 else 1) < 30)) = true := by rfl) (hline : (apos.endLine == pos.line) = true := by rfl) (hs : starEach [e] X.env = (false, eval e X.env) :: starEach [] X.env := by rfl) : XR X F (.Call (.Attribute o "join" apos) [e] [] pos) (wBM "str" mJoin t u) :=
  xr_bm PySem.F.plainAttrs_str PySem.F.slot_str_join PySem.F.type_str_join mt_join vm_join ho ha (hbase := hbase) (hfew := hfew) (hline := hline) (hs := hs)
/-! ### the module's constant tuples -/
structure CT (K : PySem.W.Frag) (mg : Str → Option Value) (x : Str) (ss : List Str) : Prop where
  ex : ∃ (a : Addr) (o : Obj) (its : Array Value) (n : Nat), mg x = some (.ref a) ∧ K.lookup a = some o ∧ o.cls = .type "tuple" ∧ o.data = .seq its n ∧ its.size ≤ sizeLine ∧ Vals (ss.map V.str) its.toList
theorem rpA_strs {K : PySem.W.Frag} {I : Hp} : ∀ (ns : List Str), RpA K I (ns.map V.str) (ns.map PyData.str)
  | [] => .nil
  | n :: ns => .cons (.str n) (rpA_strs ns)
theorem xe_gT {x : Str} {ss : List Str} {ds : List D} (hg : Gl X x) (hm : CT X.K X.mg x ss) (hs : ss.map PyData.str = ds := by rfl) (hd : (x == ("__debug__" : Str)) = false := by decide) : XE X F (.Name x pos) (wC (.tuple ds)) := by
  subst hs
  obtain ⟨a, o, its, n, h1, h2, h3, h4, h5, h6⟩ := hm.ex
  exact xe_glob hg h1 (show RelV (.ref a) _ from rfl) (fun I => .tup (.inr ⟨o, its, n, h2, h3, h4, h5, h6⟩) (rpA_strs ss)) hd
end
/-! ### what a return hands out -/
abbrev WV := (RV → SS → Prop) → SS → Prop
def RtV (K : PySem.W.Frag) (F : Fx) (I : Hp) (Q : VK) : RV → SS → Prop
  | .d d, z => ∀ v σ I' H, Ok K F z σ I' H → Same I I' → Rp K I' v d → Q v H
  | .n l, z => ∀ a σ I' H, Ok K F z σ I' H → Same I I' → Out K F z σ I' H a l → Q (.ref a) H
structure XV (X : Cx) (F : Fx) (e : Expr) (t : WV) : Prop where
  mono : ∀ R R' z, (∀ r z, R r z → R' r z) → t R z → t R' z
  run : PE X e fun σ H Q => ∃ z I, Ok X.K F z σ I H ∧ t (RtOf X.K F I Q) z
def wRetV (t : WV) : WS := fun E z => t E.rt z
def vIf (c : WT) (a b : WV) : WV := fun R z => c z fun b' z' => if b' = true then a R z' else b R z'
def vR (t : WR) : WV := fun R z => t z R
def vE (t : WE) : WV := fun R z => t z fun ev z' => ∃ d, ev = .d d ∧ R (.d d) z'
def vOwn (i : Nat) : WV := fun R z => ∃ l, z[i]? = some (some (.own none l)) ∧ R (.n l) (z.set i none)
section
variable {X : Cx} {F : Fx} {pos p : Pos} {e c a b : Expr} {t ta tb : WV} {te : WE} {tr : WR} {tc : WT}
theorem xs_retV (h : XV X F e t) : XS X F (.Return (some e) pos) (wRetV t) :=
  ⟨fun E E' z l w => h.mono _ _ _ l.rt w, ps_imp (ps_ret h.run) fun D σ H ⟨z, I, ok, w⟩ => ⟨z, I, ok, w⟩⟩
theorem xv_R (h : XR X F e tr) : XV X F e (vR tr) := ⟨fun R R' z k w => h.mono _ _ _ k w, pe_imp h.run fun σ H Q ⟨z, I, ok, w⟩ => ⟨z, I, ok, h.mono _ _ _ (fun r z' q => by
  cases r with
  | d x => exact fun v I' H' o s r => q v σ I' H' o s.imm r
  | n l => exact fun a I' H' o s n => q a σ I' H' o s.imm ⟨n.at_, n.imm, n.h0, n.nown⟩) w⟩⟩
theorem xv_E (h : XE X F e te) : XV X F e (vE te) := ⟨fun R R' z k w => h.mono _ _ _ (fun _ _ ⟨d, e, q⟩ => ⟨d, e, k _ _ q⟩) w, pe_imp h.run fun σ H Q ⟨z, I, ok, w⟩ => h.at ok w fun ev z' v I' H' ⟨d, e, q⟩ o s r => by
  subst e
  exact q v σ I' H' o s.imm r⟩
theorem xv_own (i : Nat) {x : Str} (hN : X.N[i]? = some x := by rfl) (hv : Vis X.env.scope x := by first | exact Or.inl rfl | exact Or.inr (Or.inl rfl) | exact Or.inr (Or.inr rfl)) (hd : (x == ("__debug__" : Str)) = false := by decide)
    (hcd : (x == ("__classdict__" : Str)) = false := by decide) : XV X F (.Name x p) (vOwn i) :=
  ⟨fun R R' z k ⟨l, e, q⟩ => ⟨l, e, k _ _ q⟩, pe_imp (pv i hN hv hd hcd) fun σ H Q ⟨z, I, ok, l, e, q⟩ => by
    obtain ⟨a, vs, e1, e2, e3, r, tg⟩ := ok.own i none l e
    refine ⟨.ref a, e1, q a σ I H (ok.kill i) (Same.refl _) ⟨⟨vs, e2, r⟩, e3, tg, fun ⟨j, b, m, f1, f2⟩ => ?_⟩⟩
    rcases get_set f1 with ⟨rfl, q, hl⟩ | ⟨hj, q⟩
    · cases q
    · exact hj (ok.dis _ _ _ _ _ _ _ q e f2 e1)⟩
theorem xv_if (hc : XT X F c tc) (ha : XV X F a ta) (hb : XV X F b tb) : XV X F (.IfExp c a b p) (vIf tc ta tb) :=
  ⟨fun R R' z k w => hc.mono _ _ _ (fun b' z' q => by
    cases b' with
    | true => exact ha.mono _ _ _ k q
    | false => exact hb.mono _ _ _ k q) w, pe_imp (pe_ifExp hc.run ha.run hb.run) fun σ H Q ⟨z, I, ok, w⟩ => hc.at ok w fun b' z' I' H' q o s => by
    have later : ∀ r z, RtOf X.K F I Q r z → RtOf X.K F I' Q r z := fun r z h => h.later s.imm
    cases b' with
    | true => exact ⟨z', I', o, ha.mono _ _ _ later q⟩
    | false => exact ⟨z', I', o, hb.mono _ _ _ later q⟩⟩
end
/-! ### instances for the walk -/
section
variable {z z1 z2 : SS} {R : EV → SS → Prop} {RR : RV → SS → Prop} {E : En} {k : RV → Prop} {N : SS → Prop} {rt : RV → SS → Prop} {bk ct : SS → Prop}
variable {i j : Int} {n m : Nat} {d x y : D} {a b : Str} {l l' : List D} {c : Bool} {t : WE} {tr : WR} {tc : WT} {va vb v : WV} {wa : WA} {W : XC} {es : List EV} {ts us : WS}
instance : Stp (wRetV v ⟨N, rt, bk, ct⟩ z) (v rt z) := ⟨fun h => h⟩
instance : Stp (vIf tc va vb rt z) (tc z fun b' z' => if b' = true then va rt z' else vb rt z') := ⟨fun h => h⟩
instance : Stp (vR tr rt z) (tr z rt) := ⟨fun h => h⟩
instance : Stp (vE t rt z) (t z (retK rt)) := ⟨fun h => h⟩
instance [p : At z n (.own none l)] [q : Put z n none z1] : Stp (vOwn n rt z) (rt (.n l) z1) := ⟨fun h => ⟨l, p.e, by rw [q.e]; exact h⟩⟩
instance : Stp (sMulX z (.d (.str a)) (.d (.int i)) k) (MulS a i ∧ k (.d (.str (Txt.mul a i)))) := ⟨fun h => h⟩
instance : Stp (sMulX z (.d (.int i)) (.d (.int j)) k) (sMul z (.d (.int i)) (.d (.int j)) k) := ⟨fun h => h⟩
def raiK (W : XC) (c : Str) (ns : List Str) : List EV → SS → Prop := fun es z1 => ∃ ds, allD es = some ds ∧ ds.length = ns.length ∧ W ⟨c, (ns.zip ds).reverse⟩ z1
instance raise1 {cn n1 : Str} : Stp (raiK W cn [n1] [.d x] z) (W ⟨cn, [(n1, x)]⟩ z) := ⟨fun h => ⟨[x], rfl, rfl, h⟩⟩
instance raise2 {cn n1 n2 : Str} : Stp (raiK W cn [n1, n2] [.d x, .d y] z) (W ⟨cn, [(n2, y), (n1, x)]⟩ z) := ⟨fun h => ⟨[x, y], rfl, rfl, h⟩⟩
instance {cn : Str} {ns : List Str} : Stp (wRaise W cn ns wa ⟨N, rt, bk, ct⟩ z) (wa z (raiK W cn ns)) := ⟨fun h => h⟩
def callXK (W : XC) (p : FSX) (RR : RV → SS → Prop) : List EV → SS → Prop := fun es z1 => ∃ as j, argsOf z1 es = some (as, j) ∧ p as (outK z1 j RR) fun x out => ∃ z2, putOut z1 j out = some z2 ∧ W x z2
def xoK (z : SS) (j : Option Nat) (W : XC) : Xn → Option (List D) → Prop := fun x out => ∃ z2, putOut z j out = some z2 ∧ W x z2
instance {p : FSX} {as : List AV} {o : Option Nat} [q : ArgIs z es as o] : Stp (callXK W p RR es z) (p as (outK z o RR) (xoK z o W)) := ⟨fun h => ⟨as, o, q.e, h⟩⟩
instance {p : FSX} : Stp (wCallX W p wa z RR) (wa z (callXK W p RR)) := ⟨fun h => h⟩
instance {xn : Xn} : Stp (xoK z none W xn none) (W xn z) := ⟨fun h => ⟨z, rfl, h⟩⟩
instance {xn : Xn} {bb : Option Nat} [p : At z n (.own bb l')] [q : Put z n (some (.own bb l)) z1] : Stp (xoK z (some n) W xn (some l)) (W xn z1) := ⟨fun h => ⟨z1, by unfold putOut; simp only [p.e, q.e], h⟩⟩
/-- an exception leaves the def -/
instance {X : Xn → Option (List D) → Prop} {xn : Xn} : Stp (retX false X xn z) (X xn none) := ⟨fun h => ⟨none, rfl, h⟩⟩
instance {X : Xn → Option (List D) → Prop} {xn : Xn} [q : FOwn z l] : Stp (retX true X xn z) (X xn (some l)) := ⟨fun h => ⟨some l, by unfold outOf; rw [q.e]; rfl, h⟩⟩
/-- what a try wishes of its body's exceptions -/
def tryK (W : XC) (m : Str → Option Bool) (n : Nat) (ts : Nat → Xn → WS) (E : En) : XC := fun x z1 => ∃ b, m x.c = some b ∧
  (b = true → ∀ a : Nat, ts a x ⟨fun z' => E.nx (z'.set n none), E.rt, fun z' => E.bk (z'.set n none), fun z' => E.ct (z'.set n none)⟩ (z1.set n (some (.val (exD a))))) ∧ (b = false → W x z1)
def dropK (n : Nat) (N : SS → Prop) : SS → Prop := fun z => N (z.set n none)
instance [q : Put z n none z1] : Stp (dropK n N z) (N z1) := ⟨fun h => by unfold dropK; rw [q.e]; exact h⟩
instance {m' : Str → Option Bool} {tt : XC → WS} {th : Nat → Xn → WS} : Stp (wTryAs W m' n tt th ⟨N, rt, bk, ct⟩ z) (tt (tryK W m' n th ⟨N, rt, bk, ct⟩) ⟨N, rt, bk, ct⟩ z) :=
  ⟨fun h => ⟨_, _, .refl, h, fun x z1 ⟨b, e, h1, h2⟩ => ⟨b, e, fun hb a => ⟨_, .refl, h1 hb a⟩, h2⟩⟩⟩
theorem tryK_T {m' : Str → Option Bool} {th : Nat → Xn → WS} {xn : Xn} (e : m' xn.c = some true) (h : ∀ a : Nat, th a xn ⟨dropK n N, rt, dropK n bk, dropK n ct⟩ (z.set n (some (.val (exD a))))) : tryK W m' n th ⟨N, rt, bk, ct⟩ xn z :=
  ⟨true, e, fun _ => h, fun q => by cases q⟩
theorem tryK_F {m' : Str → Option Bool} {th : Nat → Xn → WS} {xn : Xn} (e : m' xn.c = some false) (h : W xn z) : tryK W m' n th ⟨N, rt, bk, ct⟩ xn z := ⟨false, e, (fun q => nomatch q), fun _ => h⟩
class Fld (fs : List (Str × D)) (f : Str) (d : outParam D) : Prop where
  e : fs.lookup f = some d
instance {f : Str} {fs : List (Str × D)} : Fld ((f, d) :: fs) f d := ⟨List.lookup_cons_self⟩
instance {w : Nat} {xn : Xn} {f : Str} : Stp (wXf w xn f t z R) (t z fun ev z1 => ev = .d (exD w) ∧ ∃ d, xn.fs.lookup f = some d ∧ R (.d d) z1) := ⟨fun h => h⟩
theorem i_xf {w : Nat} {fs : List (Str × D)} {f : Str} {P : D → Prop} (e : fs.lookup f = some d) (h : P d) : EV.d (exD w) = .d (exD w) ∧ ∃ d, fs.lookup f = some d ∧ P d := ⟨rfl, d, e, h⟩
end
end L3
namespace L3
open PySem PySem.Spec PyProof.Rows L2
/-- a class's statements -/
def clsB (st : Stmt) : List Stmt := match st with | .ClassDef (body := bs) .. => bs | _ => []
/-- a def of the text that may let an exception out -/
structure FdX (P : Program) (w : World) (K : PySem.W.Frag) (mg : Str → Option Value) (base : Heap) (x : Str) (k : Nat) (ps : List Str) (p : FSX) where
  f : Addr
  fd : FuncData
  ok : FnOk P w K mg base (L2.CX P w) k f fd ps (spOfX K mg p)
  mg : mg x = some (.ref f)
  kp : PySem.W.keepIn K (Value.ref f) = true
  b : Binds K fd ps []
end L3
namespace L3
open PySem PySem.Spec PyProof.Rows L2
theorem exm_of {K : PySem.W.Frag} {S C : Addr} {b : Bool} (h1 : PySem.W.subIn K (.ref S) (.type "BaseException") = some true) (h2 : PySem.W.isClsIn K S = true) (h3 : PySem.W.typeIn K (.ref S) = some (.type "type")) (h4 : PySem.W.subIn K (.ref C) (.ref S) = some b) :
    PySem.W.exmOne K (.ref C) (.ref S) = some b := by
  have e1 : (PySem.W.subIn K (.ref S) (.type "BaseException") == some true) = true := by rw [h1]; rfl
  have h2' : (PySem.W.clsIn K S).isSome = true := h2
  have e2 : ((PySem.W.clsIn K S).isSome && PySem.W.typeIn K (.ref S) == some (.type "type")) = true := by rw [h2', h3]; rfl
  show (if (PySem.W.subIn K (.ref S) (.type "BaseException") == some true) = true then (if ((PySem.W.clsIn K S).isSome && PySem.W.typeIn K (.ref S) == some (.type "type")) = true then PySem.W.subIn K (.ref C) (.ref S) else none) else none) = some b
  rw [if_pos e1, if_pos e2]
  exact h4
end L3
/-! ### a list of one's own lent to a def that only reads it -/
namespace L3
open PySem PySem.Spec PyProof.Rows L2
def scal : D → Bool
  | .none => true
  | .bool _ => true
  | .int _ => true
  | .str _ => true
  | _ => false
def argsN (z : SS) : List Nat → Option (List AV)
  | [] => some []
  | j :: r => match z[j]?, argsN z r with
    | some (some (.val d)), some as => some (.val d :: as)
    | _, _ => none
def wCallN (i : Nat) (js : List Nat) (p : FS) : WE := fun z R => ∃ l as, z[i]? = some (some (.own none l)) ∧ argsN (z.set i (some (.val (.list l)))) js = some as ∧ p as fun rv out => out = none ∧ ∃ d, rv = .d d ∧ scal d = true ∧ R (.d d) z
def tVars : List Nat → TA
  | [] => tNil
  | j :: r => tCons (tVar j) (tVars r)
theorem rp_scal {K : PySem.W.Frag} {I I' : Hp} {v : V} {d : D} (h : Rp K I v d) (s : scal d = true) : Rp K I' v d := by
  cases h <;> first | exact .non | exact .bl _ | exact .int _ | exact .str _ | cases s
theorem argsN_ok {K : PySem.W.Frag} {F : Fx} {z : SS} {σ : St} {I H : Hp} (ok : Ok K F z σ I H) : ∀ {js : List Nat} {as : List AV}, argsN z js = some as → ∃ vs : List V, (∀ R : List V → Hp → Prop, R vs H → tVars js σ H R) ∧ ArgsOk K I H vs as none
  | [], _, e => by cases e; exact ⟨[], fun R h => h, .nil⟩
  | j :: r, as, e => by
    unfold argsN at e
    split at e
    · rename_i d as' h1 h2
      cases e
      obtain ⟨v, e1, rv⟩ := ok.val j d h1
      obtain ⟨vs, h3, h4⟩ := argsN_ok ok h2
      exact ⟨v :: vs, fun R h => ⟨v, e1, h3 _ h⟩, .val rv h4⟩
    · cases e
section
variable {X : Cx} {k : Nat} {f : Addr} {fd : FuncData} {ps : List Str} {p : FS} {x : Str} {pp pos : Pos} {F : Fx} {e : Expr} {es : List Expr}
theorem xe_callN (i : Nat) (js : List Nat) (hp : MonoF p) (Fn : FnOk X.prog X.w X.K X.mg X.base CX0 k f fd ps (spOf X.K p)) (hr : Room k X.A) (hg : Gl X x) (hm : X.mg x = some (.ref f)) (hk : PySem.W.keepIn X.K (.ref f) = true) (hb : Binds X.K fd ps [])
    (ha : PA X (e :: es) (tVars js)) (hdb : (x == ("__debug__" : Str)) = false := by decide) (he : starEach (e :: es) X.env = (false, eval e X.env) :: starEach es X.env := by rfl) (hpl : (backTo pos (starEach es X.env)).any (·.1) = false := by rfl) :
    XE X F (.Call (.Name x pp) (e :: es) [] pos) (wCallN i js p) :=
  ⟨fun z R R' k ⟨l, as, h1, h2, q⟩ => ⟨l, as, h1, h2, hp _ _ _ (fun rv out ⟨e, d, e2, s, q⟩ => ⟨e, d, e2, s, k _ _ q⟩) q⟩, pe_imp (pe_call Fn hr hg hm hk hb .nil pass0 ha hdb he hpl) fun σ H Q ⟨z, I, ok, l, as, h1, h2, w⟩ => by
    have hf : frzS i z = some (z.set i (some (.val (.list l)))) := by unfold frzS; rw [h1]
    obtain ⟨I1, ok1, s1⟩ := ok.frzS hf
    obtain ⟨vs, h3, ao⟩ := argsN_ok ok1 h2
    refine h3 _ ?_
    show spOf X.K p (vs ++ []) H Q E0
    rw [List.append_nil]
    refine ⟨I1, as, none, ao, ok1.sub, hp _ _ _ (fun rv out ⟨eo, d, ed, sc, q⟩ v I' H' r => ?_) w⟩
    subst eo ed
    have kp : ∀ a o, H a = some o → H' a = some o := fun a o h => r.keep a o h (by simp)
    refine q v I H' ⟨ok.len, ok.val, fun j b m h => ?_, ok.dis, fun a o h => kp a o (ok.sub a o h), ok.base, ok.new, fun a o h hw => kp a o (ok.keep a o h hw), fun a hw => ?_⟩ ⟨fun _ _ h => h, fun _ _ h => .inl h, fun a o h _ => kp a o h, fun _ _ l h => ⟨l, h⟩, fun a h => ?_⟩ (rp_scal (show Rp X.K I' v d from r.rv) sc)
    · obtain ⟨a, ws, g1, g2, g3, g4, g5⟩ := ok.own j b m h
      exact ⟨a, ws, g1, kp a _ g2, g3, g4, g5⟩
    · obtain ⟨g1, g2, ws, g3⟩ := ok.wf a hw
      exact ⟨g1, g2, ws, kp a _ g3⟩
    · cases q2 : H a with
      | none => rfl
      | some o => rw [kp a o q2] at h; cases h⟩
end
theorem i_callN {z : SS} {R : EV → SS → Prop} {i : Nat} {js : List Nat} {p : FS} {l : List D} {as : List AV} (h1 : z[i]? = some (some (.own none l))) (h2 : argsN (z.set i (some (.val (.list l)))) js = some as)
    (h : p as fun rv out => out = none ∧ ∃ d, rv = .d d ∧ scal d = true ∧ R (.d d) z) : wCallN i js p z R := ⟨l, as, h1, h2, h⟩
end L3
namespace L3
open PySem PySem.Spec PyProof.Rows L2
/-- a promise that asks what is never so -/
theorem fn_never {P : Program} {w : World} {K : PySem.W.Frag} {mg : Str → Option Value} {base : Heap} {k : Nat} {f : Addr} {fd : FuncData} {ps : List Str} {p : FS} (h : ∀ as R, ¬ p as R := by exact fun _ _ h => h) : FnOk P w K mg base CX0 k f fd ps (spOf K p) :=
  ⟨fun _ _ _ _ ⟨_, _, _, _, _, q⟩ => (h _ _ q).elim, fun _ _ _ _ _ _ _ _ _ _ _ _ _ ⟨_, _, _, _, _, q⟩ => (h _ _ q).elim⟩
end L3
/-! The mathematics of the laws' own helpers: promises, and that each body keeps its promise. No program text here. -/
namespace L3
open PySem PySem.Spec PyProof.Rows L2 PySem.SeqAt

/-! ### the drawn stream -/
def isStrm (l : List D) : Prop := ∃ (ns : List Int) (cur k : Int), l = [.list (ns.map PyData.int), .int cur, .int k] ∧ 0 ≤ cur ∧ 0 ≤ k ∧ ns.length ≤ 63
def p_law_stream : FS := fun as R => ∃ ns : List Int, as = [.val (.dict [(.none, .list (ns.map PyData.int))])] ∧ ns.length ≤ 63 ∧ ∀ l, isStrm l → R (.n l) none
def p_law_next : FS := fun as R => ∃ l many, as = [.own l, .val (.int many)] ∧ isStrm l ∧ 0 < many ∧ many < 1073741824 ∧ ∀ d l', isStrm l' → 0 ≤ d → d < many → R (.d (.int d)) (some l')
theorem m_law_stream : MonoF p_law_stream := fun as R R' h ⟨ns, e, a, k⟩ => ⟨ns, e, a, fun l b => h _ _ (k l b)⟩
theorem l_law_stream : ∀ as R, p_law_stream as R → as.length = 1 := fun as R ⟨ns, e, _⟩ => by rw [e]; rfl
theorem m_law_next : MonoF p_law_next := fun as R R' h ⟨l, m, e, a, b, c, k⟩ => ⟨l, m, e, a, b, c, fun d l' x y z => h _ _ (k d l' x y z)⟩
theorem l_law_next : ∀ as R, p_law_next as R → as.length = 2 := fun as R ⟨l, m, e, _⟩ => by rw [e]; rfl
/-- 0 script -/
def w_law_stream : WS :=
(wRetR (wLst (wCons (wFrz (wCB (f1 sListOf) (wCons (wVar 0) wNil))) (wCons (wC (.int 0)) (wCons (wC (.int 0)) wNil)))))
/-- 0 stream, 1 many, 2 k, 3 cell, 4 digit -/
def w_law_next : WS :=
(wSeq (wIfS (wTest (wBin sEq (wBin sIx (wVar 0) (wC (.int 1))) (wC (.int 0))))
 (wSeq (wSet 2 (wBin sIx (wVar 0) (wC (.int 2))))
 (wSeq (wSet 3 (wBin sAdd (wC (.int 7)) (wVar 2)))
 (wSeq (wIfS (wTest (wBin sLt (wVar 2) (wFrz (wCB (f1 sLen) (wCons (wBin sIx (wVar 0) (wC (.int 0))) wNil)))))
 (wSet 3 (wFrz (wCB (f1 sAbs) (wCons (wBin sIx (wBin sIx (wVar 0) (wC (.int 0))) (wVar 2)) wNil))))
 wNext)
 (wSeq (wIfS (wTest (wBin sLt (wVar 3) (wBin sPow (wC (.int 10)) (wC (.int 18)))))
 (wSeq (wSet 3 (wBin sMod (wFrz (wCB (f1 sInt) (wCons (wBin sAdd (wBin sAdd (wBin sMul (wVar 3) (wC (.int 48271))) (wBin sMul (wVar 2) (wC (.int 69621)))) (wC (.int 11))) wNil))) (wC (.int 2147483647))))
 (wSet 3 (wBin sAdd (wBin sMul (wBin sMod (wFrz (wCB (f1 sInt) (wCons (wBin sAdd (wBin sMul (wVar 3) (wC (.int 16807))) (wC (.int 13))) wNil))) (wC (.int 2147483647))) (wC (.int 65537))) (wVar 3))))
 wNext)
 (wSeq (wPut (wVar 3) (wVar 0) (wC (.int 1)))
 (wPut (wBin sAdd (wVar 2) (wC (.int 1))) (wVar 0) (wC (.int 2))))))))
 wNext)
 (wSeq (wSet 4 (wBin sMod (wFrz (wCB (f1 sInt) (wCons (wBin sIx (wVar 0) (wC (.int 1))) wNil))) (wVar 1)))
 (wSeq (wPut (wBin sFDiv (wBin sIx (wVar 0) (wC (.int 1))) (wVar 1)) (wVar 0) (wC (.int 1)))
 (wRet (wVar 4)))))
local macro_rules | `(tactic| walk_at "w1") => `(tactic| first
  | (with_reducible refine' i_seq ?_) | (with_reducible refine' i_set ?_) | (with_reducible refine' i_ifS ?_) | (with_reducible refine' i_ret ?_) | (with_reducible refine' i_next ?_) | (with_reducible refine' i_kill ?_)
  | (with_reducible refine' i_setO ?_) | (with_reducible refine' i_lcSet ?_) | (with_reducible refine' i_asg ?_) | (with_reducible refine' i_put ?_) | (with_reducible refine' i_drop ?_) | (with_reducible refine' i_retR ?_)
  | ((with_reducible refine' i_retO ?h1 ?_); (case h1 => rfl)) | (with_reducible refine' i_for ?_)
  | (with_reducible refine' i_test ?_) | (with_reducible refine' i_tnot ?_) | (with_reducible refine' i_tand ?_) | (with_reducible refine' i_tor ?_) | (with_reducible refine' i_yes ?_)
  | ((with_reducible refine' i_var ?h1 ?_); (case h1 => rfl)) | ((with_reducible refine' i_varO ?h1 ?_); (case h1 => rfl)) | (with_reducible refine' i_c ?_) | (with_reducible refine' i_dct ?_) | (with_reducible refine' i_frz ?_) | (with_reducible refine' i_bin ?_) | (with_reducible refine' i_binR ?_)
  | (with_reducible refine' i_cb ?_) | (with_reducible refine' i_nil ?_) | (with_reducible refine' i_cons ?_) | (with_reducible refine' i_tup ?_) | (with_reducible refine' i_lst ?_) | (with_reducible refine' i_neg ?_) | (with_reducible refine' i_isa ?_)
  | (with_reducible refine' i_andV ?_) | (with_reducible refine' i_orV ?_) | (with_reducible refine' i_notV ?_) | (with_reducible refine' i_if ?_) | (with_reducible refine' i_chain ?_) | (with_reducible refine' i_sl ?_) | (with_reducible refine' i_noPart ?_) | (with_reducible refine' i_part ?_)
  | (with_reducible refine' i_bm ?_) | (with_reducible refine' i_bm0 ?_) | (with_reducible refine' i_lrg ?_) | (with_reducible refine' i_call ?_) | (with_reducible refine' i_src ?_) | (with_reducible refine' i_rng1 ?_) | (with_reducible refine' i_rng2 ?_) | (with_reducible refine' i_enum ?_)
  | (with_reducible refine' i_lc ?_) | (with_reducible refine' i_lc2 ?_))
local macro_rules | `(tactic| walk_at "w2") => `(tactic| first
  | (with_reducible refine' i_exD ?_) | (with_reducible refine' i_exB ?_) | (with_reducible refine' i_exRB ?_) | (with_reducible refine' i_exI ?_) | (with_reducible refine' i_exN ?_)
  | (with_reducible refine' i_addI ?_) | (with_reducible refine' i_sub ?_) | (with_reducible refine' i_lt ?_) | (with_reducible refine' i_le ?_) | (with_reducible refine' i_gt ?_) | (with_reducible refine' i_ge ?_)
  | (with_reducible refine' i_eqI ?_) | (with_reducible refine' i_neI ?_) | (with_reducible refine' i_eqB ?_) | (with_reducible refine' i_neB ?_) | (with_reducible refine' i_eqS ?_) | (with_reducible refine' i_neS ?_)
  | (with_reducible refine' i_isB ?_) | ((with_reducible refine' i_isN ?h1 ?_); (case h1 => rfl)) | ((with_reducible refine' i_notN ?h1 ?_); (case h1 => rfl))
  | (with_reducible refine' i_f1 ?_) | (with_reducible refine' i_f2 ?_) | ((with_reducible refine' i_len ?h1 ?_); (case h1 => rfl)) | (with_reducible refine' i_abs ?_) | (with_reducible refine' i_int ?_) | (with_reducible refine' i_max ?_) | (with_reducible refine' i_min ?_)
  | (with_reducible refine' i_listScr ?_) | ((with_reducible refine' i_list ?h1 ?_); (case h1 => rfl)) | ((with_reducible refine' i_tuple ?h1 ?_); (case h1 => rfl))
  | ((with_reducible refine' i_tyL ?h1 ?_); (case h1 => rfl)) | (with_reducible refine' i_tyS ?_)
  | (with_reducible refine' i_slT ?_) | ((with_reducible refine' i_slL ?h1 ?_); (case h1 => rfl)))
local macro_rules | `(tactic| walk_at "w3") => `(tactic| first
  | ((with_reducible refine' i_ix ?h1 ?h2 ?_); (case h1 => rfl); (case h2 => rfl)) | ((with_reducible refine' i_allD ?h1 ?h2 ?_); (case h1 => rfl); (case h2 => (simp [sizeLine_eq]; done)))
  | ((with_reducible refine' i_args ?h1 ?_); (case h1 => rfl)) | ((with_reducible refine' i_out ?h1 ?_); (case h1 => rfl)) | ((with_reducible refine' i_rt ?h1 ?_); (case h1 => rfl))
  | ((with_reducible refine' i_srcOf ?h1 ?_); (case h1 => rfl)) | ((with_reducible refine' i_evD ?h1 ?h2 ?_); (case h1 => rfl); (case h2 => (intro l e; cases e; done)))
  | ((with_reducible refine' i_rngD ?h1 ?h2 ?_); (case h1 => (first | decide | omega)); (case h2 => (first | decide | omega))) | ((with_reducible refine' i_rngD2 ?h1 ?_); (case h1 => (first | decide | omega)))
  | ((with_reducible refine' i_lrgD ?h1 ?_); (case h1 => (apply RgOk.of_le <;> omega))) | ((with_reducible refine' i_enumD ?h1 ?_); (case h1 => rfl))
  | ((with_reducible refine' i_putD ?h1 ?h2 ?_); (case h1 => rfl); (case h2 => rfl)) | ((with_reducible refine' i_asgD ?h1 ?_); (case h1 => rfl))
  | ((with_reducible refine' i_mul ?h1 ?_); (case h1 => (first | exact .inr (by decide) | exact .inl (by decide)))) | ((with_reducible refine' i_mod ?h1 ?_); (case h1 => (first | decide | omega)))
  | ((with_reducible refine' i_fdiv ?h1 ?_); (case h1 => (first | exact ⟨by decide, by decide⟩ | exact ⟨by omega, by omega⟩))) | ((with_reducible refine' i_pow ?h1 ?_); (case h1 => exact pow_ok (by decide)))
  | ((with_reducible refine' i_ifT ?h1 ?_); (case h1 => rfl)) | ((with_reducible refine' i_ifF ?h1 ?_); (case h1 => rfl))
  | ((with_reducible refine' i_append ?h1 ?h2 ?_); (case h1 => rfl); (case h2 => (first | (simp [sizeLine_eq]; done) | (apply lt_line; omega)))))
local macro_rules | `(tactic| walk_at "w") => `(tactic| repeat' (first | walk_at "w1" | walk_at "w2" | walk_at "w3"))
local macro_rules | `(tactic| walk_at "w0") => `(tactic| simp only [startS, hasOwn, List.map_cons, List.map_nil, List.length_cons, List.length_nil, List.cons_append, List.nil_append, List.replicate, Nat.reduceAdd, Nat.reduceSub, Nat.zero_add])
theorem v_law_stream : ∀ as R, p_law_stream as R → w_law_stream (retEn (hasOwn as) R) (startS 1 as) := by
  rintro as R ⟨ns, rfl, hl, q⟩
  unfold w_law_stream
  walk_at "w0"
  walk_at "w"
  exact q _ ⟨ns, 0, 0, rfl, by decide, by decide, hl⟩
theorem v_law_next : ∀ as R, p_law_next as R → w_law_next (retEn (hasOwn as) R) (startS 5 as) := by
  rintro as R ⟨l, many, rfl, ⟨ns, cur, k, rfl, hc, hk, hl⟩, h0, h1, q⟩
  unfold w_law_next
  walk_at "w0"
  walk_at "w"
  have ix : ∀ (h : k < ((ns.map PyData.int).length : Nat)), ∃ x : Int, atI (ns.map PyData.int) k = some (.int x) := fun h => by
    rw [List.length_map] at h
    have h2 : k.toNat < ns.length := by omega
    refine ⟨ns[k.toNat], ?_⟩
    have e : ((k.toNat : Nat) : Int) = k := by omega
    have := atI_nat (xs := ns.map PyData.int) (j := k.toNat) (v := .int ns[k.toNat]) (by simp [h2])
    rw [e] at this
    exact this
  have fin : ∀ (c k' : Int), 0 ≤ c → 0 ≤ k' → R (.d (.int (c % many))) (some [.list (ns.map PyData.int), .int (c / many), .int k']) := fun c k' a b =>
    q _ _ ⟨ns, _, _, rfl, Int.ediv_nonneg a (by omega), b, hl⟩ (Int.emod_nonneg _ (by omega)) (Int.emod_lt_of_pos _ h0)
  refine i_ifD (fun e => ?_) (fun e => ?_)
  · walk_at "w"
    refine i_ifD (fun e2 => ?_) (fun e2 => ?_)
    · obtain ⟨x, ex⟩ := ix e2
      walk_at "w"
      refine i_ix rfl ex ?_
      walk_at "w"
      refine i_ifD (fun e3 => ?_) (fun e3 => ?_)
      · walk_at "w"
        exact fin _ _ (by split <;> omega) (by omega)
      · walk_at "w"
        exact fin _ _ (by split <;> omega) (by omega)
    · walk_at "w"
      refine i_ifD (fun e3 => ?_) (fun e3 => ?_)
      · walk_at "w"
        exact fin _ _ (by omega) (by omega)
      · walk_at "w"
        exact fin _ _ (by omega) (by omega)
  · walk_at "w"
    exact fin _ _ hc hk
end L3
/-! Signatures: what the program's judges of forms say of any datum. -/
namespace L3
open PySem PySem.Spec PyProof.Rows L2 PySem.SeqAt
/-! ### data that is small enough to be looked at -/
mutual
def okD : D → Bool
  | .str s => decide (s.length ≤ 1000)
  | .list l => okA l
  | .tuple l => okA l
  | .dict [] => true
  | .dict (_ :: _) => false
  | .none => true
  | .bool _ => true
  | .int _ => true
def okA : List D → Bool
  | [] => decide True
  | d :: r => okD d && okA r
end
theorem okA_mem : ∀ {l : List D} {d : D}, okA l = true → d ∈ l → okD d = true
  | x :: r, d, h, m => by
    simp only [okA, Bool.and_eq_true] at h
    rcases List.mem_cons.mp m with e | m
    · rw [e]; exact h.1
    · exact okA_mem h.2 m
theorem okD_scr {d : D} (h : okD d = true) : ∀ l, d ≠ .dict [(.none, l)] := fun l e => by rw [e] at h; cases h
/-- what continues an isinstance test -/
theorem i_isD {z : SS} {P : D → Prop} {d : D} (h : okD d = true) (k : P d) : ∃ x, evD z (.d d) = some x ∧ (∀ l, x ≠ .dict [(.none, l)]) ∧ P x := ⟨d, rfl, okD_scr h, k⟩
theorem le_of_okS {s : Str} (h : okD (.str s) = true) : s.length ≤ sizeLine := le_line (by have : decide (s.length ≤ 1000) = true := h; have := of_decide_eq_true this; omega)

/-! ### whole numbers, names, kinds -/
def isWhole (v : D) (lo : Int) : Bool := match v with
  | .int i => decide (lo ≤ i)
  | _ => false
def isWithin (v : D) (lo hi : Int) : Bool := match v with
  | .int i => decide (lo ≤ i) && decide (i ≤ hi)
  | _ => false
def lowC (c : Nat) : Bool := decide (97 ≤ c) && decide (c ≤ 122)
def lowS (s : Str) : Bool := s.cps.toList.all lowC
def letter (x : D) : Bool := match x with
  | .str s => !(Builtin.Str.occurrences ("abcdefghijklmnopqrstuvwxyz" : Str) s 0 ("abcdefghijklmnopqrstuvwxyz" : Str).length 1).isEmpty
  | _ => false
def isName (v : D) : Bool := match v with
  | .str s => decide (2 ≤ s.length) && decide (s.length ≤ 8) && lowS s
  | _ => false
def areKinds (many : Int) (v : D) (least most : Int) : Bool := match v with
  | .tuple l => decide (least ≤ (l.length : Int)) && decide ((l.length : Int) ≤ most) && l.all fun k => isWithin k 0 (many - 1)
  | _ => false
def isCons (many : Int) (v : D) : Bool := match v with
  | .tuple [a, b] => isName a && areKinds many b 0 2
  | _ => false
def isRow (many : Int) (v : D) : Bool := match v with
  | .tuple [.str h, .tuple rows] => (decide (h = ("closed" : Str)) || decide (h = ("open" : Str))) && decide (rows.length ≤ 4) && rows.all (isCons many)
  | _ => false
def p_is_whole : FS := fun as R => ∃ v lo, as = [.val v, .val (.int lo)] ∧ okD v = true ∧ R (.d (.bool (isWhole v lo))) none
def p_is_within : FS := fun as R => ∃ v lo hi, as = [.val v, .val (.int lo), .val (.int hi)] ∧ okD v = true ∧ R (.d (.bool (isWithin v lo hi))) none
def p_is_name : FS := fun as R => ∃ v, as = [.val v] ∧ okD v = true ∧ R (.d (.bool (isName v))) none
def p_are_kinds : FS := fun as R => ∃ many v least most, as = [.val (.int many), .val v, .val (.int least), .val (.int most)] ∧ okD v = true ∧ most ≤ 1000 ∧ R (.d (.bool (areKinds many v least most))) none
def p_is_constructor : FS := fun as R => ∃ many v, as = [.val (.int many), .val v] ∧ okD v = true ∧ R (.d (.bool (isCons many v))) none
def p_is_kind_row : FS := fun as R => ∃ many v, as = [.val (.int many), .val v] ∧ okD v = true ∧ R (.d (.bool (isRow many v))) none
theorem m_is_whole : MonoF p_is_whole := fun as R R' h ⟨v, lo, e, a, k⟩ => ⟨v, lo, e, a, h _ _ k⟩
theorem l_is_whole : ∀ as R, p_is_whole as R → as.length = 2 := fun as R ⟨v, lo, e, _⟩ => by rw [e]; rfl
theorem m_is_within : MonoF p_is_within := fun as R R' h ⟨v, lo, hi, e, a, k⟩ => ⟨v, lo, hi, e, a, h _ _ k⟩
theorem l_is_within : ∀ as R, p_is_within as R → as.length = 3 := fun as R ⟨v, lo, hi, e, _⟩ => by rw [e]; rfl
theorem m_is_name : MonoF p_is_name := fun as R R' h ⟨v, e, a, k⟩ => ⟨v, e, a, h _ _ k⟩
theorem l_is_name : ∀ as R, p_is_name as R → as.length = 1 := fun as R ⟨v, e, _⟩ => by rw [e]; rfl
theorem m_are_kinds : MonoF p_are_kinds := fun as R R' h ⟨a, b, c, d, e, f, g, k⟩ => ⟨a, b, c, d, e, f, g, h _ _ k⟩
theorem l_are_kinds : ∀ as R, p_are_kinds as R → as.length = 4 := fun as R ⟨a, b, c, d, e, _⟩ => by rw [e]; rfl
theorem m_is_constructor : MonoF p_is_constructor := fun as R R' h ⟨a, b, e, f, k⟩ => ⟨a, b, e, f, h _ _ k⟩
theorem l_is_constructor : ∀ as R, p_is_constructor as R → as.length = 2 := fun as R ⟨a, b, e, _⟩ => by rw [e]; rfl
theorem m_is_kind_row : MonoF p_is_kind_row := fun as R R' h ⟨a, b, e, f, k⟩ => ⟨a, b, e, f, h _ _ k⟩
theorem l_is_kind_row : ∀ as R, p_is_kind_row as R → as.length = 2 := fun as R ⟨a, b, e, _⟩ => by rw [e]; rfl
/-- 0 value, 1 low -/
def w_is_whole : WS :=
(wRet (wAndV (wIsa "int" (wVar 0)) (wAndV (wNotV (wIsa "bool" (wVar 0))) (wBin sGe (wVar 0) (wVar 1)))))
/-- 0 value, 1 low, 2 high -/
def w_is_within : WS :=
(wRet (wAndV (wFrz (wCall p_is_whole (wCons (wVar 0) (wCons (wVar 1) wNil)))) (wBin sLe (wVar 0) (wVar 2))))
/-- 0 value, 1 letter -/
def w_is_name : WS :=
(wRet (wAndV (wIsa "str" (wVar 0)) (wAndV (wChain sLe sLe (wC (.int 2)) (wFrz (wCB (f1 sLen) (wCons (wVar 0) wNil))) (wC (.int 8))) (wFrz (wCB (f1 sAll) (wCons (wFrz (wLc (wSrc (wVar 0)) (gNm 1) [1] wYes (wBin sIn (wVar 1) (wC (.str "abcdefghijklmnopqrstuvwxyz"))))) wNil))))))
/-- 0 many, 1 value, 2 least, 3 most, 4 kind -/
def w_are_kinds : WS :=
(wSeq (wIfS (wOr (wNot (wTest (wIsa "tuple" (wVar 1)))) (wNot (wTest (wChain sLe sLe (wVar 2) (wFrz (wCB (f1 sLen) (wCons (wVar 1) wNil))) (wVar 3)))))
 (wRet (wC (.bool false)))
 wNext)
 (wRet (wFrz (wCB (f1 sAll) (wCons (wFrz (wLc (wSrc (wVar 1)) (gNm 4) [4] wYes (wFrz (wCall p_is_within (wCons (wVar 4) (wCons (wC (.int 0)) (wCons (wBin sSub (wVar 0) (wC (.int 1))) wNil))))))) wNil)))))
/-- 0 many, 1 value -/
def w_is_constructor : WS :=
(wSeq (wIfS (wOr (wNot (wTest (wIsa "tuple" (wVar 1)))) (wOr (wTest (wBin sNe (wFrz (wCB (f1 sLen) (wCons (wVar 1) wNil))) (wC (.int 2)))) (wNot (wTest (wFrz (wCall p_is_name (wCons (wBin sIx (wVar 1) (wC (.int 0))) wNil)))))))
 (wRet (wC (.bool false)))
 wNext)
 (wRetR (wCall p_are_kinds (wCons (wVar 0) (wCons (wBin sIx (wVar 1) (wC (.int 1))) (wCons (wC (.int 0)) (wCons (wC (.int 2)) wNil)))))))
/-- 0 many, 1 value, 2 row -/
def w_is_kind_row : WS :=
(wSeq (wIfS (wOr (wNot (wTest (wIsa "tuple" (wVar 1)))) (wOr (wTest (wBin sNe (wFrz (wCB (f1 sLen) (wCons (wVar 1) wNil))) (wC (.int 2)))) (wNot (wTest (wIsa "str" (wBin sIx (wVar 1) (wC (.int 0))))))))
 (wRet (wC (.bool false)))
 wNext)
 (wSeq (wIfS (wOr (wTest (wBin sNotIn (wBin sIx (wVar 1) (wC (.int 0))) (wTup (wCons (wC (.str "closed")) (wCons (wC (.str "open")) wNil))))) (wOr (wNot (wTest (wIsa "tuple" (wBin sIx (wVar 1) (wC (.int 1)))))) (wTest (wBin sGt (wFrz (wCB (f1 sLen) (wCons (wBin sIx (wVar 1) (wC (.int 1))) wNil))) (wC (.int 4))))))
 (wRet (wC (.bool false)))
 wNext)
 (wRet (wFrz (wCB (f1 sAll) (wCons (wFrz (wLc (wSrc (wBin sIx (wVar 1) (wC (.int 1)))) (gNm 2) [2] wYes (wFrz (wCall p_is_constructor (wCons (wVar 0) (wCons (wVar 2) wNil)))))) wNil))))))


/-- a comprehension that only reads: some of the items, mapped -/
theorem lcL_fm {g : GS} {own : List Nat} {tt : WT} {te : WE} {k : List D → SS → Prop} {items : List D} {z0 : SS} (fn : D → Option D) (hl : items.length ≤ sizeLine)
    (step : ∀ (x : D), x ∈ items → ∀ N : Option D → SS → Prop, (∀ z, killAll own z = z0 → N (fn x) z) → ∃ z1, g x z0 = some z1 ∧ tt z1 fun b z2 => if b = true then te z2 fun ev z3 => ∃ d, ev = .d d ∧ N (some d) z3 else N none z2)
    (fin : k (items.filterMap fn) z0) : wLcL g own tt te k items [] z0 := by
  refine lcL_inv (P := fun i acc z => acc = (items.take i).filterMap fn ∧ z = z0) (fun i x acc z e h N hN => ?_) (fun acc z h => ?_) ⟨by simp, rfl⟩
  · obtain ⟨ea, ez⟩ := h
    have hm := List.mem_of_getElem? e
    have hlt : i < items.length := (List.getElem?_eq_some_iff.mp e).1
    have hacc : acc.length < sizeLine := by
      have := List.length_filterMap_le fn (items.take i)
      rw [← ea, List.length_take] at this
      omega
    have ht : (items.take (i + 1)).filterMap fn = acc ++ (fn x).toList := by
      rw [ea, List.take_add_one, e]
      cases h : fn x <;> simp [h]
    rw [ez]
    exact step x hm (fun o z3 => match o with
      | some d => acc.length < sizeLine ∧ N (acc ++ [d]) (killAll own z3)
      | none => N acc (killAll own z3)) fun z' hz => by
        cases h : fn x with
        | none => exact hN _ _ ⟨by rw [ht, h]; simp, hz⟩
        | some d => exact ⟨hacc, hN _ _ ⟨by rw [ht, h]; rfl, hz⟩⟩
  · obtain ⟨ea, ez⟩ := h
    rw [ea, ez, List.take_length]
    exact fin
/-- the map, after what is there already -/
theorem lcL_mapA {g : GS} {own : List Nat} {te : WE} {k : List D → SS → Prop} {items acc0 : List D} {z0 : SS} (fn : D → D) (hl : acc0.length + items.length ≤ sizeLine)
    (step : ∀ (x : D), x ∈ items → ∀ N : D → SS → Prop, (∀ z, killAll own z = z0 → N (fn x) z) → ∃ z1, g x z0 = some z1 ∧ te z1 fun ev z3 => ∃ d, ev = .d d ∧ N d z3) (fin : k (acc0 ++ items.map fn) z0) : wLcL g own wYes te k items acc0 z0 := by
  refine lcL_inv (P := fun i acc z => acc = acc0 ++ (items.take i).map fn ∧ z = z0) (fun i x acc z e h N hN => ?_) (fun acc z h => ?_) ⟨by simp, rfl⟩
  · obtain ⟨ea, ez⟩ := h
    have hm := List.mem_of_getElem? e
    have hlt : i < items.length := (List.getElem?_eq_some_iff.mp e).1
    have hacc : acc.length < sizeLine := by
      rw [ea, List.length_append, List.length_map, List.length_take]
      omega
    have hn : N (acc ++ [fn x]) z0 := by
      refine hN _ _ ⟨?_, rfl⟩
      rw [ea, List.take_add_one, e]
      simp
    obtain ⟨z1, e1, w⟩ := step x hm (fun d z3 => acc.length < sizeLine ∧ N (acc ++ [d]) (killAll own z3)) fun z' hz => ⟨hacc, by rw [hz]; exact hn⟩
    rw [ez]
    exact ⟨z1, e1, i_yes (i_ifT rfl w)⟩
  · obtain ⟨ea, ez⟩ := h
    rw [ea, ez, List.take_length]
    exact fin
theorem lcL2_inv {g g1 : GS} {own vs1 : List Nat} {tt tt1 : WT} {s1 : WI} {te : WE} {k : List D → SS → Prop} {items : List D} (P : Nat → List D → SS → Prop)
    (step : ∀ (i : Nat) (x : D) (acc : List D) (z : SS), items[i]? = some x → P i acc z → ∀ N : List D → SS → Prop, (∀ acc' z', P (i + 1) acc' z' → N acc' z') →
      ∃ z1, g x z = some z1 ∧ tt z1 fun b z2 => if b = true then s1 z2 fun its z3 => wLcL g1 vs1 tt1 te (fun acc' z4 => N acc' (killAll own z4)) its acc (killAll vs1 z3) else N acc (killAll own z2))
    (fin : ∀ acc z, P items.length acc z → k acc z) {acc : List D} {z : SS} (h0 : P 0 acc z) : wLcL2 g own tt s1 g1 vs1 tt1 te k items acc z := by
  have go : ∀ (m i : Nat) (acc : List D) (z : SS), m = items.length - i → i ≤ items.length → P i acc z → wLcL2 g own tt s1 g1 vs1 tt1 te k (items.drop i) acc z := by
    intro m
    induction m with
    | zero =>
      intro i acc z hk hi p
      have e : i = items.length := by omega
      subst e
      rw [List.drop_length]
      exact fin acc z p
    | succ m ih =>
      intro i acc z hk hi p
      have hlt : i < items.length := by omega
      rw [List.drop_eq_getElem_cons hlt]
      obtain ⟨z1, e, w⟩ := step i items[i] acc z (List.getElem?_eq_getElem hlt) p (fun acc z' => wLcL2 g own tt s1 g1 vs1 tt1 te k (items.drop (i + 1)) acc z') fun acc z' p' => ih (i + 1) acc z' (by omega) hlt p'
      exact ⟨z1, e, w⟩
  have := go items.length 0 acc z (by simp) (Nat.zero_le _) h0
  simpa using this
theorem i_allM {z : SS} {items : List D} {fb : D → Bool} {k : RV → Prop} (h : k (.d (.bool (items.all fb)))) : sAll z (.d (.list (items.map fun x => PyData.bool (fb x)))) k :=
  i_all (bs := items.map fb) (by rw [List.map_map]; rfl) (by rw [List.all_map]; exact h)
theorem i_anyM {z : SS} {items : List D} {fb : D → Bool} {k : RV → Prop} (h : k (.d (.bool (items.any fb)))) : sAny z (.d (.list (items.map fun x => PyData.bool (fb x)))) k :=
  i_any (bs := items.map fb) (by rw [List.map_map]; rfl) (by rw [List.any_map]; exact h)
theorem i_enumE {d : D} {l : List D} {P : List D → Prop} (e : itemsD d = some l) (h : P l) : ∃ d' l, [EV.d d] = [.d d'] ∧ itemsD d' = some l ∧ P l := ⟨d, l, rfl, e, h⟩
local macro_rules | `(tactic| walk_at "w2") => `(tactic| first
  | (with_reducible refine' i_allM ?_) | (with_reducible refine' i_anyM ?_))
local macro_rules | `(tactic| walk_at "w3") => `(tactic| first
  | ((with_reducible refine' j_ix ?h1 ?_); (case h1 => rfl))
  | ((with_reducible refine' i_asgK ?h1 ?_); (case h1 => rfl); (dsimp only [List.set_cons_succ, List.set_cons_zero]))
  | ((with_reducible refine' i_srcK ?h1 ?_); (case h1 => rfl))
  | ((with_reducible refine' i_enmK ?h1 ?_); (case h1 => rfl))
  | ((with_reducible refine' i_evD ?h1 ?h2 ?_); (case h1 => rfl); (case h2 => (intro l e; cases e; done)))
  | ((with_reducible refine' i_isD ?h1 ?_); (case h1 => assumption))
  | ((with_reducible refine' i_len ?h1 ?_); (case h1 => rfl)) | ((with_reducible refine' i_list ?h1 ?_); (case h1 => rfl)) | ((with_reducible refine' i_tuple ?h1 ?_); (case h1 => rfl)) | ((with_reducible refine' i_slL ?h1 ?_); (case h1 => rfl))
  | ((with_reducible refine' i_rngD ?h1 ?h2 ?_); (case h1 => (first | omega | decide)); (case h2 => (first | omega | decide))) | ((with_reducible refine' i_rngD2 ?h1 ?_); (case h1 => (first | omega | decide)))
  | ((with_reducible refine' i_lrgP ?h1 ?_); (case h1 => (apply RgOk.of_le <;> omega)))
  | ((with_reducible refine' j_put ?h1 ?_); (case h1 => rfl))
  | ((with_reducible refine' i_mul ?h1 ?_); (case h1 => (first | exact .inr (by decide) | exact .inl (by decide)))) | ((with_reducible refine' i_mod ?h1 ?_); (case h1 => (first | omega | decide)))
  | ((with_reducible refine' i_fdiv ?h1 ?_); (case h1 => (first | exact ⟨by decide, by decide⟩ | exact ⟨by omega, by omega⟩))) | ((with_reducible refine' i_pow ?h1 ?_); (case h1 => exact pow_ok (by decide)))
  | ((with_reducible refine' i_ifT ?h1 ?_); (case h1 => (first | rfl | assumption | (simp [isA]; done)))) | ((with_reducible refine' i_ifF ?h1 ?_); (case h1 => (first | rfl | assumption | (simp [isA]; done))))
  | ((with_reducible refine' j_pop ?h1 ?_); (case h1 => rfl))
  | ((with_reducible refine' j_append ?h1 ?_); (case h1 => (first | (simp [sizeLine_eq]; done) | (apply lt_line; omega)))))
local macro_rules | `(tactic| walk_at "w") => `(tactic| (try dsimp only [List.set_cons_succ, List.set_cons_zero, killAll]); repeat' (first | (with_reducible refine' Run.imp ?_) | walk_at "w3" | walk_at "w2" | fail "open"))
local macro_rules | `(tactic| walk_at "w0") => `(tactic| refine start_en ?_; simp only [startS, hasOwn, List.map_cons, List.map_nil, List.length_cons, List.length_nil, List.cons_append, List.nil_append, List.replicate, Nat.reduceAdd, Nat.reduceSub, Nat.zero_add])
local macro_rules | `(tactic| walk_at "n") => `(tactic| walk_at "w")


theorem v_is_whole : ∀ as R, p_is_whole as R → w_is_whole (retEn (hasOwn as) R) (startS 2 as) := by
  rintro as R ⟨v, lo, rfl, hv, q⟩
  unfold w_is_whole
  walk_at "w0"
  walk_at "w"
  cases v <;> (walk_at "w"; first | exact q | skip)
theorem v_is_within : ∀ as R, p_is_within as R → w_is_within (retEn (hasOwn as) R) (startS 3 as) := by
  rintro as R ⟨v, lo, hi, rfl, hv, q⟩
  unfold w_is_within
  walk_at "w0"
  walk_at "w"
  refine ⟨v, lo, rfl, hv, ?_⟩
  walk_at "w"
  cases v <;> (simp only [isWithin] at q; walk_at "w"; first | exact q | skip)
  rename_i i
  refine i_ifD (fun h => ?_) (fun h => ?_)
  · walk_at "w"
    rw [decide_eq_true h, Bool.true_and] at q
    exact q
  · walk_at "w"
    rw [decide_eq_false h, Bool.false_and] at q
    exact q
theorem low_mem (c : Nat) : decide (c ∈ [97, 98, 99, 100, 101, 102, 103, 104, 105, 106, 107, 108, 109, 110, 111, 112, 113, 114, 115, 116, 117, 118, 119, 120, 121, 122]) = lowC c := by
  rw [lowC, ← Bool.decide_and]
  refine decide_eq_decide.mpr ?_
  simp only [List.mem_cons, List.not_mem_nil, or_false]
  omega
theorem in_low (c : Nat) : (!(Builtin.Str.occurrences ("abcdefghijklmnopqrstuvwxyz" : Str) ⟨#[c]⟩ 0 ("abcdefghijklmnopqrstuvwxyz" : Str).length 1).isEmpty) = lowC c := by
  rw [PySem.StrLaws.found_one]
  exact low_mem c
theorem v_is_name : ∀ as R, p_is_name as R → w_is_name (retEn (hasOwn as) R) (startS 2 as) := by
  rintro as R ⟨v, rfl, hv, q⟩
  unfold w_is_name
  walk_at "w0"
  walk_at "w"
  cases v <;> (walk_at "w"; first | exact q | skip)
  rename_i s
  refine i_lenS (le_of_okS hv) ?_
  walk_at "w"
  have hl : s.length ≤ 1000 := of_decide_eq_true (hv : decide (s.length ≤ 1000) = true)
  simp only [isName] at q
  refine i_ifD (fun h => ?_) (fun h => ?_)
  · walk_at "w"
    refine i_ifD (fun h2 => ?_) (fun h2 => ?_)
    · walk_at "w"
      rw [decide_eq_true (show 2 ≤ s.length by omega), decide_eq_true (show s.length ≤ 8 by omega), Bool.true_and, Bool.true_and] at q
      refine lcL_map (fun x => .bool (letter x)) (by rw [signs, List.length_map]; exact le_line (by have : s.cps.toList.length = s.length := (by simp [Str.length]); omega)) (fun x hx N hN => ?_) ?_
      · obtain ⟨c, hc, rfl⟩ := List.mem_map.mp hx
        refine ⟨_, rfl, ?_⟩
        walk_at "w"
        refine ⟨_, _, rfl, rfl, _, rfl, ?_⟩
        exact i_exD (hN _ rfl)
      · walk_at "w"
        have e : (signs s).all letter = lowS s := by
          rw [signs, List.all_map, lowS]
          congr 1
          funext c
          exact in_low c
        rw [e]
        exact q
    · walk_at "w"
      rw [decide_eq_false (fun x : s.length ≤ 8 => h2 (by omega)), Bool.and_false, Bool.false_and] at q
      exact q
  · walk_at "w"
    rw [decide_eq_false (fun x : 2 ≤ s.length => h (by omega)), Bool.false_and, Bool.false_and] at q
    exact q

theorem pl_str (s : Str) : PyData.plain (.str s) = true := rfl
/-- a data tuple's items are small too -/
theorem okT {l : List D} (h : okD (.tuple l) = true) {d : D} (m : d ∈ l) : okD d = true := okA_mem h m
theorem v_are_kinds : ∀ as R, p_are_kinds as R → w_are_kinds (retEn (hasOwn as) R) (startS 5 as) := by
  rintro as R ⟨many, v, least, most, rfl, hv, hmost, q⟩
  unfold w_are_kinds
  walk_at "w0"
  walk_at "w"
  cases v <;> (walk_at "w"; first | exact q | skip)
  rename_i l
  simp only [areKinds] at q
  refine i_ifD (fun h => ?_) (fun h => ?_)
  · walk_at "w"
    refine i_ifB (fun h2 => ?_) (fun h2 => ?_)
    · have h3 : ¬ (l.length : Int) ≤ most := by simpa using h2
      walk_at "w"
      rw [decide_eq_true h, decide_eq_false h3] at q
      exact q
    · have h3 : (l.length : Int) ≤ most := by simpa using h2
      walk_at "w"
      rw [decide_eq_true h, decide_eq_true h3] at q
      refine lcL_map (fun x => .bool (isWithin x 0 (many - 1))) ?_ (fun x hx N hN => ?_) ?_
      · exact le_line (by omega)
      · refine ⟨_, rfl, ?_⟩
        walk_at "w"
        refine ⟨x, _, _, rfl, okT hv hx, ?_⟩
        walk_at "w"
        exact hN _ rfl
      · walk_at "w"
        exact q
  · walk_at "w"
    rw [decide_eq_false h] at q
    exact q

theorem tup2 {l : List D} (h : (l.length : Int) = 2) : ∃ a b, l = [a, b] := by
  match l, h with
  | [a, b], _ => exact ⟨a, b, rfl⟩
  | [], h => simp at h
  | [a], h => simp at h
  | a :: b :: c :: r, h => simp at h; omega
theorem isCons_ne {many : Int} {l : List D} (h : ¬ (l.length : Int) = 2) : isCons many (.tuple l) = false := by
  match l, h with
  | [a, b], h => exact absurd rfl h
  | [], h => rfl
  | [a], h => rfl
  | a :: b :: c :: r, h => rfl
theorem v_is_constructor : ∀ as R, p_is_constructor as R → w_is_constructor (retEn (hasOwn as) R) (startS 2 as) := by
  rintro as R ⟨many, v, rfl, hv, q⟩
  unfold w_is_constructor
  walk_at "w0"
  walk_at "w"
  cases v <;> (walk_at "w"; first | exact q | skip)
  rename_i l
  refine i_ifB (fun h => ?_) (fun h => ?_)
  · have h3 : ¬ (l.length : Int) = 2 := by simpa using h
    walk_at "w"
    rw [isCons_ne h3] at q
    exact q
  · have h3 : (l.length : Int) = 2 := by simpa using h
    obtain ⟨a, b, rfl⟩ := tup2 h3
    walk_at "w"
    refine ⟨a, rfl, okT hv (by simp), ?_⟩
    walk_at "w"
    simp only [isCons] at q
    refine i_ifB (fun h => ?_) (fun h => ?_)
    · have h4 : isName a = false := by simpa using h
      walk_at "w"
      rw [h4] at q
      exact q
    · have h4 : isName a = true := by simpa using h
      walk_at "w"
      refine ⟨many, b, _, _, rfl, okT hv (by simp), by decide, ?_⟩
      walk_at "w"
      rw [h4] at q
      exact q
theorem isRow_ne {many : Int} {l : List D} (h : ¬ (l.length : Int) = 2) : isRow many (.tuple l) = false := by
  match l, h with
  | [a, b], h => exact absurd rfl h
  | [], h => rfl
  | [a], h => simp [isRow]
  | a :: b :: c :: r, h => simp [isRow]
theorem isRow_nt {many : Int} {s : Str} {b : D} (h : isA "tuple" b = false) : isRow many (.tuple [.str s, b]) = false := by
  cases b <;> first | rfl | (simp [isA] at h)
theorem isA_str {a : D} (h : isA "str" a = true) : ∃ s, a = .str s := by
  cases a <;> first | exact ⟨_, rfl⟩ | (simp [isA] at h)
theorem isA_tup {a : D} (h : isA "tuple" a = true) : ∃ s, a = .tuple s := by
  cases a <;> first | exact ⟨_, rfl⟩ | (simp [isA] at h)
theorem isRow_ns {many : Int} {a b : D} (h : isA "str" a = false) : isRow many (.tuple [a, b]) = false := by
  cases a <;> first | rfl | (simp [isA] at h)
theorem v_is_kind_row : ∀ as R, p_is_kind_row as R → w_is_kind_row (retEn (hasOwn as) R) (startS 3 as) := by
  rintro as R ⟨many, v, rfl, hv, q⟩
  unfold w_is_kind_row
  walk_at "w0"
  walk_at "w"
  cases v <;> (walk_at "w"; first | exact q | skip)
  rename_i l
  refine i_ifB (fun h => ?_) (fun h => ?_)
  · have h3 : ¬ (l.length : Int) = 2 := by simpa using h
    walk_at "w"
    rw [isRow_ne h3] at q
    exact q
  · have h3 : (l.length : Int) = 2 := by simpa using h
    obtain ⟨a, b, rfl⟩ := tup2 h3
    have ha : okD a = true := okT hv (by simp)
    have hb : okD b = true := okT hv (by simp)
    walk_at "w"
    refine i_ifB (fun h => ?_) (fun h => ?_)
    · have h4 : isA "str" a = false := by simpa using h
      walk_at "w"
      rw [isRow_ns h4] at q
      exact q
    · have h4 : isA "str" a = true := by simpa using h
      obtain ⟨s, rfl⟩ := isA_str h4
      walk_at "w"
      refine ⟨_, _, rfl, rfl, rfl, rfl, by simp [PyData.depth, PyData.depthAll], ?_⟩
      walk_at "w"
      have es : ([PyData.str (Str.ofString "closed"), PyData.str (Str.ofString "open")].any fun y => PyData.eqv y (.str s)) = (decide (s = ("closed" : Str)) || decide (s = ("open" : Str))) := by
        simp only [List.any_cons, List.any_nil, eqv_str, Bool.or_false]
        congr 1 <;> exact decide_eq_decide.mpr ⟨Eq.symm, Eq.symm⟩
      refine i_ifB (fun h => ?_) (fun h => ?_)
      · have h5 : (decide (s = ("closed" : Str)) || decide (s = ("open" : Str))) = false := by
          rw [← es]
          simpa using h
        walk_at "w"
        have : isRow many (.tuple [.str s, b]) = false := by
          cases b <;> first | rfl | (simp only [isRow, h5, Bool.false_and])
        rw [this] at q
        exact q
      · have h5 : (decide (s = ("closed" : Str)) || decide (s = ("open" : Str))) = true := by
          rw [← es]
          exact Bool.not_inj (y := true) h
        walk_at "w"
        refine i_ifB (fun h => ?_) (fun h => ?_)
        · have h6 : isA "tuple" b = false := by simpa using h
          walk_at "w"
          rw [isRow_nt h6] at q
          exact q
        · have h6 : isA "tuple" b = true := by simpa using h
          obtain ⟨rows, rfl⟩ := isA_tup h6
          walk_at "w"
          simp only [isRow, h5, Bool.true_and] at q
          refine i_ifD (fun h => ?_) (fun h => ?_)
          · walk_at "w"
            rw [decide_eq_false (by omega)] at q
            exact q
          · walk_at "w"
            rw [decide_eq_true (show rows.length ≤ 4 by omega)] at q
            refine lcL_map (fun x => .bool (isCons many x)) (le_line (by omega)) (fun x hx N hN => ?_) ?_
            · refine ⟨_, rfl, ?_⟩
              walk_at "w"
              refine ⟨many, x, rfl, okT hb hx, ?_⟩
              walk_at "w"
              exact hN _ rfl
            · walk_at "w"
              exact q
end L3
/-! The law's own sameness, for any plain datum due (takes the place of S3's is_integer and same). -/
namespace L3
open PySem PySem.Spec PyProof.Rows L2 PySem.SeqAt
mutual
/-- how many data stand in a datum; 0 where a dict does -/
def nodes : D → Nat
  | .tuple l => 1 + nodesA l
  | .list l => 1 + nodesA l
  | .none => 1
  | .bool _ => 1
  | .int _ => 1
  | .str _ => 1
  | .dict _ => 1
def nodesA : List D → Nat
  | [] => 0
  | d :: r => nodes d + nodesA r
end
mutual
def noDct : D → Bool
  | .tuple l => noDctA l
  | .list l => noDctA l
  | .dict _ => false
  | .none => true
  | .bool _ => true
  | .int _ => true
  | .str _ => true
def noDctA : List D → Bool
  | [] => Nat.beq 0 0
  | d :: r => noDct d && noDctA r
end
theorem noDctA_mem : ∀ {l : List D} {d : D}, noDctA l = true → d ∈ l → noDct d = true
  | x :: r, d, h, m => by
    simp only [noDctA, Bool.and_eq_true] at h
    rcases List.mem_cons.mp m with e | m
    · rw [e]; exact h.1
    · exact noDctA_mem h.2 m
theorem nodes_pos (d : D) : 1 ≤ nodes d := by
  cases d <;> simp only [nodes] <;> omega
theorem nodesA_zip : ∀ {m l : List D}, m.length = l.length → ((m.zip l).map fun p => nodes p.2).sum = nodesA l
  | [], [], _ => rfl
  | x :: m, y :: l, h => by
    have := nodesA_zip (m := m) (l := l) (by simpa using h)
    simp only [List.zip_cons_cons, List.map_cons, List.sum_cons, nodesA, this]
theorem zip_eq : ∀ {m l : List D}, m.length = l.length → ((∀ p ∈ m.zip l, p.1 = p.2) ↔ m = l)
  | [], [], _ => by simp
  | x :: m, y :: l, h => by
    have := zip_eq (m := m) (l := l) (by simpa using h)
    simp only [List.zip_cons_cons, List.mem_cons, List.cons.injEq, forall_eq_or_imp, this]
def isInt (d : D) : Bool := match d with
  | .int _ => true
  | _ => false
def p_law_is_integer : FS := fun as R => ∃ v, as = [.val v] ∧ okD v = true ∧ R (.d (.bool (isInt v))) none
theorem m_law_is_integer : MonoF p_law_is_integer := fun as R R' h ⟨v, e, a, k⟩ => ⟨v, e, a, h _ _ k⟩
theorem l_law_is_integer : ∀ as R, p_law_is_integer as R → as.length = 1 := fun as R ⟨a, e, _⟩ => by rw [e]; rfl
def p_law_same : FS := fun as R => ∃ a b, as = [.val a, .val b] ∧ okD a = true ∧ okD b = true ∧ noDct b = true ∧ nodes b ≤ 50000 ∧ ∀ c, (c = true ↔ a = b) → R (.d (.bool c)) none
theorem m_law_same : MonoF p_law_same := fun as R R' h ⟨a, b, c, d, e, f, g, k⟩ => ⟨a, b, c, d, e, f, g, fun x y => h _ _ (k x y)⟩
theorem l_law_same : ∀ as R, p_law_same as R → as.length = 2 := fun as R ⟨a, b, e, _⟩ => by rw [e]; rfl
/-- 0 actual -/
def w_law_is_integer : WS :=
(wRet (wAndV (wIsa "int" (wVar 0)) (wNotV (wIsa "bool" (wVar 0)))))
/-- 0 actual, 1 due, 2 left, 3 turn, 4 one, 5 other, 6 at -/
def w_law_same : WS :=
(wSeq (wSetO 2 (wLst (wCons (wTup (wCons (wVar 0) (wCons (wVar 1) wNil))) wNil)))
 (wSeq (wFor (wRng1 (wCons (wC (.int 200000)) wNil)) (gNm 3)
 (wKill [3, 4, 5] (wSeq (wIfS (wTest (wBin sEq (wFrz (wCB (f1 sLen) (wCons (wVar 2) wNil))) (wC (.int 0))))
 (wRet (wC (.bool true)))
 wNext)
 (wSeq (wAsg (wFrz (wBM0 "list" mPop (wVar 2))) (gTp [(gNm 4), (gNm 5)]))
 (wIfS (wOr (wTest (wIsa "tuple" (wVar 5))) (wTest (wIsa "list" (wVar 5))))
 (wSeq (wIfS (wOr (wTest (wBin sNe (wIsa "tuple" (wVar 5)) (wIsa "tuple" (wVar 4)))) (wTest (wBin sNe (wIsa "list" (wVar 5)) (wIsa "list" (wVar 4)))))
 (wRet (wC (.bool false)))
 wNext)
 (wSeq (wIfS (wTest (wBin sNe (wFrz (wCB (f1 sLen) (wCons (wVar 4) wNil))) (wFrz (wCB (f1 sLen) (wCons (wVar 5) wNil)))))
 (wRet (wC (.bool false)))
 wNext)
 (wDrop (wFrz (wBM "list" mExtend (wVar 2) (wCons (wFrz (wLc (wRng1 (wCons (wFrz (wCB (f1 sLen) (wCons (wVar 5) wNil))) wNil)) (gNm 6) [6] wYes (wTup (wCons (wBin sIx (wVar 4) (wVar 6)) (wCons (wBin sIx (wVar 5) (wVar 6)) wNil))))) wNil))))))
 (wIfS (wTest (wIsa "bool" (wVar 5)))
 (wIfS (wOr (wNot (wTest (wIsa "bool" (wVar 4)))) (wTest (wBin sNe (wVar 4) (wVar 5))))
 (wRet (wC (.bool false)))
 wNext)
 (wIfS (wTest (wIsa "int" (wVar 5)))
 (wIfS (wOr (wNot (wTest (wFrz (wCall p_law_is_integer (wCons (wVar 4) wNil))))) (wTest (wBin sNe (wVar 4) (wVar 5))))
 (wRet (wC (.bool false)))
 wNext)
 (wIfS (wTest (wIsa "str" (wVar 5)))
 (wIfS (wOr (wNot (wTest (wIsa "str" (wVar 4)))) (wTest (wBin sNe (wVar 4) (wVar 5))))
 (wRet (wC (.bool false)))
 wNext)
 (wIfS (wTest (wBin (sIsN not) (wVar 4) (wC .none)))
 (wRet (wC (.bool false)))
 wNext)))))))))
 (wRet (wC (.bool false)))))
local macro_rules | `(tactic| walk_at "w2") => `(tactic| first
  | (with_reducible refine' i_allM ?_) | (with_reducible refine' i_anyM ?_))
local macro_rules | `(tactic| walk_at "w3") => `(tactic| first
  | ((with_reducible refine' j_ix ?h1 ?_); (case h1 => rfl))
  | ((with_reducible refine' i_asgK ?h1 ?_); (case h1 => rfl); (dsimp only [List.set_cons_succ, List.set_cons_zero]))
  | ((with_reducible refine' i_srcK ?h1 ?_); (case h1 => rfl))
  | ((with_reducible refine' i_enmK ?h1 ?_); (case h1 => rfl))
  | ((with_reducible refine' i_evD ?h1 ?h2 ?_); (case h1 => rfl); (case h2 => (intro l e; cases e; done)))
  | ((with_reducible refine' i_isD ?h1 ?_); (case h1 => assumption))
  | ((with_reducible refine' i_len ?h1 ?_); (case h1 => rfl)) | ((with_reducible refine' i_list ?h1 ?_); (case h1 => rfl)) | ((with_reducible refine' i_tuple ?h1 ?_); (case h1 => rfl)) | ((with_reducible refine' i_slL ?h1 ?_); (case h1 => rfl))
  | ((with_reducible refine' i_rngD ?h1 ?h2 ?_); (case h1 => (first | omega | decide)); (case h2 => (first | omega | decide))) | ((with_reducible refine' i_rngD2 ?h1 ?_); (case h1 => (first | omega | decide)))
  | ((with_reducible refine' i_lrgP ?h1 ?_); (case h1 => (apply RgOk.of_le <;> omega)))
  | ((with_reducible refine' j_put ?h1 ?_); (case h1 => rfl))
  | ((with_reducible refine' i_mul ?h1 ?_); (case h1 => (first | exact .inr (by decide) | exact .inl (by decide)))) | ((with_reducible refine' i_mod ?h1 ?_); (case h1 => (first | omega | decide)))
  | ((with_reducible refine' i_fdiv ?h1 ?_); (case h1 => (first | exact ⟨by decide, by decide⟩ | exact ⟨by omega, by omega⟩))) | ((with_reducible refine' i_pow ?h1 ?_); (case h1 => exact pow_ok (by decide)))
  | ((with_reducible refine' i_ifT ?h1 ?_); (case h1 => (first | rfl | assumption | (simp [isA]; done)))) | ((with_reducible refine' i_ifF ?h1 ?_); (case h1 => (first | rfl | assumption | (simp [isA]; done))))
  | ((with_reducible refine' j_pop ?h1 ?_); (case h1 => rfl))
  | ((with_reducible refine' j_append ?h1 ?_); (case h1 => (first | (simp [sizeLine_eq]; done) | (apply lt_line; omega)))))
local macro_rules | `(tactic| walk_at "w") => `(tactic| (try dsimp only [List.set_cons_succ, List.set_cons_zero, killAll]); repeat' (first | (with_reducible refine' Run.imp ?_) | walk_at "w3" | walk_at "w2" | fail "open"))
local macro_rules | `(tactic| walk_at "w0") => `(tactic| refine start_en ?_; simp only [startS, hasOwn, List.map_cons, List.map_nil, List.length_cons, List.length_nil, List.cons_append, List.nil_append, List.replicate, Nat.reduceAdd, Nat.reduceSub, Nat.zero_add])
local macro_rules | `(tactic| walk_at "n") => `(tactic| walk_at "w")

theorem v_law_is_integer : ∀ as R, p_law_is_integer as R → w_law_is_integer (retEn (hasOwn as) R) (startS 1 as) := by
  rintro as R ⟨v, rfl, hv, q⟩
  unfold w_law_is_integer
  walk_at "w0"
  walk_at "n"
  cases v <;> (walk_at "n"; first | exact q | skip)
def stD (st : List (D × D)) : List D := st.map fun p => .tuple [p.1, p.2]
def sameZ (a b : D) (st : List (D × D)) : SS := [some (.val a), some (.val b), some (.own none (stD st)), none, none, none, none]
structure SI (a b : D) (i : Nat) (st : List (D × D)) : Prop where
  eq : (∀ p ∈ st, p.1 = p.2) ↔ a = b
  nd : i + (st.map fun p => nodes p.2).sum = nodes b
  ok : ∀ p ∈ st, okD p.1 = true ∧ okD p.2 = true ∧ noDct p.2 = true
theorem SI.len {a b : D} {i : Nat} {st : List (D × D)} (h : SI a b i st) : st.length ≤ nodes b := by
  have go : ∀ l : List (D × D), l.length ≤ (l.map fun p => nodes p.2).sum := fun l => by
    induction l with
    | nil => exact Nat.le_refl 0
    | cons p l ih =>
      have := nodes_pos p.2
      rw [List.length_cons, List.map_cons, List.sum_cons]
      omega
  have := go st
  have := h.nd
  omega
theorem SI.ne {a b x y : D} {i : Nat} {st : List (D × D)} (h : SI a b i (st ++ [(x, y)])) (n : x ≠ y) : a ≠ b := fun e => n (h.eq.mpr e (x, y) (by simp))
theorem SI.drop {a b x y : D} {i : Nat} {st : List (D × D)} (h : SI a b i (st ++ [(x, y)])) (e : x = y) (n1 : nodes y = 1) : SI a b (i + 1) st := by
  refine ⟨?_, ?_, fun p hp => h.ok p (List.mem_append_left _ hp)⟩
  · rw [← h.eq]
    constructor
    · intro g p hp
      rcases List.mem_append.mp hp with hp | hp
      · exact g p hp
      · rw [List.mem_singleton] at hp
        rw [hp]
        exact e
    · exact fun g p hp => g p (List.mem_append_left _ hp)
  · have := h.nd
    rw [List.map_append, List.sum_append] at this
    simp at this
    omega
theorem SI.push {a b x y : D} {i : Nat} {st : List (D × D)} {m l : List D} (h : SI a b i (st ++ [(x, y)])) (hl : m.length = l.length) (exy : x = y ↔ m = l) (hn : nodes y = 1 + nodesA l) (hm : ∀ d ∈ m, okD d = true) (hk : ∀ d ∈ l, okD d = true ∧ noDct d = true) :
    SI a b (i + 1) (st ++ m.zip l) := by
  refine ⟨?_, ?_, fun p hp => ?_⟩
  · rw [← h.eq]
    constructor
    · intro g p hp
      rcases List.mem_append.mp hp with hp | hp
      · exact g p (List.mem_append_left _ hp)
      · rw [List.mem_singleton] at hp
        rw [hp]
        exact exy.mpr ((zip_eq hl).mp fun p hp => g p (List.mem_append_right _ hp))
    · intro g p hp
      rcases List.mem_append.mp hp with hp | hp
      · exact g p (List.mem_append_left _ hp)
      · exact (zip_eq hl).mpr (exy.mp (g (x, y) (by simp))) p hp
  · have := h.nd
    rw [List.map_append, List.sum_append] at this ⊢
    rw [nodesA_zip hl]
    simp at this
    omega
  · rcases List.mem_append.mp hp with hp | hp
    · exact h.ok p (List.mem_append_left _ hp)
    · obtain ⟨p1, p2⟩ := p
      have := List.of_mem_zip hp
      exact ⟨hm _ this.1, (hk _ this.2).1, (hk _ this.2).2⟩

theorem stD_app (s t : List (D × D)) : stD (s ++ t) = stD s ++ stD t := List.map_append
theorem pop_at (st : List (D × D)) (p : D × D) : (stD (st ++ [p]))[(stD (st ++ [p])).length - 1]? = some (.tuple [p.1, p.2]) := by simp [stD]
theorem pop_rest (st : List (D × D)) (p : D × D) : (stD (st ++ [p])).dropLast = stD st := by simp [stD]
def pairF (m l : List D) (x : D) : D := match x with
  | .int k => .tuple [m.getD k.toNat .none, l.getD k.toNat .none]
  | _ => .none
theorem pair_zip {m l : List D} (h : m.length = l.length) : (rangeD 0 (l.length : Nat)).map (pairF m l) = stD (m.zip l) := by
  unfold rangeD stD
  rw [List.map_map, show ((l.length : Nat) - 0 : Int).toNat = l.length from by omega]
  refine List.ext_getElem? fun j => ?_
  rw [List.getElem?_map, List.getElem?_map]
  by_cases hj : j < l.length
  · have hm : j < m.length := by omega
    have e : ((0 : Int) + (j : Nat)).toNat = j := by omega
    rw [List.getElem?_range hj, List.getElem?_eq_getElem (by simp; omega)]
    simp [Function.comp, pairF, List.getD_eq_getElem?_getD, hj, hm]
  · rw [List.getElem?_eq_none (by simp; omega), List.getElem?_eq_none (by simp; omega)]
    rfl
theorem lenA : ∀ l : List D, l.length ≤ nodesA l
  | [] => Nat.le_refl 0
  | d :: r => by
    have := lenA r
    have := nodes_pos d
    simp only [nodesA, List.length_cons]
    omega
theorem at_getD {l : List D} {k : Nat} (h : k < l.length) : atI l (k : Nat) = some (l.getD k .none) := by
  refine atI_nat ?_
  rw [List.getD_eq_getElem?_getD, List.getElem?_eq_getElem h]
  rfl
theorem v_law_same : ∀ as R, p_law_same as R → w_law_same (retEn (hasOwn as) R) (startS 7 as) := by
  rintro as R ⟨a, b, rfl, ha, hb, hd, hn, q⟩
  unfold w_law_same
  generalize hH : (200000 : Int) = H
  have hH2 : H = 200000 := hH.symm
  clear hH
  walk_at "w0"
  walk_at "n"
  have no : a ≠ b → R (.d (.bool false)) none := fun h => q false ⟨fun e => by (cases e), fun e => absurd e h⟩
  refine forR_inv (P := fun i z => ∃ st, z = sameZ a b st ∧ SI a b i st) (fun i z hi p N hN => ?_) (fun z p => ?_) ⟨[(a, b)], rfl, ⟨by simp, by simp, by simpa using ⟨ha, hb, hd⟩⟩⟩
  · obtain ⟨st, rfl, si⟩ := p
    refine ⟨_, rfl, ?_⟩
    have hlen := si.len
    rcases List.eq_nil_or_concat st with rfl | ⟨s0, ⟨x, y⟩, e⟩
    · unfold sameZ
      walk_at "n"
      exact q true ⟨fun _ => si.eq.mp (by simp), fun _ => rfl⟩
    · have e : st = s0 ++ [(x, y)] := by simpa using e
      subst e
      have okxy := si.ok (x, y) (by simp)
      have okx : okD x = true := okxy.1
      have oky : okD y = true := okxy.2.1
      have hsl : s0.length + 1 ≤ nodes b := by simpa using hlen
      have nz : ¬ ((stD (s0 ++ [(x, y)])).length : Int) = 0 := by simp [stD]; omega
      unfold sameZ
      walk_at "n"
      rw [decide_eq_false nz]
      walk_at "n"
      refine i_pop rfl (pop_at s0 (x, y)) ?_
      rw [pop_rest]
      walk_at "n"
      cases y with
      | tuple l =>
        have hdl : ∀ d ∈ l, okD d = true ∧ noDct d = true := fun d hd => ⟨okA_mem (l := l) oky hd, noDctA_mem (l := l) okxy.2.2 hd⟩
        have hln : l.length ≤ nodesA l := lenA l
        have hnl : nodes (.tuple l) = 1 + nodesA l := by simp only [nodes]
        have hsum := si.nd
        rw [List.map_append, List.sum_append] at hsum
        simp only [List.map_cons, List.map_nil, List.sum_cons, List.sum_nil, hnl] at hsum
        walk_at "n"
        cases x with
        | tuple m =>
          walk_at "n"
          refine i_ifB (fun h => ?_) (fun h => ?_)
          · have hl : ¬ m.length = l.length := fun e => by simp [e] at h
            walk_at "n"
            exact no (si.ne fun e => by injection e with e; exact hl (by rw [e]))
          · have hl : m.length = l.length := by
              have : (m.length : Int) = l.length := by simpa using h
              omega
            walk_at "n"
            refine lcL_map (pairF m l) (le_line (by rw [rangeD_len]; omega)) (fun x hx N1 hN1 => ?_) ?_
            · obtain ⟨k, hk⟩ := List.mem_iff_getElem?.mp hx
              obtain ⟨rfl, hlt⟩ := rangeD_get hk
              have hp : pairF m l (.int (0 + (k : Nat))) = .tuple [m.getD k .none, l.getD k .none] := by
                simp only [pairF, show ((0 : Int) + (k : Nat)).toNat = k from by omega]
              rw [hp] at hN1
              rw [show (0 : Int) + (k : Nat) = (k : Nat) from Int.zero_add _] at hlt ⊢
              refine ⟨_, rfl, ?_⟩
              walk_at "n"
              refine i_ix rfl (at_getD (l := m) (k := k) (by omega)) ?_
              walk_at "n"
              refine i_ix rfl (at_getD (l := l) (k := k) (by omega)) ?_
              walk_at "n"
              exact hN1 _ rfl
            rw [pair_zip hl]
            walk_at "n"
            have hz : (m.zip l).length = l.length := by simp [hl]
            refine i_extend rfl rfl (le_line (by rw [stD, stD, List.length_map, List.length_map, hz]; omega)) ?_
            rw [← stD_app]
            exact hN _ ⟨s0 ++ m.zip l, rfl, si.push hl (by simp) hnl (fun d hd => okA_mem (l := m) okx hd) hdl⟩
        | none => walk_at "n"; exact no (si.ne (by intro e; cases e))
        | bool _ => walk_at "n"; exact no (si.ne (by intro e; cases e))
        | int _ => walk_at "n"; exact no (si.ne (by intro e; cases e))
        | str _ => walk_at "n"; exact no (si.ne (by intro e; cases e))
        | dict _ => walk_at "n"; exact no (si.ne (by intro e; cases e))
        | list _ => walk_at "n"; exact no (si.ne (by intro e; cases e))
      | list l =>
        have hdl : ∀ d ∈ l, okD d = true ∧ noDct d = true := fun d hd => ⟨okA_mem (l := l) oky hd, noDctA_mem (l := l) okxy.2.2 hd⟩
        have hln : l.length ≤ nodesA l := lenA l
        have hnl : nodes (.list l) = 1 + nodesA l := by simp only [nodes]
        have hsum := si.nd
        rw [List.map_append, List.sum_append] at hsum
        simp only [List.map_cons, List.map_nil, List.sum_cons, List.sum_nil, hnl] at hsum
        walk_at "n"
        cases x with
        | list m =>
          walk_at "n"
          refine i_ifB (fun h => ?_) (fun h => ?_)
          · have hl : ¬ m.length = l.length := fun e => by simp [e] at h
            walk_at "n"
            exact no (si.ne fun e => by injection e with e; exact hl (by rw [e]))
          · have hl : m.length = l.length := by
              have : (m.length : Int) = l.length := by simpa using h
              omega
            walk_at "n"
            refine lcL_map (pairF m l) (le_line (by rw [rangeD_len]; omega)) (fun x hx N1 hN1 => ?_) ?_
            · obtain ⟨k, hk⟩ := List.mem_iff_getElem?.mp hx
              obtain ⟨rfl, hlt⟩ := rangeD_get hk
              have hp : pairF m l (.int (0 + (k : Nat))) = .tuple [m.getD k .none, l.getD k .none] := by
                simp only [pairF, show ((0 : Int) + (k : Nat)).toNat = k from by omega]
              rw [hp] at hN1
              rw [show (0 : Int) + (k : Nat) = (k : Nat) from Int.zero_add _] at hlt ⊢
              refine ⟨_, rfl, ?_⟩
              walk_at "n"
              refine i_ix rfl (at_getD (l := m) (k := k) (by omega)) ?_
              walk_at "n"
              refine i_ix rfl (at_getD (l := l) (k := k) (by omega)) ?_
              walk_at "n"
              exact hN1 _ rfl
            rw [pair_zip hl]
            walk_at "n"
            have hz : (m.zip l).length = l.length := by simp [hl]
            refine i_extend rfl rfl (le_line (by rw [stD, stD, List.length_map, List.length_map, hz]; omega)) ?_
            rw [← stD_app]
            exact hN _ ⟨s0 ++ m.zip l, rfl, si.push hl (by simp) hnl (fun d hd => okA_mem (l := m) okx hd) hdl⟩
        | none => walk_at "n"; exact no (si.ne (by intro e; cases e))
        | bool _ => walk_at "n"; exact no (si.ne (by intro e; cases e))
        | int _ => walk_at "n"; exact no (si.ne (by intro e; cases e))
        | str _ => walk_at "n"; exact no (si.ne (by intro e; cases e))
        | dict _ => walk_at "n"; exact no (si.ne (by intro e; cases e))
        | tuple _ => walk_at "n"; exact no (si.ne (by intro e; cases e))
      | bool v =>
        walk_at "n"
        cases x with
        | none => walk_at "n"; first | exact no (si.ne (by intro e; cases e)) | skip
        | bool u =>
          walk_at "n"
          refine i_ifB (fun h => ?_) (fun h => ?_)
          · have hne : ¬ u = v := by simpa using h
            walk_at "n"
            exact no (si.ne fun e => by injection e with e; exact hne e)
          · have he : u = v := by simpa using h
            walk_at "n"
            exact hN _ ⟨s0, rfl, si.drop (by rw [he]) rfl⟩
        | int u => walk_at "n"; first | exact no (si.ne (by intro e; cases e)) | skip
        | str u => walk_at "n"; first | exact no (si.ne (by intro e; cases e)) | skip
        | list _ => walk_at "n"; first | exact no (si.ne (by intro e; cases e)) | skip
        | tuple _ => walk_at "n"; first | exact no (si.ne (by intro e; cases e)) | skip
        | dict _ => walk_at "n"; first | exact no (si.ne (by intro e; cases e)) | skip
      | int v =>
        walk_at "n"
        refine ⟨x, rfl, okx, ?_⟩
        walk_at "n"
        cases x with
        | none => walk_at "n"; first | exact no (si.ne (by intro e; cases e)) | skip
        | bool u => walk_at "n"; first | exact no (si.ne (by intro e; cases e)) | skip
        | int u =>
          walk_at "n"
          refine i_ifB (fun h => ?_) (fun h => ?_)
          · have hne : ¬ u = v := by simpa using h
            walk_at "n"
            exact no (si.ne fun e => by injection e with e; exact hne e)
          · have he : u = v := by simpa using h
            walk_at "n"
            exact hN _ ⟨s0, rfl, si.drop (by rw [he]) rfl⟩
        | str u => walk_at "n"; first | exact no (si.ne (by intro e; cases e)) | skip
        | list _ => walk_at "n"; first | exact no (si.ne (by intro e; cases e)) | skip
        | tuple _ => walk_at "n"; first | exact no (si.ne (by intro e; cases e)) | skip
        | dict _ => walk_at "n"; first | exact no (si.ne (by intro e; cases e)) | skip
      | str v =>
        walk_at "n"
        cases x with
        | none => walk_at "n"; first | exact no (si.ne (by intro e; cases e)) | skip
        | bool u => walk_at "n"; first | exact no (si.ne (by intro e; cases e)) | skip
        | int u => walk_at "n"; first | exact no (si.ne (by intro e; cases e)) | skip
        | str u =>
          walk_at "n"
          refine i_ifB (fun h => ?_) (fun h => ?_)
          · have hne : ¬ u = v := by simpa using h
            walk_at "n"
            exact no (si.ne fun e => by injection e with e; exact hne e)
          · have he : u = v := by simpa using h
            walk_at "n"
            exact hN _ ⟨s0, rfl, si.drop (by rw [he]) rfl⟩
        | list _ => walk_at "n"; first | exact no (si.ne (by intro e; cases e)) | skip
        | tuple _ => walk_at "n"; first | exact no (si.ne (by intro e; cases e)) | skip
        | dict _ => walk_at "n"; first | exact no (si.ne (by intro e; cases e)) | skip
      | none =>
        walk_at "n"
        cases x with
        | none => walk_at "n"; exact hN _ ⟨s0, rfl, si.drop rfl rfl⟩
        | bool _ => walk_at "n"; exact no (si.ne (by intro e; cases e))
        | int _ => walk_at "n"; exact no (si.ne (by intro e; cases e))
        | str _ => walk_at "n"; exact no (si.ne (by intro e; cases e))
        | list _ => walk_at "n"; exact no (si.ne (by intro e; cases e))
        | tuple _ => walk_at "n"; exact no (si.ne (by intro e; cases e))
        | dict _ => walk_at "n"; exact no (si.ne (by intro e; cases e))
      | dict _ => cases okxy.2.2
  · obtain ⟨st, rfl, si⟩ := p
    have := si.nd
    exact absurd this (by omega)
end L3
/-! Texts as lists of codes. -/
namespace L3
open PySem PySem.Spec PyProof.Rows L2 PySem.SeqAt
abbrev cs (t : Str) : List Nat := t.cps.toList
def ofL (l : List Nat) : Str := ⟨l.toArray⟩
theorem cs_ofL (l : List Nat) : cs (ofL l) = l := by simp [cs, ofL]
theorem ofL_cs (t : Str) : ofL (cs t) = t := by simp [cs, ofL]
theorem len_cs (a : Str) : a.length = (cs a).length := by simp [Str.length]
theorem cs_app (a b : Str) : cs (a ++ b) = cs a ++ cs b := Array.toList_append
theorem cs_one (c : Nat) : cs ⟨#[c]⟩ = [c] := rfl
theorem cs_ext {a b : Str} (h : cs a = cs b) : a = b := by rw [← ofL_cs a, ← ofL_cs b, h]
theorem cut_mid (t : Str) (a b : Nat) : cutT t (some (a : Nat)) (some (b : Nat)) = ofL (((cs t).drop a).take (b - a)) := by
  unfold cutT cutS ofL
  rw [HT.sIx_nat, HT.sIx_nat, len_cs]
  congr 2
  simp only [cs]
  generalize t.cps.toList = l
  by_cases h : a ≤ l.length
  · rw [Nat.min_eq_left h]
    by_cases h2 : b ≤ l.length
    · rw [Nat.min_eq_left h2]
    · rw [Nat.min_eq_right (by omega), List.take_of_length_le (by rw [List.length_drop]; omega), List.take_of_length_le (by rw [List.length_drop]; omega)]
  · rw [Nat.min_eq_right (show l.length ≤ a by omega), List.drop_of_length_le (Nat.le_refl _), List.drop_of_length_le (by omega)]
    simp
theorem cut_to (t : Str) (b : Nat) : cutT t none (some (b : Nat)) = ofL ((cs t).take b) := by
  unfold cutT cutS ofL
  rw [HT.sIx_nat, HT.sIx_none, len_cs, List.drop_zero, Nat.sub_zero]
  congr 2
  simp only [cs]
  generalize t.cps.toList = l
  rw [← List.take_eq_take_min]
theorem cut_from (t : Str) (a : Nat) : cutT t (some (a : Nat)) none = ofL ((cs t).drop a) := by
  unfold cutT cutS ofL
  rw [HT.sIx_nat, HT.sIx_none, len_cs]
  congr 2
  simp only [cs]
  generalize t.cps.toList = l
  by_cases h : a ≤ l.length
  · rw [Nat.min_eq_left h, List.take_of_length_le (by rw [List.length_drop]; omega)]
  · rw [Nat.min_eq_right (by omega), List.drop_of_length_le (Nat.le_refl _), List.drop_of_length_le (by omega)]
    simp
theorem cs_mul (a : Str) (n : Int) : ∀ c, c ∈ cs (Txt.mul a n) → c ∈ cs a := by
  intro c h
  unfold Txt.mul at h
  split at h
  · cases h
  · split at h
    · exact h
    · have go : ∀ (k : Nat) (b : Array Nat), c ∈ ((List.replicate k a.cps).foldl (· ++ ·) b).toList → c ∈ b.toList ∨ c ∈ a.cps.toList := by
        intro k
        induction k with
        | zero => exact fun b h => .inl h
        | succ k ih =>
          intro b h
          rw [List.replicate_succ, List.foldl_cons] at h
          rcases ih _ h with h | h
          · rw [Array.toList_append] at h
            exact List.mem_append.mp h
          · exact .inr h
      rcases go _ _ h with h | h
      · cases h
      · exact h
theorem len_mul (a : Str) (n : Int) : (cs (Txt.mul a n)).length = (cs a).length * n.toNat := by
  have go : ∀ (k : Nat) (b : Array Nat), ((List.replicate k a.cps).foldl (· ++ ·) b).toList.length = b.toList.length + (cs a).length * k := by
    intro k
    induction k with
    | zero => intro b; rfl
    | succ k ih =>
      intro b
      rw [List.replicate_succ, List.foldl_cons, ih, Array.toList_append, List.length_append, Nat.mul_succ]
      simp only [cs]
      omega
  unfold Txt.mul
  split
  · rename_i h
    rw [show n.toNat = 0 by omega]
    rfl
  · split
    · rename_i h1 h
      rw [Bool.or_eq_true, beq_iff_eq, beq_iff_eq] at h
      rcases h with h | h
      · subst h; simp
      · rw [len_cs] at h
        rw [h]
        simp
    · show ((List.replicate n.toNat a.cps).foldl (· ++ ·) #[]).toList.length = _
      rw [go]
      simp
theorem in_any (t : Str) (c : Nat) : (!(Builtin.Str.occurrences t ⟨#[c]⟩ 0 t.length 1).isEmpty) = decide (c ∈ cs t) := PySem.StrLaws.found_one t c
section
variable {z : SS} {k : RV → Prop} {c : Nat} {t u : Str}
instance : Stp (sIn z (.d (.str ⟨#[c]⟩)) (.d (.str t)) k) (k (.d (.bool (decide (c ∈ cs t))))) := ⟨fun h => ⟨_, _, rfl, rfl, _, rfl, by rw [in_any]; exact h⟩⟩
instance : Stp (sNotIn z (.d (.str ⟨#[c]⟩)) (.d (.str t)) k) (k (.d (.bool (!decide (c ∈ cs t))))) := ⟨fun h => ⟨_, _, rfl, rfl, _, rfl, by rw [in_any]; exact h⟩⟩
theorem i_inC (e : u = ⟨#[c]⟩) (h : k (.d (.bool (decide (c ∈ cs t))))) : sIn z (.d (.str u)) (.d (.str t)) k := by
  subst e
  exact ⟨_, _, rfl, rfl, _, rfl, by rw [in_any]; exact h⟩
end
/-- the characters up to which a test holds -/
theorem takeW_of {p : Nat → Bool} : ∀ {l : List Nat} {k : Nat}, k ≤ l.length → (∀ c ∈ l.take k, p c = true) → (∀ c, l[k]? = some c → p c = false) → l.takeWhile p = l.take k
  | [], k, _, _, _ => by simp
  | c :: l, 0, _, _, h => by
    have := h c (by simp)
    rw [List.takeWhile_cons, this]
    rfl
  | c :: l, k + 1, hk, h1, h2 => by
    have hc : p c = true := h1 c (by simp)
    rw [List.takeWhile_cons, hc, List.take_succ_cons]
    simp only [if_true]
    rw [takeW_of (l := l) (k := k) (by simpa using hk) (fun d hd => h1 d (by rw [List.take_succ_cons]; exact List.mem_cons_of_mem _ hd)) fun d hd => h2 d (by simpa using hd)]
theorem takeW_len {p : Nat → Bool} (l : List Nat) : (l.takeWhile p).length ≤ l.length := (List.takeWhile_prefix p).length_le
theorem takeW_take {p : Nat → Bool} (l : List Nat) : l.takeWhile p = l.take (l.takeWhile p).length := by
  have := List.takeWhile_prefix (l := l) p
  exact List.prefix_iff_eq_take.mp this
theorem drop_cons {l : List Nat} {k c : Nat} {r : List Nat} (h : l.drop k = c :: r) : l[k]? = some c ∧ k < l.length ∧ l.drop (k + 1) = r := by
  have hk : k < l.length := by
    rcases Nat.lt_or_ge k l.length with h1 | h1
    · exact h1
    · rw [List.drop_of_length_le h1] at h; cases h
  rw [List.drop_eq_getElem_cons hk] at h
  injection h with h1 h2
  exact ⟨by rw [List.getElem?_eq_getElem hk, h1], hk, h2⟩
end L3
/-! A row is drawn; a word is drawn. -/
namespace L3
open PySem PySem.Spec PyProof.Rows L2 PySem.SeqAt
def p_law_pick : FS := fun as R => ∃ l rows, as = [.own l, .val (.list rows)] ∧ isStrm l ∧ rows ≠ [] ∧ rows.length ≤ 1000 ∧ ∀ d l', d ∈ rows → isStrm l' → R (.d d) (some l')
def Low (w : Str) : Prop := ∀ c ∈ cs w, lowC c = true
def p_law_word : FS := fun as R => ∃ l least most, as = [.own l, .val (.int least), .val (.int most)] ∧ isStrm l ∧ 0 ≤ least ∧ least ≤ most ∧ most ≤ 100 ∧ ∀ w l', least ≤ w.length → w.length ≤ most → Low w → isStrm l' → R (.d (.str w)) (some l')
theorem m_law_pick : MonoF p_law_pick := fun as R R' h ⟨a, b, c, d, e, f, k⟩ => ⟨a, b, c, d, e, f, fun x y u v => h _ _ (k x y u v)⟩
theorem l_law_pick : ∀ as R, p_law_pick as R → as.length = 2 := fun as R ⟨a, b, e, _⟩ => by rw [e]; rfl
theorem m_law_word : MonoF p_law_word := fun as R R' h ⟨a, b, c, d, e, f, g, i, k⟩ => ⟨a, b, c, d, e, f, g, i, fun x y u v w t => h _ _ (k x y u v w t)⟩
theorem l_law_word : ∀ as R, p_law_word as R → as.length = 3 := fun as R ⟨a, b, c, e, _⟩ => by rw [e]; rfl
/-- 0 stream, 1 rows -/
def w_law_pick : WS :=
(wRet (wBin sIx (wVar 1) (wFrz (wCall p_law_next (wCons (wVar 0) (wCons (wFrz (wCB (f1 sLen) (wCons (wVar 1) wNil))) wNil))))))
/-- 0 stream, 1 least, 2 most, 3 letters, 4 word, 5 at -/
def w_law_word : WS :=
(wSeq (wSet 3 (wC (.str "abcdefghijklmnopqrstuvwxyz")))
 (wSeq (wSet 4 (wC (.str "")))
 (wSeq (wFor (wRng1 (wCons (wBin sAdd (wVar 1) (wFrz (wCall p_law_next (wCons (wVar 0) (wCons (wBin sAdd (wBin sSub (wVar 2) (wVar 1)) (wC (.int 1))) wNil))))) wNil)) (gNm 5)
 (wKill [5] (wSet 4 (wBin sAdd (wVar 4) (wBin sIx (wVar 3) (wFrz (wCall p_law_next (wCons (wVar 0) (wCons (wC (.int 26)) wNil)))))))))
 (wRet (wVar 4)))))
local macro_rules | `(tactic| walk_at "w2") => `(tactic| first
  | (with_reducible refine' i_allM ?_) | (with_reducible refine' i_anyM ?_))
local macro_rules | `(tactic| walk_at "w3") => `(tactic| first
  | ((with_reducible refine' j_ix ?h1 ?_); (case h1 => rfl))
  | ((with_reducible refine' i_asgK ?h1 ?_); (case h1 => rfl); (dsimp only [List.set_cons_succ, List.set_cons_zero]))
  | ((with_reducible refine' i_srcK ?h1 ?_); (case h1 => rfl))
  | ((with_reducible refine' i_enmK ?h1 ?_); (case h1 => rfl))
  | ((with_reducible refine' i_evD ?h1 ?h2 ?_); (case h1 => rfl); (case h2 => (intro l e; cases e; done)))
  | ((with_reducible refine' i_isD ?h1 ?_); (case h1 => assumption))
  | ((with_reducible refine' i_len ?h1 ?_); (case h1 => rfl)) | ((with_reducible refine' i_list ?h1 ?_); (case h1 => rfl)) | ((with_reducible refine' i_tuple ?h1 ?_); (case h1 => rfl)) | ((with_reducible refine' i_slL ?h1 ?_); (case h1 => rfl))
  | ((with_reducible refine' i_rngD ?h1 ?h2 ?_); (case h1 => (first | omega | decide)); (case h2 => (first | omega | decide))) | ((with_reducible refine' i_rngD2 ?h1 ?_); (case h1 => (first | omega | decide)))
  | ((with_reducible refine' i_lrgP ?h1 ?_); (case h1 => (apply RgOk.of_le <;> omega)))
  | ((with_reducible refine' j_put ?h1 ?_); (case h1 => rfl))
  | ((with_reducible refine' i_mul ?h1 ?_); (case h1 => (first | exact .inr (by decide) | exact .inl (by decide)))) | ((with_reducible refine' i_mod ?h1 ?_); (case h1 => (first | omega | decide)))
  | ((with_reducible refine' i_fdiv ?h1 ?_); (case h1 => (first | exact ⟨by decide, by decide⟩ | exact ⟨by omega, by omega⟩))) | ((with_reducible refine' i_pow ?h1 ?_); (case h1 => exact pow_ok (by decide)))
  | ((with_reducible refine' i_ifT ?h1 ?_); (case h1 => (first | rfl | assumption | (simp [isA]; done)))) | ((with_reducible refine' i_ifF ?h1 ?_); (case h1 => (first | rfl | assumption | (simp [isA]; done))))
  | ((with_reducible refine' j_pop ?h1 ?_); (case h1 => rfl))
  | ((with_reducible refine' j_append ?h1 ?_); (case h1 => (first | (simp [sizeLine_eq]; done) | (apply lt_line; omega)))))
local macro_rules | `(tactic| walk_at "w") => `(tactic| (try dsimp only [List.set_cons_succ, List.set_cons_zero, killAll]); repeat' (first | (with_reducible refine' Run.imp ?_) | walk_at "w3" | walk_at "w2" | fail "open"))
local macro_rules | `(tactic| walk_at "w0") => `(tactic| refine start_en ?_; simp only [startS, hasOwn, List.map_cons, List.map_nil, List.length_cons, List.length_nil, List.cons_append, List.nil_append, List.replicate, Nat.reduceAdd, Nat.reduceSub, Nat.zero_add])
local macro_rules | `(tactic| walk_at "n") => `(tactic| walk_at "w")

theorem atI_lt {α : Type} {xs : List α} {i : Int} (h0 : 0 ≤ i) (h1 : i < xs.length) : ∃ x ∈ xs, atI xs i = some x := by
  obtain ⟨n, rfl⟩ := Int.eq_ofNat_of_zero_le h0
  have hn : n < xs.length := by omega
  exact ⟨xs[n], List.getElem_mem hn, atI_nat (List.getElem?_eq_getElem hn)⟩
theorem v_law_pick : ∀ as R, p_law_pick as R → w_law_pick (retEn (hasOwn as) R) (startS 2 as) := by
  rintro as R ⟨l, rows, rfl, hs, hne, hl, q⟩
  unfold w_law_pick
  walk_at "w0"
  walk_at "n"
  have : 0 < rows.length := List.length_pos_iff.mpr hne
  refine ⟨l, _, rfl, hs, by omega, by omega, fun d l' h0 h1 h2 => ?_⟩
  obtain ⟨x, hx, e⟩ := atI_lt h1 h2
  walk_at "n"
  refine i_ix rfl e ?_
  walk_at "n"
  exact q _ _ hx h0
theorem letters_at : ∀ n : Fin 26, ∃ c, atI (cs "abcdefghijklmnopqrstuvwxyz") (n : Nat) = some c ∧ c = 97 + (n : Nat) := by
  intro n
  refine ⟨97 + n, ?_, rfl⟩
  revert n
  decide
theorem letter_at {d : Int} (h0 : 0 ≤ d) (h1 : d < 26) : atI (cs "abcdefghijklmnopqrstuvwxyz") d = some (97 + d.toNat) := by
  obtain ⟨n, rfl⟩ := Int.eq_ofNat_of_zero_le h0
  obtain ⟨c, e, rfl⟩ := letters_at ⟨n, by omega⟩
  exact e
theorem v_law_word : ∀ as R, p_law_word as R → w_law_word (retEn (hasOwn as) R) (startS 6 as) := by
  rintro as R ⟨l, least, most, rfl, hs, h0, h1, h2, q⟩
  unfold w_law_word
  walk_at "w0"
  walk_at "n"
  refine ⟨l, _, rfl, hs, by omega, by omega, fun d l' hs' hd0 hd1 => ?_⟩
  walk_at "n"
  refine forR_inv (P := fun i z => ∃ w l', z = [some (.own (some 0) l'), some (.val (.int least)), some (.val (.int most)), some (.val (.str "abcdefghijklmnopqrstuvwxyz")), some (.val (.str w)), none] ∧ isStrm l' ∧ w.length = i ∧ Low w) (fun i z hi p N hN => ?_) (fun z p => ?_) ⟨"", l', rfl, hs', rfl, fun c hc => by cases hc⟩
  · obtain ⟨w, l2, rfl, hs2, hw, hlow⟩ := p
    walk_at "n"
    refine ⟨l2, _, rfl, hs2, by decide, by decide, fun d2 l3 hs3 h20 h21 => ?_⟩
    walk_at "n"
    refine i_ixS (le_line (by decide)) (letter_at h20 h21) ?_
    walk_at "n"
    have e1 : cs (w ++ (⟨#[97 + d2.toNat]⟩ : Str)) = cs w ++ [97 + d2.toNat] := cs_app w _
    have ew : (⟨#[97 + d2.toNat]⟩ : Str).length = 1 := rfl
    refine i_addS (le_line (by rw [hw, ew]; omega)) ?_
    walk_at "n"
    refine hN _ ⟨_, l3, rfl, hs3, ?_, fun c hc => ?_⟩
    · rw [len_cs, e1, List.length_append, ← len_cs, hw]
      rfl
    · rw [e1] at hc
      rcases List.mem_append.mp hc with h | h
      · exact hlow c h
      · simp at h
        simp only [h, lowC, Bool.and_eq_true, decide_eq_true_eq]
        omega
  · obtain ⟨w, l2, rfl, hs2, hw, hlow⟩ := p
    walk_at "n"
    exact q w l2 (by omega) (by omega) hlow hs2
end L3
/-! Rows of letters, names, tokens. -/
namespace L3
open PySem PySem.Spec PyProof.Rows L2 PySem.SeqAt
def inM (m : Str) (c : Nat) : Bool := decide (c ∈ cs m)
def p_check_text : FS := fun as R => ∃ t : Str, as = [.val (.str t)] ∧ (cs t).length ≤ 8000 ∧ 10 ∉ cs t ∧ R (.d .none) none
theorem m_check_text : MonoF p_check_text := fun as R R' h ⟨t, a, b, c, k⟩ => ⟨t, a, b, c, h _ _ k⟩
theorem l_check_text : ∀ as R, p_check_text as R → as.length = 1 := fun as R ⟨a, e, _⟩ => by rw [e]; rfl
def p_row_at : FS := fun as R => ∃ (t : Str) (at' : Nat) (m : Str), as = [.val (.str t), .val (.int (at' : Nat)), .val (.str m)] ∧ at' ≤ (cs t).length ∧ (cs t).length ≤ 10000 ∧ R (.d (.str (ofL (((cs t).drop at').takeWhile (inM m))))) none
theorem m_row_at : MonoF p_row_at := fun as R R' h ⟨t, a, b, c, d, e, k⟩ => ⟨t, a, b, c, d, e, h _ _ k⟩
theorem l_row_at : ∀ as R, p_row_at as R → as.length = 3 := fun as R ⟨a, _, _, e, _⟩ => by rw [e]; rfl
def p_law_run : FS := fun as R => ∃ (t : Str) (at' : Nat) (m : Str), as = [.val (.str t), .val (.int (at' : Nat)), .val (.str m)] ∧ at' ≤ (cs t).length ∧ (cs t).length ≤ 10000 ∧ R (.d (.int ((at' + (((cs t).drop at').takeWhile (inM m)).length : Nat)))) none
theorem m_law_run : MonoF p_law_run := fun as R R' h ⟨t, a, b, c, d, e, k⟩ => ⟨t, a, b, c, d, e, h _ _ k⟩
theorem l_law_run : ∀ as R, p_law_run as R → as.length = 3 := fun as R ⟨a, _, _, e, _⟩ => by rw [e]; rfl
/-- 0 text -/
def w_check_text : WS :=
(wIfS (wOr (wNot (wTest (wIsa "str" (wVar 0)))) (wOr (wTest (wBin sGt (wFrz (wCB (f1 sLen) (wCons (wVar 0) wNil))) (wC (.int 8000)))) (wTest (wBin sIn (wC (.str "\n")) (wVar 0)))))
 (fun _ _ => False)
 wNext)
/-- 0 text, 1 at, 2 letters, 3 end -/
def w_row_at : WS :=
(wSeq (wSet 3 (wVar 1))
 (wSeq (wWhile (wAnd (wTest (wBin sLt (wVar 3) (wFrz (wCB (f1 sLen) (wCons (wVar 0) wNil))))) (wTest (wBin sIn (wBin sIx (wVar 0) (wVar 3)) (wVar 2))))
 (wSet 3 (wBin sAdd (wVar 3) (wC (.int 1)))))
 (wRetR (wSl (wVar 0) (wPart (wVar 1)) (wPart (wVar 3))))))
/-- 0 text, 1 at, 2 letters, 3 place -/
def w_law_run : WS :=
(wSeq (wFor (wRng2 (wCons (wVar 1) (wCons (wFrz (wCB (f1 sLen) (wCons (wVar 0) wNil))) wNil))) (gNm 3)
 (wKill [3] (wIfS (wTest (wBin sNotIn (wBin sIx (wVar 0) (wVar 3)) (wVar 2)))
 (wRet (wVar 3))
 wNext)))
 (wRet (wFrz (wCB (f1 sLen) (wCons (wVar 0) wNil)))))
local macro_rules | `(tactic| walk_at "w2") => `(tactic| first
  | (with_reducible refine' i_allM ?_) | (with_reducible refine' i_anyM ?_))
local macro_rules | `(tactic| walk_at "w3") => `(tactic| first
  | ((with_reducible refine' j_ix ?h1 ?_); (case h1 => rfl))
  | ((with_reducible refine' i_asgK ?h1 ?_); (case h1 => rfl); (dsimp only [List.set_cons_succ, List.set_cons_zero]))
  | ((with_reducible refine' i_srcK ?h1 ?_); (case h1 => rfl))
  | ((with_reducible refine' i_enmK ?h1 ?_); (case h1 => rfl))
  | ((with_reducible refine' i_evD ?h1 ?h2 ?_); (case h1 => rfl); (case h2 => (intro l e; cases e; done)))
  | ((with_reducible refine' i_isD ?h1 ?_); (case h1 => assumption))
  | ((with_reducible refine' i_len ?h1 ?_); (case h1 => rfl)) | ((with_reducible refine' i_list ?h1 ?_); (case h1 => rfl)) | ((with_reducible refine' i_tuple ?h1 ?_); (case h1 => rfl)) | ((with_reducible refine' i_slL ?h1 ?_); (case h1 => rfl))
  | ((with_reducible refine' i_rngD ?h1 ?h2 ?_); (case h1 => (first | omega | decide)); (case h2 => (first | omega | decide))) | ((with_reducible refine' i_rngD2 ?h1 ?_); (case h1 => (first | omega | decide)))
  | ((with_reducible refine' i_lrgP ?h1 ?_); (case h1 => (apply RgOk.of_le <;> omega)))
  | ((with_reducible refine' j_put ?h1 ?_); (case h1 => rfl))
  | ((with_reducible refine' i_mul ?h1 ?_); (case h1 => (first | exact .inr (by decide) | exact .inl (by decide)))) | ((with_reducible refine' i_mod ?h1 ?_); (case h1 => (first | omega | decide)))
  | ((with_reducible refine' i_fdiv ?h1 ?_); (case h1 => (first | exact ⟨by decide, by decide⟩ | exact ⟨by omega, by omega⟩))) | ((with_reducible refine' i_pow ?h1 ?_); (case h1 => exact pow_ok (by decide)))
  | ((with_reducible refine' i_ifT ?h1 ?_); (case h1 => (first | rfl | assumption | (simp [isA]; done)))) | ((with_reducible refine' i_ifF ?h1 ?_); (case h1 => (first | rfl | assumption | (simp [isA]; done))))
  | ((with_reducible refine' j_pop ?h1 ?_); (case h1 => rfl))
  | ((with_reducible refine' j_append ?h1 ?_); (case h1 => (first | (simp [sizeLine_eq]; done) | (apply lt_line; omega)))))
local macro_rules | `(tactic| walk_at "w") => `(tactic| (try dsimp only [List.set_cons_succ, List.set_cons_zero, killAll]); repeat' (first | (with_reducible refine' Run.imp ?_) | walk_at "w3" | walk_at "w2" | fail "open"))
local macro_rules | `(tactic| walk_at "w0") => `(tactic| refine start_en ?_; simp only [startS, hasOwn, List.map_cons, List.map_nil, List.length_cons, List.length_nil, List.cons_append, List.nil_append, List.replicate, Nat.reduceAdd, Nat.reduceSub, Nat.zero_add])
local macro_rules | `(tactic| walk_at "n") => `(tactic| walk_at "w")

theorem v_check_text : ∀ as R, p_check_text as R → w_check_text (retEn (hasOwn as) R) (startS 1 as) := by
  rintro as R ⟨t, rfl, hl, hn, q⟩
  unfold w_check_text
  walk_at "w0"
  walk_at "n"
  refine i_lenS (le_line (by rw [len_cs]; omega)) ?_
  walk_at "n"
  rw [decide_eq_false (show ¬ (8000 : Int) < t.length by rw [len_cs]; omega)]
  walk_at "n"
  refine i_inC (c := 10) rfl ?_
  rw [decide_eq_false hn]
  walk_at "n"
  exact q
theorem atI_cs {t : Str} {i c : Nat} (h : (cs t)[i]? = some c) : atI t.cps.toList (i : Nat) = some c := atI_nat h
theorem v_row_at : ∀ as R, p_row_at as R → w_row_at (retEn (hasOwn as) R) (startS 4 as) := by
  rintro as R ⟨t, a, m, rfl, ha, hl, q⟩
  unfold w_row_at
  walk_at "w0"
  walk_at "n"
  have hlt : t.length = (cs t).length := len_cs t
  refine ⟨fun k z => ∃ e : Nat, a ≤ e ∧ e ≤ (cs t).length ∧ k = (cs t).length - e ∧ (∀ c ∈ ((cs t).drop a).take (e - a), inM m c = true) ∧ z = [some (.val (.str t)), some (.val (.int (a : Nat))), some (.val (.str m)), some (.val (.int (e : Nat)))],
    ⟨_, a, Nat.le_refl _, ha, rfl, by simp, rfl⟩, ?_⟩
  rintro k z ⟨e, h1, h2, rfl, h3, rfl⟩
  walk_at "n"
  refine i_lenS (le_line (by omega)) ?_
  walk_at "n"
  have fin : (∀ c, (cs t)[e]? = some c → inM m c = false) → ((cs t).drop a).takeWhile (inM m) = ((cs t).drop a).take (e - a) := fun h =>
    takeW_of (by rw [List.length_drop]; omega) h3 fun c hc => h c (by rw [List.getElem?_drop, show a + (e - a) = e by omega] at hc; exact hc)
  have out : (∀ c, (cs t)[e]? = some c → inM m c = false) → rtK false R (.d (.str (cutT t (some ((a : Nat) : Int)) (some ((e : Nat) : Int))))) [some (.val (.str t)), some (.val (.int (a : Nat))), some (.val (.str m)), some (.val (.int (e : Nat)))] := fun h => by
    rw [cut_mid, ← fin h]
    walk_at "n"
    exact q
  refine i_ifD (fun h => ?_) (fun h => ?_)
  · have he : e < (cs t).length := by omega
    obtain ⟨c, hc⟩ : ∃ c, (cs t)[e]? = some c := ⟨_, List.getElem?_eq_getElem he⟩
    walk_at "n"
    refine i_ixS (le_line (by omega)) (atI_cs hc) ?_
    walk_at "n"
    refine i_ifD (fun h4 => ?_) (fun h4 => ?_)
    · walk_at "n"
      refine ⟨(cs t).length - (e + 1), by omega, e + 1, by omega, by omega, rfl, fun d hd => ?_, rfl⟩
      rw [show e + 1 - a = (e - a) + 1 by omega, List.take_add_one] at hd
      rcases List.mem_append.mp hd with hd | hd
      · exact h3 d hd
      · rw [List.getElem?_drop, show a + (e - a) = e by omega, hc] at hd
        have : d = c := by simpa using hd
        subst this
        exact decide_eq_true h4
    · walk_at "n"
      refine i_slS (le_line (by omega)) ?_
      exact out fun c' hc' => by rw [hc] at hc'; cases hc'; exact decide_eq_false h4
  · walk_at "n"
    refine i_slS (le_line (by omega)) ?_
    exact out fun c' hc' => absurd (List.getElem?_eq_some_iff.mp hc').1 (by omega)
theorem v_law_run : ∀ as R, p_law_run as R → w_law_run (retEn (hasOwn as) R) (startS 4 as) := by
  rintro as R ⟨t, a, m, rfl, ha, hl, q⟩
  unfold w_law_run
  walk_at "w0"
  walk_at "n"
  have hlt : t.length = (cs t).length := len_cs t
  refine i_lenS (le_line (by omega)) ?_
  walk_at "n"
  refine forR_inv (P := fun i z => a + i ≤ (cs t).length ∧ (∀ c ∈ ((cs t).drop a).take i, inM m c = true) ∧ z = [some (.val (.str t)), some (.val (.int (a : Nat))), some (.val (.str m)), none]) (fun i z hi p N hN => ?_) (fun z p => ?_) ⟨by omega, by simp, rfl⟩
  · obtain ⟨h1, h2, rfl⟩ := p
    have he : a + i < (cs t).length := by omega
    obtain ⟨c, hc⟩ : ∃ c, (cs t)[a + i]? = some c := ⟨_, List.getElem?_eq_getElem he⟩
    walk_at "n"
    refine i_ixS (le_line (by omega)) (show atI t.cps.toList ((a : Nat) + (i : Nat)) = some c from atI_cs hc) ?_
    walk_at "n"
    refine i_ifB (fun h4 => ?_) (fun h4 => ?_)
    · have h5 : inM m c = false := by simpa [inM] using h4
      walk_at "n"
      rw [takeW_of (k := i) (by rw [List.length_drop]; omega) h2 fun d hd => by
        rw [List.getElem?_drop, hc] at hd
        cases hd
        exact h5, List.length_take, List.length_drop, Nat.min_eq_left (by omega)] at q
      exact q
    · have h5 : inM m c = true := by simpa [inM] using h4
      walk_at "n"
      refine hN _ ⟨by omega, fun d hd => ?_, rfl⟩
      rw [List.take_add_one] at hd
      rcases List.mem_append.mp hd with hd | hd
      · exact h2 d hd
      · rw [List.getElem?_drop, hc] at hd
        have : d = c := by simpa using hd
        subst this
        exact h5
  · obtain ⟨h1, h2, rfl⟩ := p
    have e : ((t.length : Int) - (a : Nat)).toNat = (cs t).length - a := by omega
    rw [e] at h2
    walk_at "n"
    refine i_lenS (le_line (by omega)) ?_
    walk_at "n"
    rw [takeW_of (k := (cs t).length - a) (by rw [List.length_drop]; omega) h2 fun d hd => by
        rw [List.getElem?_drop] at hd
        exact absurd (List.getElem?_eq_some_iff.mp hd).1 (by omega), List.length_take, List.length_drop, Nat.min_eq_left (by omega), show a + ((cs t).length - a) = t.length by omega] at q
    exact q
end L3

/-! Tokens. -/
namespace L3
open PySem PySem.Spec PyProof.Rows L2 PySem.SeqAt
section
variable {g : GS} {t : WS} {N : SS → Prop} {rt : RV → SS → Prop} {bk ct : SS → Prop} {x : D} {xs : List D} {z z1 : SS}
instance [q : Tg g x z z1] : Stp (wForL g t ⟨N, rt, bk, ct⟩ (x :: xs) z) (t ⟨fun z' => wForL g t ⟨N, rt, bk, ct⟩ xs z', rt, N, fun z' => wForL g t ⟨N, rt, bk, ct⟩ xs z'⟩ z1) := ⟨fun h => ⟨z1, q.e, h⟩⟩
instance : Stp (wForL g t ⟨N, rt, bk, ct⟩ [] z) (N z) := ⟨fun h => h⟩
end
def upC (c : Nat) : Bool := decide (65 ≤ c) && decide (c ≤ 90)
def digC (c : Nat) : Bool := decide (48 ≤ c) && decide (c ≤ 57)
def sglC (c : Nat) : Bool := decide (c ∈ [40, 41, 44, 59, 58, 61, 124, 35])
/-- a token's kind and its length, or the words of its problem -/
def tok (c : Nat) (r : List Nat) : Sum (Str × Nat) Str :=
  if lowC c then (if 8 < (r.takeWhile lowC).length + 1 then .inr "a name has at most 8 letters" else .inl (if (r.takeWhile lowC).length + 1 = 1 then "variable" else "constructor", (r.takeWhile lowC).length + 1))
  else if upC c then (if 8 < (r.takeWhile lowC).length + 1 then .inr "a name has at most 8 letters" else .inl ("generic", (r.takeWhile lowC).length + 1))
  else if digC c then (if 6 < (r.takeWhile digC).length + 1 then .inr "a number has at most 6 digits" else .inl ("number", (r.takeWhile digC).length + 1))
  else if c = 46 ∧ r.head? = some 46 then .inl ("sign", 2)
  else if sglC c then .inl ("sign", 1)
  else .inr "no token begins here"
def tokD (t : Str) (a : Nat) (k : Str) (n : Nat) : D := .tuple [.str k, .str (ofL (((cs t).drop a).take n)), .int ((a : Nat) + 1)]
def badX (a : Nat) (w : Str) : Xn := ⟨"TextError", [("words", .str w), ("column", .int ((a : Nat) + 1))]⟩
theorem inM_low : inM "abcdefghijklmnopqrstuvwxyz" = lowC := by
  funext c
  exact low_mem c
theorem inM_up : inM "ABCDEFGHIJKLMNOPQRSTUVWXYZ" = upC := by
  funext c
  show decide (c ∈ [65, 66, 67, 68, 69, 70, 71, 72, 73, 74, 75, 76, 77, 78, 79, 80, 81, 82, 83, 84, 85, 86, 87, 88, 89, 90]) = upC c
  rw [upC, ← Bool.decide_and]
  refine decide_eq_decide.mpr ?_
  simp only [List.mem_cons, List.not_mem_nil, or_false]
  omega
theorem inM_dig : inM "0123456789" = digC := by
  funext c
  show decide (c ∈ [48, 49, 50, 51, 52, 53, 54, 55, 56, 57]) = digC c
  rw [digC, ← Bool.decide_and]
  refine decide_eq_decide.mpr ?_
  simp only [List.mem_cons, List.not_mem_nil, or_false]
  omega
theorem dec_low (c : Nat) : decide (c ∈ cs "abcdefghijklmnopqrstuvwxyz") = lowC c := congrFun inM_low c
theorem dec_up (c : Nat) : decide (c ∈ cs "ABCDEFGHIJKLMNOPQRSTUVWXYZ") = upC c := congrFun inM_up c
theorem dec_dig (c : Nat) : decide (c ∈ cs "0123456789") = digC c := congrFun inM_dig c
theorem low_not_up {c : Nat} (h : upC c = true) : lowC c = false := by
  simp only [upC, lowC, Bool.and_eq_true, decide_eq_true_eq, Bool.and_eq_false_iff, decide_eq_false_iff_not] at h ⊢
  omega
theorem take_tw {p : Nat → Bool} (c : Nat) (r : List Nat) : (c :: r).take ((r.takeWhile p).length + 1) = c :: r.takeWhile p := by
  rw [List.take_succ_cons, ← takeW_take]
def pTok (p : Nat → Bool) : FSX := fun as R E => ∃ (t : Str) (a c : Nat) (r : List Nat), as = [.val (.str t), .val (.int (a : Nat))] ∧ (cs t).length ≤ 10000 ∧ (cs t).drop a = c :: r ∧ p c = true ∧ (∀ k n, tok c r = .inl (k, n) → R (.d (tokD t a k n)) none) ∧ ∀ w, tok c r = .inr w → E (badX a w) none
def p_name_at : FSX := pTok fun c => lowC c || upC c
def p_token_at : FSX := pTok fun _ => true
theorem pTok_mono (p : Nat → Bool) : MonoX (pTok p) := fun as R R' E E' h g ⟨t, a, c, r, e, l, d, s, k1, k2⟩ => ⟨t, a, c, r, e, l, d, s, fun k n q => h _ _ (k1 k n q), fun w q => g _ _ (k2 w q)⟩
theorem m_name_at : MonoX p_name_at := pTok_mono _
theorem m_token_at : MonoX p_token_at := pTok_mono _
theorem l_name_at : ∀ as R E, p_name_at as R E → as.length = 2 := fun as R E ⟨t, a, c, r, e, _⟩ => by rw [e]; rfl
theorem l_token_at : ∀ as R E, p_token_at as R E → as.length = 2 := fun as R E ⟨t, a, c, r, e, _⟩ => by rw [e]; rfl
/-- 0 text, 1 at, 2 name, 3 kind -/
def w_name_at (W : XC) : WS :=
(wSeq (wIfS (wTest (wBin sIn (wBin sIx (wVar 0) (wVar 1)) (wC (.str "ABCDEFGHIJKLMNOPQRSTUVWXYZ"))))
 (wSeq (wSet 2 (wBin sAdd (wBin sIx (wVar 0) (wVar 1)) (wFrz (wCall p_row_at (wCons (wVar 0) (wCons (wBin sAdd (wVar 1) (wC (.int 1))) (wCons (wC (.str "abcdefghijklmnopqrstuvwxyz")) wNil)))))))
 (wSet 3 (wC (.str "generic"))))
 (wSeq (wSet 2 (wFrz (wCall p_row_at (wCons (wVar 0) (wCons (wVar 1) (wCons (wC (.str "abcdefghijklmnopqrstuvwxyz")) wNil))))))
 (wSet 3 (wIf (wTest (wBin sEq (wFrz (wCB (f1 sLen) (wCons (wVar 2) wNil))) (wC (.int 1)))) (wC (.str "variable")) (wC (.str "constructor"))))))
 (wSeq (wIfS (wTest (wBin sGt (wFrz (wCB (f1 sLen) (wCons (wVar 2) wNil))) (wC (.int 8))))
 (wRaise W "TextError" ["column", "words"] (wCons (wBin sAdd (wVar 1) (wC (.int 1))) (wCons (wC (.str "a name has at most 8 letters")) wNil)))
 wNext)
 (wRet (wTup (wCons (wVar 3) (wCons (wVar 2) (wCons (wBin sAdd (wVar 1) (wC (.int 1))) wNil)))))))
/-- 0 text, 1 at, 2 number, 3 sign -/
def w_token_at (W : XC) : WS :=
(wSeq (wIfS (wOr (wTest (wBin sIn (wBin sIx (wVar 0) (wVar 1)) (wC (.str "abcdefghijklmnopqrstuvwxyz")))) (wTest (wBin sIn (wBin sIx (wVar 0) (wVar 1)) (wC (.str "ABCDEFGHIJKLMNOPQRSTUVWXYZ")))))
 (wRetR (wCallX W p_name_at (wCons (wVar 0) (wCons (wVar 1) wNil))))
 wNext)
 (wSeq (wIfS (wTest (wBin sIn (wBin sIx (wVar 0) (wVar 1)) (wC (.str "0123456789"))))
 (wSeq (wSet 2 (wFrz (wCall p_row_at (wCons (wVar 0) (wCons (wVar 1) (wCons (wC (.str "0123456789")) wNil))))))
 (wSeq (wIfS (wTest (wBin sGt (wFrz (wCB (f1 sLen) (wCons (wVar 2) wNil))) (wC (.int 6))))
 (wRaise W "TextError" ["column", "words"] (wCons (wBin sAdd (wVar 1) (wC (.int 1))) (wCons (wC (.str "a number has at most 6 digits")) wNil)))
 wNext)
 (wRet (wTup (wCons (wC (.str "number")) (wCons (wVar 2) (wCons (wBin sAdd (wVar 1) (wC (.int 1))) wNil)))))))
 wNext)
 (wSeq (wFor (wSrc (wC (.tuple [.str "(", .str ")", .str ",", .str ";", .str ":", .str "=", .str "|", .str "..", .str "#"]))) (gNm 3)
 (wKill [3] (wIfS (wTest (wBin sEq (wFrz (wSl (wVar 0) (wPart (wVar 1)) (wPart (wBin sAdd (wVar 1) (wFrz (wCB (f1 sLen) (wCons (wVar 3) wNil))))))) (wVar 3)))
 (wRet (wTup (wCons (wC (.str "sign")) (wCons (wVar 3) (wCons (wBin sAdd (wVar 1) (wC (.int 1))) wNil)))))
 wNext)))
 (wRaise W "TextError" ["column", "words"] (wCons (wBin sAdd (wVar 1) (wC (.int 1))) (wCons (wC (.str "no token begins here")) wNil))))))

local macro_rules | `(tactic| walk_at "w2") => `(tactic| first
  | (with_reducible refine' i_allM ?_) | (with_reducible refine' i_anyM ?_))
local macro_rules | `(tactic| walk_at "w3") => `(tactic| first
  | ((with_reducible refine' j_ix ?h1 ?_); (case h1 => rfl))
  | ((with_reducible refine' i_asgK ?h1 ?_); (case h1 => rfl); (dsimp only [List.set_cons_succ, List.set_cons_zero]))
  | ((with_reducible refine' i_srcK ?h1 ?_); (case h1 => rfl))
  | ((with_reducible refine' i_enmK ?h1 ?_); (case h1 => rfl))
  | ((with_reducible refine' i_evD ?h1 ?h2 ?_); (case h1 => rfl); (case h2 => (intro l e; cases e; done)))
  | ((with_reducible refine' i_isD ?h1 ?_); (case h1 => assumption))
  | ((with_reducible refine' i_len ?h1 ?_); (case h1 => rfl)) | ((with_reducible refine' i_list ?h1 ?_); (case h1 => rfl)) | ((with_reducible refine' i_tuple ?h1 ?_); (case h1 => rfl)) | ((with_reducible refine' i_slL ?h1 ?_); (case h1 => rfl))
  | ((with_reducible refine' i_rngD ?h1 ?h2 ?_); (case h1 => (first | omega | decide)); (case h2 => (first | omega | decide))) | ((with_reducible refine' i_rngD2 ?h1 ?_); (case h1 => (first | omega | decide)))
  | ((with_reducible refine' i_lrgP ?h1 ?_); (case h1 => (apply RgOk.of_le <;> omega)))
  | ((with_reducible refine' j_put ?h1 ?_); (case h1 => rfl))
  | ((with_reducible refine' i_mul ?h1 ?_); (case h1 => (first | exact .inr (by decide) | exact .inl (by decide)))) | ((with_reducible refine' i_mod ?h1 ?_); (case h1 => (first | omega | decide)))
  | ((with_reducible refine' i_fdiv ?h1 ?_); (case h1 => (first | exact ⟨by decide, by decide⟩ | exact ⟨by omega, by omega⟩))) | ((with_reducible refine' i_pow ?h1 ?_); (case h1 => exact pow_ok (by decide)))
  | ((with_reducible refine' i_ifT ?h1 ?_); (case h1 => (first | rfl | assumption | (simp [isA]; done)))) | ((with_reducible refine' i_ifF ?h1 ?_); (case h1 => (first | rfl | assumption | (simp [isA]; done))))
  | ((with_reducible refine' j_pop ?h1 ?_); (case h1 => rfl))
  | ((with_reducible refine' j_append ?h1 ?_); (case h1 => (first | (simp [sizeLine_eq]; done) | (apply lt_line; omega)))))
local macro_rules | `(tactic| walk_at "w") => `(tactic| (try dsimp only [List.set_cons_succ, List.set_cons_zero, killAll]); repeat' (first | (with_reducible refine' Run.imp ?_) | walk_at "w3" | walk_at "w2" | fail "open"))
local macro_rules | `(tactic| walk_at "w0") => `(tactic| refine start_en ?_; simp only [startS, hasOwn, List.map_cons, List.map_nil, List.length_cons, List.length_nil, List.cons_append, List.nil_append, List.replicate, Nat.reduceAdd, Nat.reduceSub, Nat.zero_add])
local macro_rules | `(tactic| walk_at "n") => `(tactic| walk_at "w")

theorem v_name_at : ∀ as R E, p_name_at as R E → w_name_at (retX (hasOwn as) E) (retEn (hasOwn as) R) (startS 4 as) := by
  rintro as R E ⟨t, a, c, r, rfl, hl, hd, hp, q1, q2⟩
  obtain ⟨hc, ha, hr⟩ := drop_cons hd
  have hlt : t.length = (cs t).length := len_cs t
  unfold w_name_at
  walk_at "w0"
  walk_at "n"
  refine i_ixS (le_line (by omega)) (atI_cs hc) ?_
  walk_at "n"
  have hbig : (r.takeWhile lowC).length ≤ 10000 := by
    have := takeW_len (p := lowC) r
    have : r.length ≤ (cs t).length := by rw [← hr, List.length_drop]; omega
    omega
  have fin : ∀ (k : Str), (tok c r = if 8 < (r.takeWhile lowC).length + 1 then .inr "a name has at most 8 letters" else .inl (k, (r.takeWhile lowC).length + 1)) →
      ∀ (s : Str), cs s = c :: r.takeWhile lowC → (if decide ((8 : Int) < (s.length : Nat)) = true then
        (wRaise (retX false E) "TextError" ["column", "words"] (wCons (wBin sAdd (wVar 1) (wC (.int 1))) (wCons (wC (.str "a name has at most 8 letters")) wNil))) ⟨fun z' => wRet (wTup (wCons (wVar 3) (wCons (wVar 2) (wCons (wBin sAdd (wVar 1) (wC (.int 1))) wNil)))) ⟨nxK false R, rtK false R, fun _ => False, fun _ => False⟩ z', rtK false R, fun _ => False, fun _ => False⟩ [some (.val (.str t)), some (.val (.int (a : Nat))), some (.val (.str s)), some (.val (.str k))]
      else wNext ⟨fun z' => wRet (wTup (wCons (wVar 3) (wCons (wVar 2) (wCons (wBin sAdd (wVar 1) (wC (.int 1))) wNil)))) ⟨nxK false R, rtK false R, fun _ => False, fun _ => False⟩ z', rtK false R, fun _ => False, fun _ => False⟩ [some (.val (.str t)), some (.val (.int (a : Nat))), some (.val (.str s)), some (.val (.str k))]) := by
    intro k hk s hs
    have hsl : s.length = (r.takeWhile lowC).length + 1 := by rw [len_cs, hs, List.length_cons]
    refine i_ifD (fun h => ?_) (fun h => ?_)
    · rw [if_pos (show 8 < (r.takeWhile lowC).length + 1 by omega)] at hk
      walk_at "n"
      exact q2 _ hk
    · rw [if_neg (show ¬ 8 < (r.takeWhile lowC).length + 1 by omega)] at hk
      walk_at "n"
      have := q1 _ _ hk
      unfold tokD at this
      rw [hd, take_tw, ← hs, ofL_cs] at this
      exact this
  rw [dec_up]
  refine i_ifB (fun h => ?_) (fun h => ?_)
  · walk_at "n"
    refine i_ixS (le_line (by omega)) (atI_cs hc) ?_
    walk_at "n"
    refine ⟨t, a + 1, _, rfl, by omega, hl, ?_⟩
    rw [hr, inM_low]
    walk_at "n"
    have e2 : cs ((⟨#[c]⟩ : Str) ++ ofL (r.takeWhile lowC)) = c :: r.takeWhile lowC := by rw [cs_app, cs_ofL]; rfl
    have e1 : (ofL (r.takeWhile lowC)).length = (r.takeWhile lowC).length := by rw [len_cs, cs_ofL]
    refine i_addS (le_line (by rw [e1]; show 1 + _ ≤ _; omega)) ?_
    walk_at "n"
    refine i_lenS (le_line (by rw [len_cs, e2, List.length_cons]; omega)) ?_
    walk_at "n"
    refine fin "generic" ?_ _ e2
    unfold tok
    rw [low_not_up h, h]
    rfl
  · have hlo : lowC c = true := by
      have hp' : (lowC c || upC c) = true := hp
      rw [h, Bool.or_false] at hp'
      exact hp'
    walk_at "n"
    refine ⟨t, a, _, rfl, by omega, hl, ?_⟩
    rw [hd, inM_low, List.takeWhile_cons, hlo]
    simp only [if_true]
    walk_at "n"
    have e2 : cs (ofL (c :: r.takeWhile lowC)) = c :: r.takeWhile lowC := cs_ofL _
    have e3 : (ofL (c :: r.takeWhile lowC)).length = (r.takeWhile lowC).length + 1 := by rw [len_cs, e2, List.length_cons]
    refine i_lenS (le_line (by rw [e3]; omega)) ?_
    walk_at "n"
    have ht : tok c r = if 8 < (r.takeWhile lowC).length + 1 then .inr "a name has at most 8 letters" else .inl (if (r.takeWhile lowC).length + 1 = 1 then "variable" else "constructor", (r.takeWhile lowC).length + 1) := by
      unfold tok
      rw [hlo]
      rfl
    refine i_ifD (fun h => ?_) (fun h => ?_)
    · walk_at "n"
      refine i_lenS (le_line (by rw [e3]; omega)) ?_
      walk_at "n"
      rw [if_pos (show (r.takeWhile lowC).length + 1 = 1 by omega)] at ht
      exact fin "variable" ht _ e2
    · walk_at "n"
      refine i_lenS (le_line (by rw [e3]; omega)) ?_
      walk_at "n"
      rw [if_neg (show ¬ (r.takeWhile lowC).length + 1 = 1 by omega)] at ht
      exact fin "constructor" ht _ e2
theorem up_nd {c : Nat} (h : digC c = true) : lowC c = false ∧ upC c = false := by
  simp only [digC, upC, lowC, Bool.and_eq_true, decide_eq_true_eq, Bool.and_eq_false_iff, decide_eq_false_iff_not] at h ⊢
  omega
theorem sgn_iff (t s : Str) (a : Nat) : cutT t (some ((a : Nat) : Int)) (some (((a : Nat) : Int) + (s.length : Nat))) = s ↔ ((cs t).drop a).take (cs s).length = cs s := by
  rw [show (((a : Nat) : Int) + (s.length : Nat)) = ((a + s.length : Nat) : Int) from rfl, cut_mid, len_cs, Nat.add_sub_cancel_left]
  constructor
  · intro h
    have := congrArg cs h
    rwa [cs_ofL] at this
  · intro h
    rw [h, ofL_cs]
local macro_rules | `(tactic| walk_at "sg") => `(tactic| (refine i_lenS (le_line (by decide)) ?_; walk_at "n"; refine i_slS (le_line (by omega)) ?_; walk_at "n"; refine i_ifD ?_ ?_))
theorem v_token_at : ∀ as R E, p_token_at as R E → w_token_at (retX (hasOwn as) E) (retEn (hasOwn as) R) (startS 4 as) := by
  rintro as R E ⟨t, a, c, r, rfl, hl, hd, _, q1, q2⟩
  obtain ⟨hc, ha, hr⟩ := drop_cons hd
  have hlt : t.length = (cs t).length := len_cs t
  unfold w_token_at
  walk_at "w0"
  walk_at "n"
  refine i_ixS (le_line (by omega)) (atI_cs hc) ?_
  walk_at "n"
  have name : ∀ N, (lowC c || upC c) = true → wRetR (wCallX (retX false E) p_name_at (wCons (wVar 0) (wCons (wVar 1) wNil))) ⟨N, rtK false R, fun _ => False, fun _ => False⟩ [some (.val (.str t)), some (.val (.int (a : Nat))), none, none] := fun N hp => by
    walk_at "n"
    refine ⟨t, a, c, r, rfl, hl, hd, hp, fun k n hk => ?_, fun w hw => ?_⟩
    · walk_at "n"
      exact q1 k n hk
    · walk_at "n"
      exact q2 w hw
  rw [dec_low]
  refine i_ifB (fun h1 => ?_) (fun h1 => ?_)
  · exact name _ (by rw [h1]; rfl)
  walk_at "n"
  refine i_ixS (le_line (by omega)) (atI_cs hc) ?_
  walk_at "n"
  rw [dec_up]
  refine i_ifB (fun h2 => ?_) (fun h2 => ?_)
  · exact name _ (by rw [h2, Bool.or_true])
  walk_at "n"
  refine i_ixS (le_line (by omega)) (atI_cs hc) ?_
  walk_at "n"
  rw [dec_dig]
  refine i_ifB (fun h3 => ?_) (fun h3 => ?_)
  · walk_at "n"
    refine ⟨t, a, _, rfl, by omega, hl, ?_⟩
    rw [hd, inM_dig, List.takeWhile_cons, h3]
    simp only [if_true]
    walk_at "n"
    have hbig : (r.takeWhile digC).length ≤ 10000 := by
      have := takeW_len (p := digC) r
      have : r.length ≤ (cs t).length := by rw [← hr, List.length_drop]; omega
      omega
    have e2 : cs (ofL (c :: r.takeWhile digC)) = c :: r.takeWhile digC := cs_ofL _
    have e3 : (ofL (c :: r.takeWhile digC)).length = (r.takeWhile digC).length + 1 := by rw [len_cs, e2, List.length_cons]
    have ht : tok c r = if 6 < (r.takeWhile digC).length + 1 then .inr "a number has at most 6 digits" else .inl ("number", (r.takeWhile digC).length + 1) := by
      unfold tok
      rw [h1, h2, h3]
      rfl
    refine i_lenS (le_line (by rw [e3]; omega)) ?_
    walk_at "n"
    refine i_ifD (fun h => ?_) (fun h => ?_)
    · rw [if_pos (show 6 < (r.takeWhile digC).length + 1 by omega)] at ht
      walk_at "n"
      exact q2 _ ht
    · rw [if_neg (show ¬ 6 < (r.takeWhile digC).length + 1 by omega)] at ht
      walk_at "n"
      have := q1 _ _ ht
      unfold tokD at this
      rw [hd, take_tw] at this
      exact this
  have ht : tok c r = if c = 46 ∧ r.head? = some 46 then .inl ("sign", 2) else if sglC c then .inl ("sign", 1) else .inr "no token begins here" := by
    unfold tok
    rw [h1, h2, h3]
    rfl
  have one : ∀ (s : Str) (d : Nat), cs s = [d] → (cutT t (some ((a : Nat) : Int)) (some (((a : Nat) : Int) + (s.length : Nat))) = s ↔ c = d) := fun s d hs => by
    rw [sgn_iff, hd, hs]
    simp
  have two : (cutT t (some ((a : Nat) : Int)) (some (((a : Nat) : Int) + (("..": Str).length : Nat))) = ".." ↔ c = 46 ∧ r.head? = some 46) := by
    rw [sgn_iff, hd]
    show (c :: r).take 2 = [46, 46] ↔ _
    cases r <;> simp
  have yes : ∀ (s : Str) (d : Nat), cs s = [d] → sglC d = true → cutT t (some ((a : Nat) : Int)) (some (((a : Nat) : Int) + (s.length : Nat))) = s → R (.d (.tuple [.str "sign", .str s, .int ((a : Nat) + 1)])) none := fun s d hs hg h => by
    have hcd := (one s d hs).mp h
    have n46 : ¬ (c = 46 ∧ r.head? = some 46) := fun e => by
      rw [← hcd, e.1] at hg
      revert hg
      decide
    rw [if_neg n46, hcd, hg] at ht
    have := q1 _ _ (hcd ▸ ht)
    unfold tokD at this
    rw [hd, List.take_succ_cons, List.take_zero, hcd, ← hs, ofL_cs] at this
    exact this
  have no : ∀ (s : Str) (d : Nat), cs s = [d] → ¬ cutT t (some ((a : Nat) : Int)) (some (((a : Nat) : Int) + (s.length : Nat))) = s → ¬ c = d := fun s d hs h e => h ((one s d hs).mpr e)
  walk_at "n"
  walk_at "sg"
  · intro h
    walk_at "n"
    exact yes "(" 40 rfl (by decide) h
  intro h
  have n1 := no "(" 40 rfl h
  walk_at "n"
  walk_at "sg"
  · intro h
    walk_at "n"
    exact yes ")" 41 rfl (by decide) h
  intro h
  have n2 := no ")" 41 rfl h
  walk_at "n"
  walk_at "sg"
  · intro h
    walk_at "n"
    exact yes "," 44 rfl (by decide) h
  intro h
  have n3 := no "," 44 rfl h
  walk_at "n"
  walk_at "sg"
  · intro h
    walk_at "n"
    exact yes ";" 59 rfl (by decide) h
  intro h
  have n4 := no ";" 59 rfl h
  walk_at "n"
  walk_at "sg"
  · intro h
    walk_at "n"
    exact yes ":" 58 rfl (by decide) h
  intro h
  have n5 := no ":" 58 rfl h
  walk_at "n"
  walk_at "sg"
  · intro h
    walk_at "n"
    exact yes "=" 61 rfl (by decide) h
  intro h
  have n6 := no "=" 61 rfl h
  walk_at "n"
  walk_at "sg"
  · intro h
    walk_at "n"
    exact yes "|" 124 rfl (by decide) h
  intro h
  have n7 := no "|" 124 rfl h
  walk_at "n"
  walk_at "sg"
  · intro h
    walk_at "n"
    have h2 := two.mp h
    rw [if_pos h2] at ht
    have := q1 _ _ ht
    unfold tokD at this
    rw [← h, show (((a : Nat) : Int) + (("..": Str).length : Nat)) = ((a + 2 : Nat) : Int) from rfl, cut_mid, Nat.add_sub_cancel_left]
    exact this
  intro h
  have n8 := fun e => h (two.mpr e)
  walk_at "n"
  walk_at "sg"
  · intro h
    walk_at "n"
    exact yes "#" 35 rfl (by decide) h
  intro h
  have n9 := no "#" 35 rfl h
  walk_at "n"
  have : sglC c = false := by
    simp only [sglC, List.mem_cons, List.not_mem_nil, or_false, decide_eq_false_iff_not]
    omega
  rw [if_neg n8, this] at ht
  exact q2 _ ht
end L3

/-! The tokens of a text, as a function; both scanners. -/
namespace L3
open PySem PySem.Spec PyProof.Rows L2 PySem.SeqAt
def endD (a : Nat) : D := .tuple [.str "end", .str "", .int ((a : Nat) + 1)]
def scanF : Nat → List Nat → Nat → List D → Sum (List D) (Nat × Str)
  | _, [], a, acc => .inl (acc ++ [endD a])
  | 0, _ :: _, a, _ => .inr (a, "")
  | f + 1, c :: r, a, acc => if c = 32 then scanF f r (a + 1) acc else match tok c r with
    | .inl (k, n) => scanF f (r.drop (n - 1)) (a + n) (acc ++ [.tuple [.str k, .str (ofL ((c :: r).take n)), .int ((a : Nat) + 1)]])
    | .inr w => .inr (a, w)
theorem scanF_fuel : ∀ (f g : Nat) (r : List Nat) (a : Nat) (acc : List D), r.length ≤ f → r.length ≤ g → scanF f r a acc = scanF g r a acc
  | 0, 0, [], _, _, _, _ => rfl
  | 0, _ + 1, [], _, _, _, _ => rfl
  | _ + 1, 0, [], _, _, _, _ => rfl
  | _ + 1, _ + 1, [], _, _, _, _ => rfl
  | f + 1, g + 1, c :: r, a, acc, h1, h2 => by
    have h1' : r.length ≤ f := by simpa using h1
    have h2' : r.length ≤ g := by simpa using h2
    simp only [scanF]
    split
    · exact scanF_fuel f g r (a + 1) acc h1' h2'
    · split
      · rename_i k n _
        exact scanF_fuel f g (r.drop (n - 1)) _ _ (by rw [List.length_drop]; omega) (by rw [List.length_drop]; omega)
      · rfl
def scanA (r : List Nat) (a : Nat) (acc : List D) : Sum (List D) (Nat × Str) := scanF r.length r a acc
theorem scanA_nil (a : Nat) (acc : List D) : scanA [] a acc = .inl (acc ++ [endD a]) := rfl
theorem scanA_sp (r : List Nat) (a : Nat) (acc : List D) : scanA (32 :: r) a acc = scanA r (a + 1) acc := by
  show scanF (r.length + 1) (32 :: r) a acc = _
  simp only [scanF, if_true]
  rfl
theorem scanA_tok {c : Nat} {r : List Nat} {k : Str} {n : Nat} (a : Nat) (acc : List D) (hc : c ≠ 32) (h : tok c r = .inl (k, n)) :
    scanA (c :: r) a acc = scanA (r.drop (n - 1)) (a + n) (acc ++ [.tuple [.str k, .str (ofL ((c :: r).take n)), .int ((a : Nat) + 1)]]) := by
  show scanF (r.length + 1) (c :: r) a acc = _
  simp only [scanF, if_neg hc, h]
  exact scanF_fuel _ _ _ _ _ (by rw [List.length_drop]; omega) (Nat.le_refl _)
theorem scanA_bad {c : Nat} {r : List Nat} {w : Str} (a : Nat) (acc : List D) (hc : c ≠ 32) (h : tok c r = .inr w) : scanA (c :: r) a acc = .inr (a, w) := by
  show scanF (r.length + 1) (c :: r) a acc = _
  simp only [scanF, if_neg hc, h]
theorem scanA_skip : ∀ (r : List Nat) (a : Nat) (acc : List D), scanA r a acc = scanA (r.drop (r.takeWhile (inM " ")).length) (a + (r.takeWhile (inM " ")).length) acc
  | [], a, acc => rfl
  | c :: r, a, acc => by
    by_cases h : c = 32
    · subst h
      have : inM " " 32 = true := by decide
      rw [List.takeWhile_cons, this]
      simp only [if_true, List.length_cons, List.drop_succ_cons]
      rw [scanA_sp, scanA_skip r (a + 1) acc, Nat.add_assoc, Nat.add_comm 1]
    · have : inM " " c = false := by
        show decide (c ∈ [32]) = false
        simp [h]
      rw [List.takeWhile_cons, this]
      rfl
theorem tok_len {c : Nat} {r : List Nat} {k : Str} {n : Nat} (h : tok c r = .inl (k, n)) : 1 ≤ n ∧ n ≤ r.length + 1 ∧ n ≤ 8 ∧ k.length ≤ 20 := by
  have t1 := takeW_len (p := lowC) r
  have t2 := takeW_len (p := digC) r
  have l1 : ("variable" : Str).length ≤ 20 := by decide
  have l2 : ("constructor" : Str).length ≤ 20 := by decide
  have l3 : ("generic" : Str).length ≤ 20 := by decide
  have l4 : ("number" : Str).length ≤ 20 := by decide
  have l5 : ("sign" : Str).length ≤ 20 := by decide
  unfold tok at h
  split at h
  · split at h
    · cases h
    · cases h
      refine ⟨by omega, by omega, by omega, ?_⟩
      split
      · exact l1
      · exact l2
  · split at h
    · split at h
      · cases h
      · cases h
        exact ⟨by omega, by omega, by omega, l3⟩
    · split at h
      · split at h
        · cases h
        · cases h
          exact ⟨by omega, by omega, by omega, l4⟩
      · split at h
        · rename_i h1
          cases h
          refine ⟨by omega, ?_, by omega, l5⟩
          cases r with
          | nil => simp at h1
          | cons x r => simp
        · split at h
          · cases h
            exact ⟨by omega, by omega, by omega, l5⟩
          · cases h
def p_scan : FSX := fun as R E => ∃ t : Str, as = [.val (.str t)] ∧ (cs t).length ≤ 8000 ∧ 10 ∉ cs t ∧ (∀ l, scanA (cs t) 0 [] = .inl l → R (.n l) none) ∧ ∀ a w, scanA (cs t) 0 [] = .inr (a, w) → E (badX a w) none
theorem m_scan : MonoX p_scan := fun as R R' E E' h g ⟨t, a, b, c, k1, k2⟩ => ⟨t, a, b, c, fun l q => h _ _ (k1 l q), fun x w q => g _ _ (k2 x w q)⟩
theorem l_scan : ∀ as R E, p_scan as R E → as.length = 1 := fun as R E ⟨a, e, _⟩ => by rw [e]; rfl
def p_law_scan : FS := fun as R => ∃ t : Str, as = [.val (.str t)] ∧ (cs t).length ≤ 10000 ∧ (∀ l, scanA (cs t) 0 [] = .inl l → R (.n l) none) ∧ ∀ (a : Nat) w, scanA (cs t) 0 [] = .inr (a, w) → R (.d (.tuple [.int ((a : Nat) + 1), .str w])) none
theorem m_law_scan : MonoF p_law_scan := fun as R R' h ⟨t, a, b, k1, k2⟩ => ⟨t, a, b, fun l q => h _ _ (k1 l q), fun x w q => h _ _ (k2 x w q)⟩
theorem l_law_scan : ∀ as R, p_law_scan as R → as.length = 1 := fun as R ⟨a, e, _⟩ => by rw [e]; rfl
/-- 0 text, 1 tokens, 2 at -/
def w_scan (W : XC) : WS :=
(wSeq (wDrop (wFrz (wCall p_check_text (wCons (wVar 0) wNil))))
 (wSeq (wSetO 1 (wLst wNil))
 (wSeq (wSet 2 (wC (.int 0)))
 (wSeq (wWhile (wTest (wBin sLt (wVar 2) (wFrz (wCB (f1 sLen) (wCons (wVar 0) wNil)))))
 (wIfS (wTest (wBin sEq (wBin sIx (wVar 0) (wVar 2)) (wC (.str " "))))
 (wSet 2 (wBin sAdd (wVar 2) (wC (.int 1))))
 (wSeq (wDrop (wFrz (wBM "list" mAppend (wVar 1) (wCons (wFrz (wCallX W p_token_at (wCons (wVar 0) (wCons (wVar 2) wNil)))) wNil))))
 (wSet 2 (wBin sAdd (wVar 2) (wFrz (wCB (f1 sLen) (wCons (wBin sIx (wBin sIx (wVar 1) (wNeg (wC (.int 1)))) (wC (.int 1))) wNil))))))))
 (wSeq (wDrop (wFrz (wBM "list" mAppend (wVar 1) (wCons (wTup (wCons (wC (.str "end")) (wCons (wC (.str "")) (wCons (wBin sAdd (wFrz (wCB (f1 sLen) (wCons (wVar 0) wNil))) (wC (.int 1))) wNil)))) wNil))))
 (wRetO 1))))))

/-- what stands behind the cases of a turn -/
def w_ls_tail : WS :=
 (wSeq (wIfS (wTest (wBin sGe (wBin sSub (wVar 6) (wVar 3)) (wVar 8)))
 (wRet (wTup (wCons (wBin sAdd (wVar 3) (wC (.int 1))) (wCons (wIf (wTest (wBin sEq (wVar 7) (wC (.str "number")))) (wC (.str "a number has at most 6 digits")) (wC (.str "a name has at most 8 letters"))) wNil))))
 wNext)
 (wSeq (wDrop (wFrz (wBM "list" mAppend (wVar 2) (wCons (wTup (wCons (wVar 7) (wCons (wFrz (wSl (wVar 0) (wPart (wVar 3)) (wPart (wVar 6)))) (wCons (wBin sAdd (wVar 3) (wC (.int 1))) wNil)))) wNil))))
 (wSet 3 (wVar 6))))
/-- 0 text, 1 lower, 2 found, 3 at, 4 turn, 5 first, 6 end, 7 word, 8 most -/
def w_law_scan : WS :=
(wSeq (wSet 1 (wC (.str "abcdefghijklmnopqrstuvwxyz")))
 (wSeq (wSetO 2 (wLst wNil))
 (wSeq (wSet 3 (wC (.int 0)))
 (wSeq (wFor (wRng1 (wCons (wBin sAdd (wFrz (wCB (f1 sLen) (wCons (wVar 0) wNil))) (wC (.int 1))) wNil)) (gNm 4)
 (wKill [4, 5, 6, 7, 8] (wSeq (wSet 3 (wFrz (wCall p_law_run (wCons (wVar 0) (wCons (wVar 3) (wCons (wC (.str " ")) wNil))))))
 (wSeq (wIfS (wTest (wBin sEq (wVar 3) (wFrz (wCB (f1 sLen) (wCons (wVar 0) wNil)))))
 (wSeq (wDrop (wFrz (wBM "list" mAppend (wVar 2) (wCons (wTup (wCons (wC (.str "end")) (wCons (wC (.str "")) (wCons (wBin sAdd (wVar 3) (wC (.int 1))) wNil)))) wNil))))
 (wRetO 2))
 wNext)
 (wSeq (wSet 5 (wBin sIx (wVar 0) (wVar 3)))
 (wSeq (wSet 6 (wBin sAdd (wVar 3) (wC (.int 1))))
 (wSeq (wSet 7 (wC (.str "sign")))
 (wSeq (wSet 8 (wC (.int 9)))
 (wSeq (wIfS (wTest (wBin sIn (wVar 5) (wVar 1)))
 (wSeq (wSet 6 (wFrz (wCall p_law_run (wCons (wVar 0) (wCons (wVar 3) (wCons (wVar 1) wNil))))))
 (wSet 7 (wIf (wTest (wBin sEq (wVar 6) (wBin sAdd (wVar 3) (wC (.int 1))))) (wC (.str "variable")) (wC (.str "constructor")))))
 (wIfS (wTest (wBin sIn (wVar 5) (wC (.str "ABCDEFGHIJKLMNOPQRSTUVWXYZ"))))
 (wSeq (wSet 6 (wFrz (wCall p_law_run (wCons (wVar 0) (wCons (wBin sAdd (wVar 3) (wC (.int 1))) (wCons (wVar 1) wNil))))))
 (wSet 7 (wC (.str "generic"))))
 (wIfS (wTest (wBin sIn (wVar 5) (wC (.str "0123456789"))))
 (wSeq (wSet 6 (wFrz (wCall p_law_run (wCons (wVar 0) (wCons (wVar 3) (wCons (wC (.str "0123456789")) wNil))))))
 (wSeq (wSet 7 (wC (.str "number")))
 (wSet 8 (wC (.int 7)))))
 (wIfS (wTest (wBin sEq (wFrz (wSl (wVar 0) (wPart (wVar 3)) (wPart (wBin sAdd (wVar 3) (wC (.int 2)))))) (wC (.str ".."))))
 (wSet 6 (wBin sAdd (wVar 3) (wC (.int 2))))
 (wIfS (wTest (wBin sNotIn (wVar 5) (wC (.str "(),;:=|#"))))
 (wRet (wTup (wCons (wBin sAdd (wVar 3) (wC (.int 1))) (wCons (wC (.str "no token begins here")) wNil))))
 wNext)))))
 w_ls_tail)))))))))
 (wRet (wC .none))))))
local macro_rules | `(tactic| walk_at "w2") => `(tactic| first
  | (with_reducible refine' i_allM ?_) | (with_reducible refine' i_anyM ?_))
local macro_rules | `(tactic| walk_at "w3") => `(tactic| first
  | ((with_reducible refine' j_ix ?h1 ?_); (case h1 => rfl))
  | ((with_reducible refine' i_asgK ?h1 ?_); (case h1 => rfl); (dsimp only [List.set_cons_succ, List.set_cons_zero]))
  | ((with_reducible refine' i_srcK ?h1 ?_); (case h1 => rfl))
  | ((with_reducible refine' i_enmK ?h1 ?_); (case h1 => rfl))
  | ((with_reducible refine' i_evD ?h1 ?h2 ?_); (case h1 => rfl); (case h2 => (intro l e; cases e; done)))
  | ((with_reducible refine' i_isD ?h1 ?_); (case h1 => assumption))
  | ((with_reducible refine' i_len ?h1 ?_); (case h1 => rfl)) | ((with_reducible refine' i_list ?h1 ?_); (case h1 => rfl)) | ((with_reducible refine' i_tuple ?h1 ?_); (case h1 => rfl)) | ((with_reducible refine' i_slL ?h1 ?_); (case h1 => rfl))
  | ((with_reducible refine' i_rngD ?h1 ?h2 ?_); (case h1 => (first | omega | decide)); (case h2 => (first | omega | decide))) | ((with_reducible refine' i_rngD2 ?h1 ?_); (case h1 => (first | omega | decide)))
  | ((with_reducible refine' i_lrgP ?h1 ?_); (case h1 => (apply RgOk.of_le <;> omega)))
  | ((with_reducible refine' j_put ?h1 ?_); (case h1 => rfl))
  | ((with_reducible refine' i_mul ?h1 ?_); (case h1 => (first | exact .inr (by decide) | exact .inl (by decide)))) | ((with_reducible refine' i_mod ?h1 ?_); (case h1 => (first | omega | decide)))
  | ((with_reducible refine' i_fdiv ?h1 ?_); (case h1 => (first | exact ⟨by decide, by decide⟩ | exact ⟨by omega, by omega⟩))) | ((with_reducible refine' i_pow ?h1 ?_); (case h1 => exact pow_ok (by decide)))
  | ((with_reducible refine' i_ifT ?h1 ?_); (case h1 => (first | rfl | assumption | (simp [isA]; done)))) | ((with_reducible refine' i_ifF ?h1 ?_); (case h1 => (first | rfl | assumption | (simp [isA]; done))))
  | ((with_reducible refine' j_pop ?h1 ?_); (case h1 => rfl))
  | ((with_reducible refine' j_append ?h1 ?_); (case h1 => (first | (simp [sizeLine_eq]; done) | (apply lt_line; omega)))))
local macro_rules | `(tactic| walk_at "w") => `(tactic| (try dsimp only [List.set_cons_succ, List.set_cons_zero, killAll]); repeat' (first | (with_reducible refine' Run.imp ?_) | walk_at "w3" | walk_at "w2" | fail "open"))
local macro_rules | `(tactic| walk_at "w0") => `(tactic| refine start_en ?_; simp only [startS, hasOwn, List.map_cons, List.map_nil, List.length_cons, List.length_nil, List.cons_append, List.nil_append, List.replicate, Nat.reduceAdd, Nat.reduceSub, Nat.zero_add])
local macro_rules | `(tactic| walk_at "n") => `(tactic| walk_at "w")

theorem sp_iff (c : Nat) : ((⟨#[c]⟩ : Str) = " ") ↔ c = 32 := by
  constructor
  · intro h
    have : cs ⟨#[c]⟩ = cs " " := congrArg cs h
    have : [c] = [32] := this
    simpa using this
  · rintro rfl
    rfl
theorem at_last {α : Type} (xs : List α) (x : α) : atI (xs ++ [x]) (-1) = some x := by
  unfold atI ixN
  simp
  rw [if_pos (by omega), show ((-1 : Int) + ((xs.length : Int) + 1)).toNat = xs.length by omega]
  simp
theorem v_scan : ∀ as R E, p_scan as R E → w_scan (retX (hasOwn as) E) (retEn (hasOwn as) R) (startS 3 as) := by
  rintro as R E ⟨t, rfl, hl, hn, q1, q2⟩
  have hlt : t.length = (cs t).length := len_cs t
  unfold w_scan
  walk_at "w0"
  walk_at "n"
  refine ⟨t, rfl, hl, hn, ?_⟩
  walk_at "n"
  refine ⟨fun k z => ∃ (a : Nat) (acc : List D), a ≤ (cs t).length ∧ k = (cs t).length - a ∧ acc.length ≤ a ∧ scanA ((cs t).drop a) a acc = scanA (cs t) 0 [] ∧ z = [some (.val (.str t)), some (.own none acc), some (.val (.int (a : Nat)))],
    ⟨_, 0, [], Nat.zero_le _, rfl, Nat.le_refl _, rfl, rfl⟩, ?_⟩
  rintro k z ⟨a, acc, h1, rfl, h2, h3, rfl⟩
  walk_at "n"
  refine i_lenS (le_line (by omega)) ?_
  walk_at "n"
  refine i_ifD (fun h => ?_) (fun h => ?_)
  · obtain ⟨c, r, hd⟩ : ∃ c r, (cs t).drop a = c :: r := ⟨_, _, List.drop_eq_getElem_cons (by omega)⟩
    obtain ⟨hc, ha, hr⟩ := drop_cons hd
    rw [hd] at h3
    walk_at "n"
    refine i_ixS (le_line (by omega)) (atI_cs hc) ?_
    walk_at "n"
    refine i_ifD (fun h4 => ?_) (fun h4 => ?_)
    · have h5 := (sp_iff c).mp h4
      subst h5
      walk_at "n"
      exact ⟨(cs t).length - (a + 1), by omega, a + 1, acc, by omega, rfl, by omega, by rw [hr, ← h3, scanA_sp], rfl⟩
    · have h5 : c ≠ 32 := fun e => h4 ((sp_iff c).mpr e)
      walk_at "n"
      refine ⟨t, a, c, r, rfl, by omega, hd, rfl, fun k n hk => ?_, fun w hw => ?_⟩
      · have tl := tok_len hk
        have hrl : r.length + 1 = (cs t).length - a := by rw [← hr, List.length_drop]; omega
        unfold tokD
        walk_at "n"
        refine j_ix (at_last _ _) ?_
        walk_at "n"
        have e3 : (ofL (((cs t).drop a).take n)).length = n := by rw [len_cs, cs_ofL, List.length_take, List.length_drop]; omega
        refine i_lenS (le_line (by rw [e3]; omega)) ?_
        rw [e3]
        walk_at "n"
        refine ⟨(cs t).length - (a + n), by omega, a + n, acc ++ [_], by omega, rfl, by rw [List.length_append, List.length_singleton]; omega, ?_, rfl⟩
        rw [← h3, scanA_tok a acc h5 hk, hd, ← hr, List.drop_drop]
        congr 2
        omega
      · walk_at "n"
        exact q2 a w (by rw [← h3]; exact scanA_bad a acc h5 hw)
  · have h4 : a = (cs t).length := by omega
    rw [h4, List.drop_length, scanA_nil] at h3
    walk_at "n"
    refine i_lenS (le_line (by omega)) ?_
    walk_at "n"
    have := q1 _ h3.symm
    unfold endD at this
    rw [← hlt] at this
    exact this
theorem after_tw {p : Nat → Bool} {c : Nat} {r : List Nat} : ∀ {l : List Nat}, l.drop (l.takeWhile p).length = c :: r → p c = false
  | [], h => by cases h
  | d :: l, h => by
    cases e : p d with
    | true =>
      rw [List.takeWhile_cons, e] at h
      exact after_tw (l := l) h
    | false =>
      rw [List.takeWhile_cons, e] at h
      injection h with h1 h2
      rw [← h1]
      exact e
theorem sgl_in (c : Nat) : decide (c ∈ cs "(),;:=|#") = sglC c := by
  show decide (c ∈ [40, 41, 44, 59, 58, 61, 124, 35]) = sglC c
  rfl
theorem v_law_scan : ∀ as R, p_law_scan as R → w_law_scan (retEn (hasOwn as) R) (startS 9 as) := by
  rintro as R ⟨t, rfl, hl, q1, q2⟩
  have hlt : t.length = (cs t).length := len_cs t
  unfold w_law_scan
  walk_at "w0"
  walk_at "n"
  refine i_lenS (le_line (by omega)) ?_
  walk_at "n"
  refine forR_inv (P := fun i z => ∃ (a : Nat) (acc : List D), i ≤ a ∧ a ≤ (cs t).length ∧ acc.length ≤ a ∧ scanA ((cs t).drop a) a acc = scanA (cs t) 0 [] ∧
    z = [some (.val (.str t)), some (.val (.str "abcdefghijklmnopqrstuvwxyz")), some (.own none acc), some (.val (.int (a : Nat))), none, none, none, none, none]) (fun i z hi p N hN => ?_) (fun z p => ?_) ⟨0, [], Nat.le_refl _, Nat.zero_le _, Nat.le_refl _, rfl, rfl⟩
  · obtain ⟨a, acc, hia, h1, h2, h3, rfl⟩ := p
    walk_at "n"
    refine ⟨t, a, " ", rfl, h1, hl, ?_⟩
    rw [scanA_skip, List.drop_drop] at h3
    have hsp : ∀ c r, (cs t).drop (a + (((cs t).drop a).takeWhile (inM " ")).length) = c :: r → c ≠ 32 := fun c r hd e => by
      have := after_tw (p := inM " ") (l := (cs t).drop a) (c := c) (r := r) (by rw [List.drop_drop]; exact hd)
      rw [e] at this
      revert this
      decide
    have hb : a + (((cs t).drop a).takeWhile (inM " ")).length ≤ (cs t).length := by
      have := takeW_len (p := inM " ") ((cs t).drop a)
      rw [List.length_drop] at this
      omega
    have hab : a ≤ a + (((cs t).drop a).takeWhile (inM " ")).length := Nat.le_add_right _ _
    generalize a + (((cs t).drop a).takeWhile (inM " ")).length = b at h3 hsp hb hab
    walk_at "n"
    refine i_lenS (le_line (by omega)) ?_
    walk_at "n"
    refine i_ifD (fun h => ?_) (fun h => ?_)
    · have h4 : b = (cs t).length := by omega
      rw [h4, List.drop_length, scanA_nil] at h3
      walk_at "n"
      rw [h4]
      exact q1 _ h3.symm
    obtain ⟨c, r, hd⟩ : ∃ c r, (cs t).drop b = c :: r := ⟨_, _, List.drop_eq_getElem_cons (by omega)⟩
    obtain ⟨hc, hbl, hr⟩ := drop_cons hd
    have h5 := hsp c r hd
    have hrl : r.length + 1 = (cs t).length - b := by rw [← hr, List.length_drop]; omega
    rw [hd] at h3
    have bad : ∀ w, tok c r = .inr w → R (.d (.tuple [.int ((b : Nat) + 1), .str w])) none := fun w hw => q2 b w (by rw [← h3]; exact scanA_bad b acc h5 hw)
    have fin : ∀ (word : Str) (n most : Nat) (bk : SS → Prop), 1 ≤ n → n ≤ r.length + 1 → (tok c r = if most ≤ n then .inr (if word = "number" then "a number has at most 6 digits" else "a name has at most 8 letters") else .inl (word, n)) →
        w_ls_tail ⟨killK [4, 5, 6, 7, 8] N, rtK false R, bk, killK [4, 5, 6, 7, 8] N⟩ [some (.val (.str t)), some (.val (.str "abcdefghijklmnopqrstuvwxyz")), some (.own none acc), some (.val (.int (b : Nat))), some (.val (.int (0 + (i : Nat)))), some (.val (.str ⟨#[c]⟩)), some (.val (.int ((b + n : Nat)))), some (.val (.str word)), some (.val (.int (most : Nat)))] := by
      intro word n most bk hn1 hn2 hk
      unfold w_ls_tail
      walk_at "n"
      refine i_ifD (fun h6 => ?_) (fun h6 => ?_)
      · rw [if_pos (show most ≤ n by omega)] at hk
        walk_at "n"
        refine i_ifD (fun h7 => ?_) (fun h7 => ?_)
        · rw [if_pos h7] at hk
          walk_at "n"
          exact bad _ hk
        · rw [if_neg h7] at hk
          walk_at "n"
          exact bad _ hk
      · rw [if_neg (show ¬ most ≤ n by omega)] at hk
        walk_at "n"
        refine i_slS (le_line (by omega)) ?_
        walk_at "n"
        refine hN _ ⟨b + n, acc ++ [_], by omega, by omega, by rw [List.length_append, List.length_singleton]; omega, ?_, rfl⟩
        rw [← h3, scanA_tok b acc h5 hk, cut_mid, Nat.add_sub_cancel_left, hd, ← hr, List.drop_drop]
        congr 2
        omega
    walk_at "n"
    refine i_ixS (le_line (by omega)) (atI_cs hc) ?_
    walk_at "n"
    rw [dec_low]
    refine i_ifB (fun e1 => ?_) (fun e1 => ?_)
    · have ht : tok c r = if 8 < (r.takeWhile lowC).length + 1 then .inr "a name has at most 8 letters" else .inl (if (r.takeWhile lowC).length + 1 = 1 then "variable" else "constructor", (r.takeWhile lowC).length + 1) := by
        unfold tok
        rw [e1]
        rfl
      have htw := takeW_len (p := lowC) r
      walk_at "n"
      refine ⟨t, b, _, rfl, hb, hl, ?_⟩
      rw [hd, inM_low, List.takeWhile_cons, e1]
      simp only [if_true, List.length_cons]
      walk_at "n"
      refine i_ifD (fun h => ?_) (fun h => ?_)
      · rw [if_pos (show (r.takeWhile lowC).length + 1 = 1 by omega)] at ht
        walk_at "n"
        exact fin "variable" _ 9 _ (by omega) (by omega) ht
      · rw [if_neg (show ¬ (r.takeWhile lowC).length + 1 = 1 by omega)] at ht
        walk_at "n"
        exact fin "constructor" _ 9 _ (by omega) (by omega) ht
    walk_at "n"
    rw [dec_up]
    refine i_ifB (fun e2 => ?_) (fun e2 => ?_)
    · have ht : tok c r = if 8 < (r.takeWhile lowC).length + 1 then .inr "a name has at most 8 letters" else .inl ("generic", (r.takeWhile lowC).length + 1) := by
        unfold tok
        rw [e1, e2]
        rfl
      have htw := takeW_len (p := lowC) r
      walk_at "n"
      refine ⟨t, b + 1, _, rfl, by omega, hl, ?_⟩
      rw [hr, inM_low]
      walk_at "n"
      rw [Nat.add_assoc, Nat.add_comm 1]
      exact fin "generic" _ 9 _ (by omega) (by omega) ht
    walk_at "n"
    rw [dec_dig]
    refine i_ifB (fun e3 => ?_) (fun e3 => ?_)
    · have ht : tok c r = if 6 < (r.takeWhile digC).length + 1 then .inr "a number has at most 6 digits" else .inl ("number", (r.takeWhile digC).length + 1) := by
        unfold tok
        rw [e1, e2, e3]
        rfl
      have htw := takeW_len (p := digC) r
      walk_at "n"
      refine ⟨t, b, _, rfl, hb, hl, ?_⟩
      rw [hd, inM_dig, List.takeWhile_cons, e3]
      simp only [if_true, List.length_cons]
      walk_at "n"
      exact fin "number" _ 7 _ (by omega) (by omega) ht
    have ht : tok c r = if c = 46 ∧ r.head? = some 46 then .inl ("sign", 2) else if sglC c then .inl ("sign", 1) else .inr "no token begins here" := by
      unfold tok
      rw [e1, e2, e3]
      rfl
    walk_at "n"
    refine i_slS (le_line (by omega)) ?_
    walk_at "n"
    have two : (cutT t (some ((b : Nat) : Int)) (some (((b : Nat) : Int) + 2)) = ".." ↔ c = 46 ∧ r.head? = some 46) := by
      have := sgn_iff t ".." b
      rw [hd] at this
      refine this.trans ?_
      show (c :: r).take 2 = [46, 46] ↔ _
      cases r <;> simp
    refine i_ifD (fun h => ?_) (fun h => ?_)
    · have h6 := two.mp h
      rw [if_pos h6] at ht
      have tl := tok_len ht
      walk_at "n"
      exact fin "sign" 2 9 _ (by omega) (by omega) ht
    · rw [if_neg (fun e => h (two.mpr e))] at ht
      walk_at "n"
      rw [sgl_in]
      refine i_ifB (fun e4 => ?_) (fun e4 => ?_)
      · have e5 : sglC c = false := by simpa using e4
        rw [e5] at ht
        walk_at "n"
        exact bad _ ht
      · have e5 : sglC c = true := by simpa using e4
        rw [e5] at ht
        walk_at "n"
        exact fin "sign" 1 9 _ (by omega) (by omega) ht
  · obtain ⟨a, acc, hia, h1, h2, h3, rfl⟩ := p
    exact absurd hia (by omega)
end L3

/-! The scanned text with its problem; a piece of a text. -/
namespace L3
open PySem PySem.Spec PyProof.Rows L2 PySem.SeqAt
/-- a token as it stands in a list -/
def IsTok (d : D) : Prop := ∃ (k s : Str) (i : Int), d = .tuple [.str k, .str s, .int i] ∧ k.length ≤ 20 ∧ s.length ≤ 20
theorem scanF_items : ∀ (f : Nat) (r : List Nat) (a : Nat) (acc l : List D), r.length ≤ f → scanF f r a acc = .inl l → (∀ d ∈ acc, IsTok d) → l ≠ [] ∧ l.length ≤ acc.length + r.length + 1 ∧ ∀ d ∈ l, IsTok d
  | f, [], a, acc, l, _, h, ha => by
    have h' : acc ++ [endD a] = l := by
      cases f <;> exact Sum.inl.inj h
    subst h'
    refine ⟨by simp, by simp, fun d hd => ?_⟩
    rcases List.mem_append.mp hd with hd | hd
    · exact ha d hd
    · rw [List.mem_singleton] at hd
      exact ⟨"end", "", _, hd, by decide, by decide⟩
  | 0, c :: r, a, acc, l, hl, _, _ => by simp at hl
  | f + 1, c :: r, a, acc, l, hl, h, ha => by
    have hl' : r.length ≤ f := by simpa using hl
    simp only [scanF] at h
    split at h
    · obtain ⟨g1, g2, g3⟩ := scanF_items f r (a + 1) acc l hl' h ha
      exact ⟨g1, by rw [List.length_cons]; omega, g3⟩
    · split at h
      · rename_i k n hk
        have tl := tok_len hk
        obtain ⟨g1, g2, g3⟩ := scanF_items f (r.drop (n - 1)) _ _ l (by rw [List.length_drop]; omega) h fun d hd => by
          rcases List.mem_append.mp hd with hd | hd
          · exact ha d hd
          · rw [List.mem_singleton] at hd
            refine ⟨k, _, _, hd, tl.2.2.2, ?_⟩
            rw [len_cs, cs_ofL, List.length_take]
            omega
        refine ⟨g1, ?_, g3⟩
        rw [List.length_append, List.length_singleton, List.length_drop] at g2
        rw [List.length_cons]
        omega
      · cases h
theorem scanA_items {r l : List _} (h : scanA r 0 [] = .inl l) : l ≠ [] ∧ l.length ≤ r.length + 1 ∧ ∀ d ∈ l, IsTok d := by
  have := scanF_items r.length r 0 [] l (Nat.le_refl _) h (fun d hd => by cases hd)
  exact ⟨this.1, by simpa using this.2.1, this.2.2⟩
def p_law_scanned : FS := fun as R => ∃ t : Str, as = [.val (.str t)] ∧ (cs t).length ≤ 8000 ∧ 10 ∉ cs t ∧ (∀ l, scanA (cs t) 0 [] = .inl l → R (.n l) none) ∧ ∀ (a : Nat) w, scanA (cs t) 0 [] = .inr (a, w) → R (.n [.str "problem", .int ((a : Nat) + 1), .str w]) none
theorem m_law_scanned : MonoF p_law_scanned := fun as R R' h ⟨t, a, b, c, k1, k2⟩ => ⟨t, a, b, c, fun l q => h _ _ (k1 l q), fun x w q => h _ _ (k2 x w q)⟩
theorem l_law_scanned : ∀ as R, p_law_scanned as R → as.length = 1 := fun as R ⟨a, e, _⟩ => by rw [e]; rfl
def Piece (w : Str) : Prop := (cs w).length ≤ 12 ∧ 10 ∉ cs w
instance (w : Str) : Decidable (Piece w) := by unfold Piece; infer_instance
def p_law_piece : FS := fun as R => ∃ l, as = [.own l] ∧ isStrm l ∧ ∀ w l', Piece w → isStrm l' → R (.d (.str w)) (some l')
theorem m_law_piece : MonoF p_law_piece := fun as R R' h ⟨a, b, c, k⟩ => ⟨a, b, c, fun x y u v => h _ _ (k x y u v)⟩
theorem l_law_piece : ∀ as R, p_law_piece as R → as.length = 1 := fun as R ⟨a, e, _⟩ => by rw [e]; rfl
def mt_TextError : Str → Option Bool := fun y => if y = "TextError" then some true else none
/-- 0 stream, 1 turn, 2 at -/
def w_law_piece : WS :=
(wSeq (wSet 1 (wFrz (wCall p_law_next (wCons (wVar 0) (wCons (wC (.int 9)) wNil)))))
 (wSeq (wIfS (wTest (wBin sEq (wVar 1) (wC (.int 0))))
 (wRetR (wCall p_law_word (wCons (wVar 0) (wCons (wC (.int 1)) (wCons (wC (.int 3)) wNil)))))
 wNext)
 (wSeq (wIfS (wTest (wBin sEq (wVar 1) (wC (.int 1))))
 (wRetR (wCall p_law_word (wCons (wVar 0) (wCons (wC (.int 1)) (wCons (wFrz (wCall p_law_pick (wCons (wVar 0) (wCons (wFrz (wLst (wCons (wC (.int 8)) (wCons (wC (.int 8)) (wCons (wC (.int 12)) wNil))))) wNil)))) wNil)))))
 wNext)
 (wSeq (wIfS (wTest (wBin sEq (wVar 1) (wC (.int 2))))
 (wRetR (wBinR sAdd (wBin sIx (wC (.str "ABCDEFGHIJKLMNOPQRSTUVWXYZ")) (wFrz (wCall p_law_next (wCons (wVar 0) (wCons (wC (.int 26)) wNil))))) (wFrz (wSl (wFrz (wCall p_law_word (wCons (wVar 0) (wCons (wC (.int 1)) (wCons (wC (.int 8)) wNil))))) wNoPart (wPart (wFrz (wCall p_law_next (wCons (wVar 0) (wCons (wC (.int 9)) wNil)))))))))
 wNext)
 (wSeq (wIfS (wTest (wBin sEq (wVar 1) (wC (.int 3))))
 (wRetR (wBM "str" mJoin (wC (.str "")) (wCons (wFrz (wLc (wRng1 (wCons (wBin sAdd (wC (.int 1)) (wFrz (wCall p_law_next (wCons (wVar 0) (wCons (wFrz (wCall p_law_pick (wCons (wVar 0) (wCons (wFrz (wLst (wCons (wC (.int 2)) (wCons (wC (.int 6)) (wCons (wC (.int 6)) (wCons (wC (.int 9)) wNil)))))) wNil)))) wNil))))) wNil)) (gNm 2) [2] wYes (wFrz (wCB (f1 sStr) (wCons (wFrz (wCall p_law_next (wCons (wVar 0) (wCons (wC (.int 10)) wNil)))) wNil))))) wNil)))
 wNext)
 (wSeq (wIfS (wTest (wBin sLt (wVar 1) (wC (.int 7))))
 (wRetR (wCall p_law_pick (wCons (wVar 0) (wCons (wFrz (wLst (wCons (wC (.str "(")) (wCons (wC (.str ")")) (wCons (wC (.str ",")) (wCons (wC (.str ";")) (wCons (wC (.str ":")) (wCons (wC (.str "=")) (wCons (wC (.str "|")) (wCons (wC (.str "..")) (wCons (wC (.str "#")) (wCons (wC (.str "#4")) wNil)))))))))))) wNil))))
 wNext)
 (wSeq (wIfS (wTest (wBin sEq (wVar 1) (wC (.int 7))))
 (wRetR (wBinR sMulX (wC (.str " ")) (wBin sAdd (wC (.int 1)) (wFrz (wCall p_law_next (wCons (wVar 0) (wCons (wC (.int 3)) wNil)))))))
 wNext)
 (wRetR (wCall p_law_pick (wCons (wVar 0) (wCons (wFrz (wLst (wCons (wC (.str " ")) (wCons (wC (.str " ")) (wCons (wC (.str "..")) (wCons (wC (.str "...")) (wCons (wC (.str ".")) (wCons (wC (.str "-")) (wCons (wC (.str "_")) (wCons (wC (.str "[")) (wCons (wC (.str "'")) (wCons (wC (.str "\t")) (wCons (wC (.str "!")) (wCons (wC (.str "~")) (wCons (wC (.str "\\")) wNil))))))))))))))) wNil)))))))))))
/-- 0 text, 1 found, 2 e -/
def w_law_scanned : WS :=
(wSeq (wTryAs (fun _ _ => False) mt_TextError 2 (fun W0 =>
 (wSetO 1 (wCallX W0 p_scan (wCons (wVar 0) wNil))))
 (fun a x => (wRetR (wLst (wCons (wC (.str "problem")) (wCons (wXf a x "column" (wVar 2)) (wCons (wXf a x "words" (wVar 2)) wNil)))))))
 (wRetV (vIf (wAnd (wTest (wIsa "list" (wVar 1))) (wTest (wBin sEq (wFrz (wSl (wVar 1) wNoPart (wPart (wC (.int 1))))) (wFrz (wLst (wCons (wC (.str "problem")) wNil)))))) (vR (wLst (wCons (wC (.str "wrong")) wNil))) (vOwn 1))))

local macro_rules | `(tactic| walk_at "w2") => `(tactic| first
  | (with_reducible refine' i_allM ?_) | (with_reducible refine' i_anyM ?_))
local macro_rules | `(tactic| walk_at "w3") => `(tactic| first
  | ((with_reducible refine' j_ix ?h1 ?_); (case h1 => rfl))
  | ((with_reducible refine' i_asgK ?h1 ?_); (case h1 => rfl); (dsimp only [List.set_cons_succ, List.set_cons_zero]))
  | ((with_reducible refine' i_srcK ?h1 ?_); (case h1 => rfl))
  | ((with_reducible refine' i_enmK ?h1 ?_); (case h1 => rfl))
  | ((with_reducible refine' i_evD ?h1 ?h2 ?_); (case h1 => rfl); (case h2 => (intro l e; cases e; done)))
  | ((with_reducible refine' i_isD ?h1 ?_); (case h1 => assumption))
  | ((with_reducible refine' i_len ?h1 ?_); (case h1 => rfl)) | ((with_reducible refine' i_list ?h1 ?_); (case h1 => rfl)) | ((with_reducible refine' i_tuple ?h1 ?_); (case h1 => rfl)) | ((with_reducible refine' i_slL ?h1 ?_); (case h1 => rfl))
  | ((with_reducible refine' i_rngD ?h1 ?h2 ?_); (case h1 => (first | omega | decide)); (case h2 => (first | omega | decide))) | ((with_reducible refine' i_rngD2 ?h1 ?_); (case h1 => (first | omega | decide)))
  | ((with_reducible refine' i_lrgP ?h1 ?_); (case h1 => (apply RgOk.of_le <;> omega)))
  | ((with_reducible refine' j_put ?h1 ?_); (case h1 => rfl))
  | ((with_reducible refine' i_mul ?h1 ?_); (case h1 => (first | exact .inr (by decide) | exact .inl (by decide)))) | ((with_reducible refine' i_mod ?h1 ?_); (case h1 => (first | omega | decide)))
  | ((with_reducible refine' i_fdiv ?h1 ?_); (case h1 => (first | exact ⟨by decide, by decide⟩ | exact ⟨by omega, by omega⟩))) | ((with_reducible refine' i_pow ?h1 ?_); (case h1 => exact pow_ok (by decide)))
  | ((with_reducible refine' i_ifT ?h1 ?_); (case h1 => (first | rfl | assumption | (simp [isA]; done)))) | ((with_reducible refine' i_ifF ?h1 ?_); (case h1 => (first | rfl | assumption | (simp [isA]; done))))
  | ((with_reducible refine' j_pop ?h1 ?_); (case h1 => rfl))
  | ((with_reducible refine' j_append ?h1 ?_); (case h1 => (first | (simp [sizeLine_eq]; done) | (apply lt_line; omega)))))
local macro_rules | `(tactic| walk_at "w") => `(tactic| (try dsimp only [List.set_cons_succ, List.set_cons_zero, killAll]); repeat' (first | (with_reducible refine' Run.imp ?_) | walk_at "w3" | walk_at "w2" | fail "open"))
local macro_rules | `(tactic| walk_at "w0") => `(tactic| refine start_en ?_; simp only [startS, hasOwn, List.map_cons, List.map_nil, List.length_cons, List.length_nil, List.cons_append, List.nil_append, List.replicate, Nat.reduceAdd, Nat.reduceSub, Nat.zero_add])
local macro_rules | `(tactic| walk_at "n") => `(tactic| walk_at "w")

theorem i_eqP {z : SS} {ev ew : EV} {a b : D} {c : Bool} {k : RV → Prop} (e1 : evD z ev = some a) (e2 : evD z ew = some b) (p1 : a.plain = true) (p2 : b.plain = true) (m : min a.depth b.depth ≤ 60) (e : PyData.eqv a b = c) (h : k (.d (.bool c))) : sEq z ev ew k :=
  ⟨a, b, e1, e2, p1, p2, m, by rw [e]; exact h⟩
theorem cutD_one {α : Type} (x : α) (l : List α) : cutD (x :: l) none (some 1) = [x] := by
  unfold cutD
  rw [HT.sIx_none, show (1 : Int) = ((1 : Nat) : Int) from rfl, HT.sIx_nat]
  simp
theorem v_law_scanned : ∀ as R, p_law_scanned as R → w_law_scanned (retEn (hasOwn as) R) (startS 3 as) := by
  rintro as R ⟨t, rfl, hl, hn, q1, q2⟩
  unfold w_law_scanned
  walk_at "w0"
  walk_at "n"
  refine ⟨t, rfl, hl, hn, fun l hs => ?_, fun a w hs => ?_⟩
  · obtain ⟨h1, h2, h3⟩ := scanA_items hs
    walk_at "n"
    match l, h1 with
    | x :: r, _ =>
      obtain ⟨k, s, i, rfl, _⟩ := h3 x (by simp)
      have e : cutD (PyData.tuple [.str k, .str s, .int i] :: r) none (some 1) = [.tuple [.str k, .str s, .int i]] := cutD_one _ _
      rw [e]
      refine i_eqP (c := false) rfl rfl (by simp [PyData.plain, PyData.plainAll]) (by simp [PyData.plain, PyData.plainAll]) (by simp [PyData.depth, PyData.depthAll]) (by simp [PyData.eqv, PyData.eqvAll]) ?_
      walk_at "n"
      exact q1 _ hs
  · walk_at "n"
    refine tryK_T (by rfl) fun ad => ?_
    walk_at "n"
    refine i_xf (d := .int ((a : Nat) + 1)) (by unfold badX; rfl) ?_
    walk_at "n"
    refine i_xf (d := .str w) (by unfold badX; rfl) ?_
    walk_at "n"
    exact q2 a w hs
theorem no10_low {w : Str} (h : Low w) : 10 ∉ cs w := fun e => by
  have := h 10 e
  revert this
  decide
theorem cs_join : ∀ ys : List Str, cs (Str.join "" ys) = ys.flatMap cs
  | [] => rfl
  | [y] => by simp [Str.join]
  | x :: y :: ys => by
    have := cs_join (y :: ys)
    simp only [Str.join, List.flatMap_cons] at this ⊢
    rw [cs_app, cs_app, this, show cs ("" : Str) = [] from rfl, List.append_nil]
theorem dig_str {d : Int} (h0 : 0 ≤ d) (h1 : d < 10) : d.natAbs.log2 < 1920 ∧ (cs (toString d : String)).length = 1 ∧ 10 ∉ cs (toString d : String) := by
  have : d = 0 ∨ d = 1 ∨ d = 2 ∨ d = 3 ∨ d = 4 ∨ d = 5 ∨ d = 6 ∨ d = 7 ∨ d = 8 ∨ d = 9 := by omega
  rcases this with rfl | rfl | rfl | rfl | rfl | rfl | rfl | rfl | rfl | rfl <;> decide +kernel
theorem ups_at : ∀ n : Fin 26, ∃ c, atI (cs "ABCDEFGHIJKLMNOPQRSTUVWXYZ") (n : Nat) = some c ∧ c ≠ 10 := by decide
theorem v_law_piece : ∀ as R, p_law_piece as R → w_law_piece (retEn (hasOwn as) R) (startS 3 as) := by
  rintro as R ⟨l, rfl, hs, q⟩
  unfold w_law_piece
  walk_at "w0"
  walk_at "n"
  refine ⟨l, _, rfl, hs, by decide, by decide, fun d l1 hs1 hd0 hd1 => ?_⟩
  walk_at "n"
  refine i_ifD (fun h => ?_) (fun h => ?_)
  · walk_at "n"
    refine ⟨l1, _, _, rfl, hs1, by decide, by decide, by decide, fun w l2 h1 h2 hw hs2 => ?_⟩
    walk_at "n"
    rw [len_cs] at h2
    exact q w l2 ⟨by omega, no10_low hw⟩ hs2
  walk_at "n"
  refine i_ifD (fun h => ?_) (fun h => ?_)
  · walk_at "n"
    refine ⟨l1, _, rfl, hs1, by simp, by decide, fun x l2 hx hs2 => ?_⟩
    obtain ⟨m, rfl, hm⟩ : ∃ m : Int, x = .int m ∧ 8 ≤ m ∧ m ≤ 12 := by
      simp only [List.mem_cons, List.not_mem_nil, or_false] at hx
      rcases hx with rfl | rfl | rfl
      · exact ⟨8, rfl, by decide⟩
      · exact ⟨8, rfl, by decide⟩
      · exact ⟨12, rfl, by decide⟩
    walk_at "n"
    refine ⟨l2, _, _, rfl, hs2, by decide, by omega, by omega, fun w l3 h1 h2 hw hs3 => ?_⟩
    walk_at "n"
    rw [len_cs] at h2
    exact q w l3 ⟨by omega, no10_low hw⟩ hs3
  walk_at "n"
  refine i_ifD (fun h => ?_) (fun h => ?_)
  · walk_at "n"
    refine ⟨l1, _, rfl, hs1, by decide, by decide, fun x l2 hs2 hx0 hx1 => ?_⟩
    obtain ⟨n, rfl⟩ := Int.eq_ofNat_of_zero_le hx0
    obtain ⟨c, hc, hc10⟩ := ups_at ⟨n, by omega⟩
    walk_at "n"
    refine i_ixS (le_line (by decide)) hc ?_
    walk_at "n"
    refine ⟨l2, _, _, rfl, hs2, by decide, by decide, by decide, fun w l3 h1 h2 hw hs3 => ?_⟩
    rw [len_cs] at h2
    walk_at "n"
    refine ⟨l3, _, rfl, hs3, by decide, by decide, fun y l4 hs4 hy0 hy1 => ?_⟩
    obtain ⟨m, rfl⟩ := Int.eq_ofNat_of_zero_le hy0
    walk_at "n"
    refine i_slS (le_line (by rw [len_cs]; omega)) ?_
    rw [cut_to]
    walk_at "n"
    have e : (ofL ((cs w).take m)).length = min m (cs w).length := by rw [len_cs, cs_ofL, List.length_take]
    refine i_addS (le_line (by rw [e]; show 1 + _ ≤ _; omega)) ?_
    walk_at "n"
    refine q _ l4 ⟨?_, ?_⟩ hs4
    · rw [cs_app, cs_ofL, List.length_append, List.length_take]
      show 1 + _ ≤ _
      omega
    · rw [cs_app, cs_ofL]
      intro e
      rcases List.mem_append.mp e with e | e
      · have : (10 : Nat) = c := by simpa using e
        exact hc10 this.symm
      · exact no10_low hw (List.mem_of_mem_take e)
  walk_at "n"
  refine i_ifD (fun h => ?_) (fun h => ?_)
  · walk_at "n"
    refine ⟨l1, _, rfl, hs1, by simp, by decide, fun x l2 hx hs2 => ?_⟩
    obtain ⟨m, rfl, hm⟩ : ∃ m : Int, x = .int m ∧ 2 ≤ m ∧ m ≤ 9 := by
      simp only [List.mem_cons, List.not_mem_nil, or_false] at hx
      rcases hx with rfl | rfl | rfl | rfl
      · exact ⟨2, rfl, by decide⟩
      · exact ⟨6, rfl, by decide⟩
      · exact ⟨6, rfl, by decide⟩
      · exact ⟨9, rfl, by decide⟩
    walk_at "n"
    refine ⟨l2, _, rfl, hs2, by omega, by omega, fun y l3 hs3 hy0 hy1 => ?_⟩
    walk_at "n"
    refine lcL_inv (P := fun i acc z => ∃ (ys : List Str) (l' : List D), acc = ys.map PyData.str ∧ ys.length = i ∧ (∀ s ∈ ys, (cs s).length = 1 ∧ 10 ∉ cs s) ∧ isStrm l' ∧ z = [some (.own (some 0) l'), some (.val (.int d)), none]) (fun i x acc z hx p N hN => ?_) (fun acc z p => ?_) ⟨[], l3, rfl, rfl, by simp, hs3, rfl⟩
    · obtain ⟨ys, l4, rfl, hyl, hy, hs4, rfl⟩ := p
      have hlt := (List.getElem?_eq_some_iff.mp hx).1
      rw [rangeD_len] at hlt
      walk_at "n"
      refine ⟨l4, _, rfl, hs4, by decide, by decide, fun e l5 hs5 he0 he1 => ?_⟩
      obtain ⟨g1, g2, g3⟩ := dig_str he0 he1
      walk_at "n"
      refine i_str g1 ?_
      walk_at "n"
      refine ⟨lt_line (by rw [List.length_map]; omega), ?_⟩
      refine hN _ _ ⟨ys ++ [_], l5, by rw [List.map_append]; rfl, by rw [List.length_append, hyl]; rfl, fun s hs => ?_, hs5, rfl⟩
      rcases List.mem_append.mp hs with hs | hs
      · exact hy s hs
      · rw [List.mem_singleton] at hs
        subst hs
        exact ⟨g2, g3⟩
    · obtain ⟨ys, l4, rfl, hyl, hy, hs4, rfl⟩ := p
      rw [rangeD_len] at hyl
      have hsum : ∀ zs : List Str, (∀ s ∈ zs, (cs s).length = 1 ∧ 10 ∉ cs s) → (zs.map (·.length)).sum = zs.length ∧ (zs.flatMap cs).length = zs.length := by
        intro zs
        induction zs with
        | nil => intro _; exact ⟨rfl, rfl⟩
        | cons s zs ih =>
          intro hz
          obtain ⟨i1, i2⟩ := ih fun x hx => hz x (List.mem_cons_of_mem _ hx)
          have := (hz s (by simp)).1
          rw [List.map_cons, List.sum_cons, List.flatMap_cons, List.length_append, List.length_cons, i1, i2, len_cs, this]
          omega
      obtain ⟨s1, s2⟩ := hsum ys hy
      walk_at "n"
      refine ⟨"", _, ys, rfl, rfl, rfl, by rw [s1]; show ys.length + ys.length * 0 ≤ _; omega, ?_⟩
      walk_at "n"
      have ej : cs (Txt.join "" ys) = ys.flatMap cs := by
        rw [show Txt.join "" ys = Str.join "" ys from StrLaws.glued_eq_join "" ys]
        exact cs_join ys
      refine q _ l4 ⟨by rw [ej, s2]; omega, ?_⟩ hs4
      rw [ej]
      intro e
      obtain ⟨s, hs, he⟩ := List.mem_flatMap.mp e
      exact (hy s hs).2 he
  walk_at "n"
  refine i_ifD (fun h => ?_) (fun h => ?_)
  · walk_at "n"
    refine ⟨l1, (["(", ")", ",", ";", ":", "=", "|", "..", "#", "#4"] : List Str).map PyData.str, rfl, hs1, by simp, by decide, fun x l2 hx hs2 => ?_⟩
    obtain ⟨s, hs, rfl⟩ := List.mem_map.mp hx
    have : ∀ s ∈ (["(", ")", ",", ";", ":", "=", "|", "..", "#", "#4"] : List Str), Piece s := by decide
    walk_at "n"
    exact q s l2 (this s hs) hs2
  walk_at "n"
  refine i_ifD (fun h => ?_) (fun h => ?_)
  · walk_at "n"
    refine ⟨l1, _, rfl, hs1, by decide, by decide, fun y l2 hs2 hy0 hy1 => ?_⟩
    walk_at "n"
    refine ⟨⟨by omega, by omega, ?_⟩, ?_⟩
    · refine le_line ?_
      show 1 * (1 + y).toNat ≤ _
      omega
    walk_at "n"
    refine q _ l2 ⟨?_, fun e => ?_⟩ hs2
    · rw [len_mul]
      show 1 * (1 + y).toNat ≤ _
      omega
    · have := cs_mul _ _ _ e
      revert this
      decide
  · walk_at "n"
    refine ⟨l1, ([" ", " ", "..", "...", ".", "-", "_", "[", "'", "\t", "!", "~", "\\"] : List Str).map PyData.str, rfl, hs1, by simp, by decide, fun x l2 hx hs2 => ?_⟩
    obtain ⟨s, hs, rfl⟩ := List.mem_map.mp hx
    have : ∀ s ∈ ([" ", " ", "..", "...", ".", "-", "_", "[", "'", "\t", "!", "~", "\\"] : List Str), Piece s := by decide
    walk_at "n"
    exact q s l2 (this s hs) hs2
end L3

/-! The law. -/
namespace L3
open PySem PySem.Spec PyProof.Rows L2 PySem.SeqAt
theorem scanF_bad : ∀ (f : Nat) (r : List Nat) (a : Nat) (acc : List D) (b : Nat) (w : Str), scanF f r a acc = .inr (b, w) → w.length ≤ 100
  | f, [], a, acc, b, w, h => by cases f <;> cases h
  | 0, c :: r, a, acc, b, w, h => by
    cases h
    decide
  | f + 1, c :: r, a, acc, b, w, h => by
    simp only [scanF] at h
    split at h
    · exact scanF_bad f r _ _ b w h
    · split at h
      · exact scanF_bad f _ _ _ b w h
      · rename_i v hv
        cases h
        unfold tok at hv
        have l1 : ("a name has at most 8 letters" : Str).length ≤ 100 := by decide
        have l2 : ("a number has at most 6 digits" : Str).length ≤ 100 := by decide
        have l3 : ("no token begins here" : Str).length ≤ 100 := by decide
        split at hv
        · split at hv <;> cases hv
          exact l1
        · split at hv
          · split at hv <;> cases hv
            exact l1
          · split at hv
            · split at hv <;> cases hv
              exact l2
            · split at hv
              · cases hv
              · split at hv <;> cases hv
                exact l3
structure Due (L : List D) : Prop where
  ne : 1 ≤ L.length
  le : L.length ≤ 10000
  ok : okA L = true
  nd : noDctA L = true
  ns : nodesA L ≤ 40000
theorem tok_due : ∀ {l : List D}, (∀ d ∈ l, IsTok d) → okA l = true ∧ noDctA l = true ∧ nodesA l = 4 * l.length
  | [], _ => ⟨rfl, rfl, rfl⟩
  | d :: l, h => by
    obtain ⟨k, s, i, rfl, h1, h2⟩ := h d (by simp)
    obtain ⟨g1, g2, g3⟩ := tok_due (l := l) fun x hx => h x (List.mem_cons_of_mem _ hx)
    refine ⟨?_, ?_, ?_⟩
    · have e1 : decide (k.length ≤ 1000) = true := decide_eq_true (by omega)
      have e2 : decide (s.length ≤ 1000) = true := decide_eq_true (by omega)
      simp only [okA, okD, g1, e1, e2, Bool.and_true, Bool.true_and]
      rfl
    · simp only [noDctA, noDct, g2, Bool.and_true, Bool.true_and]
      rfl
    · simp only [nodesA, nodes, g3, List.length_cons]
      omega
theorem due_inl {t : Str} {l : List D} (ht : (cs t).length ≤ 8000) (h : scanA (cs t) 0 [] = .inl l) : Due l := by
  obtain ⟨h1, h2, h3⟩ := scanA_items h
  obtain ⟨g1, g2, g3⟩ := tok_due h3
  refine ⟨?_, by omega, g1, g2, by omega⟩
  cases l with
  | nil => exact absurd rfl h1
  | cons x l => simp
theorem due_inr {t : Str} {a : Nat} {w : Str} (h : scanA (cs t) 0 [] = .inr (a, w)) : Due [.str "problem", .int ((a : Nat) + 1), .str w] := by
  have hw := scanF_bad _ _ _ _ _ _ h
  refine ⟨by simp, by simp, ?_, rfl, by simp [nodesA, nodes]⟩
  have e2 : decide (w.length ≤ 1000) = true := decide_eq_true (by omega)
  simp only [okA, okD, e2, Bool.and_true, Bool.true_and]
  rfl
def w_law_t2 : WS :=
 (wSeq (wSetO 9 (wCall p_law_scanned (wCons (wVar 3) wNil)))
 (wSeq (wIfS (wNot (wTest (wCallN 9 [9, 8] p_law_same)))
 (wRet (wC (.bool false)))
 wNext)
 (wSeq (wDrop (wFrz (wBM "list" mAppend (wVar 9) (wCons (wC (.str "more")) wNil))))
 (wSeq (wPut (wC (.str "other")) (wVar 9) (wC (.int 0)))
 (wRetR (wCall p_law_same (wCons (wFrz (wCall p_law_scanned (wCons (wVar 3) wNil))) (wCons (wVar 8) wNil))))))))
def w_law_t1 : WS :=
 (wSeq (wSet 8 (wFrz (wCall p_law_scan (wCons (wVar 3) wNil))))
 (wSeq (wIfS (wTest (wIsa "tuple" (wVar 8)))
 (wSet 8 (wFrz (wLst (wCons (wC (.str "problem")) (wCons (wBin sIx (wVar 8) (wC (.int 0))) (wCons (wBin sIx (wVar 8) (wC (.int 1))) wNil))))))
 wNext)
 w_law_t2))
/-- 0 script, 1 stream, 2 clean, 3 text, 4 turn, 5 piece, 6 room, 7 at, 8 due, 9 told -/
def w_law : WS :=
(wSeq (wSetO 1 (wCall p_law_stream (wCons (wVar 0) wNil)))
 (wSeq (wSet 2 (wBin sEq (wFrz (wCall p_law_next (wCons (wVar 1) (wCons (wC (.int 2)) wNil)))) (wC (.int 0))))
 (wSeq (wSet 3 (wC (.str "")))
 (wSeq (wFor (wRng1 (wCons (wFrz (wCall p_law_next (wCons (wVar 1) (wCons (wC (.int 61)) wNil)))) wNil)) (gNm 4)
 (wKill [4, 5] (wSeq (wSet 5 (wFrz (wCall p_law_piece (wCons (wVar 1) wNil))))
 (wIfS (wOr (wNot (wTest (wVar 2))) (wTest (wIsa "list" (wFrz (wCall p_law_scan (wCons (wBin sAdd (wVar 3) (wVar 5)) wNil))))))
 (wSet 3 (wBin sAdd (wVar 3) (wVar 5)))
 wNext))))
 (wSeq (wIfS (wTest (wBin sEq (wFrz (wCall p_law_next (wCons (wVar 1) (wCons (wC (.int 6)) wNil)))) (wC (.int 0))))
 (wSeq (wSet 6 (wBin sSub (wC (.int 8000)) (wFrz (wCB (f1 sLen) (wCons (wVar 3) wNil)))))
 (wSeq (wSet 3 (wBin sAdd (wVar 3) (wBin sMulX (wFrz (wCall p_law_pick (wCons (wVar 1) (wCons (wFrz (wLst (wCons (wC (.str " ")) (wCons (wC (.str "(")) (wCons (wC (.str "..")) wNil))))) wNil)))) (wBin sFDiv (wVar 6) (wC (.int 2))))))
 (wSeq (wSet 7 (wFrz (wCall p_law_next (wCons (wVar 1) (wCons (wBin sAdd (wFrz (wCB (f1 sLen) (wCons (wVar 3) wNil))) (wC (.int 1))) wNil)))))
 (wSet 3 (wBin sAdd (wBin sAdd (wFrz (wSl (wVar 3) wNoPart (wPart (wVar 7)))) (wBin sMulX (wC (.str " ")) (wBin sSub (wC (.int 8000)) (wFrz (wCB (f1 sLen) (wCons (wVar 3) wNil)))))) (wFrz (wSl (wVar 3) (wPart (wVar 7)) wNoPart)))))))
 wNext)
 w_law_t1)))))
local macro_rules | `(tactic| walk_at "w2") => `(tactic| first
  | (with_reducible refine' i_allM ?_) | (with_reducible refine' i_anyM ?_))
local macro_rules | `(tactic| walk_at "w3") => `(tactic| first
  | ((with_reducible refine' j_ix ?h1 ?_); (case h1 => rfl))
  | ((with_reducible refine' i_asgK ?h1 ?_); (case h1 => rfl); (dsimp only [List.set_cons_succ, List.set_cons_zero]))
  | ((with_reducible refine' i_srcK ?h1 ?_); (case h1 => rfl))
  | ((with_reducible refine' i_enmK ?h1 ?_); (case h1 => rfl))
  | ((with_reducible refine' i_evD ?h1 ?h2 ?_); (case h1 => rfl); (case h2 => (intro l e; cases e; done)))
  | ((with_reducible refine' i_isD ?h1 ?_); (case h1 => assumption))
  | ((with_reducible refine' i_len ?h1 ?_); (case h1 => rfl)) | ((with_reducible refine' i_list ?h1 ?_); (case h1 => rfl)) | ((with_reducible refine' i_tuple ?h1 ?_); (case h1 => rfl)) | ((with_reducible refine' i_slL ?h1 ?_); (case h1 => rfl))
  | ((with_reducible refine' i_rngD ?h1 ?h2 ?_); (case h1 => (first | omega | decide)); (case h2 => (first | omega | decide))) | ((with_reducible refine' i_rngD2 ?h1 ?_); (case h1 => (first | omega | decide)))
  | ((with_reducible refine' i_lrgP ?h1 ?_); (case h1 => (apply RgOk.of_le <;> omega)))
  | ((with_reducible refine' j_put ?h1 ?_); (case h1 => rfl))
  | ((with_reducible refine' i_mul ?h1 ?_); (case h1 => (first | exact .inr (by decide) | exact .inl (by decide)))) | ((with_reducible refine' i_mod ?h1 ?_); (case h1 => (first | omega | decide)))
  | ((with_reducible refine' i_fdiv ?h1 ?_); (case h1 => (first | exact ⟨by decide, by decide⟩ | exact ⟨by omega, by omega⟩))) | ((with_reducible refine' i_pow ?h1 ?_); (case h1 => exact pow_ok (by decide)))
  | ((with_reducible refine' i_ifT ?h1 ?_); (case h1 => (first | rfl | assumption | (simp [isA]; done)))) | ((with_reducible refine' i_ifF ?h1 ?_); (case h1 => (first | rfl | assumption | (simp [isA]; done))))
  | ((with_reducible refine' j_pop ?h1 ?_); (case h1 => rfl))
  | ((with_reducible refine' j_append ?h1 ?_); (case h1 => (first | (simp [sizeLine_eq]; done) | (apply lt_line; omega)))))
local macro_rules | `(tactic| walk_at "w") => `(tactic| (try dsimp only [List.set_cons_succ, List.set_cons_zero, killAll]); repeat' (first | (with_reducible refine' Run.imp ?_) | walk_at "w3" | walk_at "w2" | fail "open"))
local macro_rules | `(tactic| walk_at "w0") => `(tactic| refine start_en ?_; simp only [startS, hasOwn, List.map_cons, List.map_nil, List.length_cons, List.length_nil, List.cons_append, List.nil_append, List.replicate, Nat.reduceAdd, Nat.reduceSub, Nat.zero_add])
local macro_rules | `(tactic| walk_at "n") => `(tactic| walk_at "w")

abbrev p_law : FS := pLaw
theorem l_law : ∀ as R, p_law as R → as.length = 1 := fun as R ⟨ns, e, _⟩ => by rw [e]; rfl
abbrev scrD (ns : List Int) : Option S := some (.val (.dict [(.none, .list (ns.map PyData.int))]))
theorem fin2 {R : RV → Option (List D) → Prop} {ns : List Int} {l L : List D} {c : Bool} {t : Str} {x4 x5 x6 x7 : Option S} (q : R (.d (.bool true)) none) (h1 : (cs t).length ≤ 8000) (h2 : 10 ∉ cs t) (hd : Due L)
    (hs1 : ∀ m, scanA (cs t) 0 [] = .inl m → m = L) (hs2 : ∀ (a : Nat) w, scanA (cs t) 0 [] = .inr (a, w) → [PyData.str "problem", .int ((a : Nat) + 1), .str w] = L) :
    w_law_t2 ⟨nxK false R, rtK false R, fun _ => False, fun _ => False⟩ [scrD ns, some (.own none l), some (.val (.bool c)), some (.val (.str t)), x4, x5, x6, x7, some (.val (.list L)), none] := by
  obtain ⟨d1, d2, d3, d4, d5⟩ := hd
  have same : ∀ K : RV → Option (List D) → Prop, K (.d (.bool true)) none → p_law_same [.val (.list L), .val (.list L)] K := fun K k =>
    ⟨_, _, rfl, d3, d3, d4, by simp only [nodes]; omega, fun c hc => by
      have : c = true := hc.mpr rfl
      rw [this]
      exact k⟩
  have scd : ∀ K : RV → Option (List D) → Prop, K (.n L) none → p_law_scanned [.val (.str t)] K := fun K k =>
    ⟨t, rfl, h1, h2, fun m hm => by rw [hs1 m hm]; exact k, fun a w hw => by rw [hs2 a w hw]; exact k⟩
  unfold w_law_t2
  walk_at "n"
  refine scd _ ?_
  walk_at "n"
  refine i_callN rfl rfl (same _ ⟨rfl, _, rfl, rfl, ?_⟩)
  walk_at "n"
  refine j_put (jj := 0) (by unfold ixN; simp) ?_
  walk_at "n"
  refine scd _ ?_
  walk_at "n"
  refine same _ ?_
  walk_at "n"
  exact q
theorem fin1 {R : RV → Option (List D) → Prop} {ns : List Int} {l : List D} {c : Bool} {t : Str} {x4 x5 x6 x7 : Option S} (q : R (.d (.bool true)) none) (h1 : (cs t).length ≤ 8000) (h2 : 10 ∉ cs t) :
    w_law_t1 ⟨nxK false R, rtK false R, fun _ => False, fun _ => False⟩ [scrD ns, some (.own none l), some (.val (.bool c)), some (.val (.str t)), x4, x5, x6, x7, none, none] := by
  unfold w_law_t1
  walk_at "n"
  refine ⟨t, rfl, by omega, fun m hm => ?_, fun a w hw => ?_⟩
  · walk_at "n"
    exact fin2 q h1 h2 (due_inl h1 hm) (fun m' hm' => by rw [hm] at hm'; exact (Sum.inl.inj hm').symm) fun a w hw => by rw [hm] at hw; cases hw
  · walk_at "n"
    exact fin2 q h1 h2 (due_inr hw) (fun m' hm' => by rw [hw] at hm'; cases hm') fun a' w' hw' => by
      rw [hw] at hw'
      cases hw'
      rfl
theorem v_law : ∀ as R, pLaw as R → w_law (retEn (hasOwn as) R) (startS 10 as) := by
  rintro as R ⟨ns, rfl, hn, q⟩
  unfold w_law
  walk_at "w0"
  walk_at "n"
  refine ⟨ns, rfl, hn, fun l1 hl1 => ?_⟩
  walk_at "n"
  refine ⟨l1, _, rfl, hl1, by decide, by decide, fun d l2 hl2 hd0 hd1 => ?_⟩
  walk_at "n"
  generalize decide (d = 0) = c
  refine ⟨l2, _, rfl, hl2, by decide, by decide, fun d2 l3 hl3 hd20 hd21 => ?_⟩
  walk_at "n"
  refine forR_inv (P := fun i z => ∃ t l, isStrm l ∧ (cs t).length ≤ 12 * i ∧ 10 ∉ cs t ∧ z = [scrD ns, some (.own none l), some (.val (.bool c)), some (.val (.str t)), none, none, none, none, none, none]) (fun i z hi p N hN => ?_) (fun z p => ?_) ⟨"", l3, hl3, Nat.zero_le _, by decide, rfl⟩
  · obtain ⟨t, l, hl, ht1, ht2, rfl⟩ := p
    walk_at "n"
    refine ⟨l, rfl, hl, fun w l' hw hl' => ?_⟩
    obtain ⟨hw1, hw2⟩ := hw
    have ea : cs (t ++ w) = cs t ++ cs w := cs_app t w
    have hb : t.length + w.length ≤ sizeLine := le_line (by rw [len_cs, len_cs]; omega)
    have yes : ∃ t' l, isStrm l ∧ (cs t').length ≤ 12 * (i + 1) ∧ 10 ∉ cs t' ∧ ([scrD ns, some (.own none l'), some (.val (.bool c)), some (.val (.str (t ++ w))), none, none, none, none, none, none] : SS) = [scrD ns, some (.own none l), some (.val (.bool c)), some (.val (.str t')), none, none, none, none, none, none] :=
      ⟨t ++ w, l', hl', by rw [ea, List.length_append]; omega, by rw [ea, List.mem_append]; exact fun e => e.elim ht2 hw2, rfl⟩
    walk_at "n"
    cases c with
    | false =>
      walk_at "n"
      refine i_addS hb ?_
      walk_at "n"
      exact hN _ yes
    | true =>
      walk_at "n"
      refine i_addS hb ?_
      walk_at "n"
      refine ⟨t ++ w, rfl, by rw [ea, List.length_append]; omega, fun m hm => ?_, fun a v hv => ?_⟩
      · walk_at "n"
        refine i_addS hb ?_
        walk_at "n"
        exact hN _ yes
      · walk_at "n"
        exact hN _ ⟨t, l', hl', by omega, ht2, rfl⟩
  obtain ⟨t, l4, hl4, ht1, ht2, rfl⟩ := p
  have ht : (cs t).length ≤ 8000 := by omega
  have hlt : t.length = (cs t).length := len_cs t
  walk_at "n"
  refine ⟨l4, _, rfl, hl4, by decide, by decide, fun d3 l5 hl5 hd30 hd31 => ?_⟩
  walk_at "n"
  refine i_ifD (fun h => ?_) (fun h => ?_)
  · walk_at "n"
    refine i_lenS (le_line (by omega)) ?_
    walk_at "n"
    refine ⟨l5, ([" ", "(", ".."] : List Str).map PyData.str, rfl, hl5, by simp, by decide, fun x l6 hx hl6 => ?_⟩
    obtain ⟨s, hs, rfl⟩ := List.mem_map.mp hx
    have hsp : ∀ s ∈ ([" ", "(", ".."] : List Str), 1 ≤ (cs s).length ∧ (cs s).length ≤ 2 ∧ 10 ∉ cs s := by decide
    obtain ⟨s1, s2, s3⟩ := hsp s hs
    have hsl : s.length = (cs s).length := len_cs s
    walk_at "n"
    have hh : 0 ≤ (8000 - (t.length : Int)) / 2 ∧ (8000 - (t.length : Int)) / 2 ≤ 4000 ∧ 2 * ((8000 - (t.length : Int)) / 2) ≤ 8000 - (t.length : Int) := by omega
    generalize (8000 - (t.length : Int)) / 2 = hf at hh ⊢
    obtain ⟨n, rfl⟩ := Int.eq_ofNat_of_zero_le hh.1
    have hm : (cs s).length * n ≤ 2 * n := Nat.mul_le_mul_right n s2
    refine ⟨⟨by omega, by omega, le_line (by rw [hsl, Int.toNat_natCast]; omega)⟩, ?_⟩
    walk_at "n"
    have em : (Txt.mul s (n : Nat)).length = (cs s).length * n := by rw [len_cs, len_mul, Int.toNat_natCast]
    refine i_addS (le_line (by rw [em]; omega)) ?_
    have e2 : (cs (t ++ Txt.mul s (n : Nat))).length = (cs t).length + (cs s).length * n := by rw [cs_app, List.length_append, len_mul, Int.toNat_natCast]
    have n2 : 10 ∉ cs (t ++ Txt.mul s (n : Nat)) := by
      rw [cs_app, List.mem_append]
      exact fun e => e.elim ht2 fun e => s3 (cs_mul _ _ _ e)
    have l2 : (t ++ Txt.mul s (n : Nat)).length = (cs (t ++ Txt.mul s (n : Nat))).length := len_cs _
    generalize t ++ Txt.mul s (n : Nat) = u at e2 n2 l2 ⊢
    have hu : (cs u).length ≤ 8000 := by omega
    walk_at "n"
    refine i_lenS (le_line (by omega)) ?_
    walk_at "n"
    refine ⟨l6, _, rfl, hl6, by omega, by omega, fun at' l7 hl7 ha0 ha1 => ?_⟩
    obtain ⟨a, rfl⟩ := Int.eq_ofNat_of_zero_le ha0
    walk_at "n"
    refine i_slS (le_line (by omega)) ?_
    rw [cut_to]
    walk_at "n"
    refine i_lenS (le_line (by omega)) ?_
    walk_at "n"
    refine ⟨⟨by omega, by omega, le_line (by show 1 * _ ≤ _; omega)⟩, ?_⟩
    walk_at "n"
    have em2 : (Txt.mul " " (8000 - (u.length : Int))).length = 8000 - (cs u).length := by
      rw [len_cs, len_mul]
      show 1 * _ = _
      omega
    have ea : (ofL ((cs u).take a)).length = min a (cs u).length := by rw [len_cs, cs_ofL, List.length_take]
    refine i_addS (le_line (by rw [em2, ea]; omega)) ?_
    walk_at "n"
    refine i_slS (le_line (by omega)) ?_
    rw [cut_from]
    walk_at "n"
    have eb : (ofL ((cs u).drop a)).length = (cs u).length - a := by rw [len_cs, cs_ofL, List.length_drop]
    have ec : (ofL ((cs u).take a) ++ Txt.mul " " (8000 - (u.length : Int))).length = min a (cs u).length + (8000 - (cs u).length) := by
      rw [len_cs, cs_app, List.length_append, ← len_cs, ← len_cs, ea, em2]
    refine i_addS (le_line (by rw [ec, eb]; omega)) ?_
    walk_at "n"
    refine fin1 q ?_ ?_
    · rw [cs_app, List.length_append, ← len_cs, ← len_cs, ec, eb]
      omega
    · rw [cs_app, cs_app, cs_ofL, cs_ofL]
      intro e
      rcases List.mem_append.mp e with e | e
      · rcases List.mem_append.mp e with e | e
        · exact n2 (List.mem_of_mem_take e)
        · have := cs_mul _ _ _ e
          revert this
          decide
      · exact n2 (List.mem_of_mem_drop e)
  · walk_at "n"
    exact fin1 q ht ht2
end L3
namespace L3
open PySem PySem.Spec PyProof.Rows L2 L3
def topS (i : Nat) : Stmt := PySem.Challenge.pw_closestfit_k85_whole_tokens_of_texts.main.body.getD i (.Pass ⟨0, 0, 0, 0⟩)
abbrev s_check_text : Stmt := topS 12
abbrev s_row_at : Stmt := topS 13
abbrev s_name_at : Stmt := topS 14
abbrev s_token_at : Stmt := topS 15
abbrev s_scan : Stmt := topS 16
abbrev s_law_stream : Stmt := topS 18
abbrev s_law_next : Stmt := topS 19
abbrev s_law_pick : Stmt := topS 20
abbrev s_law_is_integer : Stmt := topS 21
abbrev s_law_same : Stmt := topS 22
abbrev s_law_word : Stmt := topS 23
abbrev s_law_run : Stmt := topS 24
abbrev s_law_scan : Stmt := topS 25
abbrev s_law_piece : Stmt := topS 26
abbrev s_law_scanned : Stmt := topS 27
abbrev s_law : Stmt := topS 28
structure Bl (P : Program) (w : World) (K : PySem.W.Frag) (mg : Str → Option Value) (base : Heap) (A_TextError : Addr) : Prop where
  b_abs : mg "abs" = none
  b_bool : mg "bool" = none
  b_int : mg "int" = none
  b_isinstance : mg "isinstance" = none
  b_len : mg "len" = none
  b_list : mg "list" = none
  b_range : mg "range" = none
  b_str : mg "str" = none
  b_tuple : mg "tuple" = none
  c_SMALL : ∃ t, mg "SMALL" = some (.str "abcdefghijklmnopqrstuvwxyz" t)
  c_GREAT : ∃ t, mg "GREAT" = some (.str "ABCDEFGHIJKLMNOPQRSTUVWXYZ" t)
  c_DIGITS : ∃ t, mg "DIGITS" = some (.str "0123456789" t)
  c_LONGEST_TEXT : ∃ t, mg "LONGEST_TEXT" = some (.int 8000 t)
  c_MOST_LETTERS : ∃ t, mg "MOST_LETTERS" = some (.int 8 t)
  c_MOST_DIGITS : ∃ t, mg "MOST_DIGITS" = some (.int 6 t)
  c_SIGNS : CT K mg "SIGNS" ["(", ")", ",", ";", ":", "=", "|", "..", "#"]
  e_TextError : Ec P w K mg base "TextError" A_TextError 1 ["column", "words"]
  g_TextError : mg "TextError" = some (.ref A_TextError)
  q_TextError_TextError : PySem.W.exmOne K (.ref A_TextError) (.ref A_TextError) = some true
section
variable {P : Program} {w : World} {K : PySem.W.Frag} {mg : Str → Option Value} {base : Heap} {A_TextError : Addr}
theorem Bl.hm_TextError (T : Bl P w K mg base A_TextError) {y : Str} {b : Bool} (h : mt_TextError y = some b) : ∃ C : Addr, mg y = some (.ref C) ∧ PySem.W.exmOne K (.ref C) (.ref A_TextError) = some b := by
  unfold mt_TextError at h
  by_cases e_TextError : y = "TextError"
  · rw [if_pos e_TextError] at h
    cases h
    subst e_TextError
    exact ⟨_, T.e_TextError.mgc, T.q_TextError_TextError⟩
  rw [if_neg e_TextError] at h
  cases h
theorem Bl.hx_TextError_column (T : Bl P w K mg base A_TextError) {x : Xn} (h : mt_TextError x.c = some true) : ∀ C, mg x.c = some (.ref C) → XfC K C ∧ PySem.W.findIn K (.ref C) "column" = some none := by
  intro C g
  unfold mt_TextError at h
  by_cases e_TextError : x.c = "TextError"
  · rw [e_TextError, T.e_TextError.mgc] at g
    cases g
    exact ⟨T.e_TextError.xf, T.e_TextError.no _ (by simp)⟩
  rw [if_neg e_TextError] at h
  cases h
theorem Bl.hx_TextError_words (T : Bl P w K mg base A_TextError) {x : Xn} (h : mt_TextError x.c = some true) : ∀ C, mg x.c = some (.ref C) → XfC K C ∧ PySem.W.findIn K (.ref C) "words" = some none := by
  intro C g
  unfold mt_TextError at h
  by_cases e_TextError : x.c = "TextError"
  · rw [e_TextError, T.e_TextError.mgc] at g
    cases g
    exact ⟨T.e_TextError.xf, T.e_TextError.no _ (by simp)⟩
  rw [if_neg e_TextError] at h
  cases h
abbrev s_init_TextError : Stmt := (clsB (topS 3)).getD 0 (.Pass ⟨0, 0, 0, 0⟩)
theorem sc_init_TextError : FnScope ["self", "column", "words"] ["self", "column", "words"] (defScope s_init_TextError) := ⟨rfl, rfl, rfl, by decide +kernel, rfl, by decide +kernel, by decide +kernel⟩
theorem init_TextError {C f : Addr} {fd : FuncData} (Fn : Fun K "__init__" "TextError.__init__" s_init_TextError f fd) (T : OexC K C) (n0 : PySem.W.findIn K (.ref C) "column" = some none) (n1 : PySem.W.findIn K (.ref C) "words" = some none) : FnOk P w K mg base CX0 1 f fd ["self", "column", "words"] (spInit K C ["column", "words"]) :=
  init2 Fn sc_init_TextError T n0 n1 fun cdv A outer s H E => (pss_cons (ps_ost (pv (x := "self") 0) (pv (x := "column") 1)) (pss_one (ps_ost (pv (x := "self") 0) (pv (x := "words") 2))))
theorem sc_check_text : FnScope ["text"] ["text"] (defScope s_check_text) := ⟨rfl, rfl, rfl, by decide +kernel, rfl, by decide +kernel, by decide +kernel⟩
theorem x_check_text (T : Bl P w K mg base A_TextError) {f : Addr} {fd : FuncData} (Fn : Fun K "check_text" "check_text" s_check_text f fd) : FnOk P w K mg base CX0 1 f fd ["text"] (spOf K p_check_text) :=
  have nd := sc_check_text.nd
  fn_ok Fn sc_check_text l_check_text (t := w_check_text) (fun cdv A outer s H E F hr =>
(xss_one (xs_if (XW.xt (xw_or (xt_not (xt_val (xe_isa (n := "str") kit_str (by rfl) T.b_isinstance (xe_v 0) (by rfl) T.b_str (by decide +kernel)))) (xw_or (xt_cmp op_gt (vr_ii0 fun _ _ _ => .bl _) (xe_len (by rfl) T.b_len (xa_cons (xe_v 0) xa_nil)) (xe_gI (by rfl) T.c_LONGEST_TEXT) (nomark _)) (xw_or1 (xt_cmp (op_inP hr.units) vr_in xe_str (xe_v 0) (by rfl))))))
 (xss_one xs_never)
 xss_nil))) v_check_text
theorem sc_row_at : FnScope ["text", "at", "letters", "end"] ["text", "at", "letters"] (defScope s_row_at) := ⟨rfl, rfl, rfl, by decide +kernel, rfl, by decide +kernel, by decide +kernel⟩
theorem x_row_at (T : Bl P w K mg base A_TextError) {f : Addr} {fd : FuncData} (Fn : Fun K "row_at" "row_at" s_row_at f fd) : FnOk P w K mg base CX0 1 f fd ["text", "at", "letters"] (spOf K p_row_at) :=
  have nd := sc_row_at.nd
  fn_ok Fn sc_row_at l_row_at (t := w_row_at) (fun cdv A outer s H E F hr =>
(xss_cons (xs_set (i := 3) nd rfl (.inl rfl) (xe_v 1))
 (xss_cons (xs_while PassesOwn.never (XW.xt (xw_and (xt_cmp op_lt (vr_ii0 fun _ _ _ => .bl _) (xe_v 3) (xe_len (by rfl) T.b_len (xa_cons (xe_v 0) xa_nil)) (nomark _)) (xw_and1 (xt_cmp (op_inP hr.units) vr_in (xe_ix (xe_v 0) (xe_v 3)) (xe_v 2) (by rfl)))))
 (xss_one (xs_set (i := 3) nd rfl (.inl rfl) (xe_op op_addX vr_add (xe_v 3) xe_int))))
 (xss_one (xs_retR (xr_sl (xe_v 0) (xo_some (xe_v 1)) (xo_some (xe_v 3)))))))) v_row_at
theorem sc_name_at : FnScope ["text", "at", "name", "kind"] ["text", "at"] (defScope s_name_at) := ⟨rfl, rfl, rfl, by decide +kernel, rfl, by decide +kernel, by decide +kernel⟩
theorem x_name_at (T : Bl P w K mg base A_TextError) (d_row_at : Fd P w K mg base "row_at" 1 ["text", "at", "letters"] p_row_at) {f : Addr} {fd : FuncData} (Fn : Fun K "name_at" "name_at" s_name_at f fd) : FnOk P w K mg base (L2.CX P w) 3 f fd ["text", "at"] (spOfX K mg p_name_at) :=
  have nd := sc_name_at.nd
  fn_okX Fn sc_name_at l_name_at (t := w_name_at) (fun cdv A outer s H E F W hr tk hp =>
(xss_cons (xs_if (xt_cmp (op_inP hr.units) vr_in (xe_ix (xe_v 0) (xe_v 1)) (xe_gS (by rfl) T.c_GREAT) (by rfl))
 (xss_cons (xs_set (i := 2) nd rfl (.inl rfl) (xe_op op_addX vr_add (xe_ix (xe_v 0) (xe_v 1)) (XR.xe (xr_call m_row_at (d_row_at.ok.mono (by decide)) hr (by rfl) d_row_at.mg d_row_at.kp d_row_at.b (xa_cons (xe_v 0) (xa_cons (xe_op op_addX vr_add (xe_v 1) xe_int) (xa_cons (xe_gS (by rfl) T.c_SMALL) xa_nil)))))))
 (xss_one (xs_set (i := 3) nd rfl (.inl rfl) xe_str)))
 (xss_cons (xs_set (i := 2) nd rfl (.inl rfl) (XR.xe (xr_call m_row_at (d_row_at.ok.mono (by decide)) hr (by rfl) d_row_at.mg d_row_at.kp d_row_at.b (xa_cons (xe_v 0) (xa_cons (xe_v 1) (xa_cons (xe_gS (by rfl) T.c_SMALL) xa_nil))))))
 (xss_one (xs_set (i := 3) nd rfl (.inl rfl) (xe_if (xt_cmp (op_eqP hr.units) vr_eq (xe_len (by rfl) T.b_len (xa_cons (xe_v 2) xa_nil)) xe_int (nomark _)) xe_str xe_str)))))
 (xss_cons (xs_if (xt_cmp op_gt (vr_ii0 fun _ _ _ => .bl _) (xe_len (by rfl) T.b_len (xa_cons (xe_v 2) xa_nil)) (xe_gI (by rfl) T.c_MOST_LETTERS) (nomark _))
 (xss_one (xs_raise rfl tk T.e_TextError (hr.mono (by decide)) (by rfl) (xa_cons (xe_op op_addX vr_add (xe_v 1) xe_int) (xa_cons xe_str xa_nil))))
 xss_nil)
 (xss_one (xs_ret (xe_tup (xa_cons (xe_v 3) (xa_cons (xe_v 2) (xa_cons (xe_op op_addX vr_add (xe_v 1) xe_int) xa_nil))))))))) v_name_at
theorem sc_token_at : FnScope ["text", "at", "number", "sign"] ["text", "at"] (defScope s_token_at) := ⟨rfl, rfl, rfl, by decide +kernel, rfl, by decide +kernel, by decide +kernel⟩
theorem x_token_at (T : Bl P w K mg base A_TextError) (d_name_at : FdX P w K mg base "name_at" 3 ["text", "at"] p_name_at) (d_row_at : Fd P w K mg base "row_at" 1 ["text", "at", "letters"] p_row_at) {f : Addr} {fd : FuncData} (Fn : Fun K "token_at" "token_at" s_token_at f fd) : FnOk P w K mg base (L2.CX P w) 4 f fd ["text", "at"] (spOfX K mg p_token_at) :=
  have nd := sc_token_at.nd
  fn_okX Fn sc_token_at l_token_at (t := w_token_at) (fun cdv A outer s H E F W hr tk hp =>
(xss_cons (xs_if (XW.xt (xw_or (xt_cmp (op_inP hr.units) vr_in (xe_ix (xe_v 0) (xe_v 1)) (xe_gS (by rfl) T.c_SMALL) (by rfl)) (xw_or1 (xt_cmp (op_inP hr.units) vr_in (xe_ix (xe_v 0) (xe_v 1)) (xe_gS (by rfl) T.c_GREAT) (by rfl)))))
 (xss_one (xs_retR (xr_callX tk m_name_at (d_name_at.ok.mono (by decide)) hr (by rfl) d_name_at.mg d_name_at.kp d_name_at.b (xa_cons (xe_v 0) (xa_cons (xe_v 1) xa_nil)))))
 xss_nil)
 (xss_cons (xs_if (xt_cmp (op_inP hr.units) vr_in (xe_ix (xe_v 0) (xe_v 1)) (xe_gS (by rfl) T.c_DIGITS) (by rfl))
 (xss_cons (xs_set (i := 2) nd rfl (.inl rfl) (XR.xe (xr_call m_row_at (d_row_at.ok.mono (by decide)) hr (by rfl) d_row_at.mg d_row_at.kp d_row_at.b (xa_cons (xe_v 0) (xa_cons (xe_v 1) (xa_cons (xe_gS (by rfl) T.c_DIGITS) xa_nil))))))
 (xss_cons (xs_if (xt_cmp op_gt (vr_ii0 fun _ _ _ => .bl _) (xe_len (by rfl) T.b_len (xa_cons (xe_v 2) xa_nil)) (xe_gI (by rfl) T.c_MOST_DIGITS) (nomark _))
 (xss_one (xs_raise rfl tk T.e_TextError (hr.mono (by decide)) (by rfl) (xa_cons (xe_op op_addX vr_add (xe_v 1) xe_int) (xa_cons xe_str xa_nil))))
 xss_nil)
 (xss_one (xs_ret (xe_tup (xa_cons xe_str (xa_cons (xe_v 2) (xa_cons (xe_op op_addX vr_add (xe_v 1) xe_int) xa_nil))))))))
 xss_nil)
 (xss_cons (xs_for hp rfl (xi_any (xe_gT (by rfl) T.c_SIGNS)) (xg_name (i := 3) nd rfl (.inl rfl))
 (xss_kill [3] (xss_one (xs_if (xt_cmp (op_eqP hr.units) vr_eq (XR.xe (xr_sl (xe_v 0) (xo_some (xe_v 1)) (xo_some (xe_op op_addX vr_add (xe_v 1) (xe_len (by rfl) T.b_len (xa_cons (xe_v 3) xa_nil)))))) (xe_v 3) (nomark _))
 (xss_one (xs_ret (xe_tup (xa_cons xe_str (xa_cons (xe_v 3) (xa_cons (xe_op op_addX vr_add (xe_v 1) xe_int) xa_nil))))))
 xss_nil))))
 (xss_one (xs_raise rfl tk T.e_TextError (hr.mono (by decide)) (by rfl) (xa_cons (xe_op op_addX vr_add (xe_v 1) xe_int) (xa_cons xe_str xa_nil)))))))) v_token_at
theorem sc_scan : FnScope ["text", "tokens", "at"] ["text"] (defScope s_scan) := ⟨rfl, rfl, rfl, by decide +kernel, rfl, by decide +kernel, by decide +kernel⟩
theorem x_scan (T : Bl P w K mg base A_TextError) (d_check_text : Fd P w K mg base "check_text" 1 ["text"] p_check_text) (d_token_at : FdX P w K mg base "token_at" 4 ["text", "at"] p_token_at) {f : Addr} {fd : FuncData} (Fn : Fun K "scan" "scan" s_scan f fd) : FnOk P w K mg base (L2.CX P w) 5 f fd ["text"] (spOfX K mg p_scan) :=
  have nd := sc_scan.nd
  fn_okX Fn sc_scan l_scan (t := w_scan) (fun cdv A outer s H E F W hr tk hp =>
(xss_cons (xs_expr (XR.xe (xr_call m_check_text (d_check_text.ok.mono (by decide)) hr (by rfl) d_check_text.mg d_check_text.kp d_check_text.b (xa_cons (xe_v 0) xa_nil))))
 (xss_cons (xs_setO (i := 1) nd rfl (.inl rfl) (xr_lst xa_nil))
 (xss_cons (xs_set (i := 2) nd rfl (.inl rfl) xe_int)
 (xss_cons (xs_while hp (xt_cmp op_lt (vr_ii0 fun _ _ _ => .bl _) (xe_v 2) (xe_len (by rfl) T.b_len (xa_cons (xe_v 0) xa_nil)) (nomark _))
 (xss_one (xs_if (xt_cmp (op_eqP hr.units) vr_eq (xe_ix (xe_v 0) (xe_v 2)) xe_str (nomark _))
 (xss_one (xs_set (i := 2) nd rfl (.inl rfl) (xe_op op_addX vr_add (xe_v 2) xe_int)))
 (xss_cons (xs_expr (XR.xe (xr_append (xe_v 1) (xa_cons (XR.xe (xr_callX tk m_token_at (d_token_at.ok.mono (by decide)) hr (by rfl) d_token_at.mg d_token_at.kp d_token_at.b (xa_cons (xe_v 0) (xa_cons (xe_v 2) xa_nil)))) xa_nil))))
 (xss_one (xs_set (i := 2) nd rfl (.inl rfl) (xe_op op_addX vr_add (xe_v 2) (xe_len (by rfl) T.b_len (xa_cons (xe_ix (xe_ix (xe_v 1) (xe_neg xe_int)) xe_int) xa_nil)))))))))
 (xss_cons (xs_expr (XR.xe (xr_append (xe_v 1) (xa_cons (xe_tup (xa_cons xe_str (xa_cons xe_str (xa_cons (xe_op op_addX vr_add (xe_len (by rfl) T.b_len (xa_cons (xe_v 0) xa_nil)) xe_int) xa_nil)))) xa_nil))))
 (xss_one (xs_retO 1)))))))) v_scan
theorem sc_law_stream : FnScope ["script"] ["script"] (defScope s_law_stream) := ⟨rfl, rfl, rfl, by decide +kernel, rfl, by decide +kernel, by decide +kernel⟩
theorem x_law_stream (T : Bl P w K mg base A_TextError) {f : Addr} {fd : FuncData} (Fn : Fun K "_law_stream" "_law_stream" s_law_stream f fd) : FnOk P w K mg base CX0 1 f fd ["script"] (spOf K p_law_stream) :=
  have nd := sc_law_stream.nd
  fn_ok Fn sc_law_stream l_law_stream (t := w_law_stream) (fun cdv A outer s H E F hr =>
(xss_one (xs_retR (xr_lst (xa_cons (XR.xe (xr_list (by rfl) T.b_list (xa_cons (xe_v 0) xa_nil))) (xa_cons xe_int (xa_cons xe_int xa_nil))))))) v_law_stream
theorem sc_law_next : FnScope ["stream", "many", "k", "cell", "digit"] ["stream", "many"] (defScope s_law_next) := ⟨rfl, rfl, rfl, by decide +kernel, rfl, by decide +kernel, by decide +kernel⟩
theorem x_law_next (T : Bl P w K mg base A_TextError) {f : Addr} {fd : FuncData} (Fn : Fun K "_law_next" "_law_next" s_law_next f fd) : FnOk P w K mg base CX0 1 f fd ["stream", "many"] (spOf K p_law_next) :=
  have nd := sc_law_next.nd
  fn_ok Fn sc_law_next l_law_next (t := w_law_next) (fun cdv A outer s H E F hr =>
(xss_cons (xs_if (xt_cmp (op_eqP hr.units) vr_eq (xe_ix (xe_v 0) xe_int) xe_int (nomark _))
 (xss_cons (xs_set (i := 2) nd rfl (.inl rfl) (xe_ix (xe_v 0) xe_int))
 (xss_cons (xs_set (i := 3) nd rfl (.inl rfl) (xe_op op_addX vr_add xe_int (xe_v 2)))
 (xss_cons (xs_if (xt_cmp op_lt (vr_ii0 fun _ _ _ => .bl _) (xe_v 2) (xe_len (by rfl) T.b_len (xa_cons (xe_ix (xe_v 0) xe_int) xa_nil)) (nomark _))
 (xss_one (xs_set (i := 3) nd rfl (.inl rfl) (xe_abs (by rfl) T.b_abs (xa_cons (xe_ix (xe_ix (xe_v 0) xe_int) (xe_v 2)) xa_nil))))
 xss_nil)
 (xss_cons (xs_if (xt_cmp op_lt (vr_ii0 fun _ _ _ => .bl _) (xe_v 3) (xe_op op_pow (vr_ii fun _ _ _ => .int _) xe_int xe_int) (nomark _))
 (xss_cons (xs_set (i := 3) nd rfl (.inl rfl) (xe_op op_mod (vr_ii fun _ _ _ => .int _) (xe_intc (by rfl) T.b_int (xa_cons (xe_op op_addX vr_add (xe_op op_addX vr_add (xe_op op_mulX vr_mul (xe_v 3) xe_int) (xe_op op_mulX vr_mul (xe_v 2) xe_int)) xe_int) xa_nil)) xe_int))
 (xss_one (xs_set (i := 3) nd rfl (.inl rfl) (xe_op op_addX vr_add (xe_op op_mulX vr_mul (xe_op op_mod (vr_ii fun _ _ _ => .int _) (xe_intc (by rfl) T.b_int (xa_cons (xe_op op_addX vr_add (xe_op op_mulX vr_mul (xe_v 3) xe_int) xe_int) xa_nil)) xe_int) xe_int) (xe_v 3)))))
 xss_nil)
 (xss_cons (xs_put (xe_v 3) (xe_v 0) xe_int)
 (xss_one (xs_put (xe_op op_addX vr_add (xe_v 2) xe_int) (xe_v 0) xe_int)))))))
 xss_nil)
 (xss_cons (xs_set (i := 4) nd rfl (.inl rfl) (xe_op op_mod (vr_ii fun _ _ _ => .int _) (xe_intc (by rfl) T.b_int (xa_cons (xe_ix (xe_v 0) xe_int) xa_nil)) (xe_v 1)))
 (xss_cons (xs_put (xe_op op_fdiv (vr_ii fun _ _ _ => .int _) (xe_ix (xe_v 0) xe_int) (xe_v 1)) (xe_v 0) xe_int)
 (xss_one (xs_ret (xe_v 4))))))) v_law_next
theorem sc_law_pick : FnScope ["stream", "rows"] ["stream", "rows"] (defScope s_law_pick) := ⟨rfl, rfl, rfl, by decide +kernel, rfl, by decide +kernel, by decide +kernel⟩
theorem x_law_pick (T : Bl P w K mg base A_TextError) (d_law_next : Fd P w K mg base "_law_next" 1 ["stream", "many"] p_law_next) {f : Addr} {fd : FuncData} (Fn : Fun K "_law_pick" "_law_pick" s_law_pick f fd) : FnOk P w K mg base CX0 2 f fd ["stream", "rows"] (spOf K p_law_pick) :=
  have nd := sc_law_pick.nd
  fn_ok Fn sc_law_pick l_law_pick (t := w_law_pick) (fun cdv A outer s H E F hr =>
(xss_one (xs_ret (xe_ix (xe_v 1) (XR.xe (xr_call m_law_next (d_law_next.ok.mono (by decide)) hr (by rfl) d_law_next.mg d_law_next.kp d_law_next.b (xa_cons (xe_v 0) (xa_cons (xe_len (by rfl) T.b_len (xa_cons (xe_v 1) xa_nil)) xa_nil)))))))) v_law_pick
theorem sc_law_is_integer : FnScope ["actual"] ["actual"] (defScope s_law_is_integer) := ⟨rfl, rfl, rfl, by decide +kernel, rfl, by decide +kernel, by decide +kernel⟩
theorem x_law_is_integer (T : Bl P w K mg base A_TextError) {f : Addr} {fd : FuncData} (Fn : Fun K "_law_is_integer" "_law_is_integer" s_law_is_integer f fd) : FnOk P w K mg base CX0 1 f fd ["actual"] (spOf K p_law_is_integer) :=
  have nd := sc_law_is_integer.nd
  fn_ok Fn sc_law_is_integer l_law_is_integer (t := w_law_is_integer) (fun cdv A outer s H E F hr =>
(xss_one (xs_ret (xe_and (xe_isa (n := "int") kit_int (by rfl) T.b_isinstance (xe_v 0) (by rfl) T.b_int (by decide +kernel)) (xe_one (xe_not (xe_isa (n := "bool") kit_bool (by rfl) T.b_isinstance (xe_v 0) (by rfl) T.b_bool (by decide +kernel)))))))) v_law_is_integer
theorem sc_law_same : FnScope ["actual", "due", "left", "turn", "one", "other", "at"] ["actual", "due"] (defScope s_law_same) := ⟨rfl, rfl, rfl, by decide +kernel, rfl, by decide +kernel, by decide +kernel⟩
theorem x_law_same (T : Bl P w K mg base A_TextError) (d_law_is_integer : Fd P w K mg base "_law_is_integer" 1 ["actual"] p_law_is_integer) {f : Addr} {fd : FuncData} (Fn : Fun K "_law_same" "_law_same" s_law_same f fd) : FnOk P w K mg base CX0 2 f fd ["actual", "due"] (spOf K p_law_same) :=
  have nd := sc_law_same.nd
  fn_ok Fn sc_law_same l_law_same (t := w_law_same) (fun cdv A outer s H E F hr =>
(xss_cons (xs_setO (i := 2) nd rfl (.inl rfl) (xr_lst (xa_cons (xe_tup (xa_cons (xe_v 0) (xa_cons (xe_v 1) xa_nil))) xa_nil)))
 (xss_cons (xs_for PassesOwn.never rfl (xi_range1 (by rfl) T.b_range (xa_cons xe_int xa_nil)) (xg_name (i := 3) nd rfl (.inl rfl))
 (xss_kill [3, 4, 5] (xss_cons (xs_if (xt_cmp (op_eqP hr.units) vr_eq (xe_len (by rfl) T.b_len (xa_cons (xe_v 2) xa_nil)) xe_int (nomark _))
 (xss_one (xs_ret xe_bl))
 xss_nil)
 (xss_cons (xs_asg (XR.xe (xr_pop (xe_v 2))) (xg_tup rfl (xgs_cons (xg_name (i := 4) nd rfl (.inr rfl)) (xgs_cons (xg_name (i := 5) nd rfl (.inr rfl)) xgs_nil))))
 (xss_one (xs_if (XW.xt (xw_or (xt_val (xe_isa (n := "tuple") kit_tuple (by rfl) T.b_isinstance (xe_v 5) (by rfl) T.b_tuple (by decide +kernel))) (xw_or1 (xt_val (xe_isa (n := "list") kit_list (by rfl) T.b_isinstance (xe_v 5) (by rfl) T.b_list (by decide +kernel))))))
 (xss_cons (xs_if (XW.xt (xw_or (xt_cmp (op_neP hr.units) vr_eq (xe_isa (n := "tuple") kit_tuple (by rfl) T.b_isinstance (xe_v 5) (by rfl) T.b_tuple (by decide +kernel)) (xe_isa (n := "tuple") kit_tuple (by rfl) T.b_isinstance (xe_v 4) (by rfl) T.b_tuple (by decide +kernel)) (nomark _)) (xw_or1 (xt_cmp (op_neP hr.units) vr_eq (xe_isa (n := "list") kit_list (by rfl) T.b_isinstance (xe_v 5) (by rfl) T.b_list (by decide +kernel)) (xe_isa (n := "list") kit_list (by rfl) T.b_isinstance (xe_v 4) (by rfl) T.b_list (by decide +kernel)) (nomark _)))))
 (xss_one (xs_ret xe_bl))
 xss_nil)
 (xss_cons (xs_if (xt_cmp (op_neP hr.units) vr_eq (xe_len (by rfl) T.b_len (xa_cons (xe_v 4) xa_nil)) (xe_len (by rfl) T.b_len (xa_cons (xe_v 5) xa_nil)) (nomark _))
 (xss_one (xs_ret xe_bl))
 xss_nil)
 (xss_one (xs_expr (XR.xe (xr_extend (xe_v 2) (xa_cons (XR.xe (xr_lcA [("at", 6)] rfl nd (xi_range1 (by rfl) T.b_range (xa_cons (xe_len (by rfl) T.b_len (xa_cons (xe_v 5) xa_nil)) xa_nil)) (blkOk_by (by kernel_rfl)) (fun _ _ _ _ _ => (xg_name (i := 6) nd rfl (.inl rfl) (by first | exact .inl rfl | exact .inr rfl))) (fun _ _ _ _ _ => xts_nil) (fun _ _ _ _ _ => (xe_tup (xa_cons (xe_ix (xe_v 4) (xe_v 6)) (xa_cons (xe_ix (xe_v 5) (xe_v 6)) xa_nil)))))) xa_nil)))))))
 (xss_one (xs_if (xt_val (xe_isa (n := "bool") kit_bool (by rfl) T.b_isinstance (xe_v 5) (by rfl) T.b_bool (by decide +kernel)))
 (xss_one (xs_if (XW.xt (xw_or (xt_not (xt_val (xe_isa (n := "bool") kit_bool (by rfl) T.b_isinstance (xe_v 4) (by rfl) T.b_bool (by decide +kernel)))) (xw_or1 (xt_cmp (op_neP hr.units) vr_eq (xe_v 4) (xe_v 5) (nomark _)))))
 (xss_one (xs_ret xe_bl))
 xss_nil))
 (xss_one (xs_if (xt_val (xe_isa (n := "int") kit_int (by rfl) T.b_isinstance (xe_v 5) (by rfl) T.b_int (by decide +kernel)))
 (xss_one (xs_if (XW.xt (xw_or (xt_not (xt_val (XR.xe (xr_call m_law_is_integer (d_law_is_integer.ok.mono (by decide)) hr (by rfl) d_law_is_integer.mg d_law_is_integer.kp d_law_is_integer.b (xa_cons (xe_v 4) xa_nil))))) (xw_or1 (xt_cmp (op_neP hr.units) vr_eq (xe_v 4) (xe_v 5) (nomark _)))))
 (xss_one (xs_ret xe_bl))
 xss_nil))
 (xss_one (xs_if (xt_val (xe_isa (n := "str") kit_str (by rfl) T.b_isinstance (xe_v 5) (by rfl) T.b_str (by decide +kernel)))
 (xss_one (xs_if (XW.xt (xw_or (xt_not (xt_val (xe_isa (n := "str") kit_str (by rfl) T.b_isinstance (xe_v 4) (by rfl) T.b_str (by decide +kernel)))) (xw_or1 (xt_cmp (op_neP hr.units) vr_eq (xe_v 4) (xe_v 5) (nomark _)))))
 (xss_one (xs_ret xe_bl))
 xss_nil))
 (xss_one (xs_if (xt_cmp op_notN vr_notN (xe_v 4) xe_non (nomark _))
 (xss_one (xs_ret xe_bl))
 xss_nil))))))))))))))
 (xss_one (xs_ret xe_bl))))) v_law_same
theorem sc_law_word : FnScope ["stream", "least", "most", "letters", "word", "at"] ["stream", "least", "most"] (defScope s_law_word) := ⟨rfl, rfl, rfl, by decide +kernel, rfl, by decide +kernel, by decide +kernel⟩
theorem x_law_word (T : Bl P w K mg base A_TextError) (d_law_next : Fd P w K mg base "_law_next" 1 ["stream", "many"] p_law_next) {f : Addr} {fd : FuncData} (Fn : Fun K "_law_word" "_law_word" s_law_word f fd) : FnOk P w K mg base CX0 2 f fd ["stream", "least", "most"] (spOf K p_law_word) :=
  have nd := sc_law_word.nd
  fn_ok Fn sc_law_word l_law_word (t := w_law_word) (fun cdv A outer s H E F hr =>
(xss_cons (xs_set (i := 3) nd rfl (.inl rfl) xe_str)
 (xss_cons (xs_set (i := 4) nd rfl (.inl rfl) xe_str)
 (xss_cons (xs_for PassesOwn.never rfl (xi_range1 (by rfl) T.b_range (xa_cons (xe_op op_addX vr_add (xe_v 1) (XR.xe (xr_call m_law_next (d_law_next.ok.mono (by decide)) hr (by rfl) d_law_next.mg d_law_next.kp d_law_next.b (xa_cons (xe_v 0) (xa_cons (xe_op op_addX vr_add (xe_op op_sub (vr_ii0 fun _ _ _ => .int _) (xe_v 2) (xe_v 1)) xe_int) xa_nil))))) xa_nil)) (xg_name (i := 5) nd rfl (.inl rfl))
 (xss_kill [5] (xss_one (xs_set (i := 4) nd rfl (.inl rfl) (xe_op op_addX vr_add (xe_v 4) (xe_ix (xe_v 3) (XR.xe (xr_call m_law_next (d_law_next.ok.mono (by decide)) hr (by rfl) d_law_next.mg d_law_next.kp d_law_next.b (xa_cons (xe_v 0) (xa_cons xe_int xa_nil))))))))))
 (xss_one (xs_ret (xe_v 4))))))) v_law_word
theorem sc_law_run : FnScope ["text", "at", "letters", "place"] ["text", "at", "letters"] (defScope s_law_run) := ⟨rfl, rfl, rfl, by decide +kernel, rfl, by decide +kernel, by decide +kernel⟩
theorem x_law_run (T : Bl P w K mg base A_TextError) {f : Addr} {fd : FuncData} (Fn : Fun K "_law_run" "_law_run" s_law_run f fd) : FnOk P w K mg base CX0 1 f fd ["text", "at", "letters"] (spOf K p_law_run) :=
  have nd := sc_law_run.nd
  fn_ok Fn sc_law_run l_law_run (t := w_law_run) (fun cdv A outer s H E F hr =>
(xss_cons (xs_for PassesOwn.never rfl (xi_range2 (by rfl) T.b_range (xa_cons (xe_v 1) (xa_cons (xe_len (by rfl) T.b_len (xa_cons (xe_v 0) xa_nil)) xa_nil))) (xg_name (i := 3) nd rfl (.inl rfl))
 (xss_kill [3] (xss_one (xs_if (xt_cmp (op_notinP hr.units) vr_in (xe_ix (xe_v 0) (xe_v 3)) (xe_v 2) (by rfl))
 (xss_one (xs_ret (xe_v 3)))
 xss_nil))))
 (xss_one (xs_ret (xe_len (by rfl) T.b_len (xa_cons (xe_v 0) xa_nil)))))) v_law_run
theorem sc_law_scan : FnScope ["text", "lower", "found", "at", "turn", "first", "end", "word", "most"] ["text"] (defScope s_law_scan) := ⟨rfl, rfl, rfl, by decide +kernel, rfl, by decide +kernel, by decide +kernel⟩
theorem x_law_scan (T : Bl P w K mg base A_TextError) (d_law_run : Fd P w K mg base "_law_run" 1 ["text", "at", "letters"] p_law_run) {f : Addr} {fd : FuncData} (Fn : Fun K "_law_scan" "_law_scan" s_law_scan f fd) : FnOk P w K mg base CX0 2 f fd ["text"] (spOf K p_law_scan) :=
  have nd := sc_law_scan.nd
  fn_ok Fn sc_law_scan l_law_scan (t := w_law_scan) (fun cdv A outer s H E F hr =>
(xss_cons (xs_set (i := 1) nd rfl (.inl rfl) xe_str)
 (xss_cons (xs_setO (i := 2) nd rfl (.inl rfl) (xr_lst xa_nil))
 (xss_cons (xs_set (i := 3) nd rfl (.inl rfl) xe_int)
 (xss_cons (xs_for PassesOwn.never rfl (xi_range1 (by rfl) T.b_range (xa_cons (xe_op op_addX vr_add (xe_len (by rfl) T.b_len (xa_cons (xe_v 0) xa_nil)) xe_int) xa_nil)) (xg_name (i := 4) nd rfl (.inl rfl))
 (xss_kill [4, 5, 6, 7, 8] (xss_cons (xs_set (i := 3) nd rfl (.inl rfl) (XR.xe (xr_call m_law_run (d_law_run.ok.mono (by decide)) hr (by rfl) d_law_run.mg d_law_run.kp d_law_run.b (xa_cons (xe_v 0) (xa_cons (xe_v 3) (xa_cons xe_str xa_nil))))))
 (xss_cons (xs_if (xt_cmp (op_eqP hr.units) vr_eq (xe_v 3) (xe_len (by rfl) T.b_len (xa_cons (xe_v 0) xa_nil)) (nomark _))
 (xss_cons (xs_expr (XR.xe (xr_append (xe_v 2) (xa_cons (xe_tup (xa_cons xe_str (xa_cons xe_str (xa_cons (xe_op op_addX vr_add (xe_v 3) xe_int) xa_nil)))) xa_nil))))
 (xss_one (xs_retO 2)))
 xss_nil)
 (xss_cons (xs_set (i := 5) nd rfl (.inl rfl) (xe_ix (xe_v 0) (xe_v 3)))
 (xss_cons (xs_set (i := 6) nd rfl (.inl rfl) (xe_op op_addX vr_add (xe_v 3) xe_int))
 (xss_cons (xs_set (i := 7) nd rfl (.inl rfl) xe_str)
 (xss_cons (xs_set (i := 8) nd rfl (.inl rfl) xe_int)
 (xss_cons (xs_if (xt_cmp (op_inP hr.units) vr_in (xe_v 5) (xe_v 1) (by rfl))
 (xss_cons (xs_set (i := 6) nd rfl (.inl rfl) (XR.xe (xr_call m_law_run (d_law_run.ok.mono (by decide)) hr (by rfl) d_law_run.mg d_law_run.kp d_law_run.b (xa_cons (xe_v 0) (xa_cons (xe_v 3) (xa_cons (xe_v 1) xa_nil))))))
 (xss_one (xs_set (i := 7) nd rfl (.inl rfl) (xe_if (xt_cmp (op_eqP hr.units) vr_eq (xe_v 6) (xe_op op_addX vr_add (xe_v 3) xe_int) (nomark _)) xe_str xe_str))))
 (xss_one (xs_if (xt_cmp (op_inP hr.units) vr_in (xe_v 5) xe_str (by rfl))
 (xss_cons (xs_set (i := 6) nd rfl (.inl rfl) (XR.xe (xr_call m_law_run (d_law_run.ok.mono (by decide)) hr (by rfl) d_law_run.mg d_law_run.kp d_law_run.b (xa_cons (xe_v 0) (xa_cons (xe_op op_addX vr_add (xe_v 3) xe_int) (xa_cons (xe_v 1) xa_nil))))))
 (xss_one (xs_set (i := 7) nd rfl (.inl rfl) xe_str)))
 (xss_one (xs_if (xt_cmp (op_inP hr.units) vr_in (xe_v 5) xe_str (by rfl))
 (xss_cons (xs_set (i := 6) nd rfl (.inl rfl) (XR.xe (xr_call m_law_run (d_law_run.ok.mono (by decide)) hr (by rfl) d_law_run.mg d_law_run.kp d_law_run.b (xa_cons (xe_v 0) (xa_cons (xe_v 3) (xa_cons xe_str xa_nil))))))
 (xss_cons (xs_set (i := 7) nd rfl (.inl rfl) xe_str)
 (xss_one (xs_set (i := 8) nd rfl (.inl rfl) xe_int))))
 (xss_one (xs_if (xt_cmp (op_eqP hr.units) vr_eq (XR.xe (xr_sl (xe_v 0) (xo_some (xe_v 3)) (xo_some (xe_op op_addX vr_add (xe_v 3) xe_int)))) xe_str (nomark _))
 (xss_one (xs_set (i := 6) nd rfl (.inl rfl) (xe_op op_addX vr_add (xe_v 3) xe_int)))
 (xss_one (xs_if (xt_cmp (op_notinP hr.units) vr_in (xe_v 5) xe_str (by rfl))
 (xss_one (xs_ret (xe_tup (xa_cons (xe_op op_addX vr_add (xe_v 3) xe_int) (xa_cons xe_str xa_nil)))))
 xss_nil)))))))))
 (xss_cons (xs_if (xt_cmp op_ge (vr_ii0 fun _ _ _ => .bl _) (xe_op op_sub (vr_ii0 fun _ _ _ => .int _) (xe_v 6) (xe_v 3)) (xe_v 8) (nomark _))
 (xss_one (xs_ret (xe_tup (xa_cons (xe_op op_addX vr_add (xe_v 3) xe_int) (xa_cons (xe_if (xt_cmp (op_eqP hr.units) vr_eq (xe_v 7) xe_str (nomark _)) xe_str xe_str) xa_nil)))))
 xss_nil)
 (xss_cons (xs_expr (XR.xe (xr_append (xe_v 2) (xa_cons (xe_tup (xa_cons (xe_v 7) (xa_cons (XR.xe (xr_sl (xe_v 0) (xo_some (xe_v 3)) (xo_some (xe_v 6)))) (xa_cons (xe_op op_addX vr_add (xe_v 3) xe_int) xa_nil)))) xa_nil))))
 (xss_one (xs_set (i := 3) nd rfl (.inl rfl) (xe_v 6))))))))))))))
 (xss_one (xs_ret xe_non))))))) v_law_scan
theorem sc_law_piece : FnScope ["stream", "turn", "at"] ["stream"] (defScope s_law_piece) := ⟨rfl, rfl, rfl, by decide +kernel, rfl, by decide +kernel, by decide +kernel⟩
theorem x_law_piece (T : Bl P w K mg base A_TextError) (d_law_next : Fd P w K mg base "_law_next" 1 ["stream", "many"] p_law_next) (d_law_pick : Fd P w K mg base "_law_pick" 2 ["stream", "rows"] p_law_pick) (d_law_word : Fd P w K mg base "_law_word" 2 ["stream", "least", "most"] p_law_word) {f : Addr} {fd : FuncData} (Fn : Fun K "_law_piece" "_law_piece" s_law_piece f fd) : FnOk P w K mg base CX0 3 f fd ["stream"] (spOf K p_law_piece) :=
  have nd := sc_law_piece.nd
  fn_ok Fn sc_law_piece l_law_piece (t := w_law_piece) (fun cdv A outer s H E F hr =>
(xss_cons (xs_set (i := 1) nd rfl (.inl rfl) (XR.xe (xr_call m_law_next (d_law_next.ok.mono (by decide)) hr (by rfl) d_law_next.mg d_law_next.kp d_law_next.b (xa_cons (xe_v 0) (xa_cons xe_int xa_nil)))))
 (xss_cons (xs_if (xt_cmp (op_eqP hr.units) vr_eq (xe_v 1) xe_int (nomark _))
 (xss_one (xs_retR (xr_call m_law_word (d_law_word.ok.mono (by decide)) hr (by rfl) d_law_word.mg d_law_word.kp d_law_word.b (xa_cons (xe_v 0) (xa_cons xe_int (xa_cons xe_int xa_nil))))))
 xss_nil)
 (xss_cons (xs_if (xt_cmp (op_eqP hr.units) vr_eq (xe_v 1) xe_int (nomark _))
 (xss_one (xs_retR (xr_call m_law_word (d_law_word.ok.mono (by decide)) hr (by rfl) d_law_word.mg d_law_word.kp d_law_word.b (xa_cons (xe_v 0) (xa_cons xe_int (xa_cons (XR.xe (xr_call m_law_pick (d_law_pick.ok.mono (by decide)) hr (by rfl) d_law_pick.mg d_law_pick.kp d_law_pick.b (xa_cons (xe_v 0) (xa_cons (XR.xe (xr_lst (xa_cons xe_int (xa_cons xe_int (xa_cons xe_int xa_nil))))) xa_nil)))) xa_nil))))))
 xss_nil)
 (xss_cons (xs_if (xt_cmp (op_eqP hr.units) vr_eq (xe_v 1) xe_int (nomark _))
 (xss_one (xs_retR (xr_op op_addX vr_add (xe_ix xe_str (XR.xe (xr_call m_law_next (d_law_next.ok.mono (by decide)) hr (by rfl) d_law_next.mg d_law_next.kp d_law_next.b (xa_cons (xe_v 0) (xa_cons xe_int xa_nil))))) (XR.xe (xr_sl (XR.xe (xr_call m_law_word (d_law_word.ok.mono (by decide)) hr (by rfl) d_law_word.mg d_law_word.kp d_law_word.b (xa_cons (xe_v 0) (xa_cons xe_int (xa_cons xe_int xa_nil))))) xo_none (xo_some (XR.xe (xr_call m_law_next (d_law_next.ok.mono (by decide)) hr (by rfl) d_law_next.mg d_law_next.kp d_law_next.b (xa_cons (xe_v 0) (xa_cons xe_int xa_nil))))))))))
 xss_nil)
 (xss_cons (xs_if (xt_cmp (op_eqP hr.units) vr_eq (xe_v 1) xe_int (nomark _))
 (xss_one (xs_retR (xr_join xe_str (xa_cons (XR.xe (xr_lcA [("at", 2)] rfl nd (xi_range1 (by rfl) T.b_range (xa_cons (xe_op op_addX vr_add xe_int (XR.xe (xr_call m_law_next (d_law_next.ok.mono (by decide)) hr (by rfl) d_law_next.mg d_law_next.kp d_law_next.b (xa_cons (xe_v 0) (xa_cons (XR.xe (xr_call m_law_pick (d_law_pick.ok.mono (by decide)) hr (by rfl) d_law_pick.mg d_law_pick.kp d_law_pick.b (xa_cons (xe_v 0) (xa_cons (XR.xe (xr_lst (xa_cons xe_int (xa_cons xe_int (xa_cons xe_int (xa_cons xe_int xa_nil)))))) xa_nil)))) xa_nil))))) xa_nil)) (blkOk_by (by kernel_rfl)) (fun _ _ _ _ _ => (xg_name (i := 2) nd rfl (.inl rfl) (by first | exact .inl rfl | exact .inr rfl))) (fun _ _ _ _ _ => xts_nil) (fun _ _ _ _ _ => (xe_strc (by rfl) T.b_str (xa_cons (XR.xe (xr_call m_law_next (d_law_next.ok.mono (by decide)) hr (by rfl) d_law_next.mg d_law_next.kp d_law_next.b (xa_cons (xe_v 0) (xa_cons xe_int xa_nil)))) xa_nil))))) xa_nil))))
 xss_nil)
 (xss_cons (xs_if (xt_cmp op_lt (vr_ii0 fun _ _ _ => .bl _) (xe_v 1) xe_int (nomark _))
 (xss_one (xs_retR (xr_call m_law_pick (d_law_pick.ok.mono (by decide)) hr (by rfl) d_law_pick.mg d_law_pick.kp d_law_pick.b (xa_cons (xe_v 0) (xa_cons (XR.xe (xr_lst (xa_cons xe_str (xa_cons xe_str (xa_cons xe_str (xa_cons xe_str (xa_cons xe_str (xa_cons xe_str (xa_cons xe_str (xa_cons xe_str (xa_cons xe_str (xa_cons xe_str xa_nil)))))))))))) xa_nil)))))
 xss_nil)
 (xss_cons (xs_if (xt_cmp (op_eqP hr.units) vr_eq (xe_v 1) xe_int (nomark _))
 (xss_one (xs_retR (xr_op op_mulXX vr_mulX xe_str (xe_op op_addX vr_add xe_int (XR.xe (xr_call m_law_next (d_law_next.ok.mono (by decide)) hr (by rfl) d_law_next.mg d_law_next.kp d_law_next.b (xa_cons (xe_v 0) (xa_cons xe_int xa_nil))))))))
 xss_nil)
 (xss_one (xs_retR (xr_call m_law_pick (d_law_pick.ok.mono (by decide)) hr (by rfl) d_law_pick.mg d_law_pick.kp d_law_pick.b (xa_cons (xe_v 0) (xa_cons (XR.xe (xr_lst (xa_cons xe_str (xa_cons xe_str (xa_cons xe_str (xa_cons xe_str (xa_cons xe_str (xa_cons xe_str (xa_cons xe_str (xa_cons xe_str (xa_cons xe_str (xa_cons xe_str (xa_cons xe_str (xa_cons xe_str (xa_cons xe_str xa_nil))))))))))))))) xa_nil))))))))))))) v_law_piece
theorem sc_law_scanned : FnScope ["text", "found", "e"] ["text"] (defScope s_law_scanned) := ⟨rfl, rfl, rfl, by decide +kernel, rfl, by decide +kernel, by decide +kernel⟩
theorem x_law_scanned (T : Bl P w K mg base A_TextError) (d_scan : FdX P w K mg base "scan" 5 ["text"] p_scan) {f : Addr} {fd : FuncData} (Fn : Fun K "_law_scanned" "_law_scanned" s_law_scanned f fd) : FnOk P w K mg base CX0 6 f fd ["text"] (spOf K p_law_scanned) :=
  have nd := sc_law_scanned.nd
  fn_ok Fn sc_law_scanned l_law_scanned (t := w_law_scanned) (fun cdv A outer s H E F hr =>
(xss_cons (xs_try_as (i := 2) rfl rfl nd rfl rfl ⟨by rfl, by decide, .inl T.g_TextError⟩ takes_no (fun y b h => T.hm_TextError h) (fun F' W0 pn xe tk0 hp0 =>
 (xss_one (xs_setO (i := 1) nd rfl (.inl rfl) (xr_callX tk0 m_scan (d_scan.ok.mono (by decide)) hr (by rfl) d_scan.mg d_scan.kp d_scan.b (xa_cons (xe_v 0) xa_nil)))))
 (fun a x oe cls d pn F' hz hf xn mx => (xss_one (xs_retR (xr_lst (xa_cons xe_str (xa_cons (xe_xf ((T.hx_TextError_column mx)) hz hf xn (xe_v 2)) (xa_cons (xe_xf ((T.hx_TextError_words mx)) hz hf xn (xe_v 2)) xa_nil))))))))
 (xss_one (xs_retV (xv_if (XW.xt (xw_and (xt_val (xe_isa (n := "list") kit_list (by rfl) T.b_isinstance (xe_v 1) (by rfl) T.b_list (by decide +kernel))) (xw_and1 (xt_cmp (op_eqP hr.units) vr_eq (XR.xe (xr_sl (xe_v 1) xo_none (xo_some xe_int))) (XR.xe (xr_lst (xa_cons xe_str xa_nil))) (nomark _))))) (xv_R (xr_lst (xa_cons xe_str xa_nil))) (xv_own 1)))))) v_law_scanned
theorem sc_law : FnScope ["script", "stream", "clean", "text", "turn", "piece", "room", "at", "due", "told"] ["script"] (defScope s_law) := ⟨rfl, rfl, rfl, by decide +kernel, rfl, by decide +kernel, by decide +kernel⟩
theorem x_law (T : Bl P w K mg base A_TextError) (d_law_stream : Fd P w K mg base "_law_stream" 1 ["script"] p_law_stream) (d_law_scan : Fd P w K mg base "_law_scan" 2 ["text"] p_law_scan) (d_law_scanned : Fd P w K mg base "_law_scanned" 6 ["text"] p_law_scanned) (d_law_same : Fd P w K mg base "_law_same" 2 ["actual", "due"] p_law_same) (d_law_next : Fd P w K mg base "_law_next" 1 ["stream", "many"] p_law_next) (d_law_piece : Fd P w K mg base "_law_piece" 3 ["stream"] p_law_piece) (d_law_pick : Fd P w K mg base "_law_pick" 2 ["stream", "rows"] p_law_pick) {f : Addr} {fd : FuncData} (Fn : Fun K "law" "law" s_law f fd) : FnOk P w K mg base CX0 7 f fd ["script"] (spOf K p_law) :=
  have nd := sc_law.nd
  fn_ok Fn sc_law l_law (t := w_law) (fun cdv A outer s H E F hr =>
(xss_cons (xs_setO (i := 1) nd rfl (.inl rfl) (xr_call m_law_stream (d_law_stream.ok.mono (by decide)) hr (by rfl) d_law_stream.mg d_law_stream.kp d_law_stream.b (xa_cons (xe_v 0) xa_nil)))
 (xss_cons (xs_set (i := 2) nd rfl (.inl rfl) (xe_cmp (op_eqP hr.units) vr_eq (XR.xe (xr_call m_law_next (d_law_next.ok.mono (by decide)) hr (by rfl) d_law_next.mg d_law_next.kp d_law_next.b (xa_cons (xe_v 1) (xa_cons xe_int xa_nil)))) xe_int (nomark _)))
 (xss_cons (xs_set (i := 3) nd rfl (.inl rfl) xe_str)
 (xss_cons (xs_for PassesOwn.never rfl (xi_range1 (by rfl) T.b_range (xa_cons (XR.xe (xr_call m_law_next (d_law_next.ok.mono (by decide)) hr (by rfl) d_law_next.mg d_law_next.kp d_law_next.b (xa_cons (xe_v 1) (xa_cons xe_int xa_nil)))) xa_nil)) (xg_name (i := 4) nd rfl (.inl rfl))
 (xss_kill [4, 5] (xss_cons (xs_set (i := 5) nd rfl (.inl rfl) (XR.xe (xr_call m_law_piece (d_law_piece.ok.mono (by decide)) hr (by rfl) d_law_piece.mg d_law_piece.kp d_law_piece.b (xa_cons (xe_v 1) xa_nil))))
 (xss_one (xs_if (XW.xt (xw_or (xt_not (xt_val (xe_v 2))) (xw_or1 (xt_val (xe_isa (n := "list") kit_list (by rfl) T.b_isinstance (XR.xe (xr_call m_law_scan (d_law_scan.ok.mono (by decide)) hr (by rfl) d_law_scan.mg d_law_scan.kp d_law_scan.b (xa_cons (xe_op op_addX vr_add (xe_v 3) (xe_v 5)) xa_nil))) (by rfl) T.b_list (by decide +kernel))))))
 (xss_one (xs_set (i := 3) nd rfl (.inl rfl) (xe_op op_addX vr_add (xe_v 3) (xe_v 5))))
 xss_nil)))))
 (xss_cons (xs_if (xt_cmp (op_eqP hr.units) vr_eq (XR.xe (xr_call m_law_next (d_law_next.ok.mono (by decide)) hr (by rfl) d_law_next.mg d_law_next.kp d_law_next.b (xa_cons (xe_v 1) (xa_cons xe_int xa_nil)))) xe_int (nomark _))
 (xss_cons (xs_set (i := 6) nd rfl (.inl rfl) (xe_op op_sub (vr_ii0 fun _ _ _ => .int _) xe_int (xe_len (by rfl) T.b_len (xa_cons (xe_v 3) xa_nil))))
 (xss_cons (xs_set (i := 3) nd rfl (.inl rfl) (xe_op op_addX vr_add (xe_v 3) (xe_op op_mulXX vr_mulX (XR.xe (xr_call m_law_pick (d_law_pick.ok.mono (by decide)) hr (by rfl) d_law_pick.mg d_law_pick.kp d_law_pick.b (xa_cons (xe_v 1) (xa_cons (XR.xe (xr_lst (xa_cons xe_str (xa_cons xe_str (xa_cons xe_str xa_nil))))) xa_nil)))) (xe_op op_fdiv (vr_ii fun _ _ _ => .int _) (xe_v 6) xe_int))))
 (xss_cons (xs_set (i := 7) nd rfl (.inl rfl) (XR.xe (xr_call m_law_next (d_law_next.ok.mono (by decide)) hr (by rfl) d_law_next.mg d_law_next.kp d_law_next.b (xa_cons (xe_v 1) (xa_cons (xe_op op_addX vr_add (xe_len (by rfl) T.b_len (xa_cons (xe_v 3) xa_nil)) xe_int) xa_nil)))))
 (xss_one (xs_set (i := 3) nd rfl (.inl rfl) (xe_op op_addX vr_add (xe_op op_addX vr_add (XR.xe (xr_sl (xe_v 3) xo_none (xo_some (xe_v 7)))) (xe_op op_mulXX vr_mulX xe_str (xe_op op_sub (vr_ii0 fun _ _ _ => .int _) xe_int (xe_len (by rfl) T.b_len (xa_cons (xe_v 3) xa_nil))))) (XR.xe (xr_sl (xe_v 3) (xo_some (xe_v 7)) xo_none))))))))
 xss_nil)
 (xss_cons (xs_set (i := 8) nd rfl (.inl rfl) (XR.xe (xr_call m_law_scan (d_law_scan.ok.mono (by decide)) hr (by rfl) d_law_scan.mg d_law_scan.kp d_law_scan.b (xa_cons (xe_v 3) xa_nil))))
 (xss_cons (xs_if (xt_val (xe_isa (n := "tuple") kit_tuple (by rfl) T.b_isinstance (xe_v 8) (by rfl) T.b_tuple (by decide +kernel)))
 (xss_one (xs_set (i := 8) nd rfl (.inl rfl) (XR.xe (xr_lst (xa_cons xe_str (xa_cons (xe_ix (xe_v 8) xe_int) (xa_cons (xe_ix (xe_v 8) xe_int) xa_nil)))))))
 xss_nil)
 (xss_cons (xs_setO (i := 9) nd rfl (.inl rfl) (xr_call m_law_scanned (d_law_scanned.ok.mono (by decide)) hr (by rfl) d_law_scanned.mg d_law_scanned.kp d_law_scanned.b (xa_cons (xe_v 3) xa_nil)))
 (xss_cons (xs_if (xt_not (xt_val (xe_callN 9 [9, 8] m_law_same (d_law_same.ok.mono (by decide)) hr (by rfl) d_law_same.mg d_law_same.kp d_law_same.b (pa_cons (pv 9) (pa_cons (pv 8) pa_nil)))))
 (xss_one (xs_ret xe_bl))
 xss_nil)
 (xss_cons (xs_expr (XR.xe (xr_append (xe_v 9) (xa_cons xe_str xa_nil))))
 (xss_cons (xs_put xe_str (xe_v 9) xe_int)
 (xss_one (xs_retR (xr_call m_law_same (d_law_same.ok.mono (by decide)) hr (by rfl) d_law_same.mg d_law_same.kp d_law_same.b (xa_cons (XR.xe (xr_call m_law_scanned (d_law_scanned.ok.mono (by decide)) hr (by rfl) d_law_scanned.mg d_law_scanned.kp d_law_scanned.b (xa_cons (xe_v 3) xa_nil))) (xa_cons (xe_v 8) xa_nil))))))))))))))))) v_law
end
theorem all_mk {l : PySem.W.OpenLaw} {w : World} {K : PySem.W.Frag} {h : Heap} {mg : Str → Option Value} {fa : Addr} (X : K.In h) (G : h.Ns mainGlobals mg) (hfa : mg "law" = some (.ref fa))
    {f0 : Addr} {od0 an0 : Option Addr} {sl0 : Array (Option Value)} {oc0 kV0 dc0 pm0 cd0 ct0 : Value} (a0 : PySem.W.nsIn K mainGlobals "check_text" = some (some (.ref f0))) (l0 : K.lookup f0 = some ⟨oc0, od0, .func (PySem.W.fnOf "check_text" "check_text" (defArgs s_check_text) (defBody s_check_text) (defScope s_check_text) .none kV0 dc0 pm0 an0 cd0 ct0), sl0⟩) (c0 : PySem.W.codeIn K cd0 "check_text" = true) (k0 : PySem.W.keepIn K (.ref f0) = true)
    {f1 : Addr} {od1 an1 : Option Addr} {sl1 : Array (Option Value)} {oc1 kV1 dc1 pm1 cd1 ct1 : Value} (a1 : PySem.W.nsIn K mainGlobals "row_at" = some (some (.ref f1))) (l1 : K.lookup f1 = some ⟨oc1, od1, .func (PySem.W.fnOf "row_at" "row_at" (defArgs s_row_at) (defBody s_row_at) (defScope s_row_at) .none kV1 dc1 pm1 an1 cd1 ct1), sl1⟩) (c1 : PySem.W.codeIn K cd1 "row_at" = true) (k1 : PySem.W.keepIn K (.ref f1) = true)
    {f2 : Addr} {od2 an2 : Option Addr} {sl2 : Array (Option Value)} {oc2 kV2 dc2 pm2 cd2 ct2 : Value} (a2 : PySem.W.nsIn K mainGlobals "name_at" = some (some (.ref f2))) (l2 : K.lookup f2 = some ⟨oc2, od2, .func (PySem.W.fnOf "name_at" "name_at" (defArgs s_name_at) (defBody s_name_at) (defScope s_name_at) .none kV2 dc2 pm2 an2 cd2 ct2), sl2⟩) (c2 : PySem.W.codeIn K cd2 "name_at" = true) (k2 : PySem.W.keepIn K (.ref f2) = true)
    {f3 : Addr} {od3 an3 : Option Addr} {sl3 : Array (Option Value)} {oc3 kV3 dc3 pm3 cd3 ct3 : Value} (a3 : PySem.W.nsIn K mainGlobals "token_at" = some (some (.ref f3))) (l3 : K.lookup f3 = some ⟨oc3, od3, .func (PySem.W.fnOf "token_at" "token_at" (defArgs s_token_at) (defBody s_token_at) (defScope s_token_at) .none kV3 dc3 pm3 an3 cd3 ct3), sl3⟩) (c3 : PySem.W.codeIn K cd3 "token_at" = true) (k3 : PySem.W.keepIn K (.ref f3) = true)
    {f4 : Addr} {od4 an4 : Option Addr} {sl4 : Array (Option Value)} {oc4 kV4 dc4 pm4 cd4 ct4 : Value} (a4 : PySem.W.nsIn K mainGlobals "scan" = some (some (.ref f4))) (l4 : K.lookup f4 = some ⟨oc4, od4, .func (PySem.W.fnOf "scan" "scan" (defArgs s_scan) (defBody s_scan) (defScope s_scan) .none kV4 dc4 pm4 an4 cd4 ct4), sl4⟩) (c4 : PySem.W.codeIn K cd4 "scan" = true) (k4 : PySem.W.keepIn K (.ref f4) = true)
    {f5 : Addr} {od5 an5 : Option Addr} {sl5 : Array (Option Value)} {oc5 kV5 dc5 pm5 cd5 ct5 : Value} (a5 : PySem.W.nsIn K mainGlobals "_law_stream" = some (some (.ref f5))) (l5 : K.lookup f5 = some ⟨oc5, od5, .func (PySem.W.fnOf "_law_stream" "_law_stream" (defArgs s_law_stream) (defBody s_law_stream) (defScope s_law_stream) .none kV5 dc5 pm5 an5 cd5 ct5), sl5⟩) (c5 : PySem.W.codeIn K cd5 "_law_stream" = true) (k5 : PySem.W.keepIn K (.ref f5) = true)
    {f6 : Addr} {od6 an6 : Option Addr} {sl6 : Array (Option Value)} {oc6 kV6 dc6 pm6 cd6 ct6 : Value} (a6 : PySem.W.nsIn K mainGlobals "_law_next" = some (some (.ref f6))) (l6 : K.lookup f6 = some ⟨oc6, od6, .func (PySem.W.fnOf "_law_next" "_law_next" (defArgs s_law_next) (defBody s_law_next) (defScope s_law_next) .none kV6 dc6 pm6 an6 cd6 ct6), sl6⟩) (c6 : PySem.W.codeIn K cd6 "_law_next" = true) (k6 : PySem.W.keepIn K (.ref f6) = true)
    {f7 : Addr} {od7 an7 : Option Addr} {sl7 : Array (Option Value)} {oc7 kV7 dc7 pm7 cd7 ct7 : Value} (a7 : PySem.W.nsIn K mainGlobals "_law_pick" = some (some (.ref f7))) (l7 : K.lookup f7 = some ⟨oc7, od7, .func (PySem.W.fnOf "_law_pick" "_law_pick" (defArgs s_law_pick) (defBody s_law_pick) (defScope s_law_pick) .none kV7 dc7 pm7 an7 cd7 ct7), sl7⟩) (c7 : PySem.W.codeIn K cd7 "_law_pick" = true) (k7 : PySem.W.keepIn K (.ref f7) = true)
    {f8 : Addr} {od8 an8 : Option Addr} {sl8 : Array (Option Value)} {oc8 kV8 dc8 pm8 cd8 ct8 : Value} (a8 : PySem.W.nsIn K mainGlobals "_law_is_integer" = some (some (.ref f8))) (l8 : K.lookup f8 = some ⟨oc8, od8, .func (PySem.W.fnOf "_law_is_integer" "_law_is_integer" (defArgs s_law_is_integer) (defBody s_law_is_integer) (defScope s_law_is_integer) .none kV8 dc8 pm8 an8 cd8 ct8), sl8⟩) (c8 : PySem.W.codeIn K cd8 "_law_is_integer" = true) (k8 : PySem.W.keepIn K (.ref f8) = true)
    {f9 : Addr} {od9 an9 : Option Addr} {sl9 : Array (Option Value)} {oc9 kV9 dc9 pm9 cd9 ct9 : Value} (a9 : PySem.W.nsIn K mainGlobals "_law_same" = some (some (.ref f9))) (l9 : K.lookup f9 = some ⟨oc9, od9, .func (PySem.W.fnOf "_law_same" "_law_same" (defArgs s_law_same) (defBody s_law_same) (defScope s_law_same) .none kV9 dc9 pm9 an9 cd9 ct9), sl9⟩) (c9 : PySem.W.codeIn K cd9 "_law_same" = true) (k9 : PySem.W.keepIn K (.ref f9) = true)
    {f10 : Addr} {od10 an10 : Option Addr} {sl10 : Array (Option Value)} {oc10 kV10 dc10 pm10 cd10 ct10 : Value} (a10 : PySem.W.nsIn K mainGlobals "_law_word" = some (some (.ref f10))) (l10 : K.lookup f10 = some ⟨oc10, od10, .func (PySem.W.fnOf "_law_word" "_law_word" (defArgs s_law_word) (defBody s_law_word) (defScope s_law_word) .none kV10 dc10 pm10 an10 cd10 ct10), sl10⟩) (c10 : PySem.W.codeIn K cd10 "_law_word" = true) (k10 : PySem.W.keepIn K (.ref f10) = true)
    {f11 : Addr} {od11 an11 : Option Addr} {sl11 : Array (Option Value)} {oc11 kV11 dc11 pm11 cd11 ct11 : Value} (a11 : PySem.W.nsIn K mainGlobals "_law_run" = some (some (.ref f11))) (l11 : K.lookup f11 = some ⟨oc11, od11, .func (PySem.W.fnOf "_law_run" "_law_run" (defArgs s_law_run) (defBody s_law_run) (defScope s_law_run) .none kV11 dc11 pm11 an11 cd11 ct11), sl11⟩) (c11 : PySem.W.codeIn K cd11 "_law_run" = true) (k11 : PySem.W.keepIn K (.ref f11) = true)
    {f12 : Addr} {od12 an12 : Option Addr} {sl12 : Array (Option Value)} {oc12 kV12 dc12 pm12 cd12 ct12 : Value} (a12 : PySem.W.nsIn K mainGlobals "_law_scan" = some (some (.ref f12))) (l12 : K.lookup f12 = some ⟨oc12, od12, .func (PySem.W.fnOf "_law_scan" "_law_scan" (defArgs s_law_scan) (defBody s_law_scan) (defScope s_law_scan) .none kV12 dc12 pm12 an12 cd12 ct12), sl12⟩) (c12 : PySem.W.codeIn K cd12 "_law_scan" = true) (k12 : PySem.W.keepIn K (.ref f12) = true)
    {f13 : Addr} {od13 an13 : Option Addr} {sl13 : Array (Option Value)} {oc13 kV13 dc13 pm13 cd13 ct13 : Value} (a13 : PySem.W.nsIn K mainGlobals "_law_piece" = some (some (.ref f13))) (l13 : K.lookup f13 = some ⟨oc13, od13, .func (PySem.W.fnOf "_law_piece" "_law_piece" (defArgs s_law_piece) (defBody s_law_piece) (defScope s_law_piece) .none kV13 dc13 pm13 an13 cd13 ct13), sl13⟩) (c13 : PySem.W.codeIn K cd13 "_law_piece" = true) (k13 : PySem.W.keepIn K (.ref f13) = true)
    {f14 : Addr} {od14 an14 : Option Addr} {sl14 : Array (Option Value)} {oc14 kV14 dc14 pm14 cd14 ct14 : Value} (a14 : PySem.W.nsIn K mainGlobals "_law_scanned" = some (some (.ref f14))) (l14 : K.lookup f14 = some ⟨oc14, od14, .func (PySem.W.fnOf "_law_scanned" "_law_scanned" (defArgs s_law_scanned) (defBody s_law_scanned) (defScope s_law_scanned) .none kV14 dc14 pm14 an14 cd14 ct14), sl14⟩) (c14 : PySem.W.codeIn K cd14 "_law_scanned" = true) (k14 : PySem.W.keepIn K (.ref f14) = true)
    {f15 : Addr} {od15 an15 : Option Addr} {sl15 : Array (Option Value)} {oc15 kV15 dc15 pm15 cd15 ct15 : Value} (a15 : PySem.W.nsIn K mainGlobals "law" = some (some (.ref f15))) (l15 : K.lookup f15 = some ⟨oc15, od15, .func (PySem.W.fnOf "law" "law" (defArgs s_law) (defBody s_law) (defScope s_law) .none kV15 dc15 pm15 an15 cd15 ct15), sl15⟩) (c15 : PySem.W.codeIn K cd15 "law" = true) (k15 : PySem.W.keepIn K (.ref f15) = true)
    (z_abs : PySem.W.nsIn K mainGlobals "abs" = some none)
    (z_bool : PySem.W.nsIn K mainGlobals "bool" = some none)
    (z_int : PySem.W.nsIn K mainGlobals "int" = some none)
    (z_isinstance : PySem.W.nsIn K mainGlobals "isinstance" = some none)
    (z_len : PySem.W.nsIn K mainGlobals "len" = some none)
    (z_list : PySem.W.nsIn K mainGlobals "list" = some none)
    (z_range : PySem.W.nsIn K mainGlobals "range" = some none)
    (z_str : PySem.W.nsIn K mainGlobals "str" = some none)
    (z_tuple : PySem.W.nsIn K mainGlobals "tuple" = some none)
    {t_SMALL : Tok} (y_SMALL : PySem.W.nsIn K mainGlobals "SMALL" = some (some (.str "abcdefghijklmnopqrstuvwxyz" t_SMALL)))
    {t_GREAT : Tok} (y_GREAT : PySem.W.nsIn K mainGlobals "GREAT" = some (some (.str "ABCDEFGHIJKLMNOPQRSTUVWXYZ" t_GREAT)))
    {t_DIGITS : Tok} (y_DIGITS : PySem.W.nsIn K mainGlobals "DIGITS" = some (some (.str "0123456789" t_DIGITS)))
    {t_LONGEST_TEXT : Tok} (y_LONGEST_TEXT : PySem.W.nsIn K mainGlobals "LONGEST_TEXT" = some (some (.int 8000 t_LONGEST_TEXT)))
    {t_MOST_LETTERS : Tok} (y_MOST_LETTERS : PySem.W.nsIn K mainGlobals "MOST_LETTERS" = some (some (.int 8 t_MOST_LETTERS)))
    {t_MOST_DIGITS : Tok} (y_MOST_DIGITS : PySem.W.nsIn K mainGlobals "MOST_DIGITS" = some (some (.int 6 t_MOST_DIGITS)))
    {ta_SIGNS : Addr} {to_SIGNS : Option Addr} {ti_SIGNS : Array Value} {tn_SIGNS : Nat} {ts_SIGNS : Array (Option Value)} (y_SIGNS : PySem.W.nsIn K mainGlobals "SIGNS" = some (some (.ref ta_SIGNS))) (yl_SIGNS : K.lookup ta_SIGNS = some ⟨.type "tuple", to_SIGNS, .seq ti_SIGNS tn_SIGNS, ts_SIGNS⟩) (yz_SIGNS : ti_SIGNS.size ≤ sizeLine) (yv_SIGNS : Vals ((["(", ")", ",", ";", ":", "=", "|", "..", "#"] : List Str).map V.str) ti_SIGNS.toList)
    {A_TextError : Addr} (xa_TextError : PySem.W.nsIn K mainGlobals "TextError" = some (some (.ref A_TextError))) (xe_TextError : PySem.W.subIn K (.ref A_TextError) (.type "BaseException") = some true) (xt_TextError : PySem.W.typeIn K (.ref A_TextError) = some (.type "type"))
    {nm_TextError q_TextError : Str} {N_TextError : Addr} {bs_TextError bm_TextError : List Value} {sn_TextError : List Str} {sub_TextError : List Value} {ab_TextError : Bool} {col_TextError : Option Bool} {dd_TextError : Option Addr} {m0_TextError m1_TextError m2_TextError m3_TextError m5_TextError : Option Value}
    (xl_TextError : K.lookup A_TextError = some (excClassObj nm_TextError q_TextError A_TextError N_TextError bs_TextError bm_TextError true sn_TextError sub_TextError ab_TextError col_TextError dd_TextError m0_TextError m1_TextError m2_TextError m3_TextError m5_TextError "ValueError.__new__")) (xr_TextError : PySem.HandSPX.refsVE bm_TextError = true)
    (xs_TextError : PySem.W.findIn K (.ref A_TextError) "__setattr__" = some (some (.builtin "object.__setattr__"))) (xg_TextError : PySem.W.findIn K (.ref A_TextError) "__getattribute__" = some (some (.builtin "BaseException.__getattribute__"))) (xh_TextError : PySem.W.findIn K (.ref A_TextError) "__getattr__" = some none) (xk_TextError : PySem.W.keepIn K (.ref A_TextError) = true) (xd_TextError : PySem.W.hasDictIn K A_TextError = true)
    (xn0_TextError : PySem.W.findIn K (.ref A_TextError) "column" = some none)
    (xn1_TextError : PySem.W.findIn K (.ref A_TextError) "words" = some none)
    {fI_TextError : Addr} {odI_TextError anI_TextError : Option Addr} {slI_TextError : Array (Option Value)} {ocI_TextError kVI_TextError dcI_TextError pmI_TextError cdI_TextError ctI_TextError : Value} (xi_TextError : PySem.W.findIn K (.ref A_TextError) "__init__" = some (some (.ref fI_TextError))) (xj_TextError : PySem.W.typeIn K (.ref fI_TextError) = some (.type "function")) (xf_TextError : K.lookup fI_TextError = some ⟨ocI_TextError, odI_TextError, .func (PySem.W.fnOf "__init__" "TextError.__init__" (defArgs s_init_TextError) (defBody s_init_TextError) (defScope s_init_TextError) .none kVI_TextError dcI_TextError pmI_TextError anI_TextError cdI_TextError ctI_TextError), slI_TextError⟩) (xc_TextError : PySem.W.codeIn K cdI_TextError "TextError.__init__" = true) (xq_TextError : PySem.W.keepIn K (.ref fI_TextError) = true)
    (xx_TextError : PySem.W.isClsIn K A_TextError = true)
    (xb_TextError_TextError : PySem.W.subIn K (.ref A_TextError) (.ref A_TextError) = some true)
    : ∃ fd : FuncData, (∀ (s : Shared) (v : Value), BindsTo s fd ⟨[v], []⟩ [("script", v)]) ∧ ∀ base : Heap, K.In base → base.Ns mainGlobals mg → FnOk l.prog w K mg base CX0 7 fa fd ["script"] (spOf K pLaw) := by
  have e := hfa.symm.trans (PySem.W.mg_of X G a15)
  cases e
  have F0 := fun_mk (st := s_check_text) l0 c0 k0
  have F1 := fun_mk (st := s_row_at) l1 c1 k1
  have F2 := fun_mk (st := s_name_at) l2 c2 k2
  have F3 := fun_mk (st := s_token_at) l3 c3 k3
  have F4 := fun_mk (st := s_scan) l4 c4 k4
  have F5 := fun_mk (st := s_law_stream) l5 c5 k5
  have F6 := fun_mk (st := s_law_next) l6 c6 k6
  have F7 := fun_mk (st := s_law_pick) l7 c7 k7
  have F8 := fun_mk (st := s_law_is_integer) l8 c8 k8
  have F9 := fun_mk (st := s_law_same) l9 c9 k9
  have F10 := fun_mk (st := s_law_word) l10 c10 k10
  have F11 := fun_mk (st := s_law_run) l11 c11 k11
  have F12 := fun_mk (st := s_law_scan) l12 c12 k12
  have F13 := fun_mk (st := s_law_piece) l13 c13 k13
  have F14 := fun_mk (st := s_law_scanned) l14 c14 k14
  have F15 := fun_mk (st := s_law) l15 c15 k15
  refine ⟨PySem.W.fnOf "law" "law" (defArgs s_law) (defBody s_law) (defScope s_law) .none kV15 dc15 pm15 an15 cd15 ct15, fun s v => .of_eq rfl, fun base _ _ => ?_⟩
  have FI_TextError := fun_mk (st := s_init_TextError) xf_TextError xc_TextError xq_TextError
  have ox_TextError : OexC K A_TextError := ⟨⟨nm_TextError, q_TextError, N_TextError, bs_TextError, bm_TextError, sn_TextError, sub_TextError, ab_TextError, col_TextError, dd_TextError, m0_TextError, m1_TextError, m2_TextError, m3_TextError, m5_TextError, xl_TextError, xr_TextError⟩, xs_TextError, xe_TextError, xt_TextError, xk_TextError⟩
  have ec_TextError : Ec l.prog w K mg base "TextError" A_TextError 1 ["column", "words"] := ⟨PySem.W.mg_of X G xa_TextError, ox_TextError, ⟨xg_TextError, xh_TextError, xe_TextError, xd_TextError⟩, fun n hn => by
    simp only [List.mem_cons, List.not_mem_nil, or_false] at hn
    rcases hn with rfl | rfl
    · exact xn0_TextError
    · exact xn1_TextError, by decide, ⟨_, _, ["self", "column", "words"], xi_TextError, xj_TextError, init_TextError FI_TextError ox_TextError xn0_TextError xn1_TextError, FI_TextError.binds (ps := ["self", "column", "words"]) fun _ _ _ _ _ _ us hl => match us, hl with | [_, _, _], _ => rfl⟩⟩
  have T : Bl l.prog w K mg base A_TextError := ⟨PySem.W.mg_none_of X G z_abs, PySem.W.mg_none_of X G z_bool, PySem.W.mg_none_of X G z_int, PySem.W.mg_none_of X G z_isinstance, PySem.W.mg_none_of X G z_len, PySem.W.mg_none_of X G z_list, PySem.W.mg_none_of X G z_range, PySem.W.mg_none_of X G z_str, PySem.W.mg_none_of X G z_tuple, ⟨_, PySem.W.mg_of X G y_SMALL⟩, ⟨_, PySem.W.mg_of X G y_GREAT⟩, ⟨_, PySem.W.mg_of X G y_DIGITS⟩, ⟨_, PySem.W.mg_of X G y_LONGEST_TEXT⟩, ⟨_, PySem.W.mg_of X G y_MOST_LETTERS⟩, ⟨_, PySem.W.mg_of X G y_MOST_DIGITS⟩, ⟨_, _, _, _, PySem.W.mg_of X G y_SIGNS, yl_SIGNS, rfl, rfl, yz_SIGNS, yv_SIGNS⟩, ec_TextError, PySem.W.mg_of X G xa_TextError, exm_of xe_TextError xx_TextError xt_TextError xb_TextError_TextError⟩
  let d_check_text : Fd l.prog w K mg base "check_text" 1 ["text"] p_check_text := ⟨f0, _, x_check_text T F0, PySem.W.mg_of X G a0, k0, F0.binds (ps := ["text"]) fun _ _ _ _ _ _ us hl => match us, hl with | [_], _ => rfl⟩
  let d_row_at : Fd l.prog w K mg base "row_at" 1 ["text", "at", "letters"] p_row_at := ⟨f1, _, x_row_at T F1, PySem.W.mg_of X G a1, k1, F1.binds (ps := ["text", "at", "letters"]) fun _ _ _ _ _ _ us hl => match us, hl with | [_, _, _], _ => rfl⟩
  let d_name_at : FdX l.prog w K mg base "name_at" 3 ["text", "at"] p_name_at := ⟨f2, _, x_name_at T d_row_at F2, PySem.W.mg_of X G a2, k2, F2.binds (ps := ["text", "at"]) fun _ _ _ _ _ _ us hl => match us, hl with | [_, _], _ => rfl⟩
  let d_token_at : FdX l.prog w K mg base "token_at" 4 ["text", "at"] p_token_at := ⟨f3, _, x_token_at T d_name_at d_row_at F3, PySem.W.mg_of X G a3, k3, F3.binds (ps := ["text", "at"]) fun _ _ _ _ _ _ us hl => match us, hl with | [_, _], _ => rfl⟩
  let d_scan : FdX l.prog w K mg base "scan" 5 ["text"] p_scan := ⟨f4, _, x_scan T d_check_text d_token_at F4, PySem.W.mg_of X G a4, k4, F4.binds (ps := ["text"]) fun _ _ _ _ _ _ us hl => match us, hl with | [_], _ => rfl⟩
  let d_law_stream : Fd l.prog w K mg base "_law_stream" 1 ["script"] p_law_stream := ⟨f5, _, x_law_stream T F5, PySem.W.mg_of X G a5, k5, F5.binds (ps := ["script"]) fun _ _ _ _ _ _ us hl => match us, hl with | [_], _ => rfl⟩
  let d_law_next : Fd l.prog w K mg base "_law_next" 1 ["stream", "many"] p_law_next := ⟨f6, _, x_law_next T F6, PySem.W.mg_of X G a6, k6, F6.binds (ps := ["stream", "many"]) fun _ _ _ _ _ _ us hl => match us, hl with | [_, _], _ => rfl⟩
  let d_law_pick : Fd l.prog w K mg base "_law_pick" 2 ["stream", "rows"] p_law_pick := ⟨f7, _, x_law_pick T d_law_next F7, PySem.W.mg_of X G a7, k7, F7.binds (ps := ["stream", "rows"]) fun _ _ _ _ _ _ us hl => match us, hl with | [_, _], _ => rfl⟩
  let d_law_is_integer : Fd l.prog w K mg base "_law_is_integer" 1 ["actual"] p_law_is_integer := ⟨f8, _, x_law_is_integer T F8, PySem.W.mg_of X G a8, k8, F8.binds (ps := ["actual"]) fun _ _ _ _ _ _ us hl => match us, hl with | [_], _ => rfl⟩
  let d_law_same : Fd l.prog w K mg base "_law_same" 2 ["actual", "due"] p_law_same := ⟨f9, _, x_law_same T d_law_is_integer F9, PySem.W.mg_of X G a9, k9, F9.binds (ps := ["actual", "due"]) fun _ _ _ _ _ _ us hl => match us, hl with | [_, _], _ => rfl⟩
  let d_law_word : Fd l.prog w K mg base "_law_word" 2 ["stream", "least", "most"] p_law_word := ⟨f10, _, x_law_word T d_law_next F10, PySem.W.mg_of X G a10, k10, F10.binds (ps := ["stream", "least", "most"]) fun _ _ _ _ _ _ us hl => match us, hl with | [_, _, _], _ => rfl⟩
  let d_law_run : Fd l.prog w K mg base "_law_run" 1 ["text", "at", "letters"] p_law_run := ⟨f11, _, x_law_run T F11, PySem.W.mg_of X G a11, k11, F11.binds (ps := ["text", "at", "letters"]) fun _ _ _ _ _ _ us hl => match us, hl with | [_, _, _], _ => rfl⟩
  let d_law_scan : Fd l.prog w K mg base "_law_scan" 2 ["text"] p_law_scan := ⟨f12, _, x_law_scan T d_law_run F12, PySem.W.mg_of X G a12, k12, F12.binds (ps := ["text"]) fun _ _ _ _ _ _ us hl => match us, hl with | [_], _ => rfl⟩
  let d_law_piece : Fd l.prog w K mg base "_law_piece" 3 ["stream"] p_law_piece := ⟨f13, _, x_law_piece T d_law_next d_law_pick d_law_word F13, PySem.W.mg_of X G a13, k13, F13.binds (ps := ["stream"]) fun _ _ _ _ _ _ us hl => match us, hl with | [_], _ => rfl⟩
  let d_law_scanned : Fd l.prog w K mg base "_law_scanned" 6 ["text"] p_law_scanned := ⟨f14, _, x_law_scanned T d_scan F14, PySem.W.mg_of X G a14, k14, F14.binds (ps := ["text"]) fun _ _ _ _ _ _ us hl => match us, hl with | [_], _ => rfl⟩
  exact x_law T d_law_stream d_law_scan d_law_scanned d_law_same d_law_next d_law_piece d_law_pick F15
end L3
open PySem PySem.W PyProof.Rows
set_option maxRecDepth 100000 in
set_option maxHeartbeats 0 in
theorem PySem.Challenge.cw_closestfit_k85_whole_tokens_of_texts_holds : PySem.Challenge.rw_closestfit_k85_whole_tokens_of_texts.Holds := by
  w_on; o_law; k_head; (case hw => w_witness2)
  k_fill
  refine L2.walk_ofK (l := PySem.Challenge.rw_closestfit_k85_whole_tokens_of_texts) (n := 63) (k := 7) (x := "script") (CX := L2.CX0) (sp := fun K => L3.spOf K L3.pLaw) rfl (by decide) rfl ⟨rfl, by decide, by decide⟩ (fun w h Y => PySem.W.kIn_of Y) ?F (fun _ _ a ns hl _ hS => L3.pLaw_end hl hS) (fun _ _ _ _ h => h)
  case F =>
    intro w mg fa h KX G hmg
    refine' L3.all_mk KX G hmg ?a0 ?l0 ?c0 ?k0 ?a1 ?l1 ?c1 ?k1 ?a2 ?l2 ?c2 ?k2 ?a3 ?l3 ?c3 ?k3 ?a4 ?l4 ?c4 ?k4 ?a5 ?l5 ?c5 ?k5 ?a6 ?l6 ?c6 ?k6 ?a7 ?l7 ?c7 ?k7 ?a8 ?l8 ?c8 ?k8 ?a9 ?l9 ?c9 ?k9 ?a10 ?l10 ?c10 ?k10 ?a11 ?l11 ?c11 ?k11 ?a12 ?l12 ?c12 ?k12 ?a13 ?l13 ?c13 ?k13 ?a14 ?l14 ?c14 ?k14 ?a15 ?l15 ?c15 ?k15 ?z_abs ?z_bool ?z_int ?z_isinstance ?z_len ?z_list ?z_range ?z_str ?z_tuple ?y_SMALL ?y_GREAT ?y_DIGITS ?y_LONGEST_TEXT ?y_MOST_LETTERS ?y_MOST_DIGITS ?y_SIGNS ?yl_SIGNS ?yz_SIGNS ?yv_SIGNS ?xa_TextError ?xe_TextError ?xt_TextError ?xl_TextError ?xr_TextError ?xs_TextError ?xg_TextError ?xh_TextError ?xk_TextError ?xd_TextError ?xn0_TextError ?xn1_TextError ?xi_TextError ?xj_TextError ?xf_TextError ?xc_TextError ?xq_TextError ?xx_TextError ?xb_TextError_TextError
    (case a0 => k_is); (case l0 => k_is); (case c0 => k_is); (case k0 => k_is); (case a1 => k_is); (case l1 => k_is); (case c1 => k_is); (case k1 => k_is); (case a2 => k_is); (case l2 => k_is); (case c2 => k_is); (case k2 => k_is); (case a3 => k_is); (case l3 => k_is); (case c3 => k_is); (case k3 => k_is); (case a4 => k_is); (case l4 => k_is); (case c4 => k_is); (case k4 => k_is); (case a5 => k_is); (case l5 => k_is); (case c5 => k_is); (case k5 => k_is); (case a6 => k_is); (case l6 => k_is); (case c6 => k_is); (case k6 => k_is); (case a7 => k_is); (case l7 => k_is); (case c7 => k_is); (case k7 => k_is); (case a8 => k_is); (case l8 => k_is); (case c8 => k_is); (case k8 => k_is); (case a9 => k_is); (case l9 => k_is); (case c9 => k_is); (case k9 => k_is); (case a10 => k_is); (case l10 => k_is); (case c10 => k_is); (case k10 => k_is); (case a11 => k_is); (case l11 => k_is); (case c11 => k_is); (case k11 => k_is); (case a12 => k_is); (case l12 => k_is); (case c12 => k_is); (case k12 => k_is); (case a13 => k_is); (case l13 => k_is); (case c13 => k_is); (case k13 => k_is); (case a14 => k_is); (case l14 => k_is); (case c14 => k_is); (case k14 => k_is); (case a15 => k_is); (case l15 => k_is); (case c15 => k_is); (case k15 => k_is); (case z_abs => k_is); (case z_bool => k_is); (case z_int => k_is); (case z_isinstance => k_is); (case z_len => k_is); (case z_list => k_is); (case z_range => k_is); (case z_str => k_is); (case z_tuple => k_is); (case y_SMALL => k_is); (case y_GREAT => k_is); (case y_DIGITS => k_is); (case y_LONGEST_TEXT => k_is); (case y_MOST_LETTERS => k_is); (case y_MOST_DIGITS => k_is); (case y_SIGNS => k_is); (case yl_SIGNS => k_is); (case yz_SIGNS => decide +kernel); (case yv_SIGNS => exact .cons ⟨_, rfl⟩ (.cons ⟨_, rfl⟩ (.cons ⟨_, rfl⟩ (.cons ⟨_, rfl⟩ (.cons ⟨_, rfl⟩ (.cons ⟨_, rfl⟩ (.cons ⟨_, rfl⟩ (.cons ⟨_, rfl⟩ (.cons ⟨_, rfl⟩ (.nil)))))))))); (case xa_TextError => k_is); (case xe_TextError => k_is); (case xt_TextError => k_is); (case xl_TextError => k_is); (case xr_TextError => decide +kernel); (case xs_TextError => k_is); (case xg_TextError => k_is); (case xh_TextError => k_is); (case xk_TextError => k_is); (case xd_TextError => k_is); (case xn0_TextError => k_is); (case xn1_TextError => k_is); (case xi_TextError => k_is); (case xj_TextError => k_is); (case xf_TextError => k_is); (case xc_TextError => k_is); (case xq_TextError => k_is); (case xx_TextError => k_is); (case xb_TextError_TextError => first | rfl | k_is)
