import PyProof.Rows.All
import Wide.All
import OpenK.AllK
import Wide.FinOn
import HandS.ForMost
import HandS.HeadWalk
import HandS.HeadHook4
import HandS.Head3
import HandS.Wide
import HandS.ExcSuper
import HandS.ExcValue
import HandS.ExcIs
import HandS.ExcField
import HandS.IsInst
import HandS.Conv
import HandS.Zip
import HandS.TupAny
import HandS.Lambda
import HandS.Flow
import HandS.Rev
import HandS.Style
import HandS.ListEq
import HandS.Deep
import HandS.SortInts
import HandS.Star
import HandS.Comp
import KE.KRevSl
import KE.GoesEnum
import KE.KSuper
import HandS.ExcInit
import KE.KNestM
import PySem.Challenge.RW_noughtsbetween_k38_whole_noughts_lifted
set_option Elab.async false
set_option linter.all false
set_option maxRecDepth 100000
set_option maxHeartbeats 2000000
/-! own prelude, part 1: plain data, the store, the relation to the abstract heap -/
namespace PW
open PySem PySem.Spec PyProof.Rows L2

inductive Vl where
  | non | bl (b : Bool) | int (i : Int) | str (x : Str) | tup (ws : List Vl) | rol (ws : List Vl)
  | lst (a : Addr) | ty (n : String) | fn (i : Nat) | cls (i : Nat) | exc (i : Nat) (arg : Vl)

/-- the lists that may be written, by address -/
abbrev Sto := Addr → Option (List Vl)
def Sto.upd (S : Sto) (a : Addr) (ws : List Vl) : Sto := fun b => if b = a then some ws else S b
@[simp] theorem Sto.upd_same {S : Sto} {a : Addr} {ws : List Vl} : S.upd a ws a = some ws := by unfold Sto.upd; rw [if_pos rfl]
theorem Sto.upd_ne {S : Sto} {a b : Addr} {ws : List Vl} (h : b ≠ a) : S.upd a ws b = S b := by unfold Sto.upd; rw [if_neg h]
@[simp] theorem Sto.upd_upd {S : Sto} {a : Addr} {ws us : List Vl} : (S.upd a ws).upd a us = S.upd a us := by
  funext b; unfold Sto.upd; split <;> rfl
theorem Sto.ne {S : Sto} {a b : Addr} {ws : List Vl} (h : S a = some ws) (h' : S b = none) : a ≠ b := by
  intro e; subst e; rw [h] at h'; cases h'

/-- what is fixed for a program: the written part, the module's names, tables of code objects, the names of defs and of exception classes -/
structure Ge where
  P : Program
  K : PySem.W.Frag
  mg : Str → Option Value
  TT : List (Addr × Str)
  fnm : Nat → Str
  cnm : Nat → Str

/-- a caught exception of the class at c, its own dict at d -/
def ExO (c d a : Addr) : HO := .ext fun h => ∃ (oe : Obj) (vs : Array Value), h.get? a = some oe ∧ oe.cls = .ref c ∧ oe.dict = some d ∧ oe.data = .fields vs
/-- a list that never changes (the script) -/
def Frz (K : PySem.W.Frag) (H : Hp) (a : Addr) (xs : List V) : Prop :=
  (∃ o, H a = some (.frz o (.lst xs))) ∨ ∃ (o : Obj) (its : Array Value) (n : Nat), K.lookup a = some o ∧ o.cls = .type "list" ∧ o.dict = none ∧ o.data = .seq its n ∧ its.size ≤ sizeLine ∧ Vals xs its.toList
theorem Frz.sq {K : PySem.W.Frag} {H : Hp} {a : Addr} {xs : List V} (h : Frz K H a xs) : SqL K H a xs :=
  h.elim (fun h => .inl (.inr h)) .inr

/-- these stand once they stand -/
def keepB : HO → Bool
  | .tup _ => true
  | .frz _ _ => true
  | .xd _ => true
  | .ext _ => true
  | _ => false
def Grow (H H' : Hp) : Prop := ∀ a o, H a = some o → keepB o = true → H' a = some o
theorem Grow.refl (H : Hp) : Grow H H := fun _ _ h _ => h
theorem Grow.trans {H H1 H2 : Hp} (a : Grow H H1) (b : Grow H1 H2) : Grow H H2 := fun c o h k => b c o (a c o h k) k
theorem Grow.new {H : Hp} {p : Addr} {o : HO} (h : H p = none) : Grow H (upd H p o) := fun a u e _ => by
  rw [L2.upd_ne (ne_of_none e h)]; exact e
theorem Grow.lst {H : Hp} {p : Addr} {o : HO} {xs : List V} (h : H p = some (.lst xs)) : Grow H (upd H p o) := fun a u e k => by
  by_cases q : a = p
  · subst q; rw [h] at e; cases e; cases k
  · rw [L2.upd_ne q]; exact e

mutual
def RW (G : Ge) (H : Hp) : Vl → V → Prop
  | .non, v => v = .non
  | .bl b, v => v = .bl b
  | .int i, v => v = .int i
  | .str x, v => v = .str x
  | .tup ws, v => ∃ a xs, v = .ref a ∧ SqT G.K H a xs ∧ RWs G H ws xs
  | .rol ws, v => ∃ a xs, v = .ref a ∧ Frz G.K H a xs ∧ RWs G H ws xs
  | .lst a, v => v = .ref a
  | .ty n, v => v = .ty n
  | .fn i, v => ∃ a, v = .ref a ∧ G.mg (G.fnm i) = some (.ref a)
  | .cls i, v => ∃ a, v = .ref a ∧ G.mg (G.cnm i) = some (.ref a)
  | .exc i w, v => ∃ a c d x, v = .ref a ∧ G.mg (G.cnm i) = some (.ref c) ∧ H a = some (ExO c d a) ∧ H d = some (.xd [("value", x)]) ∧ RW G H w x
def RWs (G : Ge) (H : Hp) : List Vl → List V → Prop
  | [], xs => xs = []
  | w :: ws, xs => ∃ v r, xs = v :: r ∧ RW G H w v ∧ RWs G H ws r
end
section
variable {G : Ge} {H H' : Hp}
theorem sqT_mono {K : PySem.W.Frag} {a : Addr} {xs : List V} (g : Grow H H') (h : SqT K H a xs) : SqT K H' a xs :=
  h.elim (fun h => .inl (h.elim (fun e => .inl (g a _ e rfl)) fun ⟨o, e⟩ => .inr ⟨o, g a _ e rfl⟩)) .inr
theorem Frz.mono {K : PySem.W.Frag} {a : Addr} {xs : List V} (g : Grow H H') (h : Frz K H a xs) : Frz K H' a xs :=
  h.elim (fun ⟨o, e⟩ => .inl ⟨o, g a _ e rfl⟩) .inr
mutual
theorem RW.mono (g : Grow H H') : ∀ {w : Vl} {v : V}, RW G H w v → RW G H' w v
  | .non, _, h => h
  | .bl _, _, h => h
  | .int _, _, h => h
  | .str _, _, h => h
  | .tup ws, _, h => by
    unfold RW at h ⊢
    obtain ⟨a, xs, e, ha, hs⟩ := h
    exact ⟨a, xs, e, sqT_mono g ha, RWs.mono g hs⟩
  | .rol ws, _, h => by
    unfold RW at h ⊢
    obtain ⟨a, xs, e, ha, hs⟩ := h
    exact ⟨a, xs, e, ha.mono g, RWs.mono g hs⟩
  | .lst _, _, h => h
  | .ty _, _, h => h
  | .fn _, _, h => h
  | .cls _, _, h => h
  | .exc i w, _, h => by
    unfold RW at h ⊢
    obtain ⟨a, c, d, x, e, hc, ha, hd, hx⟩ := h
    exact ⟨a, c, d, x, e, hc, g a _ ha rfl, g d _ hd rfl, RW.mono g hx⟩
theorem RWs.mono (g : Grow H H') : ∀ {ws : List Vl} {xs : List V}, RWs G H ws xs → RWs G H' ws xs
  | [], _, h => h
  | w :: ws, _, h => by
    unfold RWs at h ⊢
    obtain ⟨v, r, e, h1, h2⟩ := h
    exact ⟨v, r, e, RW.mono g h1, RWs.mono g h2⟩
end
theorem RWs.nil : RWs G H [] [] := by unfold RWs; rfl
theorem RWs.cons {w : Vl} {ws : List Vl} {v : V} {vs : List V} (a : RW G H w v) (b : RWs G H ws vs) : RWs G H (w :: ws) (v :: vs) := by
  unfold RWs; exact ⟨v, vs, rfl, a, b⟩
theorem RWs.nil_of {xs : List V} (h : RWs G H [] xs) : xs = [] := by unfold RWs at h; exact h
theorem RWs.cons_of {w : Vl} {ws : List Vl} {xs : List V} (h : RWs G H (w :: ws) xs) : ∃ v r, xs = v :: r ∧ RW G H w v ∧ RWs G H ws r := by unfold RWs at h; exact h
theorem RWs.length : ∀ {ws : List Vl} {xs : List V}, RWs G H ws xs → ws.length = xs.length
  | [], _, h => by rw [h.nil_of] <;> rfl
  | w :: ws, _, h => by
    obtain ⟨v, r, e, _, h2⟩ := h.cons_of
    rw [e, List.length_cons, List.length_cons, RWs.length h2]
theorem RWs.get : ∀ {ws : List Vl} {xs : List V} {i : Nat} {w : Vl}, RWs G H ws xs → ws[i]? = some w → ∃ v, xs[i]? = some v ∧ RW G H w v
  | [], _, _, _, _, e => by simp at e
  | w :: ws, _, i, u, h, e => by
    obtain ⟨v, r, q, h1, h2⟩ := h.cons_of
    subst q
    cases i with
    | zero => simp at e; subst e; exact ⟨v, rfl, h1⟩
    | succ i => obtain ⟨v', e', r'⟩ := RWs.get (i := i) h2 (by simpa using e); exact ⟨v', by simpa using e', r'⟩
theorem RWs.getV : ∀ {ws : List Vl} {xs : List V} {i : Nat} {v : V}, RWs G H ws xs → xs[i]? = some v → ∃ w, ws[i]? = some w ∧ RW G H w v
  | [], _, _, _, h, e => by rw [h.nil_of] at e; simp at e
  | w :: ws, _, i, u, h, e => by
    obtain ⟨v, r, q, h1, h2⟩ := h.cons_of
    subst q
    cases i with
    | zero => simp at e; subst e; exact ⟨w, rfl, h1⟩
    | succ i => obtain ⟨v', e', r'⟩ := RWs.getV (i := i) h2 (by simpa using e); exact ⟨v', by simpa using e', r'⟩
theorem RWs.append : ∀ {ws us : List Vl} {xs ys : List V}, RWs G H ws xs → RWs G H us ys → RWs G H (ws ++ us) (xs ++ ys)
  | [], _, _, _, h, k => by rw [h.nil_of]; exact k
  | w :: ws, _, _, _, h, k => by
    obtain ⟨v, r, q, h1, h2⟩ := h.cons_of
    subst q
    exact .cons h1 (RWs.append h2 k)
theorem RWs.set {u : Vl} {y : V} (q : RW G H u y) : ∀ {ws : List Vl} {xs : List V} (i : Nat), RWs G H ws xs → RWs G H (ws.set i u) (xs.set i y)
  | [], _, _, h => by rw [h.nil_of]; exact RWs.nil
  | w :: ws, _, i, h => by
    obtain ⟨v, r, e, h1, h2⟩ := h.cons_of
    subst e
    cases i with
    | zero => exact .cons q h2
    | succ i => exact .cons h1 (RWs.set q i h2)
theorem RWs.take : ∀ {ws : List Vl} {xs : List V} (n : Nat), RWs G H ws xs → RWs G H (ws.take n) (xs.take n)
  | _, _, 0, _ => by rw [List.take_zero, List.take_zero]; exact RWs.nil
  | [], _, n + 1, h => by rw [h.nil_of]; exact RWs.nil
  | w :: ws, _, n + 1, h => by
    obtain ⟨v, r, e, h1, h2⟩ := h.cons_of
    subst e
    exact .cons h1 (RWs.take n h2)
theorem RWs.drop : ∀ {ws : List Vl} {xs : List V} (n : Nat), RWs G H ws xs → RWs G H (ws.drop n) (xs.drop n)
  | _, _, 0, h => h
  | [], _, n + 1, h => by rw [h.nil_of]; exact RWs.nil
  | w :: ws, _, n + 1, h => by
    obtain ⟨v, r, e, h1, h2⟩ := h.cons_of
    subst e
    exact RWs.drop n h2
theorem RWs.reverse : ∀ {ws : List Vl} {xs : List V}, RWs G H ws xs → RWs G H ws.reverse xs.reverse
  | [], _, h => by rw [h.nil_of]; exact RWs.nil
  | w :: ws, _, h => by
    obtain ⟨v, r, e, h1, h2⟩ := h.cons_of
    subst e
    rw [List.reverse_cons, List.reverse_cons]
    exact (RWs.reverse h2).append (.cons h1 .nil)
theorem RWs.rep {ws : List Vl} {xs : List V} (h : RWs G H ws xs) : ∀ k : Nat, RWs G H (List.replicate k ws).flatten (List.replicate k xs).flatten
  | 0 => RWs.nil
  | k + 1 => by
    rw [List.replicate_succ, List.replicate_succ, List.flatten_cons, List.flatten_cons]
    exact h.append (RWs.rep h k)
theorem RWs.dropLast : ∀ {ws : List Vl} {xs : List V}, RWs G H ws xs → RWs G H ws.dropLast xs.dropLast := fun {ws xs} h => by
  rw [List.dropLast_eq_take, List.dropLast_eq_take, ← h.length]; exact h.take _
end

/-- the store is held by the abstract heap -/
structure RS (G : Ge) (H : Hp) (S : Sto) : Prop where
  lst : ∀ a ws, S a = some ws → ∃ xs, H a = some (.lst xs) ∧ RWs G H ws xs
  tab : LamX.Tabs G.TT H
section
variable {G : Ge} {H H' : Hp} {S : Sto}
theorem tabS_upd {p P : Addr} {q : Str} {o : HO} (t : LamX.TabS H P q) (h : H p = none ∨ ∃ xs, H p = some (.lst xs)) : LamX.TabS (upd H p o) P q := by
  obtain ⟨ps, hP, ok, f⟩ := t
  have ne : ∀ b u, H b = some u → (∀ xs, u ≠ .lst xs) → b ≠ p := fun b u e n z => by
    subst z
    rcases h with h | ⟨xs, h⟩
    · rw [h] at e; cases e
    · rw [h] at e; cases e; exact n _ rfl
  refine ⟨ps, by rw [L2.upd_ne (ne P _ hP fun _ z => by cases z)]; exact hP, ok, fun pos cv e => ?_⟩
  obtain ⟨c, e1, e2⟩ := f pos cv e
  exact ⟨c, e1, by rw [L2.upd_ne (ne c _ e2 fun _ z => by cases z)]; exact e2⟩
theorem tabs_upd {p : Addr} {o : HO} {T : List (Addr × Str)} (t : LamX.Tabs T H) (h : H p = none ∨ ∃ xs, H p = some (.lst xs)) : LamX.Tabs T (upd H p o) :=
  fun x hx => tabS_upd (t x hx) h
theorem RS.free (r : RS G H S) {p : Addr} (h : H p = none) : S p = none := by
  cases e : S p with
  | none => rfl
  | some ws => obtain ⟨xs, q, _⟩ := r.lst p ws e; rw [h] at q; cases q
/-- a thing that is no list of the store is laid at a new place -/
theorem RS.new (r : RS G H S) {p : Addr} {o : HO} (h : H p = none) : RS G (upd H p o) S :=
  ⟨fun a ws e => by
    obtain ⟨xs, q, k⟩ := r.lst a ws e
    exact ⟨xs, by rw [L2.upd_ne (ne_of_none q h)]; exact q, k.mono (Grow.new h)⟩, tabs_upd r.tab (.inl h)⟩
theorem RS.newL (r : RS G H S) {p : Addr} {ws : List Vl} {xs : List V} (h : H p = none) (k : RWs G H ws xs) : RS G (upd H p (.lst xs)) (S.upd p ws) :=
  ⟨fun a us e => by
    by_cases z : a = p
    · subst z
      rw [Sto.upd_same] at e
      cases e
      exact ⟨xs, L2.upd_same, k.mono (Grow.new h)⟩
    · rw [Sto.upd_ne z] at e
      obtain ⟨ys, q, k'⟩ := r.lst a us e
      exact ⟨ys, by rw [L2.upd_ne z]; exact q, k'.mono (Grow.new h)⟩, tabs_upd r.tab (.inl h)⟩
theorem RS.set (r : RS G H S) {p : Addr} {ws : List Vl} {xs ys : List V} (h : H p = some (.lst ys)) (k : RWs G H ws xs) : RS G (upd H p (.lst xs)) (S.upd p ws) :=
  ⟨fun a us e => by
    by_cases z : a = p
    · subst z
      rw [Sto.upd_same] at e
      cases e
      exact ⟨xs, L2.upd_same, k.mono (Grow.lst h)⟩
    · rw [Sto.upd_ne z] at e
      obtain ⟨zs, q, k'⟩ := r.lst a us e
      exact ⟨zs, by rw [L2.upd_ne z]; exact q, k'.mono (Grow.lst h)⟩, tabs_upd r.tab (.inr ⟨_, h⟩)⟩
theorem RS.sub (r : RS G H S) {S' : Sto} (h : ∀ a ws, S' a = some ws → S a = some ws) : RS G H S' := ⟨fun a ws e => r.lst a ws (h a ws e), r.tab⟩
end

abbrev WSt := List (Option Vl)
abbrev WK := Vl → Sto → Prop
abbrev WE := WSt → Sto → WK → Prop
abbrev WT := WSt → Sto → (Bool → Sto → Prop) → Prop
abbrev WA := WSt → Sto → (List Vl → Sto → Prop) → Prop

structure RSt (G : Ge) (H : Hp) (σ : WSt) (v : L2.St) : Prop where
  len : σ.length = v.length
  at_ : ∀ (i : Nat) w, σ[i]? = some (some w) → ∃ x, v[i]? = some (some x) ∧ RW G H w x
theorem RSt.mono {G : Ge} {H H' : Hp} {σ : WSt} {v : L2.St} (g : Grow H H') (r : RSt G H σ v) : RSt G H' σ v :=
  ⟨r.len, fun i w e => let ⟨x, h1, h2⟩ := r.at_ i w e; ⟨x, h1, h2.mono g⟩⟩
theorem RSt.set {G : Ge} {H : Hp} {σ : WSt} {v : L2.St} {w : Vl} {x : V} (r : RSt G H σ v) (i : Nat) (h : RW G H w x) : RSt G H (σ.set i (some w)) (v.set i (some x)) :=
  ⟨by rw [List.length_set, List.length_set, r.len], fun j u e => by
    by_cases q : i = j
    · subst q
      by_cases hl : i < σ.length
      · rw [List.getElem?_set_self hl] at e
        cases e
        exact ⟨x, by rw [List.getElem?_set_self (by rw [← r.len]; exact hl)], h⟩
      · rw [List.getElem?_eq_none (by rw [List.length_set]; omega)] at e; cases e
    · rw [List.getElem?_set_ne q] at e
      obtain ⟨y, e1, e2⟩ := r.at_ j u e
      exact ⟨y, by rw [List.getElem?_set_ne q]; exact e1, e2⟩⟩

/-- a reading over plain data, as one over the abstract heap -/
def liftE (G : Ge) (H0 : Hp) (t : WE) : TE := fun v H Q => ∃ (σ : WSt) (S : Sto) (Q0 : WK), Grow H0 H ∧ RSt G H σ v ∧ RS G H S ∧ t σ S Q0 ∧
  ∀ w S' x H', Q0 w S' → Grow H H' → RW G H' w x → RS G H' S' → Q x H'
def liftT (G : Ge) (H0 : Hp) (t : WT) : TT := fun v H Q => ∃ (σ : WSt) (S : Sto) (Q0 : Bool → Sto → Prop), Grow H0 H ∧ RSt G H σ v ∧ RS G H S ∧ t σ S Q0 ∧
  ∀ b S' H', Q0 b S' → Grow H H' → RS G H' S' → Q b H'
def liftA (G : Ge) (H0 : Hp) (t : WA) : TA := fun v H Q => ∃ (σ : WSt) (S : Sto) (Q0 : List Vl → Sto → Prop), Grow H0 H ∧ RSt G H σ v ∧ RS G H S ∧ t σ S Q0 ∧
  ∀ ws S' xs H', Q0 ws S' → Grow H H' → RWs G H' ws xs → RS G H' S' → Q xs H'
theorem PE.weak {X : Cx} {e : Expr} {t t' : TE} (h : PE X e t) (k : ∀ σ H Q, t' σ H Q → t σ H Q) : PE X e t' := ⟨fun pins s σ H Q I q => h.run pins s σ H Q I (k _ _ _ q)⟩
theorem PT.weak {X : Cx} {e : Expr} {t t' : TT} (h : PT X e t) (k : ∀ σ H Q, t' σ H Q → t σ H Q) : PT X e t' := ⟨fun pins s σ H Q I q => h.run pins s σ H Q I (k _ _ _ q)⟩
theorem PA.weak {X : Cx} {e : List Expr} {t t' : TA} (h : PA X e t) (k : ∀ σ H Q, t' σ H Q → t σ H Q) : PA X e t' := ⟨fun pos pins s σ H Q I q => h.run pos pins s σ H Q I (k _ _ _ q)⟩
theorem PS.weak {X : Cx} {e : Stmt} {t t' : TS} (h : PS X e t) (k : ∀ D σ H, t' D σ H → t D σ H) : PS X e t' := ⟨fun pins s σ H Q I q => h.run pins s σ H Q I (k _ _ _ q)⟩
theorem PSs.weak {X : Cx} {e : List Stmt} {t t' : TS} (h : PSs X e t) (k : ∀ D σ H, t' D σ H → t D σ H) : PSs X e t' := ⟨fun pins s σ H Q I q => h.run pins s σ H Q I (k _ _ _ q)⟩
end PW

set_option Elab.async false
set_option linter.all false
set_option maxRecDepth 100000
set_option maxHeartbeats 2000000
/-! own prelude, part 2: the small language and its readings -/
namespace PW
open PySem PySem.Spec PyProof.Rows L2

/-- the built-in functions -/
inductive Bn where
  | abs | int | bool | len | max2 | min2 | sum | all | any | maxL | minL | tuple | list | repr | str | isi | lrng | trng | sorted
  deriving DecidableEq
/-- the built-in methods -/
inductive Mn where
  | append | pop | extend | reverse | upper | index | count
  deriving DecidableEq
/-- a for's, a comprehension's targets -/
inductive Pt where
  | nm (i : Nat) | tup (l : Pt) | nil | cons (p r : Pt)
/-- expressions; nil, cons: lists of them (nil also: left out) -/
inductive T where
  | nil | cons (a l : T) | scons (a l : T) | star (a : T)
  | var (i : Nat) | int (i : Int) | bl (b : Bool) | non | str (x : Str)
  | gint (x : Str) (i : Int) | gti (x : Str) (ns : List Int) | gtt (x : Str) (zs : List Str) | gst (x z : Str) | cls (i : Nat) | ty (n : String) | gfn (i : Nat)
  | tup (l : T) | lst (l : T)
  | bin (o : Operator) (a b : T) | neg (a : T) | not (a : T) | and (a l : T) | or (a l : T)
  | cmp (o : CmpOp) (a b : T) | chn (o p : CmpOp) (a b c : T) | ite (c a b : T)
  | ix (a i : T) | slc (a lo hi : T) | rev (a : T)
  | call (f : Nat) (l : T) | callk (f : Nat) (l kw : T) | blt (b : Bn) (l : T) | mth (m : Mn) (o l : T)
  | lrng (a : T) | att (a : T) | hrd (b : T)
  | comp (e : T) (g : Pt) (it c : T) (own : List (Str × Nat))
  | comp2 (e : T) (g : Pt) (it c : T) (g2 : Pt) (it2 c2 : T) (own : List (Str × Nat))
  | rng (l : T) | enm (a : T) | zp (a b : T) | revd (a : T)
/-- statements; nil, seq: blocks -/
inductive B where
  | nil | seq (s r : B)
  | asg (g : Pt) (e : T) | par (is : List Nat) (l : T) | asgI (a i e : T) | aug (i : Nat) (o : Operator) (e : T) | augI (a i : T) (o : Operator) (e : T)
  | ex (e : T) | ret (e : T) | retN | ifs (c : T) (a b : B) | for (g : Pt) (it : T) (b : B) | whl (c : T) (b : B)
  | rais (c : Nat) (e : T) | brk | cnt | pass | doc

/-! ### values -/
/-- the int that a value counts as -/
def Vl.isInt : Vl → Bool
  | .int _ => true
  | _ => false
mutual
/-- a value as the library's data, lists read in the store -/
inductive DatW (S : Sto) : Vl → PyData → Prop
  | non : DatW S .non .none
  | bl (b : Bool) : DatW S (.bl b) (.bool b)
  | int (i : Int) : DatW S (.int i) (.int i)
  | str (x : Str) : DatW S (.str x) (.str x)
  | tup {ws : List Vl} {ds : List PyData} : DatWs S ws ds → DatW S (.tup ws) (.tuple ds)
  | lst {a : Addr} {ws : List Vl} {ds : List PyData} : S a = some ws → DatWs S ws ds → DatW S (.lst a) (.list ds)
inductive DatWs (S : Sto) : List Vl → List PyData → Prop
  | nil : DatWs S [] []
  | cons {w : Vl} {ws : List Vl} {d : PyData} {ds : List PyData} : DatW S w d → DatWs S ws ds → DatWs S (w :: ws) (d :: ds)
end
/-- the items of a list or tuple -/
def Vl.seq (S : Sto) : Vl → Option (List Vl)
  | .tup ws => some ws
  | .rol ws => some ws
  | .lst a => S a
  | _ => none
/-- the items of a list -/
def Vl.lseq (S : Sto) : Vl → Option (List Vl)
  | .rol ws => some ws
  | .lst a => S a
  | _ => none
def tyName : Vl → String
  | .non => "NoneType"
  | .bl _ => "bool"
  | .int _ => "int"
  | .str _ => "str"
  | .tup _ => "tuple"
  | .rol _ => "list"
  | .lst _ => "list"
  | _ => ""
/-- None, bools, ints, texts, as the layer has them -/
def Vl.flat : Vl → Bool
  | .non => true
  | .bl _ => true
  | .int _ => true
  | .str _ => true
  | _ => false
def Vl.fl : Vl → V
  | .bl b => .bl b
  | .int i => .int i
  | .str x => .str x
  | _ => .non
def CDv (i j : Int) : Prop := j ≠ 0 ∧ Builtin.divisionGoesByPylong i j = false
def CPw (i j : Int) : Prop := 0 ≤ j ∧ (Builtin.Int.intBits i : Int) * j ≤ 2 ^ 27
def newL (S : Sto) (ws : List Vl) (Q : WK) : Prop := ∀ p, S p = none → Q (.lst p) (S.upd p ws)
def opW (o : Operator) (x y : Vl) (S : Sto) (Q : WK) : Prop :=
  match o, x, y with
  | .Add, .int i, .int j => Q (.int (i + j)) S
  | .Sub, .int i, .int j => Q (.int (i - j)) S
  | .Mult, .int i, .int j => IntMulOk i j ∧ Q (.int (i * j)) S
  | .FloorDiv, .int i, .int j => CDv i j ∧ Q (.int (i.fdiv j)) S
  | .Mod, .int i, .int j => j ≠ 0 ∧ Q (.int (i.fmod j)) S
  | .Pow, .int i, .int j => CPw i j ∧ Q (.int (i ^ j.toNat)) S
  | .Add, .str a, .str b => a.length + b.length ≤ sizeLine ∧ Q (.str (a ++ b)) S
  | .Add, .tup a, .tup b => a.length + b.length ≤ sizeLine ∧ Q (.tup (a ++ b)) S
  | .Add, .lst a, .lst b => ∃ xs ys, S a = some xs ∧ S b = some ys ∧ xs.length + ys.length ≤ sizeLine ∧ newL S (xs ++ ys) Q
  | .Mult, .lst a, .int k => ∃ xs, S a = some xs ∧ -(2 ^ 63) ≤ k ∧ k < 2 ^ 63 ∧ xs.length * k.toNat ≤ sizeLine ∧ newL S (List.replicate k.toNat xs).flatten Q
  | _, _, _ => False
def eqD (S : Sto) (x y : Vl) (k : Bool → Prop) : Prop := ∃ d e, DatW S x d ∧ DatW S y e ∧ SeqAt.shaped d = true ∧ SeqAt.shaped e = true ∧ k (PyData.eqv d e)
def cmpW (o : CmpOp) (x y : Vl) (S : Sto) (k : Bool → Prop) : Prop :=
  match o, x, y with
  | .Lt, .int i, .int j => k (decide (i < j))
  | .LtE, .int i, .int j => k (decide (i ≤ j))
  | .Gt, .int i, .int j => k (decide (j < i))
  | .GtE, .int i, .int j => k (decide (j ≤ i))
  | .Eq, .int i, .int j => k (decide (i = j))
  | .NotEq, .int i, .int j => k (!decide (i = j))
  | .Eq, .str i, .str j => k (decide (i = j))
  | .NotEq, .str i, .str j => k (!decide (i = j))
  | .Eq, .bl i, .bl j => k (decide (i = j))
  | .Eq, x, y => eqD S x y k
  | .NotEq, x, y => eqD S x y fun b => k (!b)
  | .Is, .non, .non => k true
  | .Is, .exc _ _, .non => k false
  | .Is, .int _, .non => k false
  | .Is, .tup _, .non => k false
  | .IsNot, .non, .non => k false
  | .IsNot, .exc _ _, .non => k true
  | .IsNot, .int _, .non => k true
  | .IsNot, .tup _, .non => k true
  | .In, x, .tup ws => x.flat = true ∧ ws.all Vl.flat = true ∧ k (inV x.fl (ws.map Vl.fl))
  | .NotIn, x, .tup ws => x.flat = true ∧ ws.all Vl.flat = true ∧ k (!inV x.fl (ws.map Vl.fl))
  | .In, x, y => ∃ ws d ds, y.lseq S = some ws ∧ DatW S x d ∧ DatWs S ws ds ∧ SeqAt.shaped d = true ∧ SeqAt.shaped (.list ds) = true ∧ k (ds.any fun e => PyData.eqv e d)
  | .NotIn, x, y => ∃ ws d ds, y.lseq S = some ws ∧ DatW S x d ∧ DatWs S ws ds ∧ SeqAt.shaped d = true ∧ SeqAt.shaped (.list ds) = true ∧ k (!ds.any fun e => PyData.eqv e d)
  | _, _, _ => False
/-- a value's truth -/
def truW (x : Vl) (S : Sto) (k : Bool → Prop) : Prop :=
  match x with
  | .non => k false
  | .bl b => k b
  | .int i => k (i != 0)
  | .str y => y.length ≤ sizeLine ∧ k ((y.length : Int) != 0)
  | .tup ws => k (!ws.isEmpty)
  | .rol ws => k (!ws.isEmpty)
  | .lst a => ∃ ws, S a = some ws ∧ k (!ws.isEmpty)
  | _ => False
/-- the item at a place of any sign -/
def ixW (x y : Vl) (S : Sto) (Q : WK) : Prop :=
  match y with
  | .int i => (match x.seq S with
    | some ws => ∃ w, atI ws i = some w ∧ Q w S
    | none => False)
  | _ => False
def cutW (ws : List Vl) (lo hi : Option Int) : List Vl := (ws.drop (HT.sIx ws.length 0 lo)).take (HT.sIx ws.length ws.length hi - HT.sIx ws.length 0 lo)
def slW (x : Vl) (lo hi : Option Int) (S : Sto) (Q : WK) : Prop :=
  match x with
  | .tup ws => Q (.tup (cutW ws lo hi)) S
  | .rol ws => newL S (cutW ws lo hi) Q
  | .lst a => ∃ ws, S a = some ws ∧ newL S (cutW ws lo hi) Q
  | _ => False
/-- a value whose class is a built-in one -/
def Vl.isData (S : Sto) : Vl → Prop
  | .exc _ _ => False
  | .fn _ => False
  | .cls _ => False
  | .ty _ => False
  | .lst a => (S a).isSome = true
  | _ => True
def instB (a n : String) : Option Bool := kitB a n
def rangeW (lo : Int) (n : Nat) : List Vl := (List.range n).map fun k => Vl.int (lo + (k : Nat))
def rangeC (lo c : Int) (n : Nat) : List Vl := (List.range n).map fun k => Vl.int (lo + (k : Nat) * c)
/-- whether the i-th exception class lies below the j-th, told by a table -/
abbrev Subs := Nat → Nat → Bool
def bltW (sb : Subs) (b : Bn) (ws : List Vl) (S : Sto) (Q : WK) : Prop :=
  match b, ws with
  | .abs, [.int i] => Q (.int (if i < 0 then -i else i)) S
  | .int, [.int i] => Q (.int i) S
  | .int, [.bl k] => Q (.int (if k then 1 else 0)) S
  | .bool, [.int i] => Q (.bl (i != 0)) S
  | .bool, [.bl k] => Q (.bl k) S
  | .len, [.str y] => y.length ≤ sizeLine ∧ Q (.int y.length) S
  | .len, [x] => ∃ us, x.seq S = some us ∧ Q (.int us.length) S
  | .max2, [.int i, .int j] => Q (.int (if j > i then j else i)) S
  | .min2, [.int i, .int j] => Q (.int (if j < i then j else i)) S
  | .sum, [.lst a] => ∃ ns : List Int, S a = some (ns.map Vl.int) ∧ Q (.int ns.sum) S
  | .all, [.lst a] => ∃ bs : List Bool, S a = some (bs.map Vl.bl) ∧ Q (.bl (bs.all id)) S
  | .any, [.lst a] => ∃ bs : List Bool, S a = some (bs.map Vl.bl) ∧ Q (.bl (bs.any id)) S
  | .maxL, [.lst a] => ∃ ns : List Int, S a = some (ns.map Vl.int) ∧ 0 < ns.length ∧ ∀ m, m ∈ ns → (∀ k ∈ ns, k ≤ m) → Q (.int m) S
  | .minL, [.lst a] => ∃ ns : List Int, S a = some (ns.map Vl.int) ∧ 0 < ns.length ∧ ∀ m, m ∈ ns → (∀ k ∈ ns, m ≤ k) → Q (.int m) S
  | .sorted, [.lst a] => ∃ ns : List Int, S a = some (ns.map Vl.int) ∧ ∀ ns' : List Int, ns'.Perm ns → ns'.Pairwise (· ≤ ·) → newL S (ns'.map Vl.int) Q
  | .tuple, [.tup ws] => Q (.tup ws) S
  | .tuple, [.lst a] => ∃ ws, S a = some ws ∧ Q (.tup ws) S
  | .list, [x] => ∃ us, x.seq S = some us ∧ newL S us Q
  | .repr, [x] => ∃ d, DatW S x d ∧ d.showable = true ∧ d.hasDict = false ∧ d.depth ≤ 64 ∧ d.shown.length + 64 ≤ sizeLine ∧ Q (.str d.shown) S
  | .isi, [x, .ty n] => ∃ r, x.isData S ∧ instB (tyName x) n = some r ∧ Q (.bl r) S
  | .isi, [.exc i _, .cls j] => Q (.bl (sb i j)) S
  | _, _ => False

/-- a list that may be written -/
def Vl.isList (S : Sto) : Vl → Prop
  | .lst a => ∃ ws, S a = some ws
  | _ => False
def mthW (m : Mn) (x : Vl) (ws : List Vl) (S : Sto) (Q : WK) : Prop :=
  match m, x, ws with
  | .append, .lst a, [w] => ∃ us, S a = some us ∧ us.length < sizeLine ∧ Q .non (S.upd a (us ++ [w]))
  | .pop, .lst a, [] => ∃ us w, S a = some us ∧ us[us.length - 1]? = some w ∧ Q w (S.upd a us.dropLast)
  | .extend, .lst a, [.lst b] => ∃ us vs, S a = some us ∧ S b = some vs ∧ us.length + vs.length ≤ sizeLine ∧ Q .non (S.upd a (us ++ vs))
  | .reverse, .lst a, [] => ∃ us, S a = some us ∧ Q .non (S.upd a us.reverse)
  | _, _, _ => False
end PW

set_option Elab.async false
set_option linter.all false
set_option maxRecDepth 100000
set_option maxHeartbeats 2000000
/-! own prelude, part 3: readings -/
namespace PW
open PySem PySem.Spec PyProof.Rows L2

abbrev SpW := List Vl → Sto → WK → WK → Prop
/-- what a reading leans on: the defs' promises, the wish about exceptions, the classes' table -/
structure Rc where
  Γ : Nat → SpW
  E : WK
  sb : Subs
/-- the store S' holds what S holds -/
def wsub (S S' : Sto) : Prop := ∀ a ws, S a = some ws → S' a = some ws
/-- σ says no more than σ' -/
def wst (σ σ' : WSt) : Prop := σ.length = σ'.length ∧ ∀ (i : Nat) w, σ[i]? = some (some w) → σ'[i]? = some (some w)
mutual
def gP : Pt → Vl → WSt → Sto → (WSt → Sto → Prop) → Prop
  | .nm i, w, σ, S, Q => Q (σ.set i (some w)) S
  | .tup l, w, σ, S, Q => match w.seq S with
    | some ws => gPs l ws σ S Q
    | none => False
  | .nil, _, _, _, _ => False
  | .cons _ _, _, _, _, _ => False
def gPs : Pt → List Vl → WSt → Sto → (WSt → Sto → Prop) → Prop
  | .nil, ws, σ, S, Q => match ws with
    | [] => Q σ S
    | _ :: _ => False
  | .cons p r, ws, σ, S, Q => match ws with
    | w :: us => gP p w σ S fun σ' S' => gPs r us σ' S' Q
    | [] => False
  | .nm _, _, _, _, _ => False
  | .tup _, _, _, _, _ => False
end
def wipeW (σ : WSt) : List Nat → WSt
  | [] => σ
  | v :: vs => (wipeW σ vs).set v none
/-- a list comprehension's turns: acc is what D holds so far -/
def lcR (G : Sto → Prop) (g : Vl → WSt → Sto → (WSt → Sto → Prop) → Prop) (c : WT) (e : WE) (σ : WSt) (D : Addr) (Q : List Vl → Sto → Prop) : List Vl → List Vl → Sto → Prop
  | [], acc, S => G S ∧ S D = some acc ∧ Q acc S
  | x :: xs, acc, S => G S ∧ g x σ S fun σ2 S2 => c σ2 S2 fun b S3 =>
      if b = true then e σ2 S3 fun y S4 => S4 D = some acc ∧ acc.length < sizeLine ∧ ∃ S5, wsub S5 (S4.upd D (acc ++ [y])) ∧ lcR G g c e σ D Q xs (acc ++ [y]) S5
      else lcR G g c e σ D Q xs acc S3
def lcO (G : Sto → Prop) (g : Vl → WSt → Sto → (WSt → Sto → Prop) → Prop) (c : WT) (inner : WSt → Sto → (List Vl → Sto → Prop) → List Vl → Prop) (σ : WSt) (D : Addr) (Q : List Vl → Sto → Prop) : List Vl → List Vl → Sto → Prop
  | [], acc, S => G S ∧ S D = some acc ∧ Q acc S
  | x :: xs, acc, S => G S ∧ g x σ S fun σ2 S2 => c σ2 S2 fun b S3 =>
      if b = true then inner σ2 S3 (fun acc' S4 => lcO G g c inner σ D Q xs acc' S4) acc else lcO G g c inner σ D Q xs acc S3
def enumW (ws : List Vl) : List Vl := ws.zipIdx.map fun p => Vl.tup [.int (p.2 : Nat), p.1]
def zipW (ws us : List Vl) : List Vl := (ws.zip us).map fun p => Vl.tup [p.1, p.2]
/-- what walks a list or a tuple: the items, and what must stand meanwhile -/
def seqG (x : Vl) (S : Sto) (K : List Vl → (Sto → Prop) → Prop) : Prop :=
  match x with
  | .tup ws => K ws fun _ => True
  | .rol ws => K ws fun _ => True
  | .lst a => match S a with
    | some ws => K ws fun S' => S' a = some ws
    | none => False
  | _ => False
def rngG (ws : List Vl) (S : Sto) (K : List Vl → (Sto → Prop) → Sto → Prop) : Prop :=
  match ws with
  | [.int n] => (-(2 ^ 62) ≤ n ∧ n < 2 ^ 62) ∧ K (rangeW 0 n.toNat) (fun _ => True) S
  | [.int a, .int b] => (-(2 ^ 62) ≤ a ∧ a < 2 ^ 62 ∧ -(2 ^ 62) ≤ b ∧ b < 2 ^ 62) ∧ K (rangeW a (b - a).toNat) (fun _ => True) S
  | [.int a, .int b, .int c] => ∃ n, RgC a b c n ∧ K (rangeC a c n) (fun _ => True) S
  | _ => False
abbrev WI := WSt → Sto → (List Vl → (Sto → Prop) → Sto → Prop) → Prop
/-- the readings of a term: as a value, as a test, as arguments, as a slice's bound, as a comprehension's test, as what is walked -/
structure Rd where
  e : Rc → WE
  t : Rc → WT
  a : Rc → WA
  o : Rc → WSt → Sto → (Option Int → Sto → Prop) → Prop
  c : Rc → WT
  i : Rc → WI
def truE (e : Rc → WE) : Rc → WT := fun R σ S Q => e R σ S fun x S1 => truW x S1 fun b => Q b S1
def partE (e : Rc → WE) : Rc → WSt → Sto → (Option Int → Sto → Prop) → Prop := fun R σ S Q => e R σ S fun x S1 => match x with
  | .int i => Q (some i) S1
  | _ => False
def walkE (e : Rc → WE) : Rc → WI := fun R σ S K => e R σ S fun x S1 => seqG x S1 fun ws G => K ws G S1
def noE : Rc → WE := fun _ _ _ _ => False
def noA : Rc → WA := fun _ _ _ _ => False
def mkV (e : Rc → WE) : Rd := ⟨e, truE e, noA, partE e, truE e, walkE e⟩
def mkT (e : Rc → WE) (t : Rc → WT) : Rd := ⟨e, t, noA, partE e, t, walkE e⟩
def mkI (i : Rc → WI) : Rd := ⟨noE, truE noE, noA, partE noE, truE noE, i⟩
def Rc.no (R : Rc) : Rc := { R with E := fun _ _ => False }
/-- a tuple -/
def Vl.isTup : Vl → Bool
  | .tup _ => true
  | _ => false
/-- how many there are in a list of terms -/
def T.alen : T → Nat
  | .cons _ l => l.alen + 1
  | .scons _ l => l.alen + 1
  | _ => 0
def Pt.slots : Pt → List Nat
  | .nm i => [i]
  | .tup l => l.slots
  | .nil => []
  | .cons p r => p.slots ++ r.slots
def rd : T → Rd
  | .var i => mkV fun _ σ S Q => match σ[i]? with
    | some (some w) => Q w S
    | _ => False
  | .int i => mkV fun _ _ S Q => Q (.int i) S
  | .bl b => mkV fun _ _ S Q => Q (.bl b) S
  | .non => mkV fun _ _ S Q => Q .non S
  | .str x => mkV fun _ _ S Q => Q (.str x) S
  | .gint _ i => mkV fun _ _ S Q => Q (.int i) S
  | .gti _ ns => mkV fun _ _ S Q => Q (.tup (ns.map Vl.int)) S
  | .gtt _ zs => mkV fun _ _ S Q => Q (.tup (zs.map Vl.str)) S
  | .gst _ z => mkV fun _ _ S Q => Q (.str z) S
  | .cls i => mkV fun _ _ S Q => Q (.cls i) S
  | .ty n => mkV fun _ _ S Q => Q (.ty n) S
  | .gfn i => mkV fun _ _ S Q => Q (.fn i) S
  | .tup l => mkV fun R σ S Q => (rd l).a R σ S fun ws S1 => ws.length ≤ sizeLine ∧ Q (.tup ws) S1
  | .lst l => mkV fun R σ S Q => (rd l).a R σ S fun ws S1 => ws.length ≤ sizeLine ∧ newL S1 ws Q
  | .bin o a b => mkV fun R σ S Q => (rd a).e R σ S fun x S1 => (rd b).e R σ S1 fun y S2 => opW o x y S2 Q
  | .neg a => mkV fun R σ S Q => (rd a).e R σ S fun x S1 => match x with
    | .int i => Q (.int (-i)) S1
    | _ => False
  | .not a => mkT (fun R σ S Q => (rd a).e R σ S fun x S1 => truW x S1 fun b => Q (.bl (!b)) S1) fun R σ S Q => (rd a).t R σ S fun b S1 => Q (!b) S1
  | .and a l => mkT (fun R σ S Q => (rd a).e R σ S fun x S1 => truW x S1 fun b => if b = true then (rd l).e R σ S1 Q else Q x S1)
      fun R σ S Q => (rd a).t R σ S fun b S1 => if b = true then (rd l).t R σ S1 Q else Q false S1
  | .or a l => mkT (fun R σ S Q => (rd a).e R σ S fun x S1 => truW x S1 fun b => if b = true then Q x S1 else (rd l).e R σ S1 Q)
      fun R σ S Q => (rd a).t R σ S fun b S1 => if b = true then Q true S1 else (rd l).t R σ S1 Q
  | .cmp o a b => mkV fun R σ S Q => (rd a).e R σ S fun x S1 => (rd b).e R σ S1 fun y S2 => cmpW o x y S2 fun k => Q (.bl k) S2
  | .chn o p a b c => mkV fun R σ S Q => (rd a).e R σ S fun x S1 => (rd b).e R σ S1 fun y S2 => cmpW o x y S2 fun k =>
      if k = true then (rd c).e R σ S2 fun z S3 => cmpW p y z S3 fun k' => Q (.bl k') S3 else Q (.bl false) S2
  | .ite c a b => mkT (fun R σ S Q => (rd c).t R σ S fun k S1 => if k = true then (rd a).e R σ S1 Q else (rd b).e R σ S1 Q)
      fun R σ S Q => (rd c).t R σ S fun k S1 => if k = true then (rd a).t R σ S1 Q else (rd b).t R σ S1 Q
  | .ix a i => mkV fun R σ S Q => (rd a).e R σ S fun x S1 => (rd i).e R σ S1 fun y S2 => ixW x y S2 Q
  | .slc a lo hi => mkV fun R σ S Q => (rd a).e R σ S fun x S1 => (rd lo).o R σ S1 fun l S2 => (rd hi).o R σ S2 fun h S3 => slW x l h S3 Q
  | .rev a => mkV fun R σ S Q => (rd a).e R σ S fun x S1 => match x with
    | .lst p => match S1 p with
      | some ws => newL S1 ws.reverse Q
      | none => False
    | .tup ws => Q (.tup ws.reverse) S1
    | _ => False
  | .call f l => mkV fun R σ S Q => (rd l).a R σ S fun ws S1 => R.Γ f ws S1 Q R.E
  | .callk f l kw => mkV fun R σ S Q => (rd l).a R σ S fun ws S1 => (rd kw).a R σ S1 fun us S2 => ws.length = l.alen ∧ us.length = kw.alen ∧ R.Γ f (ws ++ us) S2 Q R.E
  | .blt b l => mkV fun R σ S Q => (rd l).a R σ S fun ws S1 => bltW R.sb b ws S1 Q
  | .mth m o l => mkV fun R σ S Q => (rd o).e R σ S fun x S1 => x.isList S1 ∧ (rd l).a R σ S1 fun ws S2 => mthW m x ws S2 Q
  | .lrng a => mkV fun R σ S Q => (rd a).e R σ S fun x S1 => match x with
    | .int n => (-(2 ^ 62) ≤ n ∧ n < 2 ^ 62 ∧ n.toNat ≤ 2 ^ 24) ∧ newL S1 (rangeW 0 n.toNat) Q
    | _ => False
  | .att a => mkV fun R σ S Q => (rd a).e R σ S fun x S1 => match x with
    | .exc _ w => Q w S1
    | _ => False
  | .hrd b => mkV fun R σ S Q => (rd b).e { R with E := fun w S' => Q (.tup [w, .non]) S' } σ S fun w S' => Q (.tup [.non, w]) S'
  | .comp e g it c own => mkV fun R σ S Q => (rd it).i R σ S fun items G S1 => ∀ D, S1 D = none →
      lcR G (gP g) ((rd c).c R.no) ((rd e).e R.no) (wipeW σ (own.map (·.2))) D (fun _ S' => Q (.lst D) S') items [] (S1.upd D [])
  | .comp2 e g it c g2 it2 c2 own => mkV fun R σ S Q => (rd it).i R σ S fun items G S1 => ∀ D, S1 D = none →
      lcO G (gP g) ((rd c).c R.no)
        (fun σ2 S3 K acc => (rd it2).i R.no σ2 S3 fun items2 G2 S4 => lcR G2 (gP g2) ((rd c2).c R.no) ((rd e).e R.no) (wipeW σ2 g2.slots) D K items2 acc S4)
        (wipeW σ (own.map (·.2))) D (fun _ S' => Q (.lst D) S') items [] (S1.upd D [])
  | .nil => ⟨noE, truE noE, fun _ _ S Q => Q [] S, fun _ _ S Q => Q none S, fun _ _ S Q => Q true S, walkE noE⟩
  | .cons a l => ⟨noE, truE noE, fun R σ S Q => (rd a).e R σ S fun x S1 => (rd l).a R σ S1 fun ws S2 => Q (x :: ws) S2, partE noE, truE noE, walkE noE⟩
  | .scons a l => ⟨noE, truE noE, fun R σ S Q => (rd a).e R σ S fun x S1 => ∃ ws, x.seq S1 = some ws ∧ (rd l).a R σ S1 fun us S2 => Q (ws ++ us) S2, partE noE, truE noE, walkE noE⟩
  | .star _ => mkV noE
  | .rng l => mkI fun R σ S K => (rd l).a R σ S fun ws S1 => ws.length = l.alen ∧ rngG ws S1 K
  | .enm a => mkI fun R σ S K => (rd a).e R σ S fun x S1 => seqG x S1 fun ws G => K (enumW ws) G S1
  | .zp a b => mkI fun R σ S K => (rd a).e R σ S fun x S1 => (rd b).e R σ S1 fun y S2 => x.isTup = y.isTup ∧ seqG x S2 fun ws G => seqG y S2 fun us G' => K (zipW ws us) (fun S' => G S' ∧ G' S') S2
  | .revd a => mkI fun R σ S K => (rd a).e R σ S fun x S1 => seqG x S1 fun ws G => K ws.reverse G S1
abbrev rdE (τ : T) : Rc → WE := (rd τ).e
abbrev rdT (τ : T) : Rc → WT := (rd τ).t
abbrev rdA (τ : T) : Rc → WA := (rd τ).a
abbrev rdO (τ : T) := (rd τ).o
abbrev rdC (τ : T) : Rc → WT := (rd τ).c
abbrev rdI (τ : T) : Rc → WI := (rd τ).i
/-! ### statements -/
structure WEn where
  nx : WSt → Sto → Prop
  rt : WK
  bk : WSt → Sto → Prop := fun _ _ => False
  ct : WSt → Sto → Prop := fun _ _ => False
/-- behind a turn: what is known may be made less -/
def less (P : WSt → Sto → Prop) : WSt → Sto → Prop := fun σ S => ∃ σ' S', wst σ' σ ∧ wsub S' S ∧ P σ' S'
def forR (G : Sto → Prop) (g : Vl → WSt → Sto → (WSt → Sto → Prop) → Prop) (b : WEn → WSt → Sto → Prop) (D : WEn) : List Vl → WSt → Sto → Prop
  | [], σ, S => G S ∧ D.nx σ S
  | x :: xs, σ, S => G S ∧ g x σ S fun σ' S' => b { D with nx := less (forR G g b D xs), ct := less (forR G g b D xs), bk := D.nx } σ' S'
def whlR (c : WT) (b : WEn → WSt → Sto → Prop) (D : WEn) (σ : WSt) (S : Sto) : Prop :=
  ∃ (I : WSt → Sto → Prop) (m : WSt → Sto → Nat), I σ S ∧ ∀ σ S, I σ S → c σ S fun k S1 =>
    if k = true then b { D with nx := less fun σ' S' => I σ' S' ∧ m σ' S' < m σ S, ct := less fun σ' S' => I σ' S' ∧ m σ' S' < m σ S, bk := D.nx } σ S1 else D.nx σ S1
def setL (a : Vl) (i : Vl) (w : Vl) (S : Sto) (Q : Sto → Prop) : Prop :=
  match a, i with
  | .lst p, .int k => ∃ ws j, S p = some ws ∧ ixN ws.length k = some j ∧ Q (S.upd p (ws.set j w))
  | _, _ => False
def getL (a : Vl) (i : Vl) (S : Sto) (Q : WK) : Prop :=
  match a, i with
  | .lst p, .int k => ∃ ws u, S p = some ws ∧ 0 ≤ k ∧ ws[k.toNat]? = some u ∧ Q u S
  | _, _ => False
/-- x op= y: a list grows in place -/
def augW (o : Operator) (x y : Vl) (S : Sto) (Q : WK) : Prop :=
  match o, x, y with
  | .Add, .lst a, .lst b => ∃ us vs, S a = some us ∧ S b = some vs ∧ us.length + vs.length ≤ sizeLine ∧ Q (.lst a) (S.upd a (us ++ vs))
  | .Add, .int i, .int j => Q (.int (i + j)) S
  | .Sub, .int i, .int j => Q (.int (i - j)) S
  | .Mult, .int i, .int j => IntMulOk i j ∧ Q (.int (i * j)) S
  | _, _, _ => False
def setS (is : List Nat) (ws : List Vl) (σ : WSt) : Option WSt :=
  match is, ws with
  | [], [] => some σ
  | i :: is, w :: ws => setS is ws (σ.set i (some w))
  | _, _ => none
def rdB : B → Rc → WEn → WSt → Sto → Prop
  | .nil, _, D, σ, S => D.nx σ S
  | .seq s r, R, D, σ, S => rdB s R { D with nx := rdB r R D } σ S
  | .asg g e, R, D, σ, S => rdE e R σ S fun w S1 => gP g w σ S1 D.nx
  | .par is l, R, D, σ, S => rdA l R σ S fun ws S1 => match setS is ws σ with
    | some σ' => D.nx σ' S1
    | none => False
  | .asgI a i e, R, D, σ, S => rdE e R σ S fun w S1 => rdE a R σ S1 fun x S2 => rdE i R σ S2 fun y S3 => setL x y w S3 (D.nx σ)
  | .aug i o e, R, D, σ, S => match σ[i]? with
    | some (some x) => rdE e R σ S fun y S1 => augW o x y S1 fun z S2 => D.nx (σ.set i (some z)) S2
    | _ => False
  | .augI a i o e, R, D, σ, S => rdE a R σ S fun x S1 => rdE i R σ S1 fun y S2 => getL x y S2 fun u S3 => rdE e R σ S3 fun w S4 => augW o u w S4 fun z S5 => setL x y z S5 (D.nx σ)
  | .ex e, R, D, σ, S => rdE e R σ S fun _ S1 => D.nx σ S1
  | .ret e, R, D, σ, S => rdE e R σ S fun w S1 => ∃ S2, wsub S2 S1 ∧ D.rt w S2
  | .retN, _, D, _, S => ∃ S2, wsub S2 S ∧ D.rt .non S2
  | .ifs c a b, R, D, σ, S => rdT c R σ S fun k S1 => if k = true then rdB a R D σ S1 else rdB b R D σ S1
  | .for g it b, R, D, σ, S => rdI it R σ S fun items G S1 => forR G (gP g) (rdB b R) D items σ S1
  | .whl c b, R, D, σ, S => whlR (rdT c R) (rdB b R) D σ S
  | .rais c e, R, _, σ, S => rdE e R σ S fun w S1 => ∃ S2, wsub S2 S1 ∧ R.E (.exc c w) S2
  | .brk, _, D, σ, S => D.bk σ S
  | .cnt, _, D, σ, S => D.ct σ S
  | .pass, _, D, σ, S => D.nx σ S
  | .doc, _, D, σ, S => D.nx σ S
end PW

set_option Elab.async false
set_option linter.all false
set_option maxRecDepth 100000
set_option maxHeartbeats 2000000
/-! own prelude, part 4: the look whether a text is a term -/
namespace PW
open PySem PySem.Spec PyProof.Rows L2

/-- the program's names: defs with their parameters, exception classes, ints of the module, built-in names that the module leaves alone -/
structure Stt where
  fnm : List Str
  fps : List (List Str)
  cnm : List Str
  gis : List (Str × Int)
  gti : List (Str × List Int) := []
  gtt : List (Str × List Str) := []
  gst : List (Str × Str) := []
  blt : List Str
  kws : List (Nat × Nat)
  sub : Nat → Nat → Bool
/-- where a text stands: the def's names by slot, the scope that runs, the names whose cells may be stored -/
structure Cf where
  N : List Str
  sc : Scope
  fn : List Str
  hd : Bool
def visB (c : Cf) (x : Str) : Bool := match c.sc.names.lookup x with
  | some .local => true
  | some .cell => true
  | some .free => true
  | _ => false
def gloB (c : Cf) (x : Str) : Bool := (match c.sc.names.lookup x with
  | some .globalImplicit => true
  | _ => false) && !(x == ("__debug__" : Str))
def nameB (c : Cf) (i : Nat) (x : Str) : Bool := decide (c.N[i]? = some x) && visB c x && !(x == ("__debug__" : Str)) && !(x == ("__classdict__" : Str))
def locB (c : Cf) (i : Nat) (x : Str) : Bool := decide (c.N[i]? = some x) && (match c.sc.names.lookup x with
  | some .local => true
  | some .cell => c.fn.contains x
  | _ => false)
def freeB (st : Stt) (c : Cf) (x : Str) : Bool := st.blt.contains x && gloB c x
/-- a built-in's name -/
def Bn.nm : Bn → Str
  | .abs => "abs" | .int => "int" | .bool => "bool" | .len => "len" | .max2 => "max" | .min2 => "min" | .sum => "sum" | .all => "all" | .any => "any" | .maxL => "max" | .minL => "min"
  | .tuple => "tuple" | .list => "list" | .repr => "repr" | .str => "str" | .isi => "isinstance" | .lrng => "list" | .trng => "tuple" | .sorted => "sorted"
def Mn.nm : Mn → Str
  | .append => "append" | .pop => "pop" | .extend => "extend" | .reverse => "reverse" | .upper => "upper" | .index => "index" | .count => "count"
def Mn.ok : Mn → Bool
  | .append => true
  | .pop => true
  | .extend => true
  | .reverse => true
  | _ => false
def tyNms : List String := ["int", "bool", "str", "tuple", "list", "dict"]
def blkSc (sc scope : Scope) : Scope := { scope with names := scope.names.map fun (n, k) => if (k == NameKind.free && sc.kind == .function && sc.names.lookup n == some .cell) then (n, NameKind.cell) else (n, k) }
def Cf.blk (c : Cf) (scope : Scope) : Cf := ⟨c.N, blkSc c.sc scope, (scope.names.filter fun y => decide (scope.names.lookup y.1 = some .cell)).map (·.1), false⟩
/-- a lambda's body: no names of its own -/
def Cf.lam (c : Cf) (scope : Scope) : Cf := ⟨c.N, scope, [], false⟩
mutual
def chkP (c : Cf) : Pt → Expr → Bool
  | .nm i, .Name x _ => locB c i x
  | .tup l, .Tuple es _ _ => chkPs c l es
  | _, _ => false
def chkPs (c : Cf) : Pt → List Expr → Bool
  | .nil, [] => true
  | .cons p r, e :: es => chkP c p e && chkPs c r es
  | _, _ => false
end
def plainIt : Expr → Bool
  | .Set _ _ _ => false
  | _ => true
def isTupE : Expr → Bool
  | .Tuple _ _ _ => true
  | _ => false
def exB : Expr → Bool
  | .Starred _ _ => false
  | .Slice _ _ _ _ => false
  | .Set _ _ _ => false
  | .SetComp .. => false
  | .DictComp .. => false
  | .Call (.Name _ _) [] [] _ => false
  | _ => true
structure Ck where
  e : Cf → Expr → Bool
  a : Cf → List Expr → Bool
  k : Cf → List Str → List Keyword → Bool
  an : Cf → List Expr → Bool
  or : Cf → List Expr → Bool
  o : Cf → Option Expr → Bool
  c : Cf → List Expr → Bool
  i : Cf → Expr → Expr → Bool
  d : Cf → List Expr → Bool
def one (e : Cf → Expr → Bool) : Cf → List Expr → Bool := fun c es => match es with
  | [x] => e c x
  | _ => false
def noC : Cf → Expr → Bool := fun _ _ => false
def mkC (e : Cf → Expr → Bool) : Ck := ⟨e, fun _ _ => false, fun _ _ _ => false, one e, one e, fun c o => match o with
  | some x => e c x
  | none => false, one e, fun c _ it => e c it && plainIt it, fun _ _ => false⟩
def mkCI (i : Cf → Expr → Expr → Bool) : Ck := ⟨noC, fun _ _ => false, fun _ _ _ => false, one noC, one noC, fun _ _ => false, one noC, i, fun _ _ => false⟩
def lineB (a b : Pos) : Bool := a.endLine == b.line
def chk (st : Stt) : T → Ck
  | .var i => mkC fun c e => match e with
    | .Name x _ => nameB c i x
    | _ => false
  | .int i => mkC fun _ e => match e with
    | .Constant (.int j) _ _ => decide (i = j)
    | _ => false
  | .bl b => mkC fun _ e => match e with
    | .Constant (.bool j) _ _ => decide (b = j)
    | _ => false
  | .non => mkC fun _ e => match e with
    | .Constant .none _ _ => true
    | _ => false
  | .str x => mkC fun _ e => match e with
    | .Constant (.str y) _ _ => decide (x = y)
    | _ => false
  | .gint x i => mkC fun c e => match e with
    | .Name y _ => decide (x = y) && st.gis.contains (x, i) && gloB c y
    | _ => false
  | .gti x ns => mkC fun c e => match e with
    | .Name y _ => decide (x = y) && st.gti.contains (x, ns) && gloB c y
    | _ => false
  | .gtt x zs => mkC fun c e => match e with
    | .Name y _ => decide (x = y) && st.gtt.contains (x, zs) && gloB c y
    | _ => false
  | .gst x z => mkC fun c e => match e with
    | .Name y _ => decide (x = y) && st.gst.contains (x, z) && gloB c y
    | _ => false
  | .cls i => mkC fun c e => match e with
    | .Name y _ => decide (st.cnm[i]? = some y) && gloB c y
    | _ => false
  | .ty n => mkC fun c e => match e with
    | .Name y _ => tyNms.contains n && decide (y = Str.ofString n) && freeB st c y
    | _ => false
  | .gfn i => mkC fun c e => match e with
    | .Name y _ => decide (st.fnm[i]? = some y) && gloB c y
    | _ => false
  | .tup l => mkC fun c e => match e with
    | .Tuple es _ _ => (chk st l).d c es
    | _ => false
  | .lst l => mkC fun c e => match e with
    | .List es _ => (chk st l).d c es
    | _ => false
  | .bin o a b => mkC fun c e => match e with
    | .BinOp a' o' b' _ => decide (o = o') && (chk st a).e c a' && (chk st b).e c b'
    | _ => false
  | .neg a => mkC fun c e => match e with
    | .UnaryOp .USub a' _ => (chk st a).e c a'
    | _ => false
  | .not a => mkC fun c e => match e with
    | .UnaryOp .Not a' _ => (chk st a).e c a'
    | _ => false
  | .and a l =>
    let f : Cf → List Expr → Bool := fun c es => match es with
      | x :: y :: r => (chk st a).e c x && (chk st l).an c (y :: r)
      | _ => false
    let e : Cf → Expr → Bool := fun c e => match e with
      | .BoolOp .And es _ => f c es
      | _ => false
    { mkC e with an := fun c es => match es with
      | [x] => e c x
      | _ => f c es }
  | .or a l =>
    let f : Cf → List Expr → Bool := fun c es => match es with
      | x :: y :: r => (chk st a).e c x && (chk st l).or c (y :: r)
      | _ => false
    let e : Cf → Expr → Bool := fun c e => match e with
      | .BoolOp .Or es _ => f c es
      | _ => false
    { mkC e with or := fun c es => match es with
      | [x] => e c x
      | _ => f c es }
  | .cmp o a b => mkC fun c e => match e with
    | .Compare a' [o'] [b'] _ => decide (o = o') && (chk st a).e c a' && (chk st b).e c b' && !behindInMarks o' b'
    | _ => false
  | .chn o p a b d => mkC fun c e => match e with
    | .Compare a' [o', p'] [b', d'] _ => decide (o = o') && decide (p = p') && (chk st a).e c a' && (chk st b).e c b' && (chk st d).e c d' && !behindInMarks p' d'
    | _ => false
  | .ite d a b => mkC fun c e => match e with
    | .IfExp d' a' b' _ => (chk st d).e c d' && (chk st a).e c a' && (chk st b).e c b'
    | _ => false
  | .ix a i => mkC fun c e => match e with
    | .Subscript a' i' _ => (chk st a).e c a' && (chk st i).e c i'
    | _ => false
  | .slc a lo hi => mkC fun c e => match e with
    | .Subscript a' (.Slice lo' hi' none _) _ => (chk st a).e c a' && (chk st lo).o c lo' && (chk st hi).o c hi'
    | _ => false
  | .rev a => mkC fun c e => match e with
    | .Subscript a' (.Slice none none (some (.UnaryOp .USub (.Constant (.int 1) _ _) _)) _) _ => (chk st a).e c a'
    | _ => false
  | .call f l => mkC fun c e => match e with
    | .Call (.Name x _) es [] _ => decide (st.fnm[f]? = some x) && gloB c x && (chk st l).a c es && decide ((st.fps[f]?).map List.length = some es.length) && !es.isEmpty
    | _ => false
  | .callk f l kw => mkC fun c e => match e with
    | .Call (.Name x _) es ks _ => decide (st.fnm[f]? = some x) && gloB c x && (chk st l).a c es && !ks.isEmpty && (match st.fps[f]? with
      | some ps => st.kws.contains (f, es.length) && decide (es.length + ks.length = ps.length) && (chk st kw).k c (ps.drop es.length) ks
      | none => false)
    | _ => false
  | .blt b l => mkC fun c e => match e with
    | .Call (.Name x _) es [] _ => decide (x = b.nm) && freeB st c x && (chk st l).a c es && !es.isEmpty
    | _ => false
  | .lrng a => mkC fun c e => match e with
    | .Call (.Name x _) [.Call (.Name y _) [n] [] _] [] _ => decide (x = ("list" : Str)) && freeB st c x && decide (y = ("range" : Str)) && freeB st c y && (chk st a).e c n
    | _ => false
  | .mth m o l => mkC fun c e => match e with
    | .Call (.Attribute o' n ap) es [] cp => decide (n = m.nm) && m.ok && (chk st o).e c o' && (chk st l).a c es && lineB ap cp && decide (es.length < 20)
    | _ => false
  | .att a => mkC fun c e => match e with
    | .Attribute a' n _ => decide (n = ("value" : Str)) && (chk st a).e c a'
    | _ => false
  | .hrd b => mkC fun c e => match e with
    | .Call (.Name x _) [.Lambda ps bd sc _] [] _ => c.hd && decide (x = ("_law_heard" : Str)) && gloB c x && LamX.lamSB c.sc sc && (match ps with
      | ⟨[], [], none, [], [], none, []⟩ => true
      | _ => false) && (chk st b).e (c.lam sc) bd
    | _ => false
  | .comp e g it d own => mkC fun c x => match x with
    | .ListComp e' [⟨g', it', ifs, 0⟩] sc _ => (chk st e).e (c.blk sc) e' && chkP (c.blk sc) g g' && (chk st it).i c g' it' && (chk st d).c (c.blk sc) ifs && blkC c.N c.sc sc own && g.slots.all fun i => (own.map (·.2)).contains i
    | _ => false
  | .comp2 e g it d g2 it2 d2 own => mkC fun c x => match x with
    | .ListComp e' [⟨g', it', ifs, 0⟩, ⟨g2', it2', ifs2, 0⟩] sc _ => (chk st e).e (c.blk sc) e' && chkP (c.blk sc) g g' && (chk st it).i c g' it' && (chk st d).c (c.blk sc) ifs && blkC c.N c.sc sc own && (g.slots.all fun i => (own.map (·.2)).contains i) &&
        chkP (c.blk sc) g2 g2' && (chk st it2).i (c.blk sc) g2' it2' && (chk st d2).c (c.blk sc) ifs2 && (g2.slots.all fun i => (own.map (·.2)).contains i) && plainIt it2'
    | _ => false
  | .nil => ⟨noC, fun _ es => es.isEmpty, fun _ ps ks => ks.isEmpty, one noC, one noC, fun _ o => o.isNone, fun _ es => es.isEmpty, fun _ _ _ => false, fun _ es => es.isEmpty⟩
  | .cons a l => ⟨noC, fun c es => match es with
      | x :: r => (chk st a).e c x && (chk st l).a c r
      | [] => false, fun c ps ks => match ps, ks with
      | p :: ps, ⟨some n, v, _⟩ :: ks => decide (n = p) && (chk st a).e c v && (chk st l).k c ps ks
      | _, _ => false, one noC, one noC, fun _ _ => false, one noC, fun _ _ _ => false, fun c es => match es with
      | x :: r => (chk st a).e c x && (chk st l).d c r
      | [] => false⟩
  | .scons a l => ⟨noC, fun _ _ => false, fun _ _ _ => false, one noC, one noC, fun _ _ => false, one noC, fun _ _ _ => false, fun c es => match es with
      | .Starred y _ :: r => (chk st a).e c y && (chk st l).d c r
      | _ => false⟩
  | .star _ => mkC noC
  | .rng l => mkCI fun c _ it => match it with
    | .Call (.Name x _) es [] _ => decide (x = ("range" : Str)) && freeB st c x && (chk st l).a c es && (es.length == 1 || es.length == 2 || es.length == 3)
    | _ => false
  | .enm a => mkCI fun c g it => match it with
    | .Call (.Name x _) [y] [] _ => decide (x = ("enumerate" : Str)) && freeB st c x && (chk st a).e c y && isTupE g
    | _ => false
  | .zp a b => mkCI fun c g it => match it with
    | .Call (.Name x _) [y, z] [] _ => decide (x = ("zip" : Str)) && freeB st c x && (chk st a).e c y && (chk st b).e c z && isTupE g
    | _ => false
  | .revd a => mkCI fun c _ it => match it with
    | .Call (.Name x _) [y] [] _ => decide (x = ("reversed" : Str)) && freeB st c x && (chk st a).e c y
    | _ => false
/-- the names that a, b = x, y may store turned about -/
def swNames (sc : Scope) (ts : List Expr) : List Str := ts.filterMap fun
  | .Name id pos => if sc.names.lookup id == some .local && pos.line == ((ts.head?.map (·.pos.line)).getD 0) then some id else none
  | _ => none
/-- it stores plainly -/
def swpB (c : Cf) (ts vs : List Expr) : Bool :=
  !(ts.length == 2 || ts.length == 3) || vs.length != ts.length || ((swNames c.sc ts).length != ts.length || (swNames c.sc ts).eraseDups.length != (swNames c.sc ts).length) || vs.all (foldedForSure 8)
def nmsOf : List Expr → List Str
  | .Name x _ :: ts => x :: nmsOf ts
  | _ => []
/-- x = [..]: whether the list goes into x's place from within the comprehension -/
def setB (c : Cf) (x : Str) (p : Pos) (sc : Scope) (v : Pos) : Bool :=
  decide (c.sc.names.lookup x = some .local) && p.line == v.line && !(sc.names.any fun y => y.1 == x && (y.2 == .local || y.2 == .cell))
def parB (c : Cf) : List Nat → List Expr → Bool
  | [], [] => true
  | i :: is, .Name x _ :: ts => decide (c.N[i]? = some x) && decide (c.sc.names.lookup x = some .local) && parB c is ts
  | _, _ => false
def isNoughtB (e : Expr) : Bool := match e with
  | .ListComp .. => false
  | .SetComp .. => false
  | .DictComp .. => false
  | _ => true
structure Cs where
  s : Cf → Stmt → Bool
  b : Cf → List Stmt → Bool
def mkS (s : Cf → Stmt → Bool) : Cs := ⟨s, fun _ _ => false⟩
def chkB (st : Stt) : B → Cs
  | .nil => ⟨fun _ _ => false, fun _ ss => ss.isEmpty⟩
  | .seq s r => ⟨fun _ _ => false, fun c ss => match ss with
    | x :: xs => (chkB st s).s c x && (chkB st r).b c xs
    | [] => false⟩
  | .asg g e => mkS fun c s => match s with
    | .Assign [.Name x p] v pos => chkP c g (.Name x p) && (chk st e).e c v
    | .Assign [.Tuple ts k p] v pos => chkP c g (.Tuple ts k p) && (chk st e).e c v && (match v with
      | .Tuple vs _ _ => swpB c ts vs && vs.all exB
      | _ => true)
    | _ => false
  | .par is l => mkS fun c s => match s with
    | .Assign [.Tuple ts _ _] (.Tuple vs _ _) _ => parB c is ts && (chk st l).a c vs && decide is.Nodup && (ts.length == 2 || ts.length == 3) && (vs.length == ts.length) && decide (swNames c.sc ts = nmsOf ts) &&
        decide ((nmsOf ts).length = ts.length ∧ (nmsOf ts).eraseDups.length = ts.length) && !vs.all (foldedForSure 8) && !vs.all (constantsAlone 8)
    | _ => false
  | .asgI a i e => mkS fun c s => match s with
    | .Assign [.Subscript a' i' _] v _ => (chk st a).e c a' && (chk st i).e c i' && (chk st e).e c v
    | _ => false
  | .aug i o e => mkS fun c s => match s with
    | .AugAssign (.Name x _) o' v _ => locB c i x && decide (o = o') && (chk st e).e c v
    | _ => false
  | .augI a i o e => mkS fun c s => match s with
    | .AugAssign (.Subscript a' i' _) o' v _ => (chk st a).e c a' && (chk st i).e c i' && decide (o = o') && (chk st e).e c v
    | _ => false
  | .ex e => mkS fun c s => match s with
    | .Expr v _ => (chk st e).e c v && isNoughtB v
    | _ => false
  | .ret e => mkS fun c s => match s with
    | .Return (some v) _ => (chk st e).e c v
    | _ => false
  | .retN => mkS fun _ s => match s with
    | .Return none _ => true
    | _ => false
  | .ifs d a b => mkS fun c s => match s with
    | .If d' a' b' _ => (chk st d).e c d' && (chkB st a).b c a' && (chkB st b).b c b'
    | _ => false
  | .for g it b => mkS fun c s => match s with
    | .For g' it' b' [] _ => chkP c g g' && (chk st it).i c g' it' && (chkB st b).b c b'
    | _ => false
  | .whl d b => mkS fun c s => match s with
    | .While d' b' [] _ => (chk st d).e c d' && (chkB st b).b c b'
    | _ => false
  | .rais i e => mkS fun c s => match s with
    | .Raise (some (.Call (.Name x _) [v] [] _)) none _ => decide (st.cnm[i]? = some x) && gloB c x && (chk st e).e c v
    | _ => false
  | .brk => mkS fun _ s => match s with
    | .Break _ => true
    | _ => false
  | .cnt => mkS fun _ s => match s with
    | .Continue _ => true
    | _ => false
  | .pass => mkS fun _ s => match s with
    | .Pass _ => true
    | _ => false
  | .doc => mkS fun _ s => match s with
    | .Expr (.Constant (.str _) _ _) _ => true
    | _ => false
end PW

set_option Elab.async false
set_option linter.all false
set_option maxRecDepth 100000
set_option maxHeartbeats 2000000
/-! own prelude, part 5: what values do, lifted -/
namespace PW
open PySem PySem.Spec PyProof.Rows L2

section
variable {G : Ge} {H : Hp} {S : Sto}
mutual
theorem DatW.dp (r : RS G H S) : ∀ {w : Vl} {d : PyData} {v : V}, DatW S w d → RW G H w v → Dp G.K H v d
  | _, _, _, .non, q => by unfold RW at q; subst q; exact .non
  | _, _, _, .bl b, q => by unfold RW at q; subst q; exact .bl b
  | _, _, _, .int i, q => by unfold RW at q; subst q; exact .int i
  | _, _, _, .str x, q => by unfold RW at q; subst q; exact .str x
  | _, _, _, .tup k, q => by
    unfold RW at q
    obtain ⟨a, xs, rfl, ha, hs⟩ := q
    exact .tup ha (DatWs.dp r k hs)
  | _, _, _, .lst e k, q => by
    unfold RW at q
    subst q
    obtain ⟨xs, ha, hs⟩ := r.lst _ _ e
    exact .lst (SqL.of ha) (DatWs.dp r k hs)
theorem DatWs.dp (r : RS G H S) : ∀ {ws : List Vl} {ds : List PyData} {vs : List V}, DatWs S ws ds → RWs G H ws vs → DpAll G.K H vs ds
  | _, _, _, .nil, q => by rw [q.nil_of]; exact .nil
  | _, _, _, .cons k ks, q => by
    obtain ⟨v, vs, rfl, h1, h2⟩ := q.cons_of
    exact .cons (DatW.dp r k h1) (DatWs.dp r ks h2)
end
theorem RWs.isEmpty {ws : List Vl} {xs : List V} (h : RWs G H ws xs) : ws.isEmpty = xs.isEmpty := by
  have e := h.length
  cases ws <;> cases xs <;> simp_all
/-- the items as they are read -/
theorem seq_read (r : RS G H S) {w : Vl} {ws : List Vl} {v : V} (e : w.seq S = some ws) (q : RW G H w v) : ∃ a xs, v = .ref a ∧ (SqL G.K H a xs ∨ SqT G.K H a xs) ∧ RWs G H ws xs := by
  cases w with
  | tup us =>
    unfold RW at q
    obtain ⟨a, xs, rfl, ha, hs⟩ := q
    cases e
    exact ⟨a, xs, rfl, .inr ha, hs⟩
  | rol us =>
    unfold RW at q
    obtain ⟨a, xs, rfl, ha, hs⟩ := q
    cases e
    exact ⟨a, xs, rfl, .inl ha.sq, hs⟩
  | lst a =>
    unfold RW at q
    subst q
    obtain ⟨xs, ha, hs⟩ := r.lst a ws e
    exact ⟨a, xs, rfl, .inl (SqL.of ha), hs⟩
  | _ => cases e
theorem lst_dp (r : RS G H S) {w : Vl} {ws : List Vl} {ds : List PyData} {v : V} (e : w.lseq S = some ws) (k : DatWs S ws ds) (q : RW G H w v) : Dp G.K H v (.list ds) := by
  cases w with
  | rol us =>
    unfold RW at q
    obtain ⟨a, xs, rfl, ha, hs⟩ := q
    cases e
    exact .lst ha.sq (k.dp r hs)
  | lst a =>
    unfold RW at q
    subst q
    obtain ⟨xs, ha, hs⟩ := r.lst a ws e
    exact .lst (SqL.of ha) (k.dp r hs)
  | _ => cases e
theorem truW_ok (r : RS G H S) {w : Vl} {v : V} {k : Bool → Prop} (h : truW w S k) (q : RW G H w v) : ∃ b, TruV G.K v H b ∧ k b := by
  cases w with
  | non => unfold RW at q; subst q; exact ⟨_, rfl, h⟩
  | bl b => unfold RW at q; subst q; exact ⟨_, rfl, h⟩
  | int i => unfold RW at q; subst q; exact ⟨_, rfl, h⟩
  | str x => unfold RW at q; subst q; exact ⟨_, ⟨h.1, rfl⟩, h.2⟩
  | tup us =>
    unfold RW at q
    obtain ⟨a, xs, rfl, ha, hs⟩ := q
    exact ⟨_, .inr (.inl ⟨xs, ha, rfl⟩), by rw [← hs.isEmpty]; exact h⟩
  | rol us =>
    unfold RW at q
    obtain ⟨a, xs, rfl, ha, hs⟩ := q
    exact ⟨_, .inl ⟨xs, ha.sq, rfl⟩, by rw [← hs.isEmpty]; exact h⟩
  | lst a =>
    unfold RW at q
    subst q
    obtain ⟨ws, e, h⟩ := h
    obtain ⟨xs, ha, hs⟩ := r.lst a ws e
    exact ⟨_, .inl ⟨xs, SqL.of ha, rfl⟩, by rw [← hs.isEmpty]; exact h⟩
  | _ => exact False.elim h
end

/-- what is wanted of a value, over plain data -/
def Cont (G : Ge) (H : Hp) (Q0 : WK) (Q : VK) : Prop := ∀ w S' x H', Q0 w S' → Grow H H' → RW G H' w x → RS G H' S' → Q x H'
def r2W (G : Ge) (f : Vl → Vl → Sto → WK → Prop) : R2 := fun x y H Q => ∃ w u S Q0, RW G H w x ∧ RW G H u y ∧ RS G H S ∧ f w u S Q0 ∧ Cont G H Q0 Q
def caW (G : Ge) (f : List Vl → Sto → WK → Prop) : List V → Hp → VK → Prop := fun xs H Q => ∃ ws S Q0, RWs G H ws xs ∧ RS G H S ∧ f ws S Q0 ∧ Cont G H Q0 Q
section
variable {X : Cx} {G : Ge} {H : Hp} {S : Sto} {Q0 : WK} {Q : VK}
theorem Cont.pure (c : Cont G H Q0 Q) (r : RS G H S) {w : Vl} {x : V} (h : Q0 w S) (q : RW G H w x) : Q x H := c w S x H h (Grow.refl _) q r
theorem Cont.newL (c : Cont G H Q0 Q) (r : RS G H S) {ws : List Vl} {xs : List V} (h : newL S ws Q0) (q : RWs G H ws xs) {p : Addr} (hp : H p = none) : Q (.ref p) (upd H p (.lst xs)) :=
  c _ _ _ _ (h p (r.free hp)) (Grow.new hp) (by unfold RW; rfl) (r.newL hp q)
theorem Cont.newT (c : Cont G H Q0 Q) (r : RS G H S) {ws : List Vl} {xs : List V} (h : Q0 (.tup ws) S) (q : RWs G H ws xs) {p : Addr} (hp : H p = none) : Q (.ref p) (upd H p (.tup xs)) :=
  c _ _ _ _ h (Grow.new hp) (by unfold RW; exact ⟨p, xs, rfl, SqT.of L2.upd_same, q.mono (Grow.new hp)⟩) (r.new hp)
theorem rw_int {i : Int} {v : V} (h : RW G H (.int i) v) : v = .int i := by unfold RW at h; exact h
theorem rw_str {i : Str} {v : V} (h : RW G H (.str i) v) : v = .str i := by unfold RW at h; exact h
theorem rw_bl {i : Bool} {v : V} (h : RW G H (.bl i) v) : v = .bl i := by unfold RW at h; exact h
theorem rw_non {v : V} (h : RW G H .non v) : v = .non := by unfold RW at h; exact h
theorem rw_lst {a : Addr} {v : V} (h : RW G H (.lst a) v) : v = .ref a := by unfold RW at h; exact h
theorem rw_ty {a : String} {v : V} (h : RW G H (.ty a) v) : v = .ty a := by unfold RW at h; exact h
theorem rw_tup {ws : List Vl} {v : V} (h : RW G H (.tup ws) v) : ∃ a xs, v = .ref a ∧ SqT G.K H a xs ∧ RWs G H ws xs := by unfold RW at h; exact h
theorem rwI (i : Int) : RW G H (.int i) (.int i) := by unfold RW; rfl
theorem rwS (i : Str) : RW G H (.str i) (.str i) := by unfold RW; rfl
theorem rwB (i : Bool) : RW G H (.bl i) (.bl i) := by unfold RW; rfl
theorem rwN : RW G H .non .non := by unfold RW; rfl
theorem rwL (a : Addr) : RW G H (.lst a) (.ref a) := by unfold RW; rfl
theorem rwT (a : String) : RW G H (.ty a) (.ty a) := by unfold RW; rfl

theorem op_fdW : OpR X (binaryOp .FloorDiv) (rI CDv fun i j => .int (i.fdiv j)) := opI fun i j _ _ _ _ _ hc q => floordiv_int hc.1 q (.inl hc.2)
theorem op_mW : OpR X (binaryOp .Mult) (rI IntMulOk fun i j => .int (i * j)) := opI fun _ _ _ _ _ _ _ hc q => mul_int q hc
theorem op_pW : OpR X (binaryOp .Pow) (rI CPw fun i j => .int (i ^ j.toNat)) := opI fun _ _ _ _ _ _ _ hc q => pow_int hc.1 hc.2 q
theorem opW_ok (hK : X.K = G.K) (o : Operator) : OpR X (binaryOp o) (r2W G (opW o)) := by
  intro pins s σ H x y v u Q I rx ry ⟨w, z, S, Q0, hw, hz, r, h, c⟩
  unfold opW at h
  split at h
  · rw [rw_int hw] at rx; rw [rw_int hz] at ry
    exact op_add pins s σ H _ _ _ _ Q I rx ry ⟨_, _, rfl, rfl, c.pure r h (rwI _)⟩
  · rw [rw_int hw] at rx; rw [rw_int hz] at ry
    exact op_sub pins s σ H _ _ _ _ Q I rx ry ⟨_, _, rfl, rfl, c.pure r h (rwI _)⟩
  · rw [rw_int hw] at rx; rw [rw_int hz] at ry
    exact op_mW pins s σ H _ _ _ _ Q I rx ry ⟨_, _, rfl, rfl, h.1, c.pure r h.2 (rwI _)⟩
  · rw [rw_int hw] at rx; rw [rw_int hz] at ry
    exact op_fdW pins s σ H _ _ _ _ Q I rx ry ⟨_, _, rfl, rfl, h.1, c.pure r h.2 (rwI _)⟩
  · rw [rw_int hw] at rx; rw [rw_int hz] at ry
    exact op_modN pins s σ H _ _ _ _ Q I rx ry ⟨_, _, rfl, rfl, h.1, c.pure r h.2 (rwI _)⟩
  · rw [rw_int hw] at rx; rw [rw_int hz] at ry
    exact op_pW pins s σ H _ _ _ _ Q I rx ry ⟨_, _, rfl, rfl, h.1, c.pure r h.2 (rwI _)⟩
  · rw [rw_str hw] at rx; rw [rw_str hz] at ry
    exact op_add_str pins s σ H _ _ _ _ Q I rx ry ⟨_, _, rfl, rfl, h.1, c.pure r h.2 (rwS _)⟩
  · obtain ⟨a, xs, rfl, ha, hs⟩ := rw_tup hw
    obtain ⟨b, ys, rfl, hb, ht⟩ := rw_tup hz
    have e1 := hs.length
    have e2 := ht.length
    refine op_catA pins s σ H _ _ _ _ Q I rx ry ⟨a, b, xs, ys, rfl, rfl, by rw [hK]; exact ha, by rw [hK]; exact hb, by omega, fun e => ?_, fun _ e => ?_, fun _ _ p hp => ?_⟩
    · subst e
      have e3 : _ = [] := List.eq_nil_of_length_eq_zero e1
      rw [e3] at h
      exact c.pure r h.2 hz
    · subst e
      have e3 : _ = [] := List.eq_nil_of_length_eq_zero e2
      rw [e3, List.append_nil] at h
      exact c.pure r h.2 hw
    · exact c.newT r h.2 (hs.append ht) hp
  · obtain ⟨us, vs, e1, e2, hl, h⟩ := h
    rw [rw_lst hw] at rx; rw [rw_lst hz] at ry
    obtain ⟨xs, ha, hs⟩ := r.lst _ _ e1
    obtain ⟨ys, hb, ht⟩ := r.lst _ _ e2
    have l1 := hs.length
    have l2 := ht.length
    exact op_cat pins s σ H _ _ _ _ Q I rx ry ⟨_, _, xs, ys, rfl, rfl, ha, hb, by omega, fun p hp => c.newL r h (hs.append ht) hp⟩
  · obtain ⟨us, e1, h1, h2, hl, h⟩ := h
    rw [rw_lst hw] at rx; rw [rw_int hz] at ry
    obtain ⟨xs, ha, hs⟩ := r.lst _ _ e1
    have l1 := hs.length
    exact op_rep pins s σ H _ _ _ _ Q I rx ry ⟨_, _, xs, rfl, rfl, ha, h1, h2, by rw [← l1]; exact hl, fun p hp => c.newL r h (hs.rep _) hp⟩
  · exact h.elim

/-! ### comparisons -/
theorem rw_flat {w : Vl} {x : V} (h : w.flat = true) (q : RW G H w x) : x = w.fl ∧ flatV w.fl = true := by
  cases w with
  | non => exact ⟨rw_non q, rfl⟩
  | bl b => exact ⟨rw_bl q, rfl⟩
  | int b => exact ⟨rw_int q, rfl⟩
  | str b => exact ⟨rw_str q, rfl⟩
  | _ => cases h
theorem rws_flat : ∀ {ws : List Vl} {xs : List V}, ws.all Vl.flat = true → RWs G H ws xs → xs = ws.map Vl.fl ∧ (ws.map Vl.fl).all flatV = true
  | [], _, _, q => ⟨q.nil_of, rfl⟩
  | w :: ws, _, h, q => by
    obtain ⟨v, r, rfl, q1, q2⟩ := q.cons_of
    rw [List.all_cons, Bool.and_eq_true] at h
    obtain ⟨e1, e2⟩ := rw_flat h.1 q1
    obtain ⟨e3, e4⟩ := rws_flat h.2 q2
    rw [e1, e3]
    refine ⟨rfl, ?_⟩
    rw [List.map_cons, List.all_cons, e2, e4] <;> rfl
def rcW (G : Ge) (f : Vl → Vl → Sto → (Bool → Prop) → Prop) : R2 := fun x y H Q => ∃ w u S k, RW G H w x ∧ RW G H u y ∧ RS G H S ∧ f w u S k ∧ ∀ b, k b → Q (.bl b) H
theorem dI {i j : Int} : decide (V.int i = V.int j) = decide (i = j) := decide_eq_decide.mpr ⟨fun q => V.int.inj q, fun q => congrArg V.int q⟩
theorem dS {i j : Str} : decide (V.str i = V.str j) = decide (i = j) := decide_eq_decide.mpr ⟨fun q => V.str.inj q, fun q => congrArg V.str q⟩
theorem dB {i j : Bool} : decide (V.bl i = V.bl j) = decide (i = j) := decide_eq_decide.mpr ⟨fun q => V.bl.inj q, fun q => congrArg V.bl q⟩
theorem nonD {x : V} : decide (V.non = x) = decide (x = V.non) := by cases x <;> rfl
theorem cmpW_ok (hK : X.K = G.K) (hu : X.A.units + 65 < cLine) (o : CmpOp) : OpR X (compareOp o) (rcW G (cmpW o)) := by
  intro pins s σ H x y v u Q I rx ry ⟨w, z, S, k, hw, hz, r, h, c⟩
  unfold cmpW at h
  split at h
  · rw [rw_int hw] at rx; rw [rw_int hz] at ry
    exact op_lt pins s σ H _ _ _ _ Q I rx ry ⟨_, _, rfl, rfl, c _ h⟩
  · rw [rw_int hw] at rx; rw [rw_int hz] at ry
    exact op_le pins s σ H _ _ _ _ Q I rx ry ⟨_, _, rfl, rfl, c _ h⟩
  · rw [rw_int hw] at rx; rw [rw_int hz] at ry
    exact op_gt pins s σ H _ _ _ _ Q I rx ry ⟨_, _, rfl, rfl, c _ h⟩
  · rw [rw_int hw] at rx; rw [rw_int hz] at ry
    exact op_ge pins s σ H _ _ _ _ Q I rx ry ⟨_, _, rfl, rfl, c _ h⟩
  · rw [rw_int hw] at rx; rw [rw_int hz] at ry
    exact op_eq pins s σ H _ _ _ _ Q I rx ry ⟨rfl, by rw [dI]; exact c _ h⟩
  · rw [rw_int hw] at rx; rw [rw_int hz] at ry
    exact op_ne pins s σ H _ _ _ _ Q I rx ry ⟨rfl, by rw [dI]; exact c _ h⟩
  · rw [rw_str hw] at rx; rw [rw_str hz] at ry
    exact op_eq pins s σ H _ _ _ _ Q I rx ry ⟨rfl, by rw [dS]; exact c _ h⟩
  · rw [rw_str hw] at rx; rw [rw_str hz] at ry
    exact op_ne pins s σ H _ _ _ _ Q I rx ry ⟨rfl, by rw [dS]; exact c _ h⟩
  · rw [rw_bl hw] at rx; rw [rw_bl hz] at ry
    exact op_eq pins s σ H _ _ _ _ Q I rx ry ⟨rfl, by rw [dB]; exact c _ h⟩
  · obtain ⟨d, e, h1, h2, s1, s2, h⟩ := h
    exact op_eqD (Nat.lt_of_succ_lt hu) pins s σ H _ _ _ _ Q I rx ry ⟨d, e, by rw [hK]; exact h1.dp r hw, by rw [hK]; exact h2.dp r hz, s1, s2, c _ h⟩
  · obtain ⟨d, e, h1, h2, s1, s2, h⟩ := h
    exact op_neD (Nat.lt_of_succ_lt hu) pins s σ H _ _ _ _ Q I rx ry ⟨d, e, by rw [hK]; exact h1.dp r hw, by rw [hK]; exact h2.dp r hz, s1, s2, c _ h⟩
  · rw [rw_non hw] at rx; rw [rw_non hz] at ry
    exact op_isN pins s σ H _ _ _ _ Q I rx ry ⟨rfl, c _ h⟩
  · rw [rw_non hz] at ry
    unfold RW at hw
    obtain ⟨a, cc, d, x', rfl, _⟩ := hw
    exact op_isN pins s σ H _ _ _ _ Q I rx ry ⟨rfl, c _ h⟩
  · rw [rw_int hw] at rx; rw [rw_non hz] at ry
    exact op_isN pins s σ H _ _ _ _ Q I rx ry ⟨rfl, c _ h⟩
  · rw [rw_non hz] at ry
    obtain ⟨a, xs, rfl, ha, hs⟩ := rw_tup hw
    exact op_isN pins s σ H _ _ _ _ Q I rx ry ⟨rfl, c _ h⟩
  · rw [rw_non hw] at rx; rw [rw_non hz] at ry
    exact op_notN pins s σ H _ _ _ _ Q I rx ry ⟨rfl, c _ h⟩
  · rw [rw_non hz] at ry
    unfold RW at hw
    obtain ⟨a, cc, d, x', rfl, _⟩ := hw
    exact op_notN pins s σ H _ _ _ _ Q I rx ry ⟨rfl, c _ h⟩
  · rw [rw_int hw] at rx; rw [rw_non hz] at ry
    exact op_notN pins s σ H _ _ _ _ Q I rx ry ⟨rfl, c _ h⟩
  · rw [rw_non hz] at ry
    obtain ⟨a, xs, rfl, ha, hs⟩ := rw_tup hw
    exact op_notN pins s σ H _ _ _ _ Q I rx ry ⟨rfl, c _ h⟩
  · obtain ⟨a, xs, rfl, ha, hs⟩ := rw_tup hz
    obtain ⟨f1, f2, h⟩ := h
    obtain ⟨e1, e2⟩ := rw_flat f1 hw
    obtain ⟨e3, e4⟩ := rws_flat f2 hs
    exact op_in_seq pins s σ H _ _ _ _ Q I rx ry ⟨a, xs, rfl, .inr (by rw [hK]; exact ha), by rw [e1]; exact e2, by rw [e3]; exact e4, by rw [e1, e3]; exact c _ h⟩
  · obtain ⟨a, xs, rfl, ha, hs⟩ := rw_tup hz
    obtain ⟨f1, f2, h⟩ := h
    obtain ⟨e1, e2⟩ := rw_flat f1 hw
    obtain ⟨e3, e4⟩ := rws_flat f2 hs
    exact op_notIn_seq pins s σ H _ _ _ _ Q I rx ry ⟨a, xs, rfl, .inr (by rw [hK]; exact ha), by rw [e1]; exact e2, by rw [e3]; exact e4, by rw [e1, e3]; exact c _ h⟩
  · obtain ⟨ws, d, ds, e, h1, h2, s1, s2, h⟩ := h
    exact op_inD hu pins s σ H _ _ _ _ Q I rx ry ⟨d, ds, by rw [hK]; exact h1.dp r hw, by rw [hK]; exact lst_dp r e h2 hz, s1, s2, c _ h⟩
  · obtain ⟨ws, d, ds, e, h1, h2, s1, s2, h⟩ := h
    exact op_notInD hu pins s σ H _ _ _ _ Q I rx ry ⟨d, ds, by rw [hK]; exact h1.dp r hw, by rw [hK]; exact lst_dp r e h2 hz, s1, s2, c _ h⟩
  · exact h.elim
end
end PW

set_option Elab.async false
set_option linter.all false
set_option maxRecDepth 100000
set_option maxHeartbeats 2000000
/-! own prelude, part 5b: built-in functions, places, slices, methods, stores -/
namespace PW
open PySem PySem.Spec PyProof.Rows L2

theorem RWs.ints_of {G : Ge} {H : Hp} : ∀ {ns : List Int} {xs : List V}, RWs G H (ns.map Vl.int) xs → xs = ns.map V.int
  | [], xs, h => h.nil_of
  | n :: ns, xs, h => by
    obtain ⟨v, r, rfl, h1, h2⟩ := (show RWs G H (Vl.int n :: ns.map Vl.int) xs from h).cons_of
    rw [rw_int h1, RWs.ints_of h2] <;> rfl
theorem RWs.bls_of {G : Ge} {H : Hp} : ∀ {ns : List Bool} {xs : List V}, RWs G H (ns.map Vl.bl) xs → xs = ns.map V.bl
  | [], xs, h => h.nil_of
  | n :: ns, xs, h => by
    obtain ⟨v, r, rfl, h1, h2⟩ := (show RWs G H (Vl.bl n :: ns.map Vl.bl) xs from h).cons_of
    rw [rw_bl h1, RWs.bls_of h2] <;> rfl
theorem RWs.ints {G : Ge} {H : Hp} : ∀ {ns : List Int}, RWs G H (ns.map Vl.int) (ns.map V.int)
  | [] => RWs.nil
  | n :: ns => .cons (rwI n) RWs.ints
def Bn.fv : Bn → Value
  | .abs => .builtin "abs" | .int => .type "int" | .bool => .type "bool" | .len => .builtin "len" | .max2 => .builtin "max" | .min2 => .builtin "min" | .sum => .builtin "sum" | .all => .builtin "all" | .any => .builtin "any"
  | .maxL => .builtin "max" | .minL => .builtin "min" | .tuple => .type "tuple" | .list => .type "list" | .repr => .builtin "repr" | .str => .type "str" | .isi => .builtin "isinstance" | .lrng => .type "list" | .trng => .type "tuple" | .sorted => .builtin "sorted"
section
variable {X : Cx} {G : Ge} {H : Hp} {S : Sto} {Q0 : WK} {Q : VK}
theorem RWs.one_of {w : Vl} {xs : List V} (h : RWs G H [w] xs) : ∃ v, xs = [v] ∧ RW G H w v := by
  obtain ⟨v, r, rfl, h1, h2⟩ := h.cons_of
  rw [h2.nil_of]
  exact ⟨v, rfl, h1⟩
theorem RWs.two_of {w u : Vl} {xs : List V} (h : RWs G H [w, u] xs) : ∃ v y, xs = [v, y] ∧ RW G H w v ∧ RW G H u y := by
  obtain ⟨v, r, rfl, h1, h2⟩ := h.cons_of
  obtain ⟨y, rfl, h3⟩ := h2.one_of
  exact ⟨v, y, rfl, h1, h3⟩
theorem Frz.noSq {K : PySem.W.Frag} {a : Addr} {xs : List V} (h : Frz K H a xs) : TyX K H (.ref a) (.type "list") := by
  rcases h with ⟨o, e⟩ | ⟨o, its, n, e, c, _⟩
  · exact .base (.frz e)
  · exact .kList e c
theorem tyX_sqT {K : PySem.W.Frag} {H : Hp} {a : Addr} {xs : List V} (h : SqT K H a xs) : TyX K H (.ref a) (.type "tuple") := by
  rcases h with (e | ⟨o, e⟩) | ⟨o, its, n, e, c, _⟩
  · exact .base (.tup e)
  · exact .fTuple e
  · exact .kTuple e c
theorem tyX_of (r : RS G H S) {w : Vl} {v : V} (d : w.isData S) (q : RW G H w v) : TyX G.K H v (.type (tyName w)) := by
  cases w with
  | non => rw [rw_non q]; exact .base .non
  | bl b => rw [rw_bl q]; exact .base (.bl b)
  | int i => rw [rw_int q]; exact .base (.int i)
  | str x => rw [rw_str q]; exact .base (.str x)
  | tup ws => obtain ⟨a, xs, rfl, ha, _⟩ := rw_tup q; exact tyX_sqT ha
  | rol ws =>
    unfold RW at q
    obtain ⟨a, xs, rfl, ha, _⟩ := q
    exact ha.noSq
  | lst a =>
    rw [rw_lst q]
    have d' : (S a).isSome = true := d
    cases e : S a with
    | none => rw [e] at d'; cases d'
    | some ws =>
      obtain ⟨xs, ha, _⟩ := r.lst a ws e
      exact .base (.lst ha)
  | _ => exact False.elim d
/-- repr of data -/
theorem repr_data {pins : List (Addr × Obj)} {σ : L2.St} {s : Shared} {v : V} {u : Value} {d : PyData} (I : Inv X pins σ H s) (hg : X.A.guards = some []) (hu : X.A.units + 66 < cLine) (rv : RelV v u) (k : Dp X.K H v d)
    (hs : d.showable = true) (hd : d.hasDict = false) (hl : d.depth ≤ 64) (hz : d.shown.length + 64 ≤ sizeLine) (q : Q (.str d.shown) H) : wpAny (model X.prog X.w) X.A (call (.builtin "repr") [u]) (EP X pins σ Q) X.xe s := by
  obtain ⟨as, rd⟩ := Dp.reads I d v u k rv
  have fin : ∀ (h' : Heap) (tk : Tok) (n : Nat), (∀ b o, s.heap.get? b = some o → h'.get? b = some o) → EP X pins σ Q (.str d.shown tk) { s with heap := h', toks := n } := fun h' tk n e => ⟨.str d.shown, H, I.kept (t' := n) e, ⟨tk, rfl⟩, q⟩
  have fin0 : EP X pins σ Q (.str d.shown s.toks) { s with toks := s.toks + 1 } := ⟨.str d.shown, H, I.tok _, ⟨s.toks, rfl⟩, q⟩
  cases k with
  | non =>
    cases (show u = Value.none from rv)
    exact PySem.P.repr_of_none (by simpa only [PyData.shown] using fin0)
  | bl b =>
    cases (show u = Value.bool b from rv)
    exact PySem.P.repr_of_bool (by simpa only [PyData.shown] using fin0)
  | int i =>
    obtain ⟨t, rfl⟩ := rv
    exact PySem.P.repr_of_int (by simpa [PyData.showable] using hs) (by simpa only [PyData.shown] using fin0)
  | str x =>
    obtain ⟨t, rfl⟩ := rv
    exact PySem.P.repr_of_str (by simpa only [PyData.shown] using fin0) (by simp only [PyData.shown] at hz; omega)
  | lst _ _ =>
    obtain rfl := rv
    exact repr_of_reads' rd hs (PyData.noDict_hsm hd) hg (by omega) (fun _ _ e => e) (fun h' tk n e => fin h' tk n e) (by omega)
  | tup _ _ =>
    obtain rfl := rv
    exact repr_of_reads' rd hs (PyData.noDict_hsm hd) hg (by omega) (fun _ _ e => e) (fun h' tk n e => fin h' tk n e) (by omega)
/-- what isinstance is asked of a caught error, by facts of its class -/
def ExcIs (G : Ge) (X : Cx) (sb : Subs) : Prop := ∀ (i j : Nat) (w : Vl) (pins : List (Addr × Obj)) (s : Shared) (σ : L2.St) (H : Hp) (v c : V) (us : List Value) (Q : VK), Inv X pins σ H s → Vals [v, c] us → RW G H (.exc i w) v → RW G H (.cls j) c → Q (.bl (sb i j)) H →
  wpAny (model X.prog X.w) X.A (call (.builtin "isinstance") us) (EP X pins σ Q) X.xe s
theorem bltW_ok (hK : X.K = G.K) (hc : X.calm = true) (hg : X.A.guards = some []) (hu : X.A.units + 66 < cLine) {sb : Subs} (hx : ExcIs G X sb) (b : Bn) : CallR X b.fv (caW G (bltW sb b)) := by
  intro pins s σ H vs us Q I rv ⟨ws, S, Q0, hw, r, h, c⟩
  unfold bltW at h
  split at h
  · obtain ⟨v, rfl, q⟩ := hw.one_of
    rw [rw_int q] at rv
    exact call_abs pins s σ H _ _ Q I rv ⟨_, rfl, c.pure r h (rwI _)⟩
  · obtain ⟨v, rfl, q⟩ := hw.one_of
    rw [rw_int q] at rv
    exact call_int1 pins s σ H _ _ Q I rv (.inl ⟨_, rfl, c.pure r h (rwI _)⟩)
  · obtain ⟨v, rfl, q⟩ := hw.one_of
    rw [rw_bl q] at rv
    exact call_int1 pins s σ H _ _ Q I rv (.inr ⟨_, rfl, c.pure r h (rwI _)⟩)
  · obtain ⟨v, rfl, q⟩ := hw.one_of
    rw [rw_int q] at rv
    exact call_bool1 pins s σ H _ _ Q I rv (.inl ⟨_, rfl, c.pure r h (rwB _)⟩)
  · obtain ⟨v, rfl, q⟩ := hw.one_of
    rw [rw_bl q] at rv
    exact call_bool1 pins s σ H _ _ Q I rv (.inr ⟨_, rfl, c.pure r h (rwB _)⟩)
  · obtain ⟨v, rfl, q⟩ := hw.one_of
    rw [rw_str q] at rv
    exact call_len_str pins s σ H _ _ Q I rv ⟨_, rfl, h.1, c.pure r h.2 (rwI _)⟩
  · obtain ⟨v, rfl, q⟩ := hw.one_of
    obtain ⟨us', e, h⟩ := h
    obtain ⟨a, xs, rfl, hsq, hs⟩ := seq_read r e q
    have hl := hs.length
    exact call_len_seq pins s σ H _ _ Q I rv ⟨a, xs, rfl, by rw [hK]; exact hsq, by rw [← hl]; exact c.pure r h (rwI _)⟩
  · obtain ⟨v, y, rfl, q, q'⟩ := hw.two_of
    rw [rw_int q, rw_int q'] at rv
    exact call_max2 hc pins s σ H _ _ Q I rv ⟨_, _, rfl, c.pure r h (rwI _)⟩
  · obtain ⟨v, y, rfl, q, q'⟩ := hw.two_of
    rw [rw_int q, rw_int q'] at rv
    exact call_min2 hc pins s σ H _ _ Q I rv ⟨_, _, rfl, c.pure r h (rwI _)⟩
  · obtain ⟨v, rfl, q⟩ := hw.one_of
    obtain ⟨ns, e, h⟩ := h
    obtain ⟨xs, ha, hs⟩ := r.lst _ _ e
    rw [rw_lst q] at rv
    rw [hs.ints_of] at ha
    exact cr_sum hc pins s σ H _ _ Q I rv ⟨_, ns, rfl, SqL.of ha, c.pure r h (rwI _)⟩
  · obtain ⟨v, rfl, q⟩ := hw.one_of
    obtain ⟨ns, e, h⟩ := h
    obtain ⟨xs, ha, hs⟩ := r.lst _ _ e
    rw [rw_lst q] at rv
    rw [hs.bls_of] at ha
    exact cr_all hc pins s σ H _ _ Q I rv ⟨_, ns, rfl, SqL.of ha, c.pure r h (rwB _)⟩
  · obtain ⟨v, rfl, q⟩ := hw.one_of
    obtain ⟨ns, e, h⟩ := h
    obtain ⟨xs, ha, hs⟩ := r.lst _ _ e
    rw [rw_lst q] at rv
    rw [hs.bls_of] at ha
    exact cr_any hc pins s σ H _ _ Q I rv ⟨_, ns, rfl, SqL.of ha, c.pure r h (rwB _)⟩
  · obtain ⟨v, rfl, q⟩ := hw.one_of
    obtain ⟨ns, e, hn, h⟩ := h
    obtain ⟨xs, ha, hs⟩ := r.lst _ _ e
    rw [rw_lst q] at rv
    rw [hs.ints_of] at ha
    exact cr_max hc pins s σ H _ _ Q I rv ⟨_, ns, rfl, SqL.of ha, hn, fun m h1 h2 => c.pure r (h m h1 h2) (rwI _)⟩
  · obtain ⟨v, rfl, q⟩ := hw.one_of
    obtain ⟨ns, e, hn, h⟩ := h
    obtain ⟨xs, ha, hs⟩ := r.lst _ _ e
    rw [rw_lst q] at rv
    rw [hs.ints_of] at ha
    exact cr_min hc pins s σ H _ _ Q I rv ⟨_, ns, rfl, SqL.of ha, hn, fun m h1 h2 => c.pure r (h m h1 h2) (rwI _)⟩
  · obtain ⟨v, rfl, q⟩ := hw.one_of
    obtain ⟨ns, e, h⟩ := h
    obtain ⟨xs, ha, hs⟩ := r.lst _ _ e
    rw [rw_lst q] at rv
    rw [hs.ints_of] at ha
    exact cr_sortedI pins s σ H _ _ Q I rv ⟨_, ns, rfl, SqL.of ha, fun ns' p h1 h2 hp => c.newL r (h ns' h1 h2) (RWs.ints (ns := ns')) hp⟩
  · obtain ⟨v, rfl, q⟩ := hw.one_of
    obtain ⟨a, xs, rfl, ha, hs⟩ := rw_tup q
    exact call_tuple_of pins s σ H _ _ Q I rv ⟨a, xs, rfl, .inr ⟨by rw [hK]; exact ha, c.pure r h q⟩⟩
  · obtain ⟨v, rfl, q⟩ := hw.one_of
    obtain ⟨ws', e, h⟩ := h
    obtain ⟨xs, ha, hs⟩ := r.lst _ _ e
    rw [rw_lst q] at rv
    exact call_tuple_of pins s σ H _ _ Q I rv ⟨_, xs, rfl, .inl ⟨SqL.of ha, fun l hl => c.newT r h hs hl⟩⟩
  · obtain ⟨v, rfl, q⟩ := hw.one_of
    obtain ⟨us', e, h⟩ := h
    obtain ⟨a, xs, rfl, hsq, hs⟩ := seq_read r e q
    exact call_list_of pins s σ H _ _ Q I rv ⟨a, xs, rfl, by rw [hK]; exact hsq, fun l hl => c.newL r h hs hl⟩
  · obtain ⟨v, rfl, q⟩ := hw.one_of
    obtain ⟨d, hd, h1, h2, h3, h4, h⟩ := h
    obtain ⟨u, rfl, ru⟩ := Vals.one rv
    exact repr_data I hg hu ru (by rw [hK]; exact hd.dp r q) h1 h2 h3 h4 (c.pure r h (rwS _))
  · obtain ⟨v, y, rfl, q, q'⟩ := hw.two_of
    obtain ⟨b, hd, hb', h⟩ := h
    rw [rw_ty q'] at rv
    exact call_isi pins s σ H _ _ Q I rv ⟨v, _, _, _, b, rfl, .ty _, by rw [hK]; exact tyX_of r hd q, kit_ty hb', c.pure r h (rwB _)⟩
  · obtain ⟨v, y, rfl, q, q'⟩ := hw.two_of
    exact hx _ _ _ pins s σ H v y us Q I rv q q' (c.pure r h (rwB _))
  · exact h.elim
end
end PW

set_option Elab.async false
set_option linter.all false
set_option maxRecDepth 100000
set_option maxHeartbeats 2000000
namespace PW
open PySem PySem.Spec PyProof.Rows L2
section
variable {X : Cx} {G : Ge} {H : Hp} {S : Sto} {Q0 : WK} {Q : VK}
theorem atI_rel {ws : List Vl} {xs : List V} {i : Int} {w : Vl} (h : RWs G H ws xs) (e : atI ws i = some w) : ∃ v, atI xs i = some v ∧ RW G H w v := by
  unfold atI at e ⊢
  rw [← h.length]
  cases q : ixN ws.length i with
  | none => rw [q] at e; cases e
  | some j =>
    rw [q] at e
    exact h.get e
theorem ixW_ok (hK : X.K = G.K) : IxR X (r2W G ixW) := by
  intro value slice pins s σ H x y v u Q I rx ry ⟨w, z, S, Q0, hw, hz, r, h, c⟩ hs
  unfold ixW at h
  cases z with
  | int i =>
    rw [rw_int hz] at ry
    cases e : w.seq S with
    | none => simp only [e] at h
    | some ws =>
      simp only [e] at h
      obtain ⟨it, e2, h⟩ := h
      obtain ⟨a, xs, rfl, hsq, hx⟩ := seq_read r e hw
      obtain ⟨vi, e3, rv⟩ := atI_rel hx e2
      rw [← hK] at hsq
      rcases hsq with hsq | hsq
      · exact ix_list value slice pins s σ H _ _ v u Q I rx ry ⟨a, xs, i, vi, rfl, rfl, hsq, e3, c.pure r h rv⟩ hs
      · exact ix_tup value slice pins s σ H _ _ v u Q I rx ry ⟨a, xs, i, vi, rfl, rfl, hsq, e3, c.pure r h rv⟩ hs
  | _ => exact False.elim h
theorem RWs.cut {ws : List Vl} {xs : List V} (lo hi : Option Int) (h : RWs G H ws xs) : RWs G H (cutW ws lo hi) (cutV xs lo hi) := by
  unfold cutW cutV
  rw [← h.length]
  exact (h.drop _).take _
def slR (G : Ge) : V → Option Int → Option Int → Hp → VK → Prop := fun x lo hi H Q => ∃ w S Q0, RW G H w x ∧ RS G H S ∧ slW w lo hi S Q0 ∧ Cont G H Q0 Q
theorem slW_ok (hK : X.K = G.K) : SlR X (slR G) := by
  intro pins s σ H x v vl vu lo hi sl Q I rx hs pl pu ⟨w, S, Q0, hw, r, h, c⟩
  cases w with
  | tup ws =>
    obtain ⟨a, xs, rfl, ha, hx⟩ := rw_tup hw
    have hl := hx.length
    refine sl_tupA pins s σ H _ v vl vu lo hi sl Q I rx hs pl pu ⟨a, xs, rfl, by rw [hK]; exact ha, fun ⟨e1, e2⟩ => ?_, fun _ p hp => c.newT r h (hx.cut lo hi) hp⟩
    have e : cutW ws lo hi = ws := by
      unfold cutW
      rw [hl, e1, e2, List.drop_zero, Nat.sub_zero, ← hl, List.take_length]
    have h' : Q0 (.tup (cutW ws lo hi)) S := h
    rw [e] at h'
    exact c.pure r h' hw
  | rol ws =>
    unfold RW at hw
    obtain ⟨a, xs, rfl, ha, hx⟩ := hw
    exact sl_list pins s σ H _ v vl vu lo hi sl Q I rx hs pl pu ⟨a, xs, rfl, by rw [hK]; exact ha.sq, fun p hp => c.newL r h (hx.cut lo hi) hp⟩
  | lst a =>
    rw [rw_lst hw] at rx
    obtain ⟨ws, e, h⟩ := h
    obtain ⟨xs, ha, hx⟩ := r.lst a ws e
    exact sl_list pins s σ H _ v vl vu lo hi sl Q I rx hs pl pu ⟨a, xs, rfl, SqL.of ha, fun p hp => c.newL r h (hx.cut lo hi) hp⟩
  | _ => exact False.elim h
/-- the method's own name -/
def Mn.id : Mn → String
  | .append => "list.append" | .pop => "list.pop" | .extend => "list.extend" | .reverse => "list.reverse" | .upper => "str.upper" | .index => "list.index" | .count => "list.count"
def mtW (G : Ge) (m : Mn) : V → List V → Hp → VK → Prop := fun x xs H Q => ∃ w ws S Q0, RW G H w x ∧ RWs G H ws xs ∧ RS G H S ∧ mthW m w ws S Q0 ∧ Cont G H Q0 Q
theorem mthW_ok (m : Mn) : MtR X m.id (mtW G m) := by
  intro pins s σ H x vs v us Q I rx rv ⟨w, ws, S, Q0, hw, hs, r, h, c⟩
  unfold mthW at h
  split at h
  · obtain ⟨us', e, hl, h⟩ := h
    rw [rw_lst hw] at rx
    obtain ⟨y, rfl, q⟩ := hs.one_of
    obtain ⟨xs, ha, hx⟩ := r.lst _ _ e
    have l1 := hx.length
    exact mt_append pins s σ H _ _ v us Q I rx rv ⟨_, xs, y, rfl, rfl, ha, by omega, c _ _ _ _ h (Grow.lst ha) rwN (r.set ha (hx.append (.cons q .nil)))⟩
  · obtain ⟨us', y, e, e2, h⟩ := h
    rw [rw_lst hw] at rx
    rw [hs.nil_of] at rv
    obtain ⟨xs, ha, hx⟩ := r.lst _ _ e
    have l1 := hx.length
    obtain ⟨vy, e3, q⟩ := hx.get e2
    rw [l1] at e3
    exact mt_pop pins s σ H _ _ v us Q I rx rv ⟨_, xs, vy, rfl, rfl, ha, e3, c _ _ _ _ h (Grow.lst ha) (q.mono (Grow.lst ha)) (r.set ha hx.dropLast)⟩
  · obtain ⟨us', vs', e, e2, hl, h⟩ := h
    rw [rw_lst hw] at rx
    obtain ⟨y, rfl, q⟩ := hs.one_of
    rw [rw_lst q] at rv
    obtain ⟨xs, ha, hx⟩ := r.lst _ _ e
    obtain ⟨ys, hb, hy⟩ := r.lst _ _ e2
    have l1 := hx.length
    have l2 := hy.length
    exact mt_extend pins s σ H _ _ v us Q I rx rv ⟨_, _, xs, ys, rfl, rfl, ha, hb, by omega, c _ _ _ _ h (Grow.lst ha) rwN (r.set ha (hx.append hy))⟩
  · obtain ⟨us', e, h⟩ := h
    rw [rw_lst hw] at rx
    rw [hs.nil_of] at rv
    obtain ⟨xs, ha, hx⟩ := r.lst _ _ e
    exact mt_reverse pins s σ H _ _ v us Q I rx rv ⟨_, xs, rfl, rfl, ha, c _ _ _ _ h (Grow.lst ha) rwN (r.set ha hx.reverse)⟩
  · exact h.elim
/-- the receiver of a method is a list -/
theorem mthW_ty (hK : X.K = G.K) {m : Mn} {w : Vl} {x : V} {ws : List Vl} {S' : Sto} (h : mthW m w ws S' Q0) (r : RS G H S') (q : RW G H w x) : tyV X.K "list" x H := by
  unfold mthW at h
  split at h
  · rw [rw_lst q]; obtain ⟨us', e, _⟩ := h; obtain ⟨xs, ha, _⟩ := r.lst _ _ e; exact .inl ⟨rfl, xs, SqL.of ha⟩
  · rw [rw_lst q]; obtain ⟨us', _, e, _⟩ := h; obtain ⟨xs, ha, _⟩ := r.lst _ _ e; exact .inl ⟨rfl, xs, SqL.of ha⟩
  · rw [rw_lst q]; obtain ⟨us', _, e, _⟩ := h; obtain ⟨xs, ha, _⟩ := r.lst _ _ e; exact .inl ⟨rfl, xs, SqL.of ha⟩
  · rw [rw_lst q]; obtain ⟨us', e, _⟩ := h; obtain ⟨xs, ha, _⟩ := r.lst _ _ e; exact .inl ⟨rfl, xs, SqL.of ha⟩
  · exact h.elim
/-- a[i] = w -/
def setR (G : Ge) : TSet := fun o i v H K => ∃ a j w S P, RW G H a o ∧ RW G H j i ∧ RW G H w v ∧ RS G H S ∧ setL a j w S P ∧ ∀ S' H', P S' → Grow H H' → RS G H' S' → K H'
theorem setL_ok : PSet X (setR G) := by
  intro pins s σ H o i v ov iv u K I ro ri rv ⟨a, j, w, S, P, ha, hj, hw, r, h, c⟩
  unfold setL at h
  split at h
  · obtain ⟨ws, n, e, e2, h⟩ := h
    rw [rw_lst ha] at ro
    rw [rw_int hj] at ri
    obtain ⟨xs, hp, hx⟩ := r.lst _ _ e
    rw [hx.length] at e2
    exact set_list pins s σ H _ _ v ov iv u K I ro ri rv ⟨_, xs, _, n, rfl, rfl, hp, e2, c _ _ h (Grow.lst hp) (r.set hp (hx.set hw n))⟩
  · exact h.elim
theorem augW_ok (o : Operator) : PIp X o (fun x y H Q => r2W G (augW o) x y H Q) := by
  intro pins s σ H x y v u Q I rx ry ⟨w, z, S, Q0, hw, hz, r, h, c⟩
  unfold augW at h
  split at h
  · obtain ⟨us, vs, e1, e2, hl, h⟩ := h
    rw [rw_lst hw] at rx; rw [rw_lst hz] at ry
    obtain ⟨xs, ha, hx⟩ := r.lst _ _ e1
    obtain ⟨ys, hb, hy⟩ := r.lst _ _ e2
    have l1 := hx.length
    have l2 := hy.length
    exact iop_ext pins s σ H _ _ v u Q I rx ry ⟨_, _, xs, ys, rfl, rfl, ha, hb, by omega, c _ _ _ _ h (Grow.lst ha) (rwL _) (r.set ha (hx.append hy))⟩
  · rw [rw_int hw] at rx; rw [rw_int hz] at ry
    exact iop_add pins s σ H _ _ v u Q I rx ry ⟨_, _, rfl, rfl, c.pure r h (rwI _)⟩
  · rw [rw_int hw] at rx; rw [rw_int hz] at ry
    exact iop_sub pins s σ H _ _ v u Q I rx ry ⟨_, _, rfl, rfl, c.pure r h (rwI _)⟩
  · rw [rw_int hw] at rx; rw [rw_int hz] at ry
    obtain ⟨t, rfl⟩ := rx
    obtain ⟨t', rfl⟩ := ry
    exact imul_int ⟨.int _, H, I.tok _, ⟨_, rfl⟩, c.pure r h.2 (rwI _)⟩ h.1
  · exact h.elim
end
end PW

set_option Elab.async false
set_option linter.all false
set_option maxRecDepth 100000
set_option maxHeartbeats 2000000
/-! own prelude, part 6: contexts; a checked expression runs as its term reads -/
namespace PW
open PySem PySem.Spec PyProof.Rows L2

/-- a def keeps its promise where no repr is under way -/
structure FnG (P : Program) (w : World) (K : PySem.W.Frag) (mg : Str → Option Value) (base : Heap) (k : Nat) (f : Addr) (fd : FuncData) (ps : List Str) (sp : Sp) : Prop where
  len : ∀ vs H Q E, sp vs H Q E → vs.length = ps.length
  run : ∀ (A : Around) (outer : List Env) (s : Shared) (H : Hp) (args : Args) (us : List Value) (vs : List V) (Q : VK) (E : XK), A.guards = some [] → Room k A → Env0 P w K mg base A outer s H → BindsTo s fd args (ps.zip us) → Vals vs us → sp vs H Q E →
    codeAny (model P w) A (.call (.ref f) args) (CR (L2.CX P w) outer P w H s Q E) s
/-- a caught exception as the layer tells one that flies -/
def RX (G : Ge) (H : Hp) (w : Vl) (cls : Value) (d : Option Addr) : Prop := ∃ i arg c dd x, w = .exc i arg ∧ G.mg (G.cnm i) = some (.ref c) ∧ cls = .ref c ∧ d = some dd ∧ H dd = some (.xd [("value", x)]) ∧ RW G H arg x
def liftX (G : Ge) (H0 : Hp) (E : WK) : XK := fun cls d H => ∃ w S, Grow H0 H ∧ RX G H w cls d ∧ RS G H S ∧ E w S
def liftSp (G : Ge) (sp : SpW) : Sp := fun vs H Q E => ∃ ws S Q0 E0, RWs G H ws vs ∧ RS G H S ∧ sp ws S Q0 E0 ∧ Cont G H Q0 Q ∧ ∀ w S' cls d H', E0 w S' → Grow H H' → RX G H' w cls d → RS G H' S' → E cls d H'
def kbg {α : Type} (n : Nat) (us ws : List α) : List α := if us.length = n then us ++ ws else []
/-- what reading .value of a caught error asks -/
def AttOk (G : Ge) : Prop := ∀ (X : Cx) (i : Nat) (w : Vl) (pins : List (Addr × Obj)) (s : Shared) (σ : L2.St) (H : Hp) (v : V) (u : Value) (Q : VK), X.K = G.K → Inv X pins σ H s → RelV v u → RW G H (.exc i w) v → (∀ x, RW G H w x → Q x H) →
  wpAny (model X.prog X.w) X.A (getAttr u "value" true) (EP X pins σ Q) X.xe s
/-- what C(v) of an error's class asks, as it is about to be raised -/
def MkOk (st : Stt) (G : Ge) : Prop := ∀ (X : Cx) (i : Nat) (x : Str) (e : Expr) (te : TE) (p pos : Pos), st.cnm[i]? = some x → X.prog = G.P → X.K = G.K → X.mg = G.mg → X.calm = true → Room 4 X.A → Gl X x → (x == ("__debug__" : Str)) = false → PE X e te →
  starEach [e] X.env = (false, eval e X.env) :: starEach [] X.env → PMk X (.Call (.Name x p) [e] [] pos) (fun v H Q => te v H fun y H1 => ∃ w S, RW G H1 w y ∧ RS G H1 S ∧ ∀ cls d H2, Grow H1 H2 → RX G H2 (.exc i w) cls d → RS G H2 S → Q cls d H2)
/-- what stands of the program's text, once for all -/
structure GF (st : Stt) (G : Ge) : Prop where
  cnm : ∀ i x, st.cnm[i]? = some x → G.cnm i = x ∧ ∃ a, G.mg x = some (.ref a)
  fnm : ∀ i x, st.fnm[i]? = some x → G.fnm i = x ∧ ∃ a, G.mg x = some (.ref a)
  gi : ∀ x i, (x, i) ∈ st.gis → ∃ t, G.mg x = some (.int i t)
  gi2 : ∀ x ns, (x, ns) ∈ st.gti → ∃ a xs, G.mg x = some (.ref a) ∧ ∀ H, SqT G.K H a xs ∧ RWs G H (ns.map Vl.int) xs
  gt2 : ∀ x zs, (x, zs) ∈ st.gtt → ∃ a xs, G.mg x = some (.ref a) ∧ ∀ H, SqT G.K H a xs ∧ RWs G H (zs.map Vl.str) xs
  gs : ∀ x z, (x, z) ∈ st.gst → ∃ t, G.mg x = some (.str z t)
  free : ∀ x ∈ st.blt, G.mg x = none
  isx : ∀ X : Cx, X.K = G.K → ExcIs G X st.sub
  att : AttOk G
  mke : MkOk st G
/-- a context, the readings' facts R, the heap H0 that has only grown -/
structure Gd0 (st : Stt) (G : Ge) (R : Rc) (c : Cf) (X : Cx) (H0 : Hp) : Prop where
  nd : c.N.Nodup
  N : X.N = c.N
  sc : X.env.scope = c.sc
  fn : ∀ x ∈ c.fn, X.fn x = true
  prog : X.prog = G.P
  calm : X.calm = true
  K : X.K = G.K
  mg : X.mg = G.mg
  gs : X.A.guards = some []
  un : X.A.units + 66 < cLine
  rm : Room 4 X.A
  kind : X.env.scope.kind = .function
  pass : PassesOwn (model X.prog X.w) X.A X.env X.xe
  gf : GF st G
  sb : R.sb = st.sub
  defs : ∀ f x ps, st.fnm[f]? = some x → st.fps[f]? = some ps → ∃ a fd k, G.mg x = some (.ref a) ∧ PySem.W.keepIn G.K (.ref a) = true ∧ Binds G.K fd ps [] ∧ (∀ n, (f, n) ∈ st.kws → KBinds G.K fd ps (ps.drop n) (kbg n) (kbg n)) ∧
    Room k X.A ∧ FnG X.prog X.w G.K G.mg X.base k a fd ps (liftSp G (R.Γ f))
  tk : Takes X (fun cls d _ H => liftX G H0 R.E cls d H)
/-- f(lambda: b), f the text's own that hears it -/
def HrdOk (st : Stt) (G : Ge) (R : Rc) (c : Cf) (X : Cx) (H0 : Hp) : Prop := ∀ (tb : Rc → WE) (x : Str) (p lp pos : Pos) (ps : Arguments) (bd : Expr) (sc : Scope), x = ("_law_heard" : Str) → gloB c x = true → LamX.lamSB c.sc sc = true → ps = ⟨[], [], none, [], [], none, []⟩ →
  Gd0 st G R c X H0 → (∀ R' X' H0', R'.Γ = R.Γ → Gd0 st G R' (c.lam sc) X' H0' → PE X' bd (liftE G H0' (tb R'))) →
  PE X (.Call (.Name x p) [.Lambda ps bd sc lp] [] pos) (liftE G H0 fun σ S Q => tb { R with E := fun w S' => Q (.tup [w, .non]) S' } σ S fun w S' => Q (.tup [.non, w]) S')
structure Gd (st : Stt) (G : Ge) (R : Rc) (c : Cf) (X : Cx) (H0 : Hp) : Prop extends Gd0 st G R c X H0 where
  hrd : c.hd = true → HrdOk st G R c X H0

/-! ### shapes -/
theorem ex_star {x : Expr} (h : exB x = true) (r : List Expr) (env : Env) : starEach (x :: r) env = (false, eval x env) :: starEach r env := by
  cases x <;> first | rfl | cases h
theorem ex_px {x : Expr} (h : exB x = true) : PlainIx x := by
  intro o i
  cases x <;> first | rfl | cases h
theorem ex_attr {x : Expr} (h : exB x = true) (n : Str) (env : Env) (whole : Sem Value) : attributeBase x n env whole = whole := by
  cases x with
  | Call f args kws pos =>
    cases f with
    | Name id p =>
      cases args with
      | cons _ _ => rfl
      | nil =>
        cases kws with
        | cons _ _ => rfl
        | nil => cases h
    | _ => rfl
  | _ => rfl
theorem ex_it {x : Expr} (h : exB x = true) (env : Env) (v : Value) : foldedSetIterable x env v = pure v := by
  cases x <;> first | rfl | cases h
theorem stars_plain : ∀ {es : List Expr}, (∀ x ∈ es, exB x = true) → ∀ (pos : Pos) (env : Env), (backTo pos (starEach es env)).any (·.1) = false
  | [], _, _, _ => rfl
  | x :: r, h, pos, env => by
    rw [ex_star (h x List.mem_cons_self)]
    show (false || (backTo pos (starEach r env)).any (·.1)) = false
    rw [Bool.false_or]
    exact stars_plain (fun y hy => h y (List.mem_cons_of_mem _ hy)) pos env
theorem stars_all : ∀ {es : List Expr}, (∀ x ∈ es, exB x = true) → ∀ (pos : Pos) (env : Env), (backTo pos (starEach es env)).all (fun x => !x.1) = true
  | [], _, _, _ => rfl
  | x :: r, h, pos, env => by
    rw [ex_star (h x List.mem_cons_self)]
    show (true && (backTo pos (starEach r env)).all (fun x => !x.1)) = true
    rw [Bool.true_and]
    exact stars_all (fun y hy => h y (List.mem_cons_of_mem _ hy)) pos env

/-! ### walks -/
/-- the iterator J yields the items one by one, in heaps that have grown from H1 -/
def WalksW (G : Ge) (J : It) (items : List Vl) (Gd : Sto → Prop) (H1 : Hp) : Prop := ∀ (i : Nat) (H : Hp) (S : Sto), Grow H1 H → RS G H S → Gd S →
  (∀ w, items[i]? = some w → J.go i H ∧ ∀ x H', J.yld i H x H' → Grow H H' ∧ RS G H' S ∧ RW G H' w x) ∧ (items.length ≤ i → J.stop i H)
def liftI (G : Ge) (H0 : Hp) (t : WI) : TI := fun v H K => ∃ (σ : WSt) (S : Sto) (K0 : List Vl → (Sto → Prop) → Sto → Prop), Grow H0 H ∧ RSt G H σ v ∧ RS G H S ∧ t σ S K0 ∧
  ∀ items Gd S' J H', K0 items Gd S' → Grow H H' → RS G H' S' → WalksW G J items Gd H' → K J H'
def liftG (G : Ge) (H0 : Hp) (sl : List Nat) (t : Vl → WSt → Sto → (WSt → Sto → Prop) → Prop) : TG := fun x v H Q => ∃ (w : Vl) (σ : WSt) (S : Sto) (Q0 : WSt → Sto → Prop), Grow H0 H ∧ RSt G H σ v ∧ RS G H S ∧ RW G H w x ∧ t w σ S Q0 ∧
  ∀ σ' v', Q0 σ' S → RSt G H σ' v' → v'.length = v.length → (∀ i, i ∉ sl → v'[i]? = v[i]?) → Q v' H
def liftGs (G : Ge) (H0 : Hp) (sl : List Nat) (t : List Vl → WSt → Sto → (WSt → Sto → Prop) → Prop) : TGs := fun xs v H Q => ∃ (ws : List Vl) (σ : WSt) (S : Sto) (Q0 : WSt → Sto → Prop), Grow H0 H ∧ RSt G H σ v ∧ RS G H S ∧ RWs G H ws xs ∧ t ws σ S Q0 ∧
  ∀ σ' v', Q0 σ' S → RSt G H σ' v' → v'.length = v.length → (∀ i, i ∉ sl → v'[i]? = v[i]?) → Q v' H
def liftO (G : Ge) (H0 : Hp) (t : WSt → Sto → (Option Int → Sto → Prop) → Prop) : TO := fun v H Q => ∃ (σ : WSt) (S : Sto) (Q0 : Option Int → Sto → Prop), Grow H0 H ∧ RSt G H σ v ∧ RS G H S ∧ t σ S Q0 ∧
  ∀ o S' H', Q0 o S' → Grow H H' → RS G H' S' → Q o H'
section
variable {st : Stt} {G : Ge} {R : Rc} {c : Cf} {X : Cx} {H0 : Hp}
theorem loc_of {i : Nat} {x : Str} (g : Gd0 st G R c X H0) (h : locB c i x = true) : X.N[i]? = some x ∧ Loc X.env.scope x ∧ (X.fn x = true ∨ X.env.scope.names.lookup x = some .local) := by
  unfold locB at h
  rw [Bool.and_eq_true] at h
  obtain ⟨h1, h2⟩ := h
  have e := of_decide_eq_true h1
  rw [g.N, g.sc]
  refine ⟨e, ?_, ?_⟩
  · cases q : c.sc.names.lookup x with
    | none => rw [q] at h2; cases h2
    | some k =>
      rw [q] at h2
      cases k <;> first | exact .inl q | exact .inr q | cases h2
  · cases q : c.sc.names.lookup x with
    | none => rw [q] at h2; cases h2
    | some k =>
      rw [q] at h2
      cases k with
      | «local» => exact .inr rfl
      | cell => exact .inl (g.fn x (by simpa using h2))
      | _ => cases h2
/-- a tuple of targets, of a tuple or a list -/
def gAny (K : PySem.W.Frag) (n : Nat) (t : TGs) : TG := fun v σ H Q => gTup K n t v σ H Q ∨ gLst K n t v σ H Q
theorem each_len : ∀ {es : List Expr}, (∀ x ∈ es, exB x = true) → ∀ env : Env, (assignEach es env).length = es.length ∧ (assignEach es env).findIdx? (·.1) = none
  | [], _, _ => ⟨rfl, rfl⟩
  | x :: r, h, env => by
    have ih := each_len (fun y hy => h y (List.mem_cons_of_mem _ hy)) env
    have e : assignEach (x :: r) env = (false, assign x env) :: assignEach r env := by
      have hx := h x List.mem_cons_self
      cases x <;> first | rfl | cases hx
    rw [e]
    refine ⟨by rw [List.length_cons, List.length_cons, ih.1], ?_⟩
    rw [List.findIdx?_cons]
    simp only [Bool.false_eq_true, if_false]
    rw [ih.2] <;> rfl
theorem each_cons {x : Expr} {r : List Expr} (hx : exB x = true) (env : Env) : (assignEach (x :: r) env).map (·.2) = assign x env :: (assignEach r env).map (·.2) := by
  cases x <;> first | rfl | cases hx
theorem chkP_ex {p : Pt} {e : Expr} (h : chkP c p e = true) : exB e = true := by
  cases p <;> cases e <;> first | rfl | (unfold chkP at h; cases h)
theorem chkPs_ex : ∀ {p : Pt} {es : List Expr}, chkPs c p es = true → ∀ x ∈ es, exB x = true
  | .nil, [], _, x, hx => by cases hx
  | .nil, _ :: _, h, _, _ => by unfold chkPs at h; cases h
  | .cons _ _, [], h, _, _ => by unfold chkPs at h; cases h
  | .cons p r, e :: es, h, x, hx => by
    unfold chkPs at h
    rw [Bool.and_eq_true] at h
    rcases List.mem_cons.mp hx with rfl | hx
    · exact chkP_ex h.1
    · exact chkPs_ex h.2 x hx
  | .nm _, _, h, _, _ => by unfold chkPs at h; cases h
  | .tup _, _, h, _, _ => by unfold chkPs at h; cases h
mutual
theorem gP_ex : ∀ (p : Pt) {w : Vl} {σ : WSt} {S : Sto} {Q : WSt → Sto → Prop}, gP p w σ S Q → ∃ σ' S', Q σ' S'
  | .nm i, _, _, _, _, h => by unfold gP at h; exact ⟨_, _, h⟩
  | .tup l, w, σ, S, Q, h => by
    unfold gP at h
    cases e : w.seq S with
    | none => rw [e] at h; exact False.elim h
    | some ws => rw [e] at h; exact gPs_ex l h
  | .nil, _, _, _, _, h => by unfold gP at h; exact False.elim h
  | .cons _ _, _, _, _, _, h => by unfold gP at h; exact False.elim h
theorem gPs_ex : ∀ (p : Pt) {ws : List Vl} {σ : WSt} {S : Sto} {Q : WSt → Sto → Prop}, gPs p ws σ S Q → ∃ σ' S', Q σ' S'
  | .nil, [], _, _, _, h => by unfold gPs at h; exact ⟨_, _, h⟩
  | .nil, _ :: _, _, _, _, h => by unfold gPs at h; exact False.elim h
  | .cons p r, [], _, _, _, h => by unfold gPs at h; exact False.elim h
  | .cons p r, w :: us, _, _, _, h => by
    unfold gPs at h
    obtain ⟨σ', S', h⟩ := gP_ex p h
    exact gPs_ex r h
  | .nm _, _, _, _, _, h => by unfold gPs at h; exact False.elim h
  | .tup _, _, _, _, _, h => by unfold gPs at h; exact False.elim h
end
theorem gPs_len : ∀ (p : Pt) (ws : List Vl) (es : List Expr) (σ : WSt) (S : Sto) (Q : WSt → Sto → Prop), chkPs c p es = true → gPs p ws σ S Q → ws.length = es.length
  | .nil, [], [], _, _, _, _, _ => rfl
  | .nil, [], _ :: _, _, _, _, h, _ => by unfold chkPs at h; cases h
  | .nil, _ :: _, _, _, _, _, _, h => by unfold gPs at h; exact False.elim h
  | .cons _ _, [], _, _, _, _, _, h => by unfold gPs at h; exact False.elim h
  | .cons _ _, _ :: _, [], _, _, _, h, _ => by unfold chkPs at h; cases h
  | .cons p r, w :: us, e :: es, _, _, _, k, h => by
    unfold gPs at h
    unfold chkPs at k
    rw [Bool.and_eq_true] at k
    obtain ⟨σ', S', h⟩ := gP_ex p h
    rw [List.length_cons, List.length_cons, gPs_len r us es σ' S' _ k.2 h]
  | .nm _, _, _, _, _, _, h, _ => by unfold chkPs at h; cases h
  | .tup _, _, _, _, _, _, h, _ => by unfold chkPs at h; cases h
/-- assignment leaves the store -/
theorem gP_mono : ∀ (p : Pt) {w : Vl} {σ : WSt} {S : Sto} {Q Q' : WSt → Sto → Prop}, (∀ σ' S', Q σ' S' → S' = S → Q' σ' S') → (gP p w σ S Q → gP p w σ S Q') ∧ ∀ ws, gPs p ws σ S Q → gPs p ws σ S Q' := by
  intro p
  induction p with
  | nm i => intro w σ S Q Q' f; exact ⟨fun h => by unfold gP at h ⊢; exact f _ _ h rfl, fun ws h => by unfold gPs at h; exact False.elim h⟩
  | tup l ih =>
    intro w σ S Q Q' f
    refine ⟨fun h => ?_, fun ws h => by unfold gPs at h; exact False.elim h⟩
    unfold gP at h ⊢
    cases e : w.seq S with
    | none => rw [e] at h; exact False.elim h
    | some ws => rw [e] at h; exact (ih (w := w) f).2 ws h
  | nil =>
    intro w σ S Q Q' f
    refine ⟨fun h => by unfold gP at h; exact False.elim h, fun ws h => ?_⟩
    cases ws with
    | nil => unfold gPs at h ⊢; exact f _ _ h rfl
    | cons _ _ => unfold gPs at h; exact False.elim h
  | cons p r ihp ihr =>
    intro w σ S Q Q' f
    refine ⟨fun h => by unfold gP at h; exact False.elim h, fun ws h => ?_⟩
    cases ws with
    | nil => unfold gPs at h; exact False.elim h
    | cons u us =>
      unfold gPs at h ⊢
      refine (ihp (w := u) (S := S) fun σ' S' h' e => ?_).1 h
      subst e
      exact (ihr (w := u) f).2 us h'
theorem bad_nm {i : Nat} {e : Expr} (h : chkP c (.nm i) e = true) : ∃ x pos, e = .Name x pos ∧ locB c i x = true := by
  cases e <;> first | (unfold chkP at h; cases h) | exact ⟨_, _, rfl, by unfold chkP at h; exact h⟩
theorem bad_tup {l : Pt} {e : Expr} (h : chkP c (.tup l) e = true) : ∃ es k pos, e = .Tuple es k pos ∧ chkPs c l es = true := by
  cases e <;> first | (unfold chkP at h; cases h) | exact ⟨_, _, _, rfl, by unfold chkP at h; exact h⟩
mutual
theorem sndP (g : Gd0 st G R c X H0) : ∀ (p : Pt) (e : Expr), chkP c p e = true → PG X e (liftG G H0 p.slots (gP p))
  | .nm i, e, h => by
    obtain ⟨x, pos, rfl, h⟩ := bad_nm h
    obtain ⟨h1, h2, h3⟩ := loc_of g h
    refine ⟨fun pins s v H y u Q I r q => ?_⟩
    obtain ⟨w, σ, S, Q0, _, hv, hs, hw, h, k⟩ := q
    refine (pg_name (by rw [g.N]; exact g.nd) h1 h2 h3).run pins s v H y u Q I r (show Q (v.set i (some y)) H from ?_)
    unfold gP at h
    refine k _ _ h (hv.set i hw) (by rw [List.length_set]) fun j hj => ?_
    have hj' : j ∉ [i] := hj
    rw [List.getElem?_set_ne (fun z => hj' (by simp [z]))]
  | .tup l, e, h => by
    obtain ⟨es, k, pos, rfl, hc⟩ := bad_tup h
    have ih := sndPs g l es hc
    obtain ⟨l1, l2⟩ := each_len (chkPs_ex hc) X.env
    refine ⟨fun pins s v H y u Q I r q => ?_⟩
    obtain ⟨w, σ, S, Q0, h0, hv, hs, hw, h, kk⟩ := q
    unfold gP at h
    cases e : w.seq S with
    | none => rw [e] at h; exact False.elim h
    | some ws =>
      rw [e] at h
      obtain ⟨a, xs, rfl, hsq, hx'⟩ := seq_read hs e hw
      have rd : liftGs G H0 l.slots (gPs l) xs v H Q := ⟨ws, σ, S, Q0, h0, hv, hs, hx', h, kk⟩
      have hlen : xs.length = es.length := by
        rw [← hx'.length]
        exact gPs_len l ws es σ S Q0 hc h
      rcases hsq with hsq | hsq
      · exact (pg_lst (k := k) (pos := pos) (n := es.length) g.calm ih l1 l2).run pins s v H _ u Q I r ⟨a, xs, rfl, by rw [g.K]; exact hsq, hlen, rd⟩
      · exact (pg_tup (k := k) (pos := pos) (n := es.length) g.calm ih l1 l2).run pins s v H _ u Q I r ⟨a, xs, rfl, by rw [g.K]; exact hsq, hlen, rd⟩
  | .nil, e, h => by unfold chkP at h; cases h
  | .cons _ _, e, h => by unfold chkP at h; cases h
theorem sndPs (g : Gd0 st G R c X H0) : ∀ (p : Pt) (es : List Expr), chkPs c p es = true → PGs X es (liftGs G H0 p.slots (gPs p))
  | .nil, [], _ => by
    refine ⟨fun pins s v H xs us Q I r q => pgs_nil.run pins s v H xs us Q I r ?_⟩
    obtain ⟨ws, σ, S, Q0, h0, hv, hs, hw, h, kk⟩ := q
    unfold gPs at h
    cases ws with
    | cons _ _ => exact False.elim h
    | nil => exact ⟨hw.nil_of, kk σ v h hv rfl fun _ _ => rfl⟩
  | .nil, _ :: _, h => by unfold chkPs at h; cases h
  | .cons _ _, [], h => by unfold chkPs at h; cases h
  | .cons p r, e :: es, h => by
    unfold chkPs at h
    rw [Bool.and_eq_true] at h
    have h1 := sndP g p e h.1
    have h2 := sndPs g r es h.2
    refine ⟨fun pins s v H xs us Q I rr q => (pgs_cons h1 h2 (each_cons (chkP_ex h.1) X.env)).run pins s v H xs us Q I rr ?_⟩
    obtain ⟨ws, σ, S, Q0, h0, hv, hs, hw, h, kk⟩ := q
    unfold gPs at h
    cases ws with
    | nil => exact False.elim h
    | cons w us' =>
      obtain ⟨y, ys, rfl, q1, q2⟩ := hw.cons_of
      refine ⟨y, ys, rfl, w, σ, S, _, h0, hv, hs, q1, h, fun σ' v' h' hv' l1 f1 => ?_⟩
      exact ⟨us', σ', S, Q0, h0, hv', hs, q2, h', fun σ2 v2 k2 hv2 l2 f2 => kk σ2 v2 k2 hv2 (l2.trans l1) fun i hi => (f2 i fun z => hi (List.mem_append_right _ z)).trans (f1 i fun z => hi (List.mem_append_left _ z))⟩
  | .nm _, _, h => by unfold chkPs at h; cases h
  | .tup _, _, h => by unfold chkPs at h; cases h
end
end
end PW

set_option Elab.async false
set_option linter.all false
set_option maxRecDepth 100000
set_option maxHeartbeats 2000000
/-! own prelude, part 7: what a checked term's soundness says; the plain cases -/
namespace PW
open PySem PySem.Spec PyProof.Rows L2

structure Snd (st : Stt) (τ : T) : Prop where
  ex : ∀ {c x}, (chk st τ).e c x = true → exB x = true
  e : ∀ {G R c X H0 x}, Gd st G R c X H0 → (chk st τ).e c x = true → PE X x (liftE G H0 ((rd τ).e R))
  t : ∀ {G R c X H0 x}, Gd st G R c X H0 → (chk st τ).e c x = true → PT X x (liftT G H0 ((rd τ).t R))
  a : ∀ {G R c X H0 es}, Gd st G R c X H0 → (chk st τ).a c es = true → (∀ x ∈ es, exB x = true) ∧ PA X es (liftA G H0 ((rd τ).a R))
  k : ∀ {G R c X H0 ps ks}, Gd st G R c X H0 → (chk st τ).k c ps ks = true → PK X ks (liftA G H0 ((rd τ).a R)) ∧ ∀ pos env, (backToKw pos (keywordEach ks env)).all (·.1.isSome) = true ∧ (backToKw pos (keywordEach ks env)).any (·.1.isNone) = false ∧ (ks.length = ps.length → (backToKw pos (keywordEach ks env)).filterMap (·.1) = ps)
  an : ∀ {G R c X H0 es pos}, Gd st G R c X H0 → (chk st τ).an c es = true → PE X (.BoolOp .And es pos) (liftE G H0 ((rd τ).e R)) ∧ PW X (.BoolOp .And es pos) (liftT G H0 ((rd τ).t R))
  or : ∀ {G R c X H0 es pos}, Gd st G R c X H0 → (chk st τ).or c es = true → PE X (.BoolOp .Or es pos) (liftE G H0 ((rd τ).e R)) ∧ PW X (.BoolOp .Or es pos) (liftT G H0 ((rd τ).t R))
  o : ∀ {G R c X H0 x}, Gd st G R c X H0 → (chk st τ).o c x = true → PO X x (liftO G H0 ((rd τ).o R))
  c : ∀ {G R c X H0 es}, Gd st G R c X H0 → (chk st τ).c c es = true → PTs X es (liftT G H0 ((rd τ).c R))
  i : ∀ {G R c X H0 tg it}, Gd st G R c X H0 → (chk st τ).i c tg it = true → PI X tg it (liftI G H0 ((rd τ).i R)) ∧ ∀ x, foldedSetIterable it X.env x = pure x
  d : ∀ {G R c X H0 es}, Gd st G R c X H0 → (chk st τ).d c es = true → PA X es (liftA G H0 ((rd τ).a R))

/-! ### builders -/
def tsB : Expr → Bool
  | .UnaryOp .Not _ _ => false
  | .BoolOp _ _ _ => false
  | .IfExp _ _ _ _ => false
  | .Compare _ _ _ _ => false
  | _ => true
theorem ts_plain {x : Expr} (h : tsB x = true) (env : Env) (whole : Sem Value) : isTrue x env whole = (do let v ← whole; standAt x.pos; holding [v] (truthy v)) := by
  cases x with
  | UnaryOp op a pos => cases op <;> first | rfl | cases h
  | _ => first | rfl | cases h
section
variable {st : Stt} {G : Ge} {R : Rc} {c : Cf} {X : Cx} {H0 : Hp}
theorem tst_tru {x : Expr} {E : Rc → WE} (g : Gd0 st G R c X H0) (h : PE X x (liftE G H0 (E R))) (hx : ∀ whole, isTrue x X.env whole = (do let v ← whole; standAt x.pos; holding [v] (truthy v))) : PT X x (liftT G H0 (truE E R)) := by
  refine PT.weak (pt_truth h hx) fun v H Q ⟨σ, S, Q0, h0, hv, hs, h, k⟩ => ?_
  refine ⟨σ, S, _, h0, hv, hs, h, fun w S' y H' hw hg hr hs' => ?_⟩
  obtain ⟨b, hb, q⟩ := truW_ok hs' hw hr
  exact ⟨b, by rw [g.K]; exact hb, k b S' H' q hg hs'⟩
theorem tst_of {x : Expr} {E : Rc → WE} (g : Gd0 st G R c X H0) (h : PE X x (liftE G H0 (E R))) (hx : tsB x = true) : PT X x (liftT G H0 (truE E R)) := tst_tru g h (ts_plain hx X.env)
theorem walk_tup {a : Addr} {ws : List Vl} {xs : List V} {H1 : Hp} {P : Sto → Prop} (ha : SqT G.K H1 a xs) (hx : RWs G H1 ws xs) : WalksW G (Itt G.K a) ws P H1 := by
  intro i H S g r _
  have ha' := sqT_mono g ha
  have hx' := hx.mono g
  refine ⟨fun w e => ?_, fun hl => ⟨xs, ha', by rw [← hx.length]; exact hl⟩⟩
  obtain ⟨v, e1, q⟩ := hx'.get e
  refine ⟨⟨xs, v, ha', e1⟩, fun x H' ⟨eq, f⟩ => ?_⟩
  subst eq
  have e2 := f xs (ha')
  rw [e1] at e2
  cases e2
  exact ⟨Grow.refl _, r, q⟩
theorem walk_sq {a : Addr} {ws : List Vl} {H1 : Hp} {P : Sto → Prop} (f : ∀ H S, Grow H1 H → RS G H S → P S → ∃ xs, SqL G.K H a xs ∧ RWs G H ws xs) : WalksW G (Itl G.K a) ws P H1 := by
  intro i H S g r p
  obtain ⟨xs, ha, hx⟩ := f H S g r p
  refine ⟨fun w e => ?_, fun hl => ⟨xs, ha, by rw [← hx.length]; exact hl⟩⟩
  obtain ⟨v, e1, q⟩ := hx.get e
  refine ⟨⟨xs, v, ha, e1⟩, fun x H' ⟨eq, f⟩ => ?_⟩
  subst eq
  have e2 := f xs ha
  rw [e1] at e2
  cases e2
  exact ⟨Grow.refl _, r, q⟩
/-- what a list or a tuple yields -/
theorem seqG_ok {w : Vl} {x : V} {S : Sto} {H : Hp} {K : List Vl → (Sto → Prop) → Prop} (r : RS G H S) (q : RW G H w x) (h : seqG w S K) :
    ∃ a ws P, x = .ref a ∧ K ws P ∧ P S ∧ (((∃ xs, SqL G.K H a xs) ∧ WalksW G (Itl G.K a) ws P H ∧ (∀ H' S', Grow H H' → RS G H' S' → P S' → (∃ xs, SqL G.K H' a xs ∧ RWs G H' ws xs)) ∧ w.isTup = false) ∨
      ((∃ xs, SqT G.K H a xs) ∧ WalksW G (Itt G.K a) ws P H ∧ (∀ H' S', Grow H H' → RS G H' S' → P S' → (∃ xs, SqT G.K H' a xs ∧ RWs G H' ws xs)) ∧ w.isTup = true)) := by
  cases w with
  | tup ws =>
    obtain ⟨a, xs, rfl, ha, hx⟩ := rw_tup q
    exact ⟨a, ws, _, rfl, h, trivial, .inr ⟨⟨xs, ha⟩, walk_tup ha hx, fun H' S' g _ _ => ⟨xs, sqT_mono g ha, hx.mono g⟩, rfl⟩⟩
  | rol ws =>
    unfold RW at q
    obtain ⟨a, xs, rfl, ha, hx⟩ := q
    have f : ∀ (H' : Hp) (S' : Sto), Grow H H' → RS G H' S' → True → ∃ xs, SqL G.K H' a xs ∧ RWs G H' ws xs := fun H' S' g _ _ => ⟨xs, (ha.mono g).sq, hx.mono g⟩
    exact ⟨a, ws, _, rfl, h, trivial, .inl ⟨⟨xs, ha.sq⟩, walk_sq f, f, rfl⟩⟩
  | lst a =>
    have h' : (match S a with
      | some ws => K ws fun S' => S' a = some ws
      | none => False) := h
    cases e : S a with
    | none => rw [e] at h'; exact h'.elim
    | some ws =>
      rw [e] at h'
      obtain ⟨xs, ha, hx⟩ := r.lst a ws e
      have f : ∀ (H' : Hp) (S' : Sto), Grow H H' → RS G H' S' → S' a = some ws → ∃ xs, SqL G.K H' a xs ∧ RWs G H' ws xs := fun H' S' g r' e' => by
        obtain ⟨ys, hb, hy⟩ := r'.lst a ws e'
        exact ⟨ys, SqL.of hb, hy⟩
      exact ⟨a, ws, _, rw_lst q, h', e, .inl ⟨⟨xs, SqL.of ha⟩, walk_sq f, f, rfl⟩⟩
  | _ => exact False.elim h
/-- for over an expression's list or tuple -/
theorem pi_val {tg l : Expr} {tl : TE} (hl : PE X l tl) : PI X tg l (fun v H K => tl v H fun x H1 => ∃ a, x = .ref a ∧ (((∃ xs, SqL X.K H1 a xs) ∧ K (Itl X.K a) H1) ∨ ((∃ xs, SqT X.K H1 a xs) ∧ K (Itt X.K a) H1))) := by
  refine ⟨fun pins s v H K I h => ?_⟩
  refine thn (hl.run pins s v H _ I h) fun u s1 ⟨x, H1, I1, r1, q1⟩ => ?_
  obtain ⟨a, e, q⟩ := q1
  subst e
  cases r1
  have fp : ∀ b ∈ [s1.heap.objs.size], FpOk X pins H1 b := fun b hb => by
    rw [List.mem_singleton.mp hb]
    exact I1.fpOk (Nat.le_refl _) (I1.hok.fresh (Nat.le_refl _))
  rcases q with ⟨⟨xs, hq⟩, q⟩ | ⟨⟨xs, hq⟩, q⟩
  · obtain ⟨its, _, p, _⟩ := I1.list hq
    exact wpAny_pyIter_list p.isList ⟨_, _, _, _, H1, rfl, I1.kept (t' := s1.toks) (fun b o e => Heap.get?_push_of_some _ e), turn_list a _, ⟨_, Heap.get?_push_size _ rfl, rfl, rfl⟩, fp, q⟩
  · obtain ⟨its, _, p, _⟩ := I1.tuple hq
    exact wpAny_pyIter_tuple (show s1.heap.IsTuple a its.toArray from p) ⟨_, _, _, _, H1, rfl, I1.kept (t' := s1.toks) (fun b o e => Heap.get?_push_of_some _ e), turn_tuple a _, ⟨_, Heap.get?_push_size _ rfl, rfl, rfl⟩, fp, q⟩
theorem itr_of {tg x : Expr} {E : Rc → WE} (g : Gd0 st G R c X H0) (h : PE X x (liftE G H0 (E R))) : PI X tg x (liftI G H0 (walkE E R)) := by
  refine ⟨fun pins s v H K I q => (pi_val h).run pins s v H K I ?_⟩
  obtain ⟨σ, S, K0, h0, hv, hs, q, k⟩ := q
  refine ⟨σ, S, _, h0, hv, hs, q, fun w S' y H' hw hg hr hs' => ?_⟩
  obtain ⟨a, ws, P, rfl, q, p, z⟩ := seqG_ok hs' hr hw
  refine ⟨a, rfl, ?_⟩
  rw [g.K]
  rcases z with ⟨z1, z2, _⟩ | ⟨z1, z2, _⟩
  · exact .inl ⟨z1, k ws P S' _ H' q hg hs' z2⟩
  · exact .inr ⟨z1, k ws P S' _ H' q hg hs' z2⟩
theorem prt_of {x : Expr} {E : Rc → WE} (h : PE X x (liftE G H0 (E R))) : PO X (some x) (liftO G H0 (partE E R)) := by
  refine ⟨fun pins s v H Q I q => (po_some h).run pins s v H Q I ?_⟩
  obtain ⟨σ, S, Q0, h0, hv, hs, q, k⟩ := q
  refine ⟨σ, S, _, h0, hv, hs, q, fun w S' y H' hw hg hr hs' => ?_⟩
  cases w with
  | int i => rw [rw_int hr]; exact ⟨i, rfl, k _ S' H' hw hg hs'⟩
  | _ => exact False.elim hw
end
theorem sndBase2 {st : Stt} {τ : T} {E : Rc → WE} {T' : Rc → WT} {C : Cf → Expr → Bool} {AN OR : Cf → List Expr → Bool} (hr : rd τ = mkT E T') (hc : chk st τ = { mkC C with an := AN, or := OR }) (ex : ∀ {c x}, C c x = true → exB x = true)
    (he : ∀ {G R c X H0 x}, Gd st G R c X H0 → C c x = true → PE X x (liftE G H0 (E R))) (ht : ∀ {G R c X H0 x}, Gd st G R c X H0 → C c x = true → PT X x (liftT G H0 (T' R)))
    (han : ∀ {G R c X H0 es pos}, Gd st G R c X H0 → AN c es = true → PE X (.BoolOp .And es pos) (liftE G H0 (E R)) ∧ PW X (.BoolOp .And es pos) (liftT G H0 (T' R)))
    (hor : ∀ {G R c X H0 es pos}, Gd st G R c X H0 → OR c es = true → PE X (.BoolOp .Or es pos) (liftE G H0 (E R)) ∧ PW X (.BoolOp .Or es pos) (liftT G H0 (T' R))) : Snd st τ where
  ex := fun {c x} h => ex (c := c) (by rw [hc] at h; exact h)
  e := fun g h => by rw [hr]; exact he g (by rw [hc] at h; exact h)
  t := fun g h => by rw [hr]; exact ht g (by rw [hc] at h; exact h)
  a := fun g h => by rw [hc] at h; cases h
  k := fun g h => by rw [hc] at h; cases h
  an := fun g h => by rw [hr]; exact han g (by rw [hc] at h; exact h)
  or := fun g h => by rw [hr]; exact hor g (by rw [hc] at h; exact h)
  o := fun {G R c X H0 x} g h => by
    rw [hc] at h
    rw [hr]
    cases x with
    | none => cases h
    | some x => exact prt_of (he g h)
  c := fun {G R c X H0 es} g h => by
    rw [hc] at h
    rw [hr]
    cases es with
    | nil => cases h
    | cons x r =>
      cases r with
      | nil => exact pts_one (ht g h)
      | cons _ _ => cases h
  i := fun {G R c X H0 tg it} g h => by
    rw [hc] at h
    rw [hr]
    have h1 : (C c it && plainIt it) = true := h
    rw [Bool.and_eq_true] at h1
    exact ⟨itr_of g.toGd0 (he g h1.1), ex_it (ex h1.1) X.env⟩
  d := fun g h => by rw [hc] at h; cases h
theorem oneAn {C : Cf → Expr → Bool} {X : Cx} {G : Ge} {H0 : Hp} {E : WE} {T' : WT} {c : Cf} {es : List Expr} {pos : Pos} (he : ∀ {x}, C c x = true → PE X x (liftE G H0 E)) (ht : ∀ {x}, C c x = true → PT X x (liftT G H0 T')) (h : one C c es = true) :
    (PE X (.BoolOp .And es pos) (liftE G H0 E) ∧ PW X (.BoolOp .And es pos) (liftT G H0 T')) ∧ (PE X (.BoolOp .Or es pos) (liftE G H0 E) ∧ PW X (.BoolOp .Or es pos) (liftT G H0 T')) := by
  cases es with
  | nil => cases h
  | cons x r =>
    cases r with
    | nil => exact ⟨⟨pe_one (he h), pw_and1 (ht h)⟩, ⟨pe_one (he h), pw_or1 (ht h)⟩⟩
    | cons _ _ => cases h
theorem sndBase {st : Stt} {τ : T} {E : Rc → WE} {T' : Rc → WT} {C : Cf → Expr → Bool} (hr : rd τ = mkT E T') (hc : chk st τ = mkC C) (ex : ∀ {c x}, C c x = true → exB x = true)
    (he : ∀ {G R c X H0 x}, Gd st G R c X H0 → C c x = true → PE X x (liftE G H0 (E R))) (ht : ∀ {G R c X H0 x}, Gd st G R c X H0 → C c x = true → PT X x (liftT G H0 (T' R))) : Snd st τ :=
  sndBase2 (AN := one C) (OR := one C) hr hc ex he ht (fun g h => (oneAn (he g) (ht g) h).1) fun g h => (oneAn (he g) (ht g) h).2
/-- .. where the test is the value's truth -/
theorem sndV {st : Stt} {τ : T} {E : Rc → WE} {C : Cf → Expr → Bool} (hr : rd τ = mkV E) (hc : chk st τ = mkC C) (ex : ∀ {c x}, C c x = true → exB x = true ∧ tsB x = true)
    (he : ∀ {G R c X H0 x}, Gd st G R c X H0 → C c x = true → PE X x (liftE G H0 (E R))) : Snd st τ :=
  sndBase (T' := truE E) hr hc (fun h => (ex h).1) he fun g h => tst_of g.toGd0 (he g h) (ex h).2
end PW

set_option Elab.async false
set_option linter.all false
set_option maxRecDepth 100000
set_option maxHeartbeats 2000000
/-! own prelude, part 8: the cases of expressions -/
namespace PW
open PySem PySem.Spec PyProof.Rows L2
section
variable {st : Stt} {G : Ge} {R : Rc} {c : Cf} {X : Cx} {H0 : Hp}
theorem vis_of {x : Str} (g : Gd0 st G R c X H0) (h : visB c x = true) : Vis X.env.scope x := by
  unfold visB at h
  unfold Vis
  rw [g.sc]
  cases q : c.sc.names.lookup x with
  | none => rw [q] at h; cases h
  | some k =>
    rw [q] at h
    cases k <;> first | exact .inl rfl | exact .inr (.inl rfl) | exact .inr (.inr rfl) | cases h
theorem gl_of {x : Str} (g : Gd0 st G R c X H0) (h : gloB c x = true) : Gl X x ∧ (x == ("__debug__" : Str)) = false := by
  unfold gloB at h
  rw [Bool.and_eq_true] at h
  obtain ⟨h1, h2⟩ := h
  refine ⟨?_, by cases q : (x == ("__debug__" : Str)) <;> simp_all⟩
  show X.env.scope.names.lookup x = some .globalImplicit
  rw [g.sc]
  cases q : c.sc.names.lookup x with
  | none => rw [q] at h1; cases h1
  | some k =>
    rw [q] at h1
    cases k <;> first | rfl | cases h1
theorem free_of {x : Str} (g : Gd0 st G R c X H0) (h : freeB st c x = true) : (Gl X x ∧ (x == ("__debug__" : Str)) = false) ∧ X.mg x = none := by
  unfold freeB at h
  rw [Bool.and_eq_true] at h
  refine ⟨gl_of g h.2, ?_⟩
  rw [g.mg]
  exact g.gf.free x (by simpa using h.1)
theorem lift_two {ta tb : WE} {f : Vl → Vl → Sto → WK → Prop} {v : L2.St} {H : Hp} {Q : VK} (h : liftE G H0 (fun σ S Q => ta σ S fun x S1 => tb σ S1 fun y S2 => f x y S2 Q) v H Q) : tOp (r2W G f) (liftE G H0 ta) (liftE G H0 tb) v H Q := by
  obtain ⟨σ, S, Q0, h0, hv, hs, h, k⟩ := h
  exact ⟨σ, S, _, h0, hv, hs, h, fun x S1 vx H1 hx g1 rx hs1 => ⟨σ, S1, _, h0.trans g1, hv.mono g1, hs1, hx, fun y S2 vy H2 hy g2 ry hs2 =>
    ⟨x, y, S2, Q0, rx.mono g2, ry, hs2, hy, fun w S' z H' hw g3 rz hs3 => k w S' z H' hw ((g1.trans g2).trans g3) rz hs3⟩⟩⟩
theorem lift_cmp {ta tb : WE} {f : Vl → Vl → Sto → (Bool → Prop) → Prop} {v : L2.St} {H : Hp} {Q : VK} (h : liftE G H0 (fun σ S Q => ta σ S fun x S1 => tb σ S1 fun y S2 => f x y S2 fun b => Q (.bl b) S2) v H Q) : tOp (rcW G f) (liftE G H0 ta) (liftE G H0 tb) v H Q := by
  obtain ⟨σ, S, Q0, h0, hv, hs, h, k⟩ := h
  exact ⟨σ, S, _, h0, hv, hs, h, fun x S1 vx H1 hx g1 rx hs1 => ⟨σ, S1, _, h0.trans g1, hv.mono g1, hs1, hx, fun y S2 vy H2 hy g2 ry hs2 =>
    ⟨x, y, S2, _, rx.mono g2, ry, hs2, hy, fun b hb => k _ S2 _ H2 hb (g1.trans g2) (rwB b) hs2⟩⟩⟩
theorem lift_const {w : Vl} {x : V} (q : ∀ H, RW G H w x) {v : L2.St} {H : Hp} {Q : VK} (h : liftE G H0 (fun _ S Q => Q w S) v H Q) : tC x v H Q := by
  obtain ⟨σ, S, Q0, h0, hv, hs, h, k⟩ := h
  exact k _ S _ H h (Grow.refl _) (q H) hs
end
section
variable {st : Stt}
theorem snd_var (i : Nat) : Snd st (.var i) := by
  refine sndV rfl rfl (fun {c x} h => ?_) (fun {G R c X H0 x} g h => ?_)
  · split at h
    · exact ⟨rfl, rfl⟩
    · cases h
  · split at h
    · rename_i y pos
      unfold nameB at h
      simp only [Bool.and_eq_true, decide_eq_true_eq, Bool.not_eq_true'] at h
      obtain ⟨⟨⟨h1, h2⟩, h3⟩, h4⟩ := h
      refine PE.weak (pe_var (i := i) (by rw [g.N]; exact h1) (vis_of g.toGd0 h2) h3 h4) fun v H Q ⟨σ, S, Q0, h0, hv, hs, h, k⟩ => ?_
      cases e : σ[i]? with
      | none => simp only [e] at h
      | some o =>
        cases o with
        | none => simp only [e] at h
        | some w =>
          simp only [e] at h
          obtain ⟨y, e1, q⟩ := hv.at_ i w e
          exact ⟨y, e1, k w S y H h (Grow.refl _) q hs⟩
    · cases h
theorem snd_int (i : Int) : Snd st (.int i) := by
  refine sndV rfl rfl (fun {c x} h => ?_) (fun {G R c X H0 x} g h => ?_)
  · split at h
    · exact ⟨rfl, rfl⟩
    · cases h
  · split at h
    · cases of_decide_eq_true h
      exact PE.weak pe_int fun v H Q q => lift_const (fun H => rwI i) q
    · cases h
theorem snd_bl (i : Bool) : Snd st (.bl i) := by
  refine sndV rfl rfl (fun {c x} h => ?_) (fun {G R c X H0 x} g h => ?_)
  · split at h
    · exact ⟨rfl, rfl⟩
    · cases h
  · split at h
    · cases of_decide_eq_true h
      exact PE.weak pe_bl fun v H Q q => lift_const (fun H => rwB i) q
    · cases h
theorem snd_non : Snd st .non := by
  refine sndV rfl rfl (fun {c x} h => ?_) (fun {G R c X H0 x} g h => ?_)
  · split at h
    · exact ⟨rfl, rfl⟩
    · cases h
  · split at h
    · exact PE.weak pe_non fun v H Q q => lift_const (fun H => rwN) q
    · cases h
theorem snd_str (i : Str) : Snd st (.str i) := by
  refine sndV rfl rfl (fun {c x} h => ?_) (fun {G R c X H0 x} g h => ?_)
  · split at h
    · exact ⟨rfl, rfl⟩
    · cases h
  · split at h
    · cases of_decide_eq_true h
      exact PE.weak pe_str fun v H Q q => lift_const (fun H => rwS i) q
    · cases h
theorem snd_gint (y : Str) (i : Int) : Snd st (.gint y i) := by
  refine sndV rfl rfl (fun {c x} h => ?_) (fun {G R c X H0 x} g h => ?_)
  · split at h
    · exact ⟨rfl, rfl⟩
    · cases h
  · split at h
    · simp only [Bool.and_eq_true, decide_eq_true_eq] at h
      obtain ⟨⟨rfl, h2⟩, h3⟩ := h
      obtain ⟨g1, g2⟩ := gl_of g.toGd0 h3
      obtain ⟨t, ht⟩ := g.gf.gi y i (by simpa using h2)
      exact PE.weak (pe_glob (v := .int i) g1 (by rw [g.mg]; exact ht) ⟨t, rfl⟩ g2) fun v H Q q => lift_const (fun H => rwI i) q
    · cases h
theorem snd_gti (y : Str) (ns : List Int) : Snd st (.gti y ns) := by
  refine sndV rfl rfl (fun {c x} h => ?_) (fun {G R c X H0 x} g h => ?_)
  · split at h
    · exact ⟨rfl, rfl⟩
    · cases h
  · split at h
    · simp only [Bool.and_eq_true, decide_eq_true_eq] at h
      obtain ⟨⟨rfl, h2⟩, h3⟩ := h
      obtain ⟨g1, g2⟩ := gl_of g.toGd0 h3
      obtain ⟨a, xs, ht, hx⟩ := g.gf.gi2 y ns (by simpa using h2)
      exact PE.weak (pe_glob (v := .ref a) g1 (by rw [g.mg]; exact ht) rfl g2) fun v H Q q => lift_const (fun H => by unfold RW; exact ⟨a, xs, rfl, hx H⟩) q
    · cases h
theorem snd_gtt (y : Str) (ns : List Str) : Snd st (.gtt y ns) := by
  refine sndV rfl rfl (fun {c x} h => ?_) (fun {G R c X H0 x} g h => ?_)
  · split at h
    · exact ⟨rfl, rfl⟩
    · cases h
  · split at h
    · simp only [Bool.and_eq_true, decide_eq_true_eq] at h
      obtain ⟨⟨rfl, h2⟩, h3⟩ := h
      obtain ⟨g1, g2⟩ := gl_of g.toGd0 h3
      obtain ⟨a, xs, ht, hx⟩ := g.gf.gt2 y ns (by simpa using h2)
      exact PE.weak (pe_glob (v := .ref a) g1 (by rw [g.mg]; exact ht) rfl g2) fun v H Q q => lift_const (fun H => by unfold RW; exact ⟨a, xs, rfl, hx H⟩) q
    · cases h
theorem snd_gst (y z : Str) : Snd st (.gst y z) := by
  refine sndV rfl rfl (fun {c x} h => ?_) (fun {G R c X H0 x} g h => ?_)
  · split at h
    · exact ⟨rfl, rfl⟩
    · cases h
  · split at h
    · simp only [Bool.and_eq_true, decide_eq_true_eq] at h
      obtain ⟨⟨rfl, h2⟩, h3⟩ := h
      obtain ⟨g1, g2⟩ := gl_of g.toGd0 h3
      obtain ⟨t, ht⟩ := g.gf.gs y z (by simpa using h2)
      exact PE.weak (pe_glob (v := .str z) g1 (by rw [g.mg]; exact ht) ⟨t, rfl⟩ g2) fun v H Q q => lift_const (fun H => rwS z) q
    · cases h
theorem snd_cls (i : Nat) : Snd st (.cls i) := by
  refine sndV rfl rfl (fun {c x} h => ?_) (fun {G R c X H0 x} g h => ?_)
  · split at h
    · exact ⟨rfl, rfl⟩
    · cases h
  · split at h
    · simp only [Bool.and_eq_true, decide_eq_true_eq] at h
      obtain ⟨h1, h3⟩ := h
      obtain ⟨g1, g2⟩ := gl_of g.toGd0 h3
      obtain ⟨e, a, ha⟩ := g.gf.cnm i _ h1
      exact PE.weak (pe_glob (v := .ref a) g1 (by rw [g.mg]; exact ha) rfl g2) fun v H Q q => lift_const (fun H => by unfold RW; exact ⟨a, rfl, by rw [e]; exact ha⟩) q
    · cases h
theorem snd_gfn (i : Nat) : Snd st (.gfn i) := by
  refine sndV rfl rfl (fun {c x} h => ?_) (fun {G R c X H0 x} g h => ?_)
  · split at h
    · exact ⟨rfl, rfl⟩
    · cases h
  · split at h
    · simp only [Bool.and_eq_true, decide_eq_true_eq] at h
      obtain ⟨h1, h3⟩ := h
      obtain ⟨g1, g2⟩ := gl_of g.toGd0 h3
      obtain ⟨e, a, ha⟩ := g.gf.fnm i _ h1
      exact PE.weak (pe_glob (v := .ref a) g1 (by rw [g.mg]; exact ha) rfl g2) fun v H Q q => lift_const (fun H => by unfold RW; exact ⟨a, rfl, by rw [e]; exact ha⟩) q
    · cases h
theorem boot_ty : ∀ n ∈ tyNms, bootBuiltins (Str.ofString n) = some (.type n) ∧ Str.ofString n ≠ ("__name__" : Str) := by decide +kernel
theorem snd_ty (n : String) : Snd st (.ty n) := by
  refine sndV rfl rfl (fun {c x} h => ?_) (fun {G R c X H0 x} g h => ?_)
  · split at h
    · exact ⟨rfl, rfl⟩
    · cases h
  · split at h
    · simp only [Bool.and_eq_true, decide_eq_true_eq] at h
      obtain ⟨⟨h1, rfl⟩, h3⟩ := h
      obtain ⟨⟨g1, g2⟩, g3⟩ := free_of g.toGd0 h3
      obtain ⟨b1, b2⟩ := boot_ty n (by simpa using h1)
      exact PE.weak (pe_bltn (v := .ty n) g1 g3 b1 rfl b2 g2) fun v H Q q => lift_const (fun H => rwT n) q
    · cases h
theorem snd_tup {l : T} (hl : Snd st l) : Snd st (.tup l) := by
  refine sndV rfl rfl (fun {c x} h => ?_) (fun {G R c X H0 x} g h => ?_)
  · split at h
    · exact ⟨rfl, rfl⟩
    · cases h
  · split at h
    · refine PE.weak (pe_tup (hl.d g h)) fun v H Q ⟨σ, S, Q0, h0, hv, hs, h, k⟩ => ?_
      exact ⟨σ, S, _, h0, hv, hs, h, fun ws S' xs H' ⟨hn, hq⟩ g1 rw hs' => ⟨by rw [← rw.length]; exact hn, fun p hp =>
        k _ _ _ _ hq (g1.trans (Grow.new hp)) (by unfold RW; exact ⟨p, xs, rfl, SqT.of L2.upd_same, rw.mono (Grow.new hp)⟩) (hs'.new hp)⟩⟩
    · cases h
theorem snd_lst {l : T} (hl : Snd st l) : Snd st (.lst l) := by
  refine sndV rfl rfl (fun {c x} h => ?_) (fun {G R c X H0 x} g h => ?_)
  · split at h
    · exact ⟨rfl, rfl⟩
    · cases h
  · split at h
    · refine PE.weak (pe_lst (hl.d g h)) fun v H Q ⟨σ, S, Q0, h0, hv, hs, h, k⟩ => ?_
      exact ⟨σ, S, _, h0, hv, hs, h, fun ws S' xs H' ⟨hn, hq⟩ g1 rw hs' => ⟨by rw [← rw.length]; exact hn, fun p hp =>
        k _ _ _ _ (hq p (hs'.free hp)) (g1.trans (Grow.new hp)) (rwL p) (hs'.newL hp rw)⟩⟩
    · cases h
theorem snd_bin (o : Operator) {a b : T} (ha : Snd st a) (hb : Snd st b) : Snd st (.bin o a b) := by
  refine sndV rfl rfl (fun {c x} h => ?_) (fun {G R c X H0 x} g h => ?_)
  · split at h
    · exact ⟨rfl, rfl⟩
    · cases h
  · split at h
    · simp only [Bool.and_eq_true, decide_eq_true_eq] at h
      obtain ⟨⟨rfl, h2⟩, h3⟩ := h
      exact PE.weak (pe_op (opW_ok g.K o) (ha.e g h2) (hb.e g h3)) fun v H Q q => lift_two q
    · cases h
theorem snd_neg {a : T} (ha : Snd st a) : Snd st (.neg a) := by
  refine sndV rfl rfl (fun {c x} h => ?_) (fun {G R c X H0 x} g h => ?_)
  · split at h
    · exact ⟨rfl, rfl⟩
    · cases h
  · split at h
    · refine PE.weak (pe_un un_neg (ha.e g h)) fun v H Q ⟨σ, S, Q0, h0, hv, hs, h, k⟩ => ?_
      refine ⟨σ, S, _, h0, hv, hs, h, fun w S' y H' hw g1 rw hs' => ?_⟩
      cases w with
      | int i => rw [rw_int rw]; exact ⟨i, rfl, k _ S' _ H' hw g1 (rwI _) hs'⟩
      | _ => exact False.elim hw
    · cases h
theorem snd_not {a : T} (ha : Snd st a) : Snd st (.not a) := by
  refine sndBase rfl rfl (fun {c x} h => ?_) (fun {G R c X H0 x} g h => ?_) (fun {G R c X H0 x} g h => ?_)
  · split at h
    · rfl
    · cases h
  · split at h
    · refine PE.weak (pe_notT (ha.e g h)) fun v H Q ⟨σ, S, Q0, h0, hv, hs, h, k⟩ => ?_
      refine ⟨σ, S, _, h0, hv, hs, h, fun w S' y H' hw g1 rw hs' => ?_⟩
      obtain ⟨b, hb, q⟩ := truW_ok hs' hw rw
      exact ⟨b, by rw [g.K]; exact hb, k _ S' _ H' q g1 (rwB _) hs'⟩
    · cases h
  · split at h
    · refine PT.weak (pt_not (ha.t g h)) fun v H Q ⟨σ, S, Q0, h0, hv, hs, h, k⟩ => ?_
      exact ⟨σ, S, _, h0, hv, hs, h, fun b S' H' hb g1 hs' => k _ S' H' hb g1 hs'⟩
    · cases h
section
variable {G : Ge} {H0 : Hp} {v : L2.St} {H : Hp} {ta tl : WE}
theorem lift_and {K : PySem.W.Frag} (hK : K = G.K) {Q : VK} (h : liftE G H0 (fun σ S Q => ta σ S fun x S1 => truW x S1 fun b => if b = true then tl σ S1 Q else Q x S1) v H Q) : tAndT K (liftE G H0 ta) (liftE G H0 tl) v H Q := by
  obtain ⟨σ, S, Q0, h0, hv, hs, h, k⟩ := h
  refine ⟨σ, S, _, h0, hv, hs, h, fun w S' y H' hw g1 rw hs' => ?_⟩
  obtain ⟨b, hb, q⟩ := truW_ok hs' hw rw
  refine ⟨b, by rw [hK]; exact hb, ?_⟩
  cases b with
  | true =>
    simp only [if_true] at q ⊢
    exact ⟨σ, S', Q0, h0.trans g1, hv.mono g1, hs', q, fun w2 S2 y2 H2 hw2 g2 r2 hs2 => k w2 S2 y2 H2 hw2 (g1.trans g2) r2 hs2⟩
  | false =>
    simp only [Bool.false_eq_true, if_false] at q ⊢
    exact k w S' y H' q g1 rw hs'
theorem lift_or {K : PySem.W.Frag} (hK : K = G.K) {Q : VK} (h : liftE G H0 (fun σ S Q => ta σ S fun x S1 => truW x S1 fun b => if b = true then Q x S1 else tl σ S1 Q) v H Q) : tOrT K (liftE G H0 ta) (liftE G H0 tl) v H Q := by
  obtain ⟨σ, S, Q0, h0, hv, hs, h, k⟩ := h
  refine ⟨σ, S, _, h0, hv, hs, h, fun w S' y H' hw g1 rw hs' => ?_⟩
  obtain ⟨b, hb, q⟩ := truW_ok hs' hw rw
  refine ⟨b, by rw [hK]; exact hb, ?_⟩
  cases b with
  | false =>
    simp only [Bool.false_eq_true, if_false] at q ⊢
    exact ⟨σ, S', Q0, h0.trans g1, hv.mono g1, hs', q, fun w2 S2 y2 H2 hw2 g2 r2 hs2 => k w2 S2 y2 H2 hw2 (g1.trans g2) r2 hs2⟩
  | true =>
    simp only [if_true] at q ⊢
    exact k w S' y H' q g1 rw hs'
theorem lift_tand {ta tl : WT} {Q : Bool → Hp → Prop} (h : liftT G H0 (fun σ S Q => ta σ S fun b S1 => if b = true then tl σ S1 Q else Q false S1) v H Q) : tAnd (liftT G H0 ta) (liftT G H0 tl) v H Q := by
  obtain ⟨σ, S, Q0, h0, hv, hs, h, k⟩ := h
  refine ⟨σ, S, _, h0, hv, hs, h, fun b S' H' q g1 hs' => ?_⟩
  cases b with
  | true =>
    simp only [if_true] at q ⊢
    exact ⟨σ, S', Q0, h0.trans g1, hv.mono g1, hs', q, fun w2 S2 H2 hw2 g2 hs2 => k w2 S2 H2 hw2 (g1.trans g2) hs2⟩
  | false =>
    simp only [Bool.false_eq_true, if_false] at q ⊢
    exact k _ S' H' q g1 hs'
theorem lift_tor {ta tl : WT} {Q : Bool → Hp → Prop} (h : liftT G H0 (fun σ S Q => ta σ S fun b S1 => if b = true then Q true S1 else tl σ S1 Q) v H Q) : tOr (liftT G H0 ta) (liftT G H0 tl) v H Q := by
  obtain ⟨σ, S, Q0, h0, hv, hs, h, k⟩ := h
  refine ⟨σ, S, _, h0, hv, hs, h, fun b S' H' q g1 hs' => ?_⟩
  cases b with
  | false =>
    simp only [Bool.false_eq_true, if_false] at q ⊢
    exact ⟨σ, S', Q0, h0.trans g1, hv.mono g1, hs', q, fun w2 S2 H2 hw2 g2 hs2 => k w2 S2 H2 hw2 (g1.trans g2) hs2⟩
  | true =>
    simp only [if_true] at q ⊢
    exact k _ S' H' q g1 hs'
end
theorem PW.weak {X : Cx} {e : Expr} {t t' : TT} (h : L2.PW X e t) (k : ∀ σ H Q, t' σ H Q → t σ H Q) : L2.PW X e t' := ⟨fun wh pins s σ H Q I q => h.run wh pins s σ H Q I (k _ _ _ q)⟩
theorem and_full {G R c X H0} {a l : T} (ha : Snd st a) (hl : Snd st l) (g : Gd st G R c X H0) {x y : Expr} {r : List Expr} {pos : Pos} (h1 : (chk st a).e c x = true) (h2 : (chk st l).an c (y :: r) = true) :
    PE X (.BoolOp .And (x :: y :: r) pos) (liftE G H0 ((rd (.and a l)).e R)) ∧ L2.PW X (.BoolOp .And (x :: y :: r) pos) (liftT G H0 ((rd (.and a l)).t R)) :=
  ⟨PE.weak (pe_andT (ha.e g h1) (hl.an g h2).1) fun v H Q q => lift_and g.K q, PW.weak (pw_and (ha.t g h1) (hl.an g h2).2) fun v H Q q => lift_tand q⟩
theorem or_full {G R c X H0} {a l : T} (ha : Snd st a) (hl : Snd st l) (g : Gd st G R c X H0) {x y : Expr} {r : List Expr} {pos : Pos} (h1 : (chk st a).e c x = true) (h2 : (chk st l).or c (y :: r) = true) :
    PE X (.BoolOp .Or (x :: y :: r) pos) (liftE G H0 ((rd (.or a l)).e R)) ∧ L2.PW X (.BoolOp .Or (x :: y :: r) pos) (liftT G H0 ((rd (.or a l)).t R)) :=
  ⟨PE.weak (pe_orT (ha.e g h1) (hl.or g h2).1) fun v H Q q => lift_or g.K q, PW.weak (pw_or (ha.t g h1) (hl.or g h2).2) fun v H Q q => lift_tor q⟩
theorem snd_and {a l : T} (ha : Snd st a) (hl : Snd st l) : Snd st (.and a l) := by
  have full : ∀ {G R c X H0} {es : List Expr} {pos : Pos}, Gd st G R c X H0 → (match es with
      | x :: y :: r => (chk st a).e c x && (chk st l).an c (y :: r)
      | _ => false) = true → PE X (.BoolOp .And es pos) (liftE G H0 ((rd (.and a l)).e R)) ∧ L2.PW X (.BoolOp .And es pos) (liftT G H0 ((rd (.and a l)).t R)) := by
    intro G R c X H0 es pos g h
    split at h
    · rw [Bool.and_eq_true] at h
      exact and_full ha hl g h.1 h.2
    · cases h
  have hx : ∀ {c : Cf} {x : Expr}, (match x with
      | .BoolOp .And es _ => (match es with
        | x :: y :: r => (chk st a).e c x && (chk st l).an c (y :: r)
        | _ => false)
      | _ => false) = true → ∃ es pos, x = .BoolOp .And es pos ∧ (match es with
        | x :: y :: r => (chk st a).e c x && (chk st l).an c (y :: r)
        | _ => false) = true := by
    intro c x h
    split at h
    · exact ⟨_, _, rfl, h⟩
    · cases h
  refine sndBase2 (OR := one _) (AN := _) rfl rfl (fun {c x} h => ?_) (fun {G R c X H0 x} g h => ?_) (fun {G R c X H0 x} g h => ?_) (fun {G R c X H0 es pos} g h => ?_) (fun {G R c X H0 es pos} g h => ?_)
  · obtain ⟨es, pos, rfl, _⟩ := hx h; rfl
  · obtain ⟨es, pos, rfl, h⟩ := hx h; exact (full g h).1
  · obtain ⟨es, pos, rfl, h⟩ := hx h; exact (full g h).2.pt
  · cases es with
    | nil => cases h
    | cons x r =>
      cases r with
      | nil =>
        obtain ⟨es, pos, rfl, h⟩ := hx h
        exact ⟨pe_one (full g h).1, pw_and1 (full g h).2.pt⟩
      | cons y r => exact full g h
  · exact (oneAn (X := X) (c := c) (fun {x} h => by obtain ⟨es, pos, rfl, h⟩ := hx h; exact (full g h).1) (fun {x} h => by obtain ⟨es, pos, rfl, h⟩ := hx h; exact (full g h).2.pt) h).2
theorem snd_or {a l : T} (ha : Snd st a) (hl : Snd st l) : Snd st (.or a l) := by
  have full : ∀ {G R c X H0} {es : List Expr} {pos : Pos}, Gd st G R c X H0 → (match es with
      | x :: y :: r => (chk st a).e c x && (chk st l).or c (y :: r)
      | _ => false) = true → PE X (.BoolOp .Or es pos) (liftE G H0 ((rd (.or a l)).e R)) ∧ L2.PW X (.BoolOp .Or es pos) (liftT G H0 ((rd (.or a l)).t R)) := by
    intro G R c X H0 es pos g h
    split at h
    · rw [Bool.and_eq_true] at h
      exact or_full ha hl g h.1 h.2
    · cases h
  have hx : ∀ {c : Cf} {x : Expr}, (match x with
      | .BoolOp .Or es _ => (match es with
        | x :: y :: r => (chk st a).e c x && (chk st l).or c (y :: r)
        | _ => false)
      | _ => false) = true → ∃ es pos, x = .BoolOp .Or es pos ∧ (match es with
        | x :: y :: r => (chk st a).e c x && (chk st l).or c (y :: r)
        | _ => false) = true := by
    intro c x h
    split at h
    · exact ⟨_, _, rfl, h⟩
    · cases h
  refine sndBase2 (OR := _) (AN := one _) rfl rfl (fun {c x} h => ?_) (fun {G R c X H0 x} g h => ?_) (fun {G R c X H0 x} g h => ?_) (fun {G R c X H0 es pos} g h => ?_) (fun {G R c X H0 es pos} g h => ?_)
  · obtain ⟨es, pos, rfl, _⟩ := hx h; rfl
  · obtain ⟨es, pos, rfl, h⟩ := hx h; exact (full g h).1
  · obtain ⟨es, pos, rfl, h⟩ := hx h; exact (full g h).2.pt
  · exact (oneAn (X := X) (c := c) (fun {x} h => by obtain ⟨es, pos, rfl, h⟩ := hx h; exact (full g h).1) (fun {x} h => by obtain ⟨es, pos, rfl, h⟩ := hx h; exact (full g h).2.pt) h).1
  · cases es with
    | nil => cases h
    | cons x r =>
      cases r with
      | nil =>
        obtain ⟨es, pos, rfl, h⟩ := hx h
        exact ⟨pe_one (full g h).1, pw_or1 (full g h).2.pt⟩
      | cons y r => exact full g h
end
end PW

set_option Elab.async false
set_option linter.all false
set_option maxRecDepth 100000
set_option maxHeartbeats 2000000
/-! own prelude, part 8b: x[::-1] of a list, of a tuple -/
namespace PW
open PySem PySem.Spec PyProof.Rows L2
section
variable {prog : Program} {w : World} {A : Around} {E : Value → Shared → Prop} {s : Shared}
theorem sliceApplied_rev {sl : Addr} {vl vu vs : Value} {n : Nat} {Q : Int × Int × Nat → Shared → Prop} (hs : s.heap.IsSliceOf sl vl vu vs) (pl : IsPart vl none) (pu : IsPart vu none) (ps : IsPart vs (some (-1)))
    (h : Q ((n : Int) - 1, -1, n) s) : wpAny (model prog w) A (Builtin.Slice.sliceApplied (.ref sl) (pure (n : Int))) Q E s := by
  obtain ⟨os, hos, hcs, hds⟩ := id hs
  unfold Builtin.Slice.sliceApplied Builtin.Slice.sliceFields
  refine wpAny_bind (wpAny_bind (wpAny_field hos hds (x := vl) rfl (wpAny_bind (wpAny_field hos hds (x := vu) rfl (wpAny_bind (wpAny_field hos hds (x := vs) rfl (wpAny_pure ?_)))))))
  refine wpAny_bind (HT.slicePart_ ps ?_)
  show wpAny _ _ (if ((-1 : Int) == 0) = true then _ else _) _ _ s
  rw [if_neg (by decide)]
  refine wpAny_bind (HT.slicePart_ pl (wpAny_bind (HT.slicePart_ pu (wpAny_bind (wpAny_pure ?_)))))
  have e : Builtin.Slice.sliceAdjust none none (-1) (n : Int) = ((n : Int) - 1, -1) := rfl
  show wpAny _ _ (match Builtin.Slice.sliceAdjust none none (-1) (n : Int) with | (lo, hi) => pure (lo, (-1 : Int), Builtin.Slice.slicePlaces lo hi (-1))) _ _ s
  rw [e]
  show wpAny _ _ (pure ((n : Int) - 1, (-1 : Int), Builtin.Slice.slicePlaces ((n : Int) - 1) (-1) (-1))) _ _ s
  have e2 : Builtin.Slice.slicePlaces ((n : Int) - 1) (-1) (-1) = n := by
    unfold Builtin.Slice.slicePlaces
    rw [if_neg (by omega)]
    split
    · rw [show -(-1 : Int) = 1 from rfl, Int.ediv_one]
      omega
    · omega
  rw [e2]
  exact wpAny_pure h
theorem pick_rev (xs : Array Value) : ((List.range xs.size).filterMap fun (m : Nat) => xs[(((xs.size : Nat) : Int) - 1 + (m : Int) * (-1)).toNat]?).toArray = xs.toList.reverse.toArray := by
  congr 1
  apply List.ext_getElem?
  intro i
  have e : ∀ n : Nat, n ≤ xs.size → (List.range n).filterMap (fun (m : Nat) => xs[(((xs.size : Nat) : Int) - 1 + (m : Int) * (-1)).toNat]?) = (xs.toList.reverse).take n := by
    intro n
    induction n with
    | zero => intro _; rfl
    | succ n ih =>
      intro hn
      rw [List.range_succ, List.filterMap_append, ih (by omega), List.take_succ]
      congr 1
      have h1 : (((xs.size : Nat) : Int) - 1 + (n : Int) * (-1)).toNat = xs.size - 1 - n := by omega
      have h2 : n < xs.toList.length := by rw [Array.length_toList]; omega
      rw [List.getElem?_reverse h2, List.filterMap_cons, h1]
      simp
      have h3 : xs.size - 1 - n < xs.size := by omega
      rw [Array.getElem?_eq_getElem h3]
      rfl
  rw [e xs.size (Nat.le_refl _), List.take_of_length_le (by simp)]
theorem getItem_tuple_rev {t sl : Addr} {items : Array Value} {vl vu vs : Value} {Q : Value → Shared → Prop} (ht : IsTup s.heap t items) (hs : s.heap.IsSliceOf sl vl vu vs) (pl : IsPart vl none) (pu : IsPart vu none) (ps : IsPart vs (some (-1)))
    (h : Q (.ref s.heap.objs.size) { s with heap := s.heap.push { cls := .type "tuple", data := .seq items.toList.reverse.toArray } })
    (hsz : items.size ≤ sizeLine) : wpAny (model prog w) A (getItem (.ref t) (.ref sl)) Q E s := by
  have htake : sizeOk (.seq items.toList.reverse.toArray) := by
    show items.toList.reverse.toArray.size ≤ sizeLine
    rw [List.size_toArray, List.length_reverse, Array.length_toList]
    exact hsz
  obtain ⟨os, hos, hcs, hds⟩ := id hs
  have hTs : s.TypeIs (.ref sl) "slice" := ⟨os, hos, hcs⟩
  unfold getItem
  try with_reducible refine wpAny_holding ?_
  first | refine wpAny_bind (wpAny_pure ?_) | skip
  refine wpAny_bind (wpAny_sequenceKey ht.typeIs (by decide) ?_)
  refine wpAny_bind (wpAny_callSpecial?_slot (name := Str.ofString "__getitem__") ht.typeIs PyProof.Rows.slot_tuple_getitem
    (wpAny_call_entry PyProof.Rows.slot_tuple_getitem ht.typeIs entry_tuple_getitem ?_ (args_tuple_getitem _ _)))
  show wpAny _ _ (Builtin.Tuple.tupleItemsOf (.ref t) >>= _) _ _ s
  refine wpAny_bind (tupleItemsOf_ ht ?_)
  refine wpAny_bind (wpAny_typeOf hTs ?_)
  rw [if_pos (by decide)]
  refine wpAny_bind (sliceApplied_rev hs pl pu ps ?_)
  have hno : ¬ (((((items.size : Nat) : Int) - 1) == 0 && (-1 : Int) == 1 && items.size == items.size) = true) := by
    intro q
    rw [Bool.and_eq_true, Bool.and_eq_true] at q
    exact absurd q.1.2 (by decide)
  show wpAny _ _ (if ((((items.size : Nat) : Int) - 1) == 0 && (-1 : Int) == 1 && items.size == items.size) = true then _ else _) _ _ s
  rw [if_neg hno, pick_rev]
  first
    | exact wpAny_bind (m := Builtin.Tuple.tupleExact _) (wpAny_newObj_type (wpAny_pure ⟨_, rfl, wpAny_pure h⟩) htake)
    | exact wpAny_bind (m := Builtin.Tuple.tupleExact _) (wpAny_newObj_type (wpAny_bind (wpAny_pure (wpAny_pure ⟨_, rfl, wpAny_pure h⟩))) htake)
    | exact wpAny_bind (wpAny_bind (m := Builtin.Tuple.tupleExact _) (wpAny_newObj_type (wpAny_pure (wpAny_pure ⟨_, rfl, wpAny_pure h⟩)) htake))
    | exact wpAny_bind (wpAny_bind (m := Builtin.Tuple.tupleExact _) (wpAny_newObj_type (wpAny_pure ⟨_, rfl, wpAny_pure h⟩) htake))
end
section
variable {X : Cx}
def tRevA (K : PySem.W.Frag) (te : TE) : TE := fun σ H Q => te σ H fun x H1 => ∃ a xs, x = .ref a ∧ ((SqL K H1 a xs ∧ ∀ p, H1 p = none → Q (.ref p) (upd H1 p (.lst xs.reverse))) ∨ (SqT K H1 a xs ∧ ∀ p, H1 p = none → Q (.ref p) (upd H1 p (.tup xs.reverse))))
theorem pe_revA {e : Expr} {te : TE} {k : Nat} {p1 p2 p3 pos : Pos} (he : PE X e te) : PE X (.Subscript e (.Slice none none (some (.UnaryOp .USub (.Constant (.int 1) k p1) p2)) p3) pos) (tRevA X.K te) := by
  refine ⟨fun pins s σ H Q I h => ?_⟩
  refine Subscript_ (thn (he.run pins s σ H _ I h) fun v s1 ⟨x, H1, I1, r1, q1⟩ => ?_)
  obtain ⟨a, xs, ex, q⟩ := q1
  subst ex
  cases r1
  have hst : PO X (some (.UnaryOp .USub (.Constant (.int 1) k p1) p2)) (tPart (tUn (rU fun i => .int (-i)) (tC (.int 1)))) := po_some (pe_un un_neg pe_int)
  refine wpAny_Slice (thn (po_none.run pins s1 σ H1 (fun o H2 => o = none ∧ H2 = H1) I1 ⟨rfl, rfl⟩) fun vl s2 ⟨l, H2, I2, pl, el, e2⟩ => ?_)
  subst el e2
  refine thn (po_none.run pins s2 σ H2 (fun o H3 => o = none ∧ H3 = H2) I2 ⟨rfl, rfl⟩) fun vu s3 ⟨u, H3, I3, pu, eu, e3⟩ => ?_
  subst eu e3
  refine thn (hst.run pins s3 σ H3 (fun o H4 => o = some (-1) ∧ H4 = H3) I3 ⟨1, rfl, -1, rfl, rfl, rfl⟩) fun vs s4 ⟨o, H4, I4, ps, eo, e4⟩ => ?_
  subst eo e4
  have I5 : Inv X pins σ H4 { s4 with heap := s4.heap.push { cls := .type "slice", data := .fields #[vl, vu, vs] } } := I4.kept (t' := s4.toks) fun b ob q => Heap.get?_push_of_some _ q
  show wpAny (model X.prog X.w) X.A (subscriptTail e (.Slice none none (some (.UnaryOp .USub (.Constant (.int 1) k p1) p2)) p3) (.ref a) (.ref s4.heap.objs.size)) (EP X pins σ Q) X.xe { s4 with heap := s4.heap.push { cls := .type "slice", data := .fields #[vl, vu, vs] } }
  rcases q with ⟨hx, q⟩ | ⟨hx, q⟩
  · obtain ⟨its, r, ht, hz⟩ := I5.list hx
    have hlen := r.length
    refine tail_any (ops := [.ref a, .ref s4.heap.objs.size]) ht.isList.typeIs (PySem.slot_list_getitem.lookup) ?_ (by with_unfolding_all rfl)
    refine wpAny_getItem_list_slice ht.isList (Heap.IsSliceOf.new _ vl vu vs) pl pu ps (by decide) ?_ (by rw [List.size_toArray]; omega)
    rw [PySem.W.krv_pick]
    refine ⟨.ref _, _, I5.laid (t' := s4.toks) (o := .lst xs.reverse) (fun b ob q => Heap.get?_push_of_some _ q) (Nat.le_refl _) ?_, rfl, q _ (I5.hok.fresh (Nat.le_refl _))⟩
    exact ⟨by rw [List.length_reverse]; exact hz, _, 0, r.reverse, Heap.get?_push_size _ rfl⟩
  · obtain ⟨its, r, ht, hz⟩ := I5.tuple hx
    have hlen : its.toArray.size = xs.length := by rw [List.size_toArray]; exact r.length.symm
    refine tail_any (ops := [.ref a, .ref s4.heap.objs.size]) ht.typeIs PyProof.Rows.slot_tuple_getitem.lookup ?_ (by with_unfolding_all rfl)
    refine getItem_tuple_rev ht (Heap.IsSliceOf.new _ vl vu vs) pl pu ps ?_ (by rw [hlen]; exact hz)
    refine ⟨.ref _, _, I5.laid (t' := s4.toks) (o := .tup xs.reverse) (fun b ob q => Heap.get?_push_of_some _ q) (Nat.le_refl _) ?_, rfl, q _ (I5.hok.fresh (Nat.le_refl _))⟩
    exact ⟨by rw [List.length_reverse]; exact hz, _, r.reverse, IsTup.new _ _⟩
end
end PW

set_option Elab.async false
set_option linter.all false
set_option maxRecDepth 100000
set_option maxHeartbeats 2000000
/-! own prelude, part 9: the cases of expressions, further -/
namespace PW
open PySem PySem.Spec PyProof.Rows L2
section
variable {G : Ge} {H0 : Hp} {v : L2.St} {H : Hp}
theorem lift_cmpT {ta tb : WE} {f : Vl → Vl → Sto → (Bool → Prop) → Prop} {Q : Bool → Hp → Prop} (h : liftT G H0 (fun σ S Q => ta σ S fun x S1 => tb σ S1 fun y S2 => f x y S2 fun b => Q b S2) v H Q) :
    tTest (tOp (rcW G f) (liftE G H0 ta) (liftE G H0 tb)) v H Q := by
  obtain ⟨σ, S, Q0, h0, hv, hs, h, k⟩ := h
  exact ⟨σ, S, _, h0, hv, hs, h, fun x S1 vx H1 hx g1 rx hs1 => ⟨σ, S1, _, h0.trans g1, hv.mono g1, hs1, hx, fun y S2 vy H2 hy g2 ry hs2 =>
    ⟨x, y, S2, _, rx.mono g2, ry, hs2, hy, fun b hb => ⟨b, rfl, k b S2 H2 hb (g1.trans g2) hs2⟩⟩⟩⟩
theorem lift_chn {ta tb tc : WE} {f f' : Vl → Vl → Sto → (Bool → Prop) → Prop} {Q : VK} (h : liftE G H0 (fun σ S Q => ta σ S fun x S1 => tb σ S1 fun y S2 => f x y S2 fun k =>
      if k = true then tc σ S2 fun z S3 => f' y z S3 fun k' => Q (.bl k') S3 else Q (.bl false) S2) v H Q) : tChain (rcW G f) (rcW G f') (liftE G H0 ta) (liftE G H0 tb) (liftE G H0 tc) v H Q := by
  obtain ⟨σ, S, Q0, h0, hv, hs, h, k⟩ := h
  refine ⟨σ, S, _, h0, hv, hs, h, fun x S1 vx H1 hx g1 rx hs1 => ⟨σ, S1, _, h0.trans g1, hv.mono g1, hs1, hx, fun y S2 vy H2 hy g2 ry hs2 =>
    ⟨x, y, S2, _, rx.mono g2, ry, hs2, hy, fun b hb => ⟨b, rfl, ?_⟩⟩⟩⟩
  cases b with
  | true =>
    simp only [if_true] at hb ⊢
    exact ⟨σ, S2, _, (h0.trans g1).trans g2, (hv.mono g1).mono g2, hs2, hb, fun z S3 vz H3 hz g3 rz hs3 => ⟨y, z, S3, _, ry.mono g3, rz, hs3, hz, fun b' hb' => k _ S3 _ H3 hb' ((g1.trans g2).trans g3) (rwB b') hs3⟩⟩
  | false =>
    simp only [Bool.false_eq_true, if_false] at hb ⊢
    exact k _ S2 _ H2 hb (g1.trans g2) (rwB _) hs2
theorem lift_chnT {ta tb tc : WE} {f f' : Vl → Vl → Sto → (Bool → Prop) → Prop} {Q : Bool → Hp → Prop} (h : liftT G H0 (fun σ S Q => ta σ S fun x S1 => tb σ S1 fun y S2 => f x y S2 fun k =>
      if k = true then tc σ S2 fun z S3 => f' y z S3 fun k' => Q k' S3 else Q false S2) v H Q) : tTest (tChain (rcW G f) (rcW G f') (liftE G H0 ta) (liftE G H0 tb) (liftE G H0 tc)) v H Q := by
  obtain ⟨σ, S, Q0, h0, hv, hs, h, k⟩ := h
  refine ⟨σ, S, _, h0, hv, hs, h, fun x S1 vx H1 hx g1 rx hs1 => ⟨σ, S1, _, h0.trans g1, hv.mono g1, hs1, hx, fun y S2 vy H2 hy g2 ry hs2 =>
    ⟨x, y, S2, _, rx.mono g2, ry, hs2, hy, fun b hb => ⟨b, rfl, ?_⟩⟩⟩⟩
  cases b with
  | true =>
    simp only [if_true] at hb ⊢
    exact ⟨σ, S2, _, (h0.trans g1).trans g2, (hv.mono g1).mono g2, hs2, hb, fun z S3 vz H3 hz g3 rz hs3 => ⟨y, z, S3, _, ry.mono g3, rz, hs3, hz, fun b' hb' => ⟨b', rfl, k _ S3 H3 hb' ((g1.trans g2).trans g3) hs3⟩⟩⟩
  | false =>
    simp only [Bool.false_eq_true, if_false] at hb ⊢
    exact ⟨false, rfl, k _ S2 H2 hb (g1.trans g2) hs2⟩
theorem lift_ite {tc : WT} {ta tb : WE} {Q : VK} (h : liftE G H0 (fun σ S Q => tc σ S fun k S1 => if k = true then ta σ S1 Q else tb σ S1 Q) v H Q) : tIf (liftT G H0 tc) (liftE G H0 ta) (liftE G H0 tb) v H Q := by
  obtain ⟨σ, S, Q0, h0, hv, hs, h, k⟩ := h
  refine ⟨σ, S, _, h0, hv, hs, h, fun b S' H' q g1 hs' => ?_⟩
  cases b with
  | true =>
    simp only [if_true] at q ⊢
    exact ⟨σ, S', Q0, h0.trans g1, hv.mono g1, hs', q, fun w2 S2 y2 H2 hw2 g2 r2 hs2 => k w2 S2 y2 H2 hw2 (g1.trans g2) r2 hs2⟩
  | false =>
    simp only [Bool.false_eq_true, if_false] at q ⊢
    exact ⟨σ, S', Q0, h0.trans g1, hv.mono g1, hs', q, fun w2 S2 y2 H2 hw2 g2 r2 hs2 => k w2 S2 y2 H2 hw2 (g1.trans g2) r2 hs2⟩
/-- a if t else b, as a test -/
theorem pt_ite {X : Cx} {d a b : Expr} {pos : Pos} {td ta tb : TT} (hd : PT X d td) (ha : PT X a ta) (hb : PT X b tb) : PT X (.IfExp d a b pos) (fun σ H Q => td σ H fun k H1 => if k = true then ta σ H1 Q else tb σ H1 Q) := by
  refine ⟨fun pins s σ H Q I h => ?_⟩
  rw [arm_isTrue_IfExp]
  refine wpAny_bind (thn (hd.run pins s σ H _ I h) fun k s1 ⟨H1, I1, q⟩ => ?_)
  cases k with
  | true =>
    simp only [if_true] at q ⊢
    exact ha.run pins s1 σ H1 Q I1 q
  | false =>
    simp only [Bool.false_eq_true, if_false] at q ⊢
    exact hb.run pins s1 σ H1 Q I1 q
theorem lift_iteT {tc ta tb : WT} {Q : Bool → Hp → Prop} (h : liftT G H0 (fun σ S Q => tc σ S fun k S1 => if k = true then ta σ S1 Q else tb σ S1 Q) v H Q) : liftT G H0 tc v H fun k H1 => if k = true then liftT G H0 ta v H1 Q else liftT G H0 tb v H1 Q := by
  obtain ⟨σ, S, Q0, h0, hv, hs, h, k⟩ := h
  refine ⟨σ, S, _, h0, hv, hs, h, fun b S' H' q g1 hs' => ?_⟩
  cases b with
  | true =>
    simp only [if_true] at q ⊢
    exact ⟨σ, S', Q0, h0.trans g1, hv.mono g1, hs', q, fun w2 S2 H2 hw2 g2 hs2 => k w2 S2 H2 hw2 (g1.trans g2) hs2⟩
  | false =>
    simp only [Bool.false_eq_true, if_false] at q ⊢
    exact ⟨σ, S', Q0, h0.trans g1, hv.mono g1, hs', q, fun w2 S2 H2 hw2 g2 hs2 => k w2 S2 H2 hw2 (g1.trans g2) hs2⟩
theorem lift_slc {ta : WE} {tl th : WSt → Sto → (Option Int → Sto → Prop) → Prop} {Q : VK} (h : liftE G H0 (fun σ S Q => ta σ S fun x S1 => tl σ S1 fun l S2 => th σ S2 fun u S3 => slW x l u S3 Q) v H Q) :
    tSl (slR G) (liftE G H0 ta) (liftO G H0 tl) (liftO G H0 th) v H Q := by
  obtain ⟨σ, S, Q0, h0, hv, hs, h, k⟩ := h
  exact ⟨σ, S, _, h0, hv, hs, h, fun x S1 vx H1 hx g1 rx hs1 => ⟨σ, S1, _, h0.trans g1, hv.mono g1, hs1, hx, fun l S2 H2 hl g2 hs2 => ⟨σ, S2, _, (h0.trans g1).trans g2, (hv.mono g1).mono g2, hs2, hl, fun u S3 H3 hu g3 hs3 =>
    ⟨x, S3, Q0, (rx.mono g2).mono g3, hs3, hu, fun w S' z H' hw g4 rz hs4 => k w S' z H' hw (((g1.trans g2).trans g3).trans g4) rz hs4⟩⟩⟩⟩
end
section
variable {st : Stt}
theorem snd_cmp (o : CmpOp) {a b : T} (ha : Snd st a) (hb : Snd st b) : Snd st (.cmp o a b) := by
  refine sndBase (T' := truE _) rfl rfl (fun {c x} h => ?_) (fun {G R c X H0 x} g h => ?_) (fun {G R c X H0 x} g h => ?_)
  · split at h
    · rfl
    · cases h
  · split at h
    · simp only [Bool.and_eq_true, decide_eq_true_eq, Bool.not_eq_true'] at h
      obtain ⟨⟨⟨rfl, h2⟩, h3⟩, h4⟩ := h
      exact PE.weak (pe_cmpR (cmpW_ok g.K (Nat.lt_of_succ_lt g.un) o) (ha.e g h2) (hb.e g h3) h4) fun v H Q q => lift_cmp q
    · cases h
  · split at h
    · simp only [Bool.and_eq_true, decide_eq_true_eq, Bool.not_eq_true'] at h
      obtain ⟨⟨⟨rfl, h2⟩, h3⟩, h4⟩ := h
      exact PT.weak (pt_cmpR (cmpW_ok g.K (Nat.lt_of_succ_lt g.un) o) (ha.e g h2) (hb.e g h3) h4) fun v H Q q => lift_cmpT q
    · cases h
theorem marks2 {o p : CmpOp} {b d : Expr} : lastMarks [o, p] [b, d] = behindInMarks p d := rfl
theorem snd_chn (o p : CmpOp) {a b d : T} (ha : Snd st a) (hb : Snd st b) (hd : Snd st d) : Snd st (.chn o p a b d) := by
  refine sndBase (T' := truE _) rfl rfl (fun {c x} h => ?_) (fun {G R c X H0 x} g h => ?_) (fun {G R c X H0 x} g h => ?_)
  · split at h
    · rfl
    · cases h
  · split at h
    · simp only [Bool.and_eq_true, decide_eq_true_eq, Bool.not_eq_true'] at h
      obtain ⟨⟨⟨⟨⟨rfl, rfl⟩, h2⟩, h3⟩, h4⟩, h5⟩ := h
      exact PE.weak (pe_chain (cmpW_ok g.K (Nat.lt_of_succ_lt g.un) o) (cmpW_ok g.K (Nat.lt_of_succ_lt g.un) p) (ha.e g h2) (hb.e g h3) (hd.e g h4) (by rw [marks2]; exact h5)) fun v H Q q => lift_chn q
    · cases h
  · split at h
    · simp only [Bool.and_eq_true, decide_eq_true_eq, Bool.not_eq_true'] at h
      obtain ⟨⟨⟨⟨⟨rfl, rfl⟩, h2⟩, h3⟩, h4⟩, h5⟩ := h
      exact PT.weak (pt_chain (cmpW_ok g.K (Nat.lt_of_succ_lt g.un) o) (cmpW_ok g.K (Nat.lt_of_succ_lt g.un) p) (ha.e g h2) (hb.e g h3) (hd.e g h4) (by rw [marks2]; exact h5)) fun v H Q q => lift_chnT q
    · cases h
theorem snd_ite {d a b : T} (hd : Snd st d) (ha : Snd st a) (hb : Snd st b) : Snd st (.ite d a b) := by
  refine sndBase rfl rfl (fun {c x} h => ?_) (fun {G R c X H0 x} g h => ?_) (fun {G R c X H0 x} g h => ?_)
  · split at h
    · rfl
    · cases h
  · split at h
    · simp only [Bool.and_eq_true] at h
      exact PE.weak (pe_ifExp (hd.t g h.1.1) (ha.e g h.1.2) (hb.e g h.2)) fun v H Q q => lift_ite q
    · cases h
  · split at h
    · simp only [Bool.and_eq_true] at h
      exact PT.weak (pt_ite (hd.t g h.1.1) (ha.t g h.1.2) (hb.t g h.2)) fun v H Q q => lift_iteT q
    · cases h
theorem snd_ix {a i : T} (ha : Snd st a) (hi : Snd st i) : Snd st (.ix a i) := by
  refine sndV rfl rfl (fun {c x} h => ?_) (fun {G R c X H0 x} g h => ?_)
  · split at h
    · exact ⟨rfl, rfl⟩
    · cases h
  · split at h
    · simp only [Bool.and_eq_true] at h
      exact PE.weak (pe_ix (ixW_ok g.K) (ha.e g h.1) (hi.e g h.2) (ex_px (hi.ex h.2))) fun v H Q q => lift_two q
    · cases h
theorem snd_slc {a lo hi : T} (ha : Snd st a) (hl : Snd st lo) (hh : Snd st hi) : Snd st (.slc a lo hi) := by
  refine sndV rfl rfl (fun {c x} h => ?_) (fun {G R c X H0 x} g h => ?_)
  · split at h
    · exact ⟨rfl, rfl⟩
    · cases h
  · split at h
    · simp only [Bool.and_eq_true] at h
      exact PE.weak (pe_slice (slW_ok g.K) (ha.e g h.1.1) (hl.o g h.1.2) (hh.o g h.2)) fun v H Q q => lift_slc q
    · cases h
theorem snd_rev {a : T} (ha : Snd st a) : Snd st (.rev a) := by
  refine sndV rfl rfl (fun {c x} h => ?_) (fun {G R c X H0 x} g h => ?_)
  · split at h
    · exact ⟨rfl, rfl⟩
    · cases h
  · split at h
    · refine PE.weak (pe_revA (ha.e g h)) fun v H Q ⟨σ, S, Q0, h0, hv, hs, h, k⟩ => ?_
      refine ⟨σ, S, _, h0, hv, hs, h, fun w S' y H' hw g1 rw hs' => ?_⟩
      cases w with
      | lst p =>
        rw [rw_lst rw]
        cases e : S' p with
        | none => simp only [e] at hw
        | some ws =>
          simp only [e] at hw
          obtain ⟨xs, hp, hx⟩ := hs'.lst p ws e
          exact ⟨p, xs, rfl, .inl ⟨SqL.of hp, fun q hq => k _ _ _ _ (hw q (hs'.free hq)) (g1.trans (Grow.new hq)) (rwL q) (hs'.newL hq hx.reverse)⟩⟩
      | tup ws =>
        obtain ⟨a, xs, rfl, ha, hx⟩ := rw_tup rw
        exact ⟨a, xs, rfl, .inr ⟨by rw [g.K]; exact ha, fun q hq => k _ _ _ _ hw (g1.trans (Grow.new hq)) (by unfold RW; exact ⟨q, _, rfl, SqT.of L2.upd_same, hx.reverse.mono (Grow.new hq)⟩) (hs'.new hq)⟩⟩
      | _ => exact False.elim hw
    · cases h
/-- f(..) where the promise holds as nothing is shown -/
theorem run_G {X : Cx} {E : XK} {k : Nat} {f : Addr} {fd : FuncData} {ps : List Str} {sp : Sp} {pins : List (Addr × Obj)} {σ : L2.St} {H : Hp} {s : Shared} {Q : VK} {a : Args} {us : List Value} {vs : List V} {x : Sem Value} (F : FnG X.prog X.w X.K X.mg X.base k f fd ps sp) (hg : X.A.guards = some [])
    (hr : Room k X.A) (hx : Passes (L2.CX X.prog X.w) X E) (I : Inv X pins σ H s) (r : Vals vs us) (hb : us.length = ps.length → BindsTo s fd a (ps.zip us)) (h : sp vs H Q E) (e : x = call (.ref f) a.pos a.kw) :
    wpAny (model X.prog X.w) X.A x (EP X pins σ Q) X.xe s := by
  have hl : us.length = ps.length := by rw [← r.length]; exact F.len _ _ _ _ h
  rw [e]
  refine wpAny_call (codeAny_mono (F.run X.A X.stack s H a us vs Q E hg hr I.env0 (hb hl) r h) fun y s' hq => ?_)
  cases y with
  | error u => exact hx pins σ H s u s' I hq
  | ok fl => cases fl with
    | ret u => exact I.after hq
    | _ => exact False.elim hq
theorem lift_call {G : Ge} {R : Rc} {H0 : Hp} {ta : WA} {f : Nat} {v : L2.St} {H : Hp} {Q : VK} (h : liftE G H0 (fun σ S Q => ta σ S fun ws S1 => R.Γ f ws S1 Q R.E) v H Q) : liftA G H0 ta v H fun vs H1 => liftSp G (R.Γ f) vs H1 Q (liftX G H0 R.E) := by
  obtain ⟨σ, S, Q0, h0, hv, hs, h, k⟩ := h
  exact ⟨σ, S, _, h0, hv, hs, h, fun ws S1 xs H1 hw g1 rw hs1 => ⟨ws, S1, Q0, R.E, rw, hs1, hw, fun w S' x H' q g2 rx hs2 => k w S' x H' q (g1.trans g2) rx hs2, fun w S' cls d H' q g2 rx hs2 => ⟨w, S', (h0.trans g1).trans g2, rx, hs2, q⟩⟩⟩
theorem pass_of {G : Ge} {R : Rc} {c : Cf} {X : Cx} {H0 : Hp} (g : Gd0 st G R c X H0) : Passes (L2.CX X.prog X.w) X (liftX G H0 R.E) := passes_call g.tk fun _ _ _ _ h => h
theorem snd_call (f : Nat) {l : T} (hl : Snd st l) : Snd st (.call f l) := by
  refine sndV rfl rfl (fun {c x} h => ?_) (fun {G R c X H0 x} g h => ?_)
  · split at h
    · rename_i x p es pos
      cases es with
      | nil => simp at h
      | cons _ _ => exact ⟨rfl, rfl⟩
    · cases h
  · split at h
    · rename_i x p es pos
      simp only [Bool.and_eq_true, decide_eq_true_eq, Bool.not_eq_true'] at h
      obtain ⟨⟨⟨⟨h1, h2⟩, h3⟩, h4⟩, h5⟩ := h
      obtain ⟨ps, hp, hn⟩ := Option.map_eq_some_iff.mp h4
      obtain ⟨a, fd, k, ha, hk, hb, _, hr, F⟩ := g.defs f x ps h1 hp
      obtain ⟨g1, g2⟩ := gl_of g.toGd0 h2
      obtain ⟨hx, hA⟩ := hl.a g h3
      cases es with
      | nil => cases h5
      | cons e es =>
        refine PE.weak (t := fun v H Q => liftA G H0 ((rd l).a R) v H fun vs H1 => liftSp G (R.Γ f) vs H1 Q (liftX G H0 R.E)) ⟨fun pins s v H Q I q => ?_⟩ fun v H Q q => lift_call q
        rw [← g.K, ← g.mg] at F
        refine wpAny_Call_Name_kw (ld_glob I g1 (by rw [g.mg]; exact ha) ?_ g2)
        refine PySem.W.callWith_K (h₀ := X.base) I.ok.mod.kin (by rw [g.K]; exact hk) (thn (hA.run pos pins s v H _ I q) fun us s1 ⟨vs, H1, I1, r, q1⟩ => ⟨I1.kIn, ?_⟩) (ex_star (hx e List.mem_cons_self) es X.env) (stars_plain (fun y hy => hx y (List.mem_cons_of_mem _ hy)) pos X.env)
        exact run_G (a := ⟨us, []⟩) F g.gs hr (pass_of g.toGd0) I1 r (fun hn' => by
          have z := hb s1 us (by have := I1.kIn; rw [g.K] at this; exact this) (by rw [List.append_nil]; exact hn')
          rw [List.append_nil] at z
          exact z) q1 rfl
    · cases h
end
end PW

set_option Elab.async false
set_option linter.all false
set_option maxRecDepth 100000
set_option maxHeartbeats 2000000
/-! own prelude, part 10: lists of expressions, calls of all kinds, an error's value, what is heard -/
namespace PW
open PySem PySem.Spec PyProof.Rows L2
section
variable {G : Ge} {H0 : Hp} {v : L2.St} {H : Hp}
theorem lift_cons {ta : WE} {tl : WA} {Q : List V → Hp → Prop} (h : liftA G H0 (fun σ S Q => ta σ S fun x S1 => tl σ S1 fun ws S2 => Q (x :: ws) S2) v H Q) : tCons (liftE G H0 ta) (liftA G H0 tl) v H Q := by
  obtain ⟨σ, S, Q0, h0, hv, hs, h, k⟩ := h
  exact ⟨σ, S, _, h0, hv, hs, h, fun x S1 vx H1 hx g1 rx hs1 => ⟨σ, S1, _, h0.trans g1, hv.mono g1, hs1, hx, fun ws S2 xs H2 hw g2 rw hs2 => k _ S2 _ H2 hw (g1.trans g2) (.cons (rx.mono g2) rw) hs2⟩⟩
end
section
variable {st : Stt}
theorem snd_nil : Snd st .nil where
  ex := fun h => by cases h
  e := fun g h => by cases h
  t := fun g h => by cases h
  a := fun {G R c X H0 es} g h => by
    cases es with
    | cons _ _ => cases h
    | nil => exact ⟨fun x hx => (by cases hx), PA.weak pa_nil fun v H Q ⟨σ, S, Q0, h0, hv, hs, h, k⟩ => k [] S [] H h (Grow.refl _) .nil hs⟩
  k := fun {G R c X H0 ps ks} g h => by
    cases ks with
    | cons _ _ => cases h
    | nil =>
      refine ⟨⟨fun pos pins s v H Q I q => pk_nil.run pos pins s v H Q I ?_⟩, fun pos env => ⟨rfl, rfl, fun e => ?_⟩⟩
      · obtain ⟨σ, S, Q0, h0, hv, hs, h, k⟩ := q
        exact k [] S [] H h (Grow.refl _) .nil hs
      · cases ps with
        | nil => rfl
        | cons _ _ => cases e
  an := fun {G R c X H0 es pos} g h => by
    cases es with
    | nil => cases h
    | cons x r =>
      cases r with
      | nil => cases h
      | cons _ _ => cases h
  or := fun {G R c X H0 es pos} g h => by
    cases es with
    | nil => cases h
    | cons x r =>
      cases r with
      | nil => cases h
      | cons _ _ => cases h
  o := fun {G R c X H0 x} g h => by
    cases x with
    | some _ => cases h
    | none => exact ⟨fun pins s v H Q I q => po_none.run pins s v H Q I (by obtain ⟨σ, S, Q0, h0, hv, hs, h, k⟩ := q; exact k none S H h (Grow.refl _) hs)⟩
  c := fun {G R c X H0 es} g h => by
    cases es with
    | cons _ _ => cases h
    | nil => exact ⟨fun pins s v H Q I q => pts_nil.run pins s v H Q I (by obtain ⟨σ, S, Q0, h0, hv, hs, h, k⟩ := q; exact k true S H h (Grow.refl _) hs)⟩
  i := fun g h => by cases h
  d := fun {G R c X H0 es} g h => by
    cases es with
    | cons _ _ => cases h
    | nil => exact PA.weak pa_nil fun v H Q ⟨σ, S, Q0, h0, hv, hs, h, k⟩ => k [] S [] H h (Grow.refl _) .nil hs
theorem snd_cons {a l : T} (ha : Snd st a) (hl : Snd st l) : Snd st (.cons a l) where
  ex := fun h => by cases h
  e := fun g h => by cases h
  t := fun g h => by cases h
  a := fun {G R c X H0 es} g h => by
    cases es with
    | nil => cases h
    | cons x r =>
      have h1 : ((chk st a).e c x && (chk st l).a c r) = true := h
      rw [Bool.and_eq_true] at h1
      obtain ⟨hx, hA⟩ := hl.a g h1.2
      refine ⟨fun y hy => ?_, PA.weak (pa_cons (ha.e g h1.1) hA (ex_star (ha.ex h1.1) r X.env)) fun v H Q q => lift_cons q⟩
      rcases List.mem_cons.mp hy with rfl | hy
      · exact ha.ex h1.1
      · exact hx y hy
  k := fun {G R c X H0 ps ks} g h => by
    cases ps with
    | nil => cases h
    | cons p ps =>
    cases ks with
    | nil => cases h
    | cons kw ks =>
    obtain ⟨o, v, kp⟩ := kw
    cases o with
    | none => cases h
    | some n =>
      have h1 : (decide (n = p) && (chk st a).e c v && (chk st l).k c ps ks) = true := h
      simp only [Bool.and_eq_true, decide_eq_true_eq] at h1
      obtain ⟨⟨rfl, h2⟩, h3⟩ := h1
      obtain ⟨hk, hn⟩ := hl.k g h3
      refine ⟨⟨fun pos pins s v H Q I q => (pk_cons (nm := some n) (kpos := kp) (ha.e g h2) hk).run pos pins s v H Q I (lift_cons q)⟩, fun pos env => ?_⟩
      obtain ⟨n1, n2, n3⟩ := hn pos env
      refine ⟨?_, ?_, fun e => ?_⟩
      · show (true && (backToKw pos (keywordEach ks env)).all (·.1.isSome)) = true
        rw [Bool.true_and]; exact n1
      · show (false || (backToKw pos (keywordEach ks env)).any (·.1.isNone)) = false
        rw [Bool.false_or]; exact n2
      · show n :: (backToKw pos (keywordEach ks env)).filterMap (·.1) = n :: ps
        rw [n3 (by simpa using e)]
  an := fun {G R c X H0 es pos} g h => by
    cases es with
    | nil => cases h
    | cons x r =>
      cases r with
      | nil => cases h
      | cons _ _ => cases h
  or := fun {G R c X H0 es pos} g h => by
    cases es with
    | nil => cases h
    | cons x r =>
      cases r with
      | nil => cases h
      | cons _ _ => cases h
  o := fun {G R c X H0 x} g h => by cases h
  c := fun {G R c X H0 es} g h => by
    cases es with
    | nil => cases h
    | cons x r =>
      cases r with
      | nil => cases h
      | cons _ _ => cases h
  i := fun g h => by cases h
  d := fun {G R c X H0 es} g h => by
    cases es with
    | nil => cases h
    | cons x r =>
      have h1 : ((chk st a).e c x && (chk st l).d c r) = true := h
      rw [Bool.and_eq_true] at h1
      exact PA.weak (pa_cons (ha.e g h1.1) (hl.d g h1.2) (ex_star (ha.ex h1.1) r X.env)) fun v H Q q => lift_cons q
theorem lift_scons {G : Ge} {H0 : Hp} {K : PySem.W.Frag} (hK : K = G.K) {ta : WE} {tl : WA} {v : L2.St} {H : Hp} {Q : List V → Hp → Prop} (h : liftA G H0 (fun σ S Q => ta σ S fun x S1 => ∃ ws, x.seq S1 = some ws ∧ tl σ S1 fun us S2 => Q (ws ++ us) S2) v H Q) : StX.tStar K (liftE G H0 ta) (liftA G H0 tl) v H Q := by
  obtain ⟨σ, S, Q0, h0, hv, hs, h, k⟩ := h
  refine ⟨σ, S, _, h0, hv, hs, h, fun w S1 x H1 ⟨ws, e, hw⟩ g1 rw hs1 => ?_⟩
  obtain ⟨a, xs, rfl, hsq, hx⟩ := seq_read hs1 e rw
  refine ⟨a, xs, rfl, by rw [hK]; exact hsq.symm, σ, S1, _, h0.trans g1, hv.mono g1, hs1, hw, fun us S2 ys H2 hu g2 ru hs2 => ?_⟩
  exact k _ S2 _ H2 hu (g1.trans g2) ((hx.mono g2).append ru) hs2
theorem snd_scons {a l : T} (ha : Snd st a) (hl : Snd st l) : Snd st (.scons a l) where
  ex := fun h => by cases h
  e := fun g h => by cases h
  t := fun g h => by cases h
  a := fun {G R c X H0 es} g h => by cases h
  k := fun {G R c X H0 ps ks} g h => by cases h
  an := fun {G R c X H0 es pos} g h => by
    cases es with
    | nil => cases h
    | cons x r =>
      cases r with
      | nil => cases h
      | cons _ _ => cases h
  or := fun {G R c X H0 es pos} g h => by
    cases es with
    | nil => cases h
    | cons x r =>
      cases r with
      | nil => cases h
      | cons _ _ => cases h
  o := fun {G R c X H0 x} g h => by cases h
  c := fun {G R c X H0 es} g h => by
    cases es with
    | nil => cases h
    | cons x r =>
      cases r with
      | nil => cases h
      | cons _ _ => cases h
  i := fun g h => by cases h
  d := fun {G R c X H0 es} g h => by
    cases es with
    | nil => cases h
    | cons x r =>
      cases x with
      | Starred y p =>
        have h1 : ((chk st a).e c y && (chk st l).d c r) = true := h
        rw [Bool.and_eq_true] at h1
        exact PA.weak (StX.pa_star (ha.e g h1.1) (hl.d g h1.2) rfl) fun v H Q q => lift_scons g.K q
      | _ => cases h
theorem snd_no {τ : T} {E : Rc → WE} (hr : rd τ = mkV E) (hc : chk st τ = mkC noC) : Snd st τ :=
  sndV hr hc (fun h => by cases h) fun g h => by cases h
theorem chk_alen : ∀ (l : T) {c : Cf} {es : List Expr}, (chk st l).a c es = true → es.length = l.alen := by
  intro l
  induction l with
  | nil => intro c es h; cases es with
    | nil => rfl
    | cons _ _ => cases h
  | cons a l _ ih => intro c es h; cases es with
    | nil => cases h
    | cons x r =>
      have h1 : ((chk st a).e c x && (chk st l).a c r) = true := h
      rw [Bool.and_eq_true] at h1
      show r.length + 1 = l.alen + 1
      rw [ih h1.2]
  | _ => intro c es h; cases h
theorem snd_callk (f : Nat) {l kw : T} (hl : Snd st l) (hw : Snd st kw) : Snd st (.callk f l kw) := by
  refine sndV rfl rfl (fun {c x} h => ?_) (fun {G R c X H0 x} g h => ?_)
  · split at h
    · rename_i x p es ks pos
      cases es with
      | nil =>
        cases ks with
        | nil => simp at h
        | cons _ _ => exact ⟨rfl, rfl⟩
      | cons _ _ => exact ⟨rfl, rfl⟩
    · cases h
  · split at h
    · rename_i x p es ks pos
      simp only [Bool.and_eq_true, decide_eq_true_eq, Bool.not_eq_true'] at h
      obtain ⟨⟨⟨⟨h1, h2⟩, h3⟩, h4⟩, h5⟩ := h
      split at h5
      · rename_i ps hp
        simp only [Bool.and_eq_true, decide_eq_true_eq, Bool.not_eq_true'] at h5
        obtain ⟨⟨k1, k3⟩, k4⟩ := h5
        obtain ⟨a, fd, k, ham, hk, _, hb, hr, F⟩ := g.defs f x ps h1 hp
        obtain ⟨g1, g2⟩ := gl_of g.toGd0 h2
        obtain ⟨hx, hA⟩ := hl.a g h3
        obtain ⟨hkw, hn⟩ := hw.k g k4
        have hb' := hb es.length (by simpa using k1)
        have hlen := chk_alen l h3
        have hle : ks.length = ps.length - es.length := by omega
        cases es with
        | nil =>
          cases l with
          | nil =>
            refine PE.weak (t := fun v H Q => liftA G H0 (fun σ S Q => (rd kw).a R σ S fun us S2 => Q us S2) v H fun zs H2 => zs.length = kw.alen ∧ liftSp G (R.Γ f) zs H2 Q (liftX G H0 R.E)) ⟨fun pins s v H Q I q => ?_⟩ fun v H Q q => ?_
            · rw [← g.K, ← g.mg] at F
              rw [← g.K] at hb'
              obtain ⟨n1, n2, n3⟩ := hn pos X.env
              refine wpAny_Call_Name_kw (ld_glob I g1 (by rw [g.mg]; exact ham) ?_ g2)
              have hpl : ((backTo pos (starEach [] X.env)).any (·.1) || (backToKw pos (keywordEach ks X.env)).any (·.1.isNone)) = false := by rw [n2, stars_plain hx] <;> rfl
              refine PySem.W.callWith_KW0 (h₀ := X.base) I.ok.mod.kin (by rw [g.K]; exact hk) n1 ?_ hpl
              refine thn (hkw.run pos pins s v H _ I q) fun ws s2 ⟨zs, H2, I2, rz, l2, q2⟩ => ⟨I2.kIn, ?_⟩
              have lz := rz.length
              have hps : (backToKw pos (keywordEach ks X.env)).filterMap (·.1) = ps.drop 0 := n3 (by rw [List.length_drop]; exact hle)
              rw [hps]
              have kb : kbg 0 [] ws = ws := by unfold kbg; simp
              have hb2 : KBinds X.K fd ps (ps.drop 0) (kbg 0) (kbg 0) := hb'
              refine run_G (us := ws) (a := ⟨[], (ps.drop 0).zip ws⟩) F g.gs hr (pass_of g.toGd0) I2 rz (fun hn' => ?_) q2 rfl
              have z := hb2.to s2 [] ws I2.kIn (by rw [kb]; exact hn')
              rw [kb] at z
              exact z
            · obtain ⟨σ, S, Q0, h0, hv, hs, h, k⟩ := q
              exact ⟨σ, S, _, h0, hv, hs, h, fun us S2 ys H2 ⟨_, l2, hu⟩ g2 rw2 hs2 =>
                ⟨by rw [← rw2.length]; exact l2, us, S2, Q0, R.E, rw2, hs2, hu, fun w S' x H' q g3 rx hs3 => k w S' x H' q (g2.trans g3) rx hs3,
                  fun w S' cls d H' q g3 rx hs3 => ⟨w, S', (h0.trans g2).trans g3, rx, hs3, q⟩⟩⟩
          | _ => cases h3
        | cons e es =>
          refine PE.weak (t := fun v H Q => liftA G H0 ((rd l).a R) v H fun vs H1 => liftA G H0 (fun σ S Q => (rd kw).a R σ S fun us S2 => Q us S2) v H1 fun zs H2 => vs.length = l.alen ∧ zs.length = kw.alen ∧ liftSp G (R.Γ f) (vs ++ zs) H2 Q (liftX G H0 R.E)) ⟨fun pins s v H Q I q => ?_⟩ fun v H Q q => ?_
          · rw [← g.K, ← g.mg] at F
            rw [← g.K] at hb'
            obtain ⟨n1, n2, n3⟩ := hn pos X.env
            refine wpAny_Call_Name_kw (ld_glob I g1 (by rw [g.mg]; exact ham) ?_ g2)
            have hpl : ((backTo pos (starEach (e :: es) X.env)).any (·.1) || (backToKw pos (keywordEach ks X.env)).any (·.1.isNone)) = false := by rw [n2, stars_plain hx] <;> rfl
            refine PySem.W.callWith_KW (h₀ := X.base) I.ok.mod.kin (by rw [g.K]; exact hk) n1 (thn (hA.run pos pins s v H _ I q) fun us s1 ⟨vs, H1, I1, r, q1⟩ => ?_) hpl (ex_star (hx e List.mem_cons_self) es X.env)
            refine thn (hkw.run pos pins s1 v H1 _ I1 q1) fun ws s2 ⟨zs, H2, I2, rz, l1, l2, q2⟩ => ⟨I2.kIn, ?_⟩
            have lv := r.length
            have lz := rz.length
            have hps : (backToKw pos (keywordEach ks X.env)).filterMap (·.1) = ps.drop (e :: es).length := n3 (by rw [List.length_drop]; omega)
            rw [hps]
            have kb : kbg (e :: es).length us ws = us ++ ws := by unfold kbg; rw [if_pos (by rw [← lv, l1, hlen])]
            refine run_G (us := us ++ ws) (a := ⟨us, (ps.drop (e :: es).length).zip ws⟩) F g.gs hr (pass_of g.toGd0) I2 (?_ : Vals (vs ++ zs) (us ++ ws)) (fun hn' => ?_) q2 rfl
            · have z := hb'.rel r rz
              have kv : kbg (e :: es).length vs zs = vs ++ zs := by unfold kbg; rw [if_pos (by rw [l1, hlen])]
              rw [kb, kv] at z
              exact z
            · have z := hb'.to s2 us ws I2.kIn (by rw [kb]; exact hn')
              rw [kb] at z
              exact z
          · obtain ⟨σ, S, Q0, h0, hv, hs, h, k⟩ := q
            exact ⟨σ, S, _, h0, hv, hs, h, fun ws S1 xs H1 hw g1 rw hs1 => ⟨σ, S1, _, h0.trans g1, hv.mono g1, hs1, hw, fun us S2 ys H2 ⟨l1, l2, hu⟩ g2 rw2 hs2 =>
              ⟨by rw [← rw.length]; exact l1, by rw [← rw2.length]; exact l2, ws ++ us, S2, Q0, R.E, (rw.mono g2).append rw2, hs2, hu, fun w S' x H' q g3 rx hs3 => k w S' x H' q ((g1.trans g2).trans g3) rx hs3,
                fun w S' cls d H' q g3 rx hs3 => ⟨w, S', ((h0.trans g1).trans g2).trans g3, rx, hs3, q⟩⟩⟩⟩
      · cases h5
    · cases h
theorem boot_bn : ∀ b : Bn, bootBuiltins b.nm = some b.fv ∧ b.nm ≠ ("__name__" : Str) := by intro b; cases b <;> decide +kernel
theorem pe_blt {X : Cx} {b : Bn} {r : List V → Hp → VK → Prop} {e : Expr} {es : List Expr} {t : TA} {p pos : Pos} (hc : CallR X b.fv r) (hg : Gl X b.nm) (hm : X.mg b.nm = none) (ha : PA X (e :: es) t) (hdb : (b.nm == ("__debug__" : Str)) = false)
    (he : starEach (e :: es) X.env = (false, eval e X.env) :: starEach es X.env) (hpl : (backTo pos (starEach es X.env)).any (·.1) = false) : PE X (.Call (.Name b.nm p) (e :: es) [] pos) (fun v H Q => t v H fun vs H1 => r vs H1 Q) := by
  obtain ⟨b1, b2⟩ := boot_bn b
  cases b <;> first | exact pe_callB hc hg hm b1 ha b2 hdb he hpl | exact pe_callTy hc hg hm b1 ha b2 hdb he hpl
theorem lift_blt {G : Ge} {H0 : Hp} {ta : WA} {f : List Vl → Sto → WK → Prop} {v : L2.St} {H : Hp} {Q : VK} (h : liftE G H0 (fun σ S Q => ta σ S fun ws S1 => f ws S1 Q) v H Q) : liftA G H0 ta v H fun vs H1 => caW G f vs H1 Q := by
  obtain ⟨σ, S, Q0, h0, hv, hs, h, k⟩ := h
  exact ⟨σ, S, _, h0, hv, hs, h, fun ws S1 xs H1 hw g1 rw hs1 => ⟨ws, S1, Q0, rw, hs1, hw, fun w S' x H' q g2 rx hs2 => k w S' x H' q (g1.trans g2) rx hs2⟩⟩
theorem snd_blt (b : Bn) {l : T} (hl : Snd st l) : Snd st (.blt b l) := by
  refine sndV rfl rfl (fun {c x} h => ?_) (fun {G R c X H0 x} g h => ?_)
  · split at h
    · rename_i x p es pos
      cases es with
      | nil => simp at h
      | cons _ _ => exact ⟨rfl, rfl⟩
    · cases h
  · split at h
    · rename_i x p es pos
      simp only [Bool.and_eq_true, decide_eq_true_eq, Bool.not_eq_true'] at h
      obtain ⟨⟨⟨rfl, h2⟩, h3⟩, h4⟩ := h
      obtain ⟨⟨g1, g2⟩, g3⟩ := free_of g.toGd0 h2
      obtain ⟨hx, hA⟩ := hl.a g h3
      cases es with
      | nil => cases h4
      | cons e es =>
        exact PE.weak (pe_blt (bltW_ok g.K g.calm g.gs g.un (sb := R.sb) (by rw [g.sb]; exact g.gf.isx X g.K) b) g1 g3 hA g2 (ex_star (hx e List.mem_cons_self) es X.env) (stars_plain (fun y hy => hx y (List.mem_cons_of_mem _ hy)) pos X.env)) fun v H Q q => lift_blt q
    · cases h
theorem rws_rg {G : Ge} {H : Hp} (lo : Int) (n : Nat) : RWs G H (rangeW lo n) ((List.range n).map fun i => V.int (lo + (i : Nat))) := by
  unfold rangeW
  induction (List.range n) with
  | nil => exact .nil
  | cons a l ih => exact .cons (rwI _) ih
theorem snd_lrng {a : T} (ha : Snd st a) : Snd st (.lrng a) := by
  refine sndV rfl rfl (fun {c x} h => ?_) (fun {G R c X H0 x} g h => ?_)
  · split at h
    · exact ⟨rfl, rfl⟩
    · cases h
  · split at h
    · simp only [Bool.and_eq_true, decide_eq_true_eq] at h
      obtain ⟨⟨⟨⟨rfl, h1⟩, rfl⟩, h2⟩, h3⟩ := h
      obtain ⟨⟨g1, _⟩, g3⟩ := free_of g.toGd0 h1
      obtain ⟨⟨g4, _⟩, g5⟩ := free_of g.toGd0 h2
      refine PE.weak (pe_listRg g.calm g1 g3 (prg_1 g4 g5 (ha.e g h3) (ex_star (ha.ex h3) [] X.env))) fun v H Q ⟨σ, S, Q0, h0, hv, hs, h, k⟩ => ?_
      refine ⟨σ, S, _, h0, hv, hs, h, fun w S1 y H1 hw g1 rw hs1 => ?_⟩
      cases w with
      | int n =>
        obtain ⟨⟨n1, n2, n3⟩, hw⟩ := hw
        rw [rw_int rw]
        refine ⟨n, rfl, ⟨by decide, by decide, n1, n2, by simpa using n3⟩, fun q hq => k _ _ _ _ (hw q (hs1.free hq)) (g1.trans (Grow.new hq)) (rwL q) (hs1.newL hq ?_)⟩
        have e : rgV 0 n = (List.range n.toNat).map fun i => V.int (0 + (i : Nat)) := by unfold rgV; rw [Int.sub_zero]
        rw [e]
        exact rws_rg 0 n.toNat
      | _ => exact False.elim hw
    · cases h
theorem mn_facts : ∀ m : Mn, m.ok = true → Slot "list" m.nm m.id ∧ typeOf (.builtin m.id) = pure (.type "method_descriptor")
  | .append, _ => ⟨F.slot_list_append, F.type_list_append⟩
  | .pop, _ => ⟨F.slot_list_pop, F.type_list_pop⟩
  | .extend, _ => ⟨F.slot_list_extend, F.type_list_extend⟩
  | .reverse, _ => ⟨F.slot_list_reverse, F.type_list_reverse⟩
  | .upper, h => by cases h
  | .index, h => by cases h
  | .count, h => by cases h
theorem chk_none (l : T) {c : Cf} (h : (chk st l).a c [] = true) : l = .nil := by
  cases l <;> first | rfl | cases h
theorem snd_mth (m : Mn) {o l : T} (ho : Snd st o) (hl : Snd st l) : Snd st (.mth m o l) := by
  refine sndV rfl rfl (fun {c x} h => ?_) (fun {G R c X H0 x} g h => ?_)
  · split at h
    · exact ⟨rfl, rfl⟩
    · cases h
  · split at h
    · rename_i o' n ap es cp
      simp only [Bool.and_eq_true, decide_eq_true_eq] at h
      obtain ⟨⟨⟨⟨⟨rfl, h1⟩, h2⟩, h3⟩, h4⟩, h5⟩ := h
      obtain ⟨f1, f2⟩ := mn_facts m h1
      obtain ⟨hx, hA⟩ := hl.a g h3
      cases es with
      | nil =>
        refine PE.weak (pe_bm0 F.plainAttrs_list f1 f2 (mthW_ok (G := G) m) (ho.e g h2) (ex_attr (ho.ex h2) _ X.env _) h4) fun v H Q ⟨σ, S, Q0, h0, hv, hs, h, k⟩ => ?_
        have hn := chk_none l h3
        subst hn
        refine ⟨σ, S, _, h0, hv, hs, h, fun w S1 y H1 ⟨hl', hw⟩ g1 rw hs1 => ?_⟩
        have hw' : mthW m w [] S1 Q0 := hw
        exact ⟨mthW_ty g.K hw' hs1 rw, w, [], S1, Q0, rw, .nil, hs1, hw', fun w S' x H' q g3 rx hs3 => k w S' x H' q (g1.trans g3) rx hs3⟩
      | cons e es =>
        refine PE.weak (pe_bm F.plainAttrs_list f1 f2 (mthW_ok (G := G) m) (ho.e g h2) hA (ex_attr (ho.ex h2) _ X.env _) ?_ h4 (ex_star (hx e List.mem_cons_self) es X.env) (stars_plain (fun y hy => hx y (List.mem_cons_of_mem _ hy)) cp X.env)) fun v H Q ⟨σ, S, Q0, h0, hv, hs, h, k⟩ => ?_
        · rw [stars_all hx]
          show (true && true && decide ((e :: es).length + 0 + 0 < 30)) = true
          rw [Bool.true_and, Bool.true_and, decide_eq_true_eq]
          omega
        · refine ⟨σ, S, _, h0, hv, hs, h, fun w S1 y H1 ⟨hl', hw⟩ g1 rw hs1 => ?_⟩
          refine ⟨?_, σ, S1, _, h0.trans g1, hv.mono g1, hs1, hw, fun ws S2 xs H2 hm g2 rw2 hs2 => ⟨w, ws, S2, Q0, rw.mono g2, rw2, hs2, hm, fun w S' x H' q g3 rx hs3 => k w S' x H' q ((g1.trans g2).trans g3) rx hs3⟩⟩
          cases w with
          | lst a =>
            rw [rw_lst rw]
            obtain ⟨ws, e⟩ := hl'
            obtain ⟨xs, ha, _⟩ := hs1.lst _ _ e
            exact .inl ⟨rfl, xs, SqL.of ha⟩
          | _ => exact False.elim hl'
    · cases h
theorem snd_att {a : T} (ha : Snd st a) : Snd st (.att a) := by
  refine sndV rfl rfl (fun {c x} h => ?_) (fun {G R c X H0 x} g h => ?_)
  · split at h
    · exact ⟨rfl, rfl⟩
    · cases h
  · split at h
    · simp only [Bool.and_eq_true, decide_eq_true_eq] at h
      obtain ⟨rfl, h2⟩ := h
      refine ⟨fun pins s v H Q I q => ?_⟩
      obtain ⟨σ, S, Q0, h0, hv, hs, h, k⟩ := q
      refine attr_of (ex_attr (ha.ex h2) _ X.env _) (thn ((ha.e g h2).run pins s v H (fun y H1 => ∃ i w S1, RW G H1 (.exc i w) y ∧ RS G H1 S1 ∧ Q0 w S1 ∧ Grow H H1) I ⟨σ, S, _, h0, hv, hs, h, fun w S1 y H1 hw g1 rw hs1 => ?_⟩) fun u s1 ⟨y, H1, I1, r1, i, w, S1, rw, hs1, hq, g1⟩ => ?_)
      · cases w with
        | exc i w => exact ⟨i, w, S1, rw, hs1, hw, g1⟩
        | _ => exact False.elim hw
      · exact g.gf.att X i w pins s1 v H1 y u Q g.K I1 r1 rw fun x rx => k w S1 x H1 hq g1 rx hs1
    · cases h
theorem snd_hrd {b : T} (hb : Snd st b) : Snd st (.hrd b) := by
  refine sndV rfl rfl (fun {c x} h => ?_) (fun {G R c X H0 x} g h => ?_)
  · split at h
    · exact ⟨rfl, rfl⟩
    · cases h
  · split at h
    · rename_i x p ps bd sc lp pos
      simp only [Bool.and_eq_true, decide_eq_true_eq] at h
      obtain ⟨⟨⟨⟨⟨h1, rfl⟩, h2⟩, h3⟩, h4⟩, h5⟩ := h
      split at h4
      · exact g.hrd h1 (fun R => (rd b).e R) _ p lp pos _ bd sc rfl h2 h3 rfl g.toGd0 fun R' X' H0' e g' => hb.e ⟨g', fun z => by cases z⟩ h5
      · cases h4
    · cases h
end
end PW

set_option Elab.async false
set_option linter.all false
set_option maxRecDepth 100000
set_option maxHeartbeats 2000000
/-! own prelude, part 11: enumerate of a tuple -/
namespace PW
open PySem PySem.Spec PyProof.Rows L2
open Sem (wp)
/-- the iterator that enumerate lays for a tuple -/
abbrev itOb (t : Addr) : Obj := { cls := .type "tuple_iterator", data := .fields #[.ref t, .int 0 0] }
/-- .. and the enumerate itself -/
abbrev enOb (i : Addr) : Obj := { cls := .type "enumerate", data := .fields #[.none, .bool false, .ref i, rawInt 0, .none, .none] }
theorem enT_new (t : Addr) (its : Array Value) :
    Meets (Builtin.«enumerate.__new__» ⟨[.type "enumerate", .ref t], []⟩) (fun _ R z => z.heap.IsTuple t its ∧
      R (.ok (.ret (.ref (z.heap.push (itOb t)).objs.size))) { z with heap := (z.heap.push (itOb t)).push (enOb z.heap.objs.size) }) :=
  .of_wp fun prog w A R z h => by
    obtain ⟨hp, gn, dr, tk, os⟩ := z
    obtain ⟨ht, h⟩ := h
    have sub := sub_enumerate
    have go : ∀ {B : Around} {E K : Value → Shared → Prop}, K (.ref hp.objs.size) ⟨hp.push (itOb t), gn, dr, tk, os⟩ → wpAny (model prog w) B (pyIter (.ref t)) K E ⟨hp, gn, dr, tk, os⟩ :=
      fun k => wpAny_pyIter_tuple ht k
    wp_walk using go
    refine wpAny_stack_any fun _ => wpAny_pure ?_
    split
    · rename_i cl _ _ _ _ _
      cases (cl == Value.type "enumerate") <;> (wp_walk using go; exact ⟨_, rfl, h⟩)
    · wp_walk using go
      exact ⟨_, rfl, h⟩
theorem enT_call {prog : Program} {w : World} {A : Around} {E K : Value → Shared → Prop} {z : Shared} {t : Addr} {its : Array Value} (ht : z.heap.IsTuple t its)
    (h : ∀ h', IsEnum h' (z.heap.objs.size + 1) z.heap.objs.size 0 .none → h'.IsTupleIter z.heap.objs.size t 0 → (∀ b ob, z.heap.get? b = some ob → h'.get? b = some ob) → K (.ref (z.heap.objs.size + 1)) { z with heap := h' }) :
    wpAny (model prog w) A (call (.type "enumerate") [.ref t]) K E z := by
  refine callType_new F.called_enumerate (by decide) (F.typeCall_enumerate_1 _) (F.newCall_enumerate_1 _) (fun ob => F.args_object_init_2 ob _) F.entry_enumerate_new (enT_new t its) ⟨ht, ?_⟩
  have sz : (z.heap.push (itOb t)).objs.size = z.heap.objs.size + 1 := Heap.size_push ..
  show _ ∧ _
  rw [sz]
  have en : IsEnum ((z.heap.push (itOb t)).push (enOb z.heap.objs.size)) (z.heap.objs.size + 1) z.heap.objs.size 0 .none := by
    have q := Heap.get?_push_size (z.heap.push (itOb t)) (o := enOb z.heap.objs.size) rfl
    rw [sz] at q
    exact q
  exact ⟨⟨_, en, rfl⟩, h _ en ⟨_, Heap.get?_push_of_some _ (Heap.get?_push_size _ rfl), rfl, rfl⟩ fun b ob q => Heap.get?_push_of_some _ (Heap.get?_push_of_some _ q)⟩
/-- the items of the tuple at a, each in a new pair with its place -/
def IteT (K : PySem.W.Frag) (a : Addr) : It where
  go := fun n H => ∃ (xs : List V) (x : V), SqT K H a xs ∧ xs[n]? = some x
  yld := fun n H y H' => ∃ T x, y = .ref T ∧ H T = none ∧ H' = upd H T (.tup [.int (n : Nat), x]) ∧ ∀ xs, SqT K H a xs → xs[n]? = some x
  stop := fun n H => ∃ xs : List V, SqT K H a xs ∧ xs.length ≤ n
theorem turn_enT {P : Program} {w : World} {K : PySem.W.Frag} {els : List Expr} {kk : Nat} {tp : Pos} (a e it : Addr) :
    Turn P w K (.Tuple els kk tp) (IteT K a) [e, it] e (fun n h => (∃ old, IsEnum h e it ((n : Nat) : Int) old) ∧ h.IsTupleIter it a n ∧ e ≠ it ∧ a ≠ it ∧ a ≠ e) where
  mem := by simp
  obj := fun n h st b hb => by
    obtain ⟨⟨old, he⟩, ⟨ob, ho, hc, hd⟩, _⟩ := st
    rcases (by simpa using hb : b = e ∨ b = it) with rfl | rfl
    · exact ⟨_, he, fun v q => nomatch q⟩
    · exact ⟨ob, ho, fun v q => by rw [hd] at q; cases q⟩
  keep := fun n h h' st k => by
    obtain ⟨⟨old, he⟩, hi, hr⟩ := st
    exact ⟨⟨old, k e (by simp) _ he⟩, hi.at fun o q => k it (by simp) o q, hr⟩
  item := by
    intro X hP hw hK hc n pins s σ H E I hf st hg
    subst hP hw hK
    obtain ⟨⟨old, he⟩, hit, hne, hat, hae⟩ := st
    obtain ⟨xs, x, hq, hx⟩ := hg
    obtain ⟨its, rv, p, hz⟩ := I.tuple hq
    obtain ⟨u, hu, ru⟩ := rv.get hx
    have lte : e < s.heap.objs.size := Heap.lt_size he
    have lti : it < s.heap.objs.size := by obtain ⟨_, q, _⟩ := hit; exact Heap.lt_size q
    have p' : s.heap.IsTuple a its.toArray := p
    have hlt : n < its.toArray.size := by
      rw [List.size_toArray]
      by_cases q : n < its.length
      · exact q
      · rw [List.getElem?_eq_none (by omega)] at hu; cases hu
    have D : Draws X.prog X.w X.A.in1 it [it, a] its.toArray.size (fun i v => its.toArray[i]? = some v) (fun i h => h.IsTupleIter it a i ∧ h.IsTuple a its.toArray) :=
      Draws.tuple (show X.A.in1.handled = none from I.ok.hd hc) it a hat its.toArray
    refine wpAny_pyNext_enum_itemD D he ⟨hit, p'⟩ hlt hne (by simp [hne, Ne.symm hae]) fun x' h' tk hP ho hs' hT hsz hk => ?_
    have hxu : x' = u := by
      have q : its[n]? = some x' := by simpa using hP
      rw [hu] at q
      exact (Option.some.inj q).symm
    subst hxu
    refine ⟨_, rfl, wpAny_letOwnedTupleGo_enum (s := { s with heap := h', toks := tk + 1 }) ho fun h'' he' sb => ?_⟩
    have hT2 : h''.get? s.heap.objs.size = some { cls := .type "tuple", data := .seq #[.int n tk, x'] } := (sb.2 _ (Nat.ne_of_gt lte)).trans hT
    have new : ObjOk X.prog X.w (upd H s.heap.objs.size (.tup [.int (n : Nat), x])) h'' s.heap.objs.size (.tup [.int (n : Nat), x]) :=
      ⟨by show 2 ≤ sizeLine; decide, [.int n tk, x'], .cons ⟨_, rfl⟩ (.cons ru .nil), ⟨_, hT2, rfl, _, rfl⟩⟩
    have I1 : Inv X pins σ (upd H s.heap.objs.size (.tup [.int (n : Nat), x])) { s with heap := h'', toks := tk + 1 } :=
      I.turnedNew (ch := [e, it]) (fun b ob hb q => (sb.2 b (fun z => hb (by simp [z]))).trans (hk b ob (fun z => hb (by simp [z])) (fun z => hb (by simp [z])) q)) hf (Nat.le_refl _) new
    refine ⟨.ref s.heap.objs.size, _, I1, rfl, ⟨_, x, rfl, I.hok.fresh (Nat.le_refl _), rfl, fun ys hy => by rw [I.tuple_inj hy hq]; exact hx⟩, ⟨⟨x', ?_⟩, hs'.1.at fun o q => (sb.2 it (Ne.symm hne)).trans q, hne, hat, hae⟩, fun b hb => ?_⟩
    · rw [show ((n + 1 : Nat) : Int) = (n : Int) + 1 by omega]
      exact he'
    · have hb' : b < s.heap.objs.size := by
        rcases (by simpa using hb : b = e ∨ b = it) with rfl | rfl
        · exact lte
        · exact lti
      rw [upd_ne (Nat.ne_of_lt hb')]
      exact (hf b hb).1
  done := by
    intro X hP hw hK hc n pins s σ H E I hf st hg
    subst hP hw hK
    obtain ⟨⟨old, he⟩, hit, hne, hat, hae⟩ := st
    obtain ⟨xs, hq, hx⟩ := hg
    obtain ⟨its, rv, p, hz⟩ := I.tuple hq
    obtain ⟨f0, f1, f2, f3, f4, f5⟩ := hf it (by simp)
    have hl := rv.length
    have D : Draws X.prog X.w X.A.in1 it [it, a] n (fun i v => False) (fun i h => i = n ∧ h.IsTupleIter it a n ∧ h.IsTuple a its.toArray) :=
      { live := fun _ _ st => let ⟨o, ho, _⟩ := st.2.1; ⟨o, ho⟩
        frame := fun _ _ _ st hk => ⟨st.1, st.2.1.at fun o e => hk it (by simp) o e, st.2.2.at fun o e => hk a (by simp) o e⟩
        item := fun i s Q E hi st hQ => absurd st.1 (Nat.ne_of_lt hi)
        done := fun s Q E st hE => wpAny_nextOf_tuple_end (show X.A.in1.handled = none from I.ok.hd hc) st.2.1 st.2.2 (by simp; omega) hE }
    exact wpAny_pyNext_enum_endD D he ⟨rfl, hit, p⟩ fun h' eb => ⟨rfl, I.turned (t' := s.toks) (fun b o hb q => eb b o hb q) f0 f1 f3 f4 f5⟩
  self := fun A n s Q E st h => let ⟨⟨_, he⟩, _⟩ := st; wpAny_pyIter_enum he h
section
variable {X : Cx}
/-- enumerate of a list or of a tuple -/
def iEnA (K : PySem.W.Frag) (ta : TE) : TI := fun σ H R => ta σ H fun v H1 => ∃ a, v = .ref a ∧ (((∃ xs, SqL K H1 a xs) ∧ R (Ite K a) H1) ∨ ((∃ xs, SqT K H1 a xs) ∧ R (IteT K a) H1))
theorem pi_enA {x : Expr} {ta : TE} {p pos tp : Pos} {els : List Expr} {kk : Nat} (hg : Gl X "enumerate") (hm : X.mg "enumerate" = none) (ha : PE X x ta) (hs : starEach [x] X.env = [(false, eval x X.env)]) :
    PI X (.Tuple els kk tp) (.Call (.Name "enumerate" p) [x] [] pos) (iEnA X.K ta) := by
  refine ⟨fun pins s σ H R I h => ?_⟩
  refine Call_ (ld_blt I hg hm boot_enumerate (PyProof.Rows.callWith_type1 (one_arg ha (R := fun v H1 => ∃ a, v = .ref a ∧ (((∃ xs, SqL X.K H1 a xs) ∧ R (Ite X.K a) H1) ∨ ((∃ xs, SqT X.K H1 a xs) ∧ R (IteT X.K a) H1))) I h (fun u s1 y H1 I1 r1 ⟨a, ea, q1⟩ => ?_) hs) hs rfl))
  subst ea
  cases r1
  have fresh : ∀ b, b ∈ [s1.heap.objs.size + 1, s1.heap.objs.size] → FpOk X pins H1 b := fun b hb => by
    have hle : s1.heap.objs.size ≤ b := by
      rcases (by simpa using hb : b = s1.heap.objs.size + 1 ∨ b = s1.heap.objs.size) with rfl | rfl
      · exact Nat.le_add_right _ _
      · exact Nat.le_refl _
    exact I1.fpOk hle (I1.hok.fresh hle)
  rcases q1 with ⟨⟨xs, hq⟩, q⟩ | ⟨⟨xs, hq⟩, q⟩
  · obtain ⟨its, rv, p', _⟩ := I1.list hq
    refine call_enumerate_list p'.isList fun h' he hit hsz hk => wpAny_pyIter_enum he ?_
    have I2 : Inv X pins σ H1 { s1 with heap := h' } := I1.kept (t' := s1.toks) hk
    exact ⟨s1.heap.objs.size + 1, [s1.heap.objs.size + 1, s1.heap.objs.size], _, _, H1, rfl, I2, turn_enum a (s1.heap.objs.size + 1) s1.heap.objs.size, ⟨⟨.none, he⟩, hit, Nat.succ_ne_self _⟩, fresh, q⟩
  · obtain ⟨its, rv, p', _⟩ := I1.tuple hq
    have p2 : s1.heap.IsTuple a its.toArray := p'
    obtain ⟨oa, hoa, _⟩ := id p2
    have la : a < s1.heap.objs.size := Heap.lt_size hoa
    refine enT_call p2 fun h' he hit hk => wpAny_pyIter_enum he ?_
    have I2 : Inv X pins σ H1 { s1 with heap := h' } := I1.kept (t' := s1.toks) hk
    exact ⟨s1.heap.objs.size + 1, [s1.heap.objs.size + 1, s1.heap.objs.size], _, _, H1, rfl, I2, turn_enT a (s1.heap.objs.size + 1) s1.heap.objs.size, ⟨⟨.none, he⟩, hit, Nat.succ_ne_self _, Nat.ne_of_lt la, Nat.ne_of_lt (Nat.lt_succ_of_lt la)⟩, fresh, q⟩
end
end PW

set_option Elab.async false
set_option linter.all false
set_option maxRecDepth 100000
set_option maxHeartbeats 2000000
/-! own prelude, part 12: what is walked -/
namespace PW
open PySem PySem.Spec PyProof.Rows L2
section
variable {G : Ge} {H : Hp} {P : Sto → Prop} {a : Addr} {ws : List Vl}
theorem rangeW_at {lo : Int} {n i : Nat} {w : Vl} (h : (rangeW lo n)[i]? = some w) : i < n ∧ w = .int (lo + (i : Nat)) := by
  unfold rangeW at h
  by_cases q : i < n
  · rw [List.getElem?_map, List.getElem?_range q] at h
    exact ⟨q, (Option.some.inj h).symm⟩
  · rw [List.getElem?_eq_none (by simpa using q)] at h; cases h
theorem rangeC_at {lo c : Int} {n i : Nat} {w : Vl} (h : (rangeC lo c n)[i]? = some w) : i < n ∧ w = .int (lo + (i : Nat) * c) := by
  unfold rangeC at h
  by_cases q : i < n
  · rw [List.getElem?_map, List.getElem?_range q] at h
    exact ⟨q, (Option.some.inj h).symm⟩
  · rw [List.getElem?_eq_none (by simpa using q)] at h; cases h
theorem walk_rg (lo : Int) (n : Nat) : WalksW G (Itr lo n) (rangeW lo n) P H := by
  intro i H' S g r p
  refine ⟨fun w e => ?_, fun hl => show n ≤ i by simpa [rangeW] using hl⟩
  obtain ⟨q, rfl⟩ := rangeW_at e
  exact ⟨q, fun x H'' ⟨e1, e2⟩ => by subst e1 e2; exact ⟨Grow.refl _, r, rwI _⟩⟩
theorem walk_rc (lo c : Int) (n : Nat) : WalksW G (Itc lo c n) (rangeC lo c n) P H := by
  intro i H' S g r p
  refine ⟨fun w e => ?_, fun hl => show n ≤ i by simpa [rangeC] using hl⟩
  obtain ⟨q, rfl⟩ := rangeC_at e
  exact ⟨q, fun x H'' ⟨e1, e2⟩ => by subst e1 e2; exact ⟨Grow.refl _, r, rwI _⟩⟩
theorem enumW_at {i : Nat} {w : Vl} (h : (enumW ws)[i]? = some w) : ∃ x, ws[i]? = some x ∧ w = .tup [.int (i : Nat), x] := by
  unfold enumW at h
  rw [List.getElem?_map, List.getElem?_zipIdx] at h
  cases e : ws[i]? with
  | none => rw [e] at h; cases h
  | some x =>
    rw [e] at h
    simp at h
    exact ⟨x, rfl, h.symm⟩
theorem enumW_length : (enumW ws).length = ws.length := by simp [enumW]
theorem zipW_at {us : List Vl} {i : Nat} {w : Vl} (h : (zipW ws us)[i]? = some w) : ∃ x y, ws[i]? = some x ∧ us[i]? = some y ∧ w = .tup [x, y] := by
  unfold zipW List.zip at h
  rw [List.getElem?_map, List.getElem?_zipWith] at h
  cases e : ws[i]? with
  | none => rw [e] at h; cases us[i]? <;> cases h
  | some x =>
    cases e' : us[i]? with
    | none => rw [e, e'] at h; cases h
    | some y =>
      rw [e, e'] at h
      exact ⟨x, y, rfl, rfl, (Option.some.inj h).symm⟩
theorem zipW_length {us : List Vl} : (zipW ws us).length = min ws.length us.length := by simp [zipW]
/-- a pair laid anew -/
theorem rw_pair {H' : Hp} {T : Addr} {w u : Vl} {x y : V} (e : H' = upd H T (.tup [x, y])) (hT : H T = none) {S : Sto} (r : RS G H S) (hw : RW G H w x) (hu : RW G H u y) : Grow H H' ∧ RS G H' S ∧ RW G H' (.tup [w, u]) (.ref T) := by
  subst e
  refine ⟨Grow.new hT, r.new hT, ?_⟩
  unfold RW
  exact ⟨T, [x, y], rfl, SqT.of L2.upd_same, .cons (hw.mono (Grow.new hT)) (.cons (hu.mono (Grow.new hT)) .nil)⟩
theorem walk_enL (f : ∀ H' S', Grow H H' → RS G H' S' → P S' → ∃ xs, SqL G.K H' a xs ∧ RWs G H' ws xs) : WalksW G (Ite G.K a) (enumW ws) P H := by
  intro i H' S g r p
  obtain ⟨xs, hq, hx⟩ := f H' S g r p
  refine ⟨fun w e => ?_, fun hl => ⟨xs, hq, by rw [enumW_length] at hl; rw [← hx.length]; exact hl⟩⟩
  obtain ⟨x, e1, rfl⟩ := enumW_at e
  obtain ⟨v, e2, q⟩ := hx.get e1
  refine ⟨⟨xs, v, hq, e2⟩, fun y H'' ⟨T, v', e3, hT, e4, k⟩ => ?_⟩
  have e5 := k xs hq
  rw [e2] at e5
  cases e5
  subst e3
  exact rw_pair e4 hT r (rwI _) q
theorem walk_enT (f : ∀ H' S', Grow H H' → RS G H' S' → P S' → ∃ xs, SqT G.K H' a xs ∧ RWs G H' ws xs) : WalksW G (IteT G.K a) (enumW ws) P H := by
  intro i H' S g r p
  obtain ⟨xs, hq, hx⟩ := f H' S g r p
  refine ⟨fun w e => ?_, fun hl => ⟨xs, hq, by rw [enumW_length] at hl; rw [← hx.length]; exact hl⟩⟩
  obtain ⟨x, e1, rfl⟩ := enumW_at e
  obtain ⟨v, e2, q⟩ := hx.get e1
  refine ⟨⟨xs, v, hq, e2⟩, fun y H'' ⟨T, v', e3, hT, e4, k⟩ => ?_⟩
  have e5 := k xs hq
  rw [e2] at e5
  cases e5
  subst e3
  exact rw_pair e4 hT r (rwI _) q
theorem walk_zpL {b : Addr} {us : List Vl} (f : ∀ H' S', Grow H H' → RS G H' S' → P S' → (∃ xs, SqL G.K H' a xs ∧ RWs G H' ws xs) ∧ ∃ ys, SqL G.K H' b ys ∧ RWs G H' us ys) : WalksW G (Itz G.K a b) (zipW ws us) P H := by
  intro i H' S g r p
  obtain ⟨⟨xs, hq, hx⟩, ys, hq2, hy⟩ := f H' S g r p
  refine ⟨fun w e => ?_, fun hl => ⟨xs, ys, hq, hq2, by rw [zipW_length] at hl; rw [← hx.length, ← hy.length]; omega⟩⟩
  obtain ⟨x, y, e1, e1', rfl⟩ := zipW_at e
  obtain ⟨v, e2, q⟩ := hx.get e1
  obtain ⟨v', e2', q'⟩ := hy.get e1'
  refine ⟨⟨xs, ys, v, v', hq, hq2, e2, e2'⟩, fun z H'' ⟨T, u, u', e3, hT, e4, k, k'⟩ => ?_⟩
  have e5 := k xs hq
  rw [e2] at e5
  cases e5
  have e6 := k' ys hq2
  rw [e2'] at e6
  cases e6
  subst e3
  exact rw_pair e4 hT r q q'
theorem walk_zpT {b : Addr} {us : List Vl} (f : ∀ H' S', Grow H H' → RS G H' S' → P S' → (∃ xs, SqT G.K H' a xs ∧ RWs G H' ws xs) ∧ ∃ ys, SqT G.K H' b ys ∧ RWs G H' us ys) : WalksW G (RZ.ItzT G.K a b) (zipW ws us) P H := by
  intro i H' S g r p
  obtain ⟨⟨xs, hq, hx⟩, ys, hq2, hy⟩ := f H' S g r p
  refine ⟨fun w e => ?_, fun hl => ⟨xs, ys, hq, hq2, by rw [zipW_length] at hl; rw [← hx.length, ← hy.length]; omega⟩⟩
  obtain ⟨x, y, e1, e1', rfl⟩ := zipW_at e
  obtain ⟨v, e2, q⟩ := hx.get e1
  obtain ⟨v', e2', q'⟩ := hy.get e1'
  refine ⟨⟨xs, ys, v, v', hq, hq2, e2, e2'⟩, fun z H'' ⟨T, u, u', e3, hT, e4, k, k'⟩ => ?_⟩
  have e5 := k xs hq
  rw [e2] at e5
  cases e5
  have e6 := k' ys hq2
  rw [e2'] at e6
  cases e6
  subst e3
  exact rw_pair e4 hT r q q'
theorem rev_at {xs : List V} {ws : List Vl} {i : Nat} {w : Vl} (hx : RWs G H ws xs) (e : ws.reverse[i]? = some w) : i < xs.length ∧ ∃ v, xs[xs.length - 1 - i]? = some v ∧ RW G H w v := by
  have hl := hx.length
  by_cases q : i < ws.length
  · rw [List.getElem?_reverse q] at e
    obtain ⟨v, e2, r⟩ := hx.get e
    exact ⟨by omega, v, by rw [← hl]; exact e2, r⟩
  · rw [List.getElem?_eq_none (by simpa using q)] at e; cases e
theorem walk_rvL {n : Nat} (hn : n = ws.length) (f : ∀ H' S', Grow H H' → RS G H' S' → P S' → ∃ xs, SqL G.K H' a xs ∧ RWs G H' ws xs) : WalksW G (Itv G.K a n) ws.reverse P H := by
  intro i H' S g r p
  obtain ⟨xs, hq, hx⟩ := f H' S g r p
  have hl := hx.length
  rw [hl] at hn
  subst hn
  refine ⟨fun w e => ?_, fun hl' => show xs.length ≤ i by rw [List.length_reverse, hl] at hl'; exact hl'⟩
  obtain ⟨h1, v, e2, q⟩ := rev_at hx e
  refine ⟨⟨h1, xs, v, hq, e2⟩, fun x H'' ⟨e1, k⟩ => ?_⟩
  subst e1
  have e5 := k xs hq
  rw [e2] at e5
  cases e5
  exact ⟨Grow.refl _, r, q⟩
theorem walk_rvT {n : Nat} (hn : n = ws.length) (f : ∀ H' S', Grow H H' → RS G H' S' → P S' → ∃ xs, SqT G.K H' a xs ∧ RWs G H' ws xs) : WalksW G (RT.ItvT G.K a n) ws.reverse P H := by
  intro i H' S g r p
  obtain ⟨xs, hq, hx⟩ := f H' S g r p
  have hl := hx.length
  rw [hl] at hn
  subst hn
  refine ⟨fun w e => ?_, fun hl' => show xs.length ≤ i by rw [List.length_reverse, hl] at hl'; exact hl'⟩
  obtain ⟨h1, v, e2, q⟩ := rev_at hx e
  refine ⟨⟨h1, xs, v, hq, e2⟩, fun x H'' ⟨e1, k⟩ => ?_⟩
  subst e1
  have e5 := k xs hq
  rw [e2] at e5
  cases e5
  exact ⟨Grow.refl _, r, q⟩
end
section
variable {st : Stt}
theorem sndI {τ : T} {I : Rc → WI} {C : Cf → Expr → Expr → Bool} (hr : rd τ = mkI I) (hc : chk st τ = mkCI C)
    (hi : ∀ {G R c X H0 tg it}, Gd st G R c X H0 → C c tg it = true → PI X tg it (liftI G H0 (I R)) ∧ ∀ x, foldedSetIterable it X.env x = pure x) : Snd st τ where
  ex := fun h => by rw [hc] at h; cases h
  e := fun g h => by rw [hc] at h; cases h
  t := fun g h => by rw [hc] at h; cases h
  a := fun g h => by rw [hc] at h; cases h
  k := fun g h => by rw [hc] at h; cases h
  an := fun {G R c X H0 es pos} g h => by
    rw [hc] at h
    cases es with
    | nil => cases h
    | cons x r => cases r <;> cases h
  or := fun {G R c X H0 es pos} g h => by
    rw [hc] at h
    cases es with
    | nil => cases h
    | cons x r => cases r <;> cases h
  o := fun g h => by rw [hc] at h; cases h
  c := fun {G R c X H0 es} g h => by
    rw [hc] at h
    cases es with
    | nil => cases h
    | cons x r => cases r <;> cases h
  i := fun g h => by rw [hr]; exact hi g (by rw [hc] at h; exact h)
  d := fun g h => by rw [hc] at h; cases h
theorem PI.weak {X : Cx} {tg it : Expr} {t t' : TI} (h : PI X tg it t) (k : ∀ σ H K, t' σ H K → t σ H K) : PI X tg it t' := ⟨fun pins s σ H K I q => h.run pins s σ H K I (k _ _ _ q)⟩
theorem tup_of {c : Cf} {g : Expr} (h : isTupE g = true) : ∃ es k p, g = .Tuple es k p := by
  cases g <;> first | exact ⟨_, _, _, rfl⟩ | cases h
theorem snd_rng {l : T} (hl : Snd st l) : Snd st (.rng l) := by
  refine sndI rfl rfl fun {G R c X H0 tg it} g h => ?_
  split at h
  · rename_i x p es pos
    simp only [Bool.and_eq_true, decide_eq_true_eq] at h
    obtain ⟨⟨⟨rfl, h1⟩, h2⟩, h3⟩ := h
    obtain ⟨⟨g1, _⟩, g3⟩ := free_of g.toGd0 h1
    obtain ⟨hx, hA⟩ := hl.a g h2
    have hlen := chk_alen l h2
    refine ⟨?_, fun _ => rfl⟩
    match es, hx, hA, hlen, h3 with
    | [a], hx, hA, hlen, _ =>
      refine PI.weak (pi_range1 g1 g3 hA (by rw [ex_star (hx a List.mem_cons_self)] <;> rfl)) fun v H K ⟨σ, S, K0, h0, hv, hs, h, k⟩ => ?_
      refine ⟨σ, S, _, h0, hv, hs, h, fun ws S' xs H' ⟨hw, hr⟩ g1 rw hs' => ?_⟩
      unfold rngG at hr
      split at hr
      · obtain ⟨⟨n1, n2⟩, hr⟩ := hr
        obtain ⟨y, rfl, ry⟩ := rw.one_of
        rw [rw_int ry]
        exact ⟨_, rfl, n1, n2, k _ _ _ _ H' hr g1 hs' (walk_rg 0 _)⟩
      · rw [← hlen] at hw; cases hw
      · rw [← hlen] at hw; cases hw
      · exact hr.elim
    | [a, b], hx, hA, hlen, _ =>
      have sb : starEach [b] X.env = [(false, eval b X.env)] := by rw [ex_star (hx b (List.mem_cons_of_mem _ List.mem_cons_self))] <;> rfl
      refine PI.weak (pi_range2 g1 g3 hA (by rw [ex_star (hx a List.mem_cons_self), sb]) sb) fun v H K ⟨σ, S, K0, h0, hv, hs, h, k⟩ => ?_
      refine ⟨σ, S, _, h0, hv, hs, h, fun ws S' xs H' ⟨hw, hr⟩ g1 rw hs' => ?_⟩
      unfold rngG at hr
      split at hr
      · rw [← hlen] at hw; cases hw
      · obtain ⟨n1, hr⟩ := hr
        obtain ⟨y, z, rfl, ry, rz⟩ := rw.two_of
        rw [rw_int ry, rw_int rz]
        exact ⟨_, _, rfl, n1, k _ _ _ _ H' hr g1 hs' (walk_rg _ _)⟩
      · rw [← hlen] at hw; cases hw
      · exact hr.elim
    | [a, b, d], hx, hA, hlen, _ =>
      refine PI.weak (pi_range3 g1 g3 hA (by rw [ex_star (hx a List.mem_cons_self)]) (stars_plain (fun y hy => hx y (List.mem_cons_of_mem _ hy)) pos X.env)) fun v H K ⟨σ, S, K0, h0, hv, hs, h, k⟩ => ?_
      refine ⟨σ, S, _, h0, hv, hs, h, fun ws S' xs H' ⟨hw, hr⟩ g1 rw hs' => ?_⟩
      unfold rngG at hr
      split at hr
      · rw [← hlen] at hw; cases hw
      · rw [← hlen] at hw; cases hw
      · obtain ⟨n, n1, hr⟩ := hr
        obtain ⟨y, r, rfl, ry, r2⟩ := rw.cons_of
        obtain ⟨z, z', rfl, rz, rz'⟩ := r2.two_of
        rw [rw_int ry, rw_int rz, rw_int rz']
        exact ⟨_, _, _, n, rfl, n1, k _ _ _ _ H' hr g1 hs' (walk_rc _ _ _)⟩
      · exact hr.elim
    | [], _, _, _, h3 => cases h3
    | _ :: _ :: _ :: _ :: _, _, _, _, h3 => simp at h3
  · cases h
theorem snd_enm {a : T} (ha : Snd st a) : Snd st (.enm a) := by
  refine sndI rfl rfl fun {G R c X H0 tg it} g h => ?_
  split at h
  · rename_i x p y pos
    simp only [Bool.and_eq_true, decide_eq_true_eq] at h
    obtain ⟨⟨⟨rfl, h1⟩, h2⟩, h3⟩ := h
    obtain ⟨es, kk, tp, rfl⟩ := tup_of (c := c) h3
    obtain ⟨⟨g1, _⟩, g3⟩ := free_of g.toGd0 h1
    refine ⟨PI.weak (pi_enA g1 g3 (ha.e g h2) (by rw [ex_star (ha.ex h2)] <;> rfl)) fun v H K ⟨σ, S, K0, h0, hv, hs, h, k⟩ => ?_, fun _ => rfl⟩
    refine ⟨σ, S, _, h0, hv, hs, h, fun w S' x H' hw g1 rw hs' => ?_⟩
    obtain ⟨b, ws, P, rfl, q, hP, z⟩ := seqG_ok hs' rw hw
    refine ⟨b, rfl, ?_⟩
    rw [g.K]
    rcases z with ⟨z1, _, z3, _⟩ | ⟨z1, _, z3, _⟩
    · exact .inl ⟨z1, k _ P S' _ H' q g1 hs' (walk_enL z3)⟩
    · exact .inr ⟨z1, k _ P S' _ H' q g1 hs' (walk_enT z3)⟩
  · cases h
theorem snd_revd {a : T} (ha : Snd st a) : Snd st (.revd a) := by
  refine sndI rfl rfl fun {G R c X H0 tg it} g h => ?_
  split at h
  · rename_i x p y pos
    simp only [Bool.and_eq_true, decide_eq_true_eq] at h
    obtain ⟨⟨rfl, h1⟩, h2⟩ := h
    obtain ⟨⟨g1, _⟩, g3⟩ := free_of g.toGd0 h1
    refine ⟨PI.weak (RT.pi_revA g1 g3 (ha.e g h2) (ex_star (ha.ex h2) [] X.env)) fun v H K ⟨σ, S, K0, h0, hv, hs, h, k⟩ => ?_, fun _ => rfl⟩
    refine ⟨σ, S, _, h0, hv, hs, h, fun w S' x H' hw g1 rw hs' => ?_⟩
    obtain ⟨b, ws, P, rfl, q, hP, z⟩ := seqG_ok hs' rw hw
    rcases z with ⟨⟨_, _⟩, _, z3, _⟩ | ⟨⟨_, _⟩, _, z3, _⟩
    · obtain ⟨xs, hq, hx⟩ := z3 H' S' (Grow.refl _) hs' hP
      exact ⟨b, xs, rfl, .inl ⟨by rw [g.K]; exact hq, by rw [g.K]; exact k _ P S' _ H' q g1 hs' (walk_rvL hx.length.symm z3)⟩⟩
    · obtain ⟨xs, hq, hx⟩ := z3 H' S' (Grow.refl _) hs' hP
      exact ⟨b, xs, rfl, .inr ⟨by rw [g.K]; exact hq, by rw [g.K]; exact k _ P S' _ H' q g1 hs' (walk_rvT hx.length.symm z3)⟩⟩
  · cases h
theorem snd_zp {a b : T} (ha : Snd st a) (hb : Snd st b) : Snd st (.zp a b) := by
  refine sndI rfl rfl fun {G R c X H0 tg it} g h => ?_
  split at h
  · rename_i x p y z pos
    simp only [Bool.and_eq_true, decide_eq_true_eq] at h
    obtain ⟨⟨⟨⟨rfl, h1⟩, h2⟩, h2'⟩, h3⟩ := h
    obtain ⟨es, kk, tp, rfl⟩ := tup_of (c := c) h3
    obtain ⟨⟨g1, _⟩, g3⟩ := free_of g.toGd0 h1
    have sz : starEach [z] X.env = (false, eval z X.env) :: starEach [] X.env := ex_star (hb.ex h2') [] X.env
    refine ⟨PI.weak (RZ.pi_zipA g1 g3 (pa_cons (ha.e g h2) (pa_cons (hb.e g h2') pa_nil sz) (ex_star (ha.ex h2) [z] X.env)) (ex_star (ha.ex h2) [z] X.env) (by rw [sz]; rfl)) fun v H K ⟨σ, S, K0, h0, hv, hs, h, k⟩ => ?_, fun _ => rfl⟩
    refine ⟨σ, S, _, h0, hv, hs, h, fun w S1 x H1 hw g1 rw hs1 => ⟨σ, S1, _, h0.trans g1, hv.mono g1, hs1, hw, fun u S2 y H2 ⟨ht, hu⟩ g2 ru hs2 => ?_⟩⟩
    obtain ⟨a1, ws, P, rfl, q, hP, z1⟩ := seqG_ok hs2 (rw.mono g2) hu
    obtain ⟨b1, us, P', rfl, q', hP', z2⟩ := seqG_ok hs2 ru q
    have gg := g1.trans g2
    refine ⟨a1, b1, ?_⟩
    rcases z1 with ⟨⟨xs, q1⟩, _, z3, e1⟩ | ⟨⟨xs, q1⟩, _, z3, e1⟩
    · rcases z2 with ⟨⟨ys, q2⟩, _, z4, e2⟩ | ⟨⟨ys, q2⟩, _, z4, e2⟩
      · exact ⟨xs, ys, rfl, .inl ⟨by rw [g.K]; exact q1, by rw [g.K]; exact q2, by rw [g.K]; exact k _ _ S2 _ H2 q' gg hs2 (walk_zpL fun H' S' gr rr pp => ⟨z3 H' S' gr rr pp.1, z4 H' S' gr rr pp.2⟩)⟩⟩
      · rw [e1, e2] at ht; cases ht
    · rcases z2 with ⟨⟨ys, q2⟩, _, z4, e2⟩ | ⟨⟨ys, q2⟩, _, z4, e2⟩
      · rw [e1, e2] at ht; cases ht
      · exact ⟨xs, ys, rfl, .inr ⟨by rw [g.K]; exact q1, by rw [g.K]; exact q2, by rw [g.K]; exact k _ _ S2 _ H2 q' gg hs2 (walk_zpT fun H' S' gr rr pp => ⟨z3 H' S' gr rr pp.1, z4 H' S' gr rr pp.2⟩)⟩⟩
  · cases h
end
end PW

set_option Elab.async false
set_option linter.all false
set_option maxRecDepth 100000
set_option maxHeartbeats 2000000
/-! own prelude, part 13: list comprehensions -/
namespace PW
open PySem PySem.Spec PyProof.Rows L2
theorem RSt.wipe {G : Ge} {H : Hp} {σ : WSt} {v : L2.St} (r : RSt G H σ v) : ∀ vs : List Nat, RSt G H (wipeW σ vs) (L2.wipe v vs)
  | [] => r
  | i :: vs => by
    have ih := RSt.wipe r vs
    refine ⟨by unfold wipeW L2.wipe; rw [List.length_set, List.length_set, ih.len], fun j w e => ?_⟩
    unfold wipeW at e
    unfold L2.wipe
    by_cases q : i = j
    · subst q
      by_cases hl : i < (wipeW σ vs).length
      · rw [List.getElem?_set_self hl] at e; cases e
      · rw [List.getElem?_eq_none (by rw [List.length_set]; omega)] at e; cases e
    · rw [List.getElem?_set_ne q] at e ⊢
      exact ih.at_ j w e
theorem wipe_idem {v v2 : L2.St} {sl : List Nat} : ∀ {vs : List Nat}, v2.length = v.length → (∀ i, i ∉ vs → v2[i]? = v[i]?) → L2.wipe v2 vs = L2.wipe v vs := by
  intro vs hl hf
  apply List.ext_getElem?
  intro i
  have len : ∀ (u : L2.St) (vs : List Nat), (L2.wipe u vs).length = u.length := L2.wipe_length
  by_cases h : i ∈ vs
  · have key : ∀ (u : L2.St) (vs : List Nat), i ∈ vs → (L2.wipe u vs)[i]? = if i < u.length then some none else none := by
      intro u vs
      induction vs with
      | nil => intro h; cases h
      | cons a r ih =>
        intro h
        unfold L2.wipe
        by_cases q : a = i
        · subst q
          by_cases hl : a < u.length
          · rw [List.getElem?_set_self (by rw [len]; exact hl), if_pos hl]
          · rw [List.getElem?_eq_none (by rw [List.length_set, len]; omega), if_neg hl]
        · rw [List.getElem?_set_ne q]
          exact ih ((List.mem_cons.mp h).resolve_left fun z => q z.symm)
    rw [key v2 vs h, key v vs h, hl]
  · rw [L2.wipe_out h, L2.wipe_out h, hf i h]
theorem wipe_wipe (v : L2.St) (vs : List Nat) : L2.wipe (L2.wipe v vs) vs = L2.wipe v vs :=
  wipe_idem (sl := []) (L2.wipe_length v vs) fun i h => L2.wipe_out h
section
variable {st : Stt} {G : Ge} {R : Rc} {c : Cf} {X : Cx} {H0 : Hp}
/-- the context of a comprehension's block -/
theorem Gd.blk (g : Gd0 st G R c X H0) (s : Shared) (H : Hp) (scope : Scope) (C : Addr) (cl : List (Str × Addr)) (fp : List Addr) (hk : scope.kind = .function) : Gd st G R.no (c.blk scope) (X.blk s H scope (compEnvC scope cl C X.env) fp) H0 where
  nd := g.nd
  N := g.N
  sc := by
    show relabel scope X.env = blkSc c.sc scope
    unfold relabel blkSc Env.kindOf
    rw [g.sc]
  fn := fun x hx => by
    show (scope.names.lookup x == some .cell) = true
    unfold Cf.blk at hx
    simp only [List.mem_map, List.mem_filter, decide_eq_true_eq] at hx
    obtain ⟨y, ⟨_, e⟩, rfl⟩ := hx
    rw [e] <;> rfl
  prog := g.prog
  calm := g.calm
  K := g.K
  mg := g.mg
  gs := g.gs
  un := g.un
  rm := g.rm
  kind := hk
  pass := PassesOwn.never
  gf := g.gf
  sb := g.sb
  defs := g.defs
  tk := LamX.takes0.imp fun cls d σ H h => by obtain ⟨w, S, _, _, _, z⟩ := h; exact z
  hrd := fun z => by cases z
theorem lift_lc {wi : WI} {gt : Pt} {tc : WT} {te : WE} {vs : List Nat} {v : L2.St} {H : Hp} {Q : VK} (hsl : ∀ i ∈ gt.slots, i ∈ vs)
    (h : liftE G H0 (fun σ S Q => wi σ S fun items Gd S1 => ∀ D, S1 D = none → lcR Gd (gP gt) tc te (wipeW σ vs) D (fun _ S' => Q (.lst D) S') items [] (S1.upd D [])) v H Q) :
    tLc (liftI G H0 wi) (liftG G H0 gt.slots (gP gt)) (liftT G H0 tc) (liftE G H0 te) vs v H Q := by
  obtain ⟨σ, S, Q0, h0, hv, hs, h, k⟩ := h
  refine ⟨σ, S, _, h0, hv, hs, h, fun items Gd S1 J H1 hk g1 hs1 hw => ?_⟩
  intro D hD
  have L := hk D (hs1.free hD)
  refine ⟨fun i m Hc => ∃ acc S', Grow H1 Hc ∧ RS G Hc S' ∧ i ≤ items.length ∧ m = items.length - i ∧ lcR Gd (gP gt) tc te (wipeW σ vs) D (fun _ S' => Q0 (.lst D) S') (items.drop i) acc S',
    ⟨items.length, [], S1.upd D [], Grow.new hD, hs1.newL hD .nil, Nat.zero_le _, rfl, L⟩, ?_⟩
  rintro i m Hc ⟨acc, S', gr, r, hi, rfl, hl⟩
  by_cases hlt : i < items.length
  · rw [List.drop_eq_getElem_cons hlt] at hl
    unfold lcR at hl
    obtain ⟨hG, hl⟩ := hl
    obtain ⟨w1, _⟩ := hw i Hc S' gr r hG
    obtain ⟨w2, w3⟩ := w1 _ (List.getElem?_eq_getElem hlt)
    refine .inr ⟨w2, fun H' => ∃ m', m' < items.length - i ∧ ∃ acc S', Grow H1 H' ∧ RS G H' S' ∧ i + 1 ≤ items.length ∧ m' = items.length - (i + 1) ∧ lcR Gd (gP gt) tc te (wipeW σ vs) D (fun _ S' => Q0 (.lst D) S') (items.drop (i + 1)) acc S', fun H' q => q, fun x Hy hy => ?_⟩
    obtain ⟨gy, ry, rx⟩ := w3 x Hy hy
    have gc := g1.trans gr
    refine ⟨_, _, S', _, (h0.trans gc).trans gy, (((hv.mono gc).mono gy).wipe vs), ry, rx, hl, fun σ2 v2 hq hst hlen hfr => ⟨?_, ?_⟩⟩
    · rw [wipe_idem (sl := []) hlen fun j hj => hfr j fun z => hj (hsl j z), wipe_wipe]
    refine ⟨σ2, S', _, (h0.trans gc).trans gy, hst, ry, hq, fun b S3 H3 hb g3 hs3 => ?_⟩
    cases b with
    | true =>
      simp only [if_true] at hb ⊢
      refine ⟨σ2, S3, _, ((h0.trans gc).trans gy).trans g3, hst.mono g3, hs3, hb, fun y S4 vy H4 ⟨hD4, hln, S5, hsub, hl5⟩ g4 ry4 hs4 => ?_⟩
      obtain ⟨xs, hx, hxs⟩ := hs4.lst D acc hD4
      have g5 : Grow H4 (upd H4 D (.lst (xs ++ [vy]))) := Grow.lst hx
      exact ⟨xs, hx, by rw [← hxs.length]; exact hln, _, by omega, acc ++ [y], S5, (((gr.trans gy).trans g3).trans g4).trans g5, (hs4.set hx (hxs.append (.cons ry4 .nil))).sub hsub, hlt, rfl, hl5⟩
    | false =>
      simp only [Bool.false_eq_true, if_false] at hb ⊢
      exact ⟨_, by omega, acc, S3, (gr.trans gy).trans g3, hs3, hlt, rfl, hb⟩
  · have e : i = items.length := by omega
    subst e
    rw [List.drop_length] at hl
    unfold lcR at hl
    obtain ⟨hG, hDD, hq⟩ := hl
    exact .inl ⟨(hw _ Hc S' gr r hG).2 (Nat.le_refl _), k _ S' _ Hc hq (g1.trans gr) (rwL D) r⟩
theorem snd_comp {e : T} {gt : Pt} {it d : T} {own : List (Str × Nat)} (he : Snd st e) (hi : Snd st it) (hd : Snd st d) : Snd st (.comp e gt it d own) := by
  refine sndV rfl rfl (fun {c x} h => ?_) (fun {G R c X H0 x} g h => ?_)
  · split at h
    · exact ⟨rfl, rfl⟩
    · cases h
  · split at h
    · rename_i e' g' it' ifs sc pos
      simp only [Bool.and_eq_true, List.all_eq_true] at h
      obtain ⟨⟨⟨⟨⟨h1, h2⟩, h3⟩, h4⟩, h5⟩, h6⟩ := h
      obtain ⟨i1, i2⟩ := hi.i g h3
      have ok := blkOk_by h5
      rw [← g.N, ← g.sc] at ok
      refine PE.weak (pe_lc g.calm (by rw [g.N]; exact g.nd) i1 ok (fun s H C cl fp => sndP (Gd.blk g.toGd0 s H sc C cl fp ok.kind).toGd0 gt g' h2) (fun s H C cl fp => hd.c (Gd.blk g.toGd0 s H sc C cl fp ok.kind) h4) (fun s H C cl fp => he.e (Gd.blk g.toGd0 s H sc C cl fp ok.kind) h1) i2)
        fun v H Q q => lift_lc (fun i hi => by simpa using h6 i hi) q
    · cases h
theorem lift_lc2 {wi wi2 : WI} {gt gt2 : Pt} {tc tc2 : WT} {te : WE} {vs : List Nat} {v : L2.St} {H : Hp} {Q : VK} (hsl : ∀ i ∈ gt.slots, i ∈ vs)
    (h : liftE G H0 (fun σ S Q => wi σ S fun items Gd S1 => ∀ D, S1 D = none → lcO Gd (gP gt) tc (fun σ2 S3 K acc => wi2 σ2 S3 fun items2 G2 S4 => lcR G2 (gP gt2) tc2 te (wipeW σ2 gt2.slots) D K items2 acc S4) (wipeW σ vs) D (fun _ S' => Q (.lst D) S') items [] (S1.upd D [])) v H Q) :
    tLc2 (liftI G H0 wi) (liftG G H0 gt.slots (gP gt)) (liftT G H0 tc) (liftI G H0 wi2) (liftG G H0 gt2.slots (gP gt2)) (liftT G H0 tc2) (liftE G H0 te) vs gt2.slots v H Q := by
  obtain ⟨σ, S, Q0, h0, hv, hs, h, k⟩ := h
  refine ⟨σ, S, _, h0, hv, hs, h, fun items Gd S1 J H1 hk g1 hs1 hw => ?_⟩
  intro D hD
  have L := hk D (hs1.free hD)
  generalize hin : (fun σ2 S3 K acc => wi2 σ2 S3 fun items2 G2 S4 => lcR G2 (gP gt2) tc2 te (wipeW σ2 gt2.slots) D K items2 acc S4 : WSt → Sto → (List Vl → Sto → Prop) → List Vl → Prop) = inn at L
  refine ⟨fun i m Hc => ∃ acc S', Grow H1 Hc ∧ RS G Hc S' ∧ i ≤ items.length ∧ m = items.length - i ∧ lcO Gd (gP gt) tc inn (wipeW σ vs) D (fun _ S' => Q0 (.lst D) S') (items.drop i) acc S',
    ⟨items.length, [], S1.upd D [], Grow.new hD, hs1.newL hD .nil, Nat.zero_le _, rfl, L⟩, ?_⟩
  rintro i m Hc ⟨acc, S', gr, r, hi, rfl, hl⟩
  by_cases hlt : i < items.length
  · rw [List.drop_eq_getElem_cons hlt] at hl
    unfold lcO at hl
    obtain ⟨hG, hl⟩ := hl
    obtain ⟨w1, _⟩ := hw i Hc S' gr r hG
    obtain ⟨w2, w3⟩ := w1 _ (List.getElem?_eq_getElem hlt)
    refine .inr ⟨w2, fun H' => ∃ m', m' < items.length - i ∧ ∃ acc S', Grow H1 H' ∧ RS G H' S' ∧ i + 1 ≤ items.length ∧ m' = items.length - (i + 1) ∧ lcO Gd (gP gt) tc inn (wipeW σ vs) D (fun _ S' => Q0 (.lst D) S') (items.drop (i + 1)) acc S', fun H' q => q, fun x Hy hy => ?_⟩
    obtain ⟨gy, ry, rx⟩ := w3 x Hy hy
    have gc := g1.trans gr
    refine ⟨_, _, S', _, (h0.trans gc).trans gy, (((hv.mono gc).mono gy).wipe vs), ry, rx, hl, fun σ2 v2 hq hst hlen hfr => ⟨?_, ?_⟩⟩
    · rw [wipe_idem (sl := []) hlen fun j hj => hfr j fun z => hj (hsl j z), wipe_wipe]
    refine ⟨σ2, S', _, (h0.trans gc).trans gy, hst, ry, hq, fun b S3 H3 hb g3 hs3 => ?_⟩
    cases b with
    | false =>
      simp only [Bool.false_eq_true, if_false] at hb ⊢
      exact ⟨_, by omega, acc, S3, (gr.trans gy).trans g3, hs3, hlt, rfl, hb⟩
    | true =>
      simp only [if_true] at hb ⊢
      rw [← hin] at hb
      have G3 := (gr.trans gy).trans g3
      have hst3 := hst.mono g3
      refine ⟨σ2, S3, _, h0.trans (g1.trans G3), hst3, hs3, hb, fun items2 Gd2 S4 J2 H4 hk2 g4 hs4 hw2 => ?_⟩
      refine ⟨fun j m Hc => ∃ acc S', Grow H4 Hc ∧ RS G Hc S' ∧ j ≤ items2.length ∧ m = items2.length - j ∧ lcR Gd2 (gP gt2) tc2 te (wipeW σ2 gt2.slots) D (fun acc' S4 => lcO Gd (gP gt) tc inn (wipeW σ vs) D (fun _ S' => Q0 (.lst D) S') (items.drop (i + 1)) acc' S4) (items2.drop j) acc S',
        ⟨items2.length, acc, S4, Grow.refl _, hs4, Nat.zero_le _, rfl, by rw [hin] at hk2; exact hk2⟩, ?_⟩
      rintro j m Hd ⟨acc2, S5, gr5, r5, hj, rfl, hl2⟩
      by_cases hlt2 : j < items2.length
      · rw [List.drop_eq_getElem_cons hlt2] at hl2
        unfold lcR at hl2
        obtain ⟨hG2, hl2⟩ := hl2
        obtain ⟨u1, _⟩ := hw2 j Hd S5 gr5 r5 hG2
        obtain ⟨u2, u3⟩ := u1 _ (List.getElem?_eq_getElem hlt2)
        refine .inr ⟨u2, fun H' => ∃ m', m' < items2.length - j ∧ ∃ acc S', Grow H4 H' ∧ RS G H' S' ∧ j + 1 ≤ items2.length ∧ m' = items2.length - (j + 1) ∧ lcR Gd2 (gP gt2) tc2 te (wipeW σ2 gt2.slots) D (fun acc' S4 => lcO Gd (gP gt) tc inn (wipeW σ vs) D (fun _ S' => Q0 (.lst D) S') (items.drop (i + 1)) acc' S4) (items2.drop (j + 1)) acc S', fun H' q => q, fun x Hy2 hy2 => ?_⟩
        obtain ⟨gy2, ry2, rx2⟩ := u3 x Hy2 hy2
        have g6 := (g4.trans gr5).trans gy2
        refine ⟨_, _, S5, _, h0.trans ((g1.trans G3).trans g6), ((hst3.mono g6).wipe gt2.slots), ry2, rx2, hl2, fun σ6 v6 hq6 hst6 hlen6 hfr6 => ⟨?_, ?_⟩⟩
        · rw [wipe_idem (sl := []) hlen6 fun j hj => hfr6 j fun z => hj z, wipe_wipe]
        refine ⟨σ6, S5, _, h0.trans ((g1.trans G3).trans g6), hst6, ry2, hq6, fun b S7 H7 hb7 g7 hs7 => ?_⟩
        cases b with
        | false =>
          simp only [Bool.false_eq_true, if_false] at hb7 ⊢
          exact ⟨_, by omega, acc2, S7, (gr5.trans gy2).trans g7, hs7, hlt2, rfl, hb7⟩
        | true =>
          simp only [if_true] at hb7 ⊢
          refine ⟨σ6, S7, _, (h0.trans ((g1.trans G3).trans g6)).trans g7, hst6.mono g7, hs7, hb7, fun y S8 vy H8 ⟨hD8, hln, S9, hsub, hl9⟩ g8 ry8 hs8 => ?_⟩
          obtain ⟨xs, hx, hxs⟩ := hs8.lst D acc2 hD8
          have g9 : Grow H8 (upd H8 D (.lst (xs ++ [vy]))) := Grow.lst hx
          exact ⟨xs, hx, by rw [← hxs.length]; exact hln, _, by omega, acc2 ++ [y], S9, (((gr5.trans gy2).trans g7).trans g8).trans g9, (hs8.set hx (hxs.append (.cons ry8 .nil))).sub hsub, hlt2, rfl, hl9⟩
      · have e : j = items2.length := by omega
        subst e
        rw [List.drop_length] at hl2
        unfold lcR at hl2
        obtain ⟨hG2, hDD, hq2⟩ := hl2
        exact .inl ⟨(hw2 _ Hd S5 gr5 r5 hG2).2 (Nat.le_refl _), _, by omega, acc2, S5, G3.trans (g4.trans gr5), r5, hlt, rfl, hq2⟩
  · have e : i = items.length := by omega
    subst e
    rw [List.drop_length] at hl
    unfold lcO at hl
    obtain ⟨hG, hDD, hq⟩ := hl
    exact .inl ⟨(hw _ Hc S' gr r hG).2 (Nat.le_refl _), k _ S' _ Hc hq (g1.trans gr) (rwL D) r⟩
theorem chk_plainIt {τ : T} {c : Cf} {tg it : Expr} (h : (chk st τ).i c tg it = true) (n : ∀ a b d, it ≠ .Set a b d) : ∀ env x, foldedSetIterable it env x = pure x := by
  intro env x
  cases it <;> first | rfl | (exact absurd rfl (n _ _ _))
theorem comp2_chk {e : T} {gt : Pt} {it d : T} {gt2 : Pt} {it2 d2 : T} {own : List (Str × Nat)} {c : Cf} {elt : Expr} {gs : List Comprehension} {sc : Scope} {lp : Pos} (h : (chk st (.comp2 e gt it d gt2 it2 d2 own)).e c (.ListComp elt gs sc lp) = true) :
    ∃ g' it' ifs g2' it2' ifs2, gs = [⟨g', it', ifs, 0⟩, ⟨g2', it2', ifs2, 0⟩] ∧ (chk st e).e (c.blk sc) elt = true ∧ chkP (c.blk sc) gt g' = true ∧ (chk st it).i c g' it' = true ∧ (chk st d).c (c.blk sc) ifs = true ∧ blkC c.N c.sc sc own = true ∧ (∀ i ∈ gt.slots, i ∈ own.map (·.2)) ∧
      chkP (c.blk sc) gt2 g2' = true ∧ (chk st it2).i (c.blk sc) g2' it2' = true ∧ (chk st d2).c (c.blk sc) ifs2 = true ∧ (∀ i ∈ gt2.slots, i ∈ own.map (·.2)) ∧ ∀ env x, foldedSetIterable it2' env x = pure x := by
  simp only [chk, mkC] at h
  split at h
  · rename_i e' g' it' ifs g2' it2' ifs2 sc' lp' eq
    cases eq
    simp only [Bool.and_eq_true, List.all_eq_true] at h
    obtain ⟨⟨⟨⟨⟨⟨⟨⟨⟨⟨h1, h2⟩, h3⟩, h4⟩, h5⟩, h6⟩, h7⟩, h8⟩, h9⟩, h10⟩, h11⟩ := h
    refine ⟨_, _, _, _, _, _, rfl, h1, h2, h3, h4, h5, fun i hi => by simpa using h6 i hi, h7, h8, h9, fun i hi => by simpa using h10 i hi, fun env x => ?_⟩
    cases it2' <;> first | rfl | cases h11
  · cases h
theorem snd_comp2 {e : T} {gt : Pt} {it d : T} {gt2 : Pt} {it2 d2 : T} {own : List (Str × Nat)} (he : Snd st e) (hi : Snd st it) (hd : Snd st d) (hi2 : Snd st it2) (hd2 : Snd st d2) : Snd st (.comp2 e gt it d gt2 it2 d2 own) := by
  have sh : ∀ {c : Cf} {x : Expr}, (chk st (.comp2 e gt it d gt2 it2 d2 own)).e c x = true → ∃ elt gs sc lp, x = .ListComp elt gs sc lp := by
    intro c x h
    simp only [chk, mkC] at h
    split at h
    · exact ⟨_, _, _, _, rfl⟩
    · cases h
  refine sndV (C := (chk st (.comp2 e gt it d gt2 it2 d2 own)).e) rfl rfl (fun {c x} h => ?_) (fun {G R c X H0 x} g h => ?_)
  · obtain ⟨elt, gs, sc, lp, rfl⟩ := sh h
    exact ⟨rfl, rfl⟩
  · obtain ⟨elt, gs, sc, lp, rfl⟩ := sh h
    obtain ⟨g', it', ifs, g2', it2', ifs2, rfl, h1, h2, h3, h4, h5, h6, h7, h8, h9, h10, h11⟩ := comp2_chk h
    obtain ⟨i1, i2⟩ := hi.i g h3
    have ok := blkOk_by h5
    rw [← g.N, ← g.sc] at ok
    refine PE.weak (pe_lc2 (vs1 := gt2.slots) g.calm (by rw [g.N]; exact g.nd) i1 ok h10 (fun s H C cl fp => sndP (Gd.blk g.toGd0 s H sc C cl fp ok.kind).toGd0 gt g' h2) (fun s H C cl fp => hd.c (Gd.blk g.toGd0 s H sc C cl fp ok.kind) h4) (fun s H C cl fp => (hi2.i (Gd.blk g.toGd0 s H sc C cl fp ok.kind) h8).1)
        (fun s H C cl fp => sndP (Gd.blk g.toGd0 s H sc C cl fp ok.kind).toGd0 gt2 g2' h7) (fun s H C cl fp => hd2.c (Gd.blk g.toGd0 s H sc C cl fp ok.kind) h9) (fun s H C cl fp => he.e (Gd.blk g.toGd0 s H sc C cl fp ok.kind) h1) i2 h11)
      fun v H Q q => lift_lc2 h6 q
end
theorem snd_all (st : Stt) : ∀ τ : T, Snd st τ := by
  intro τ
  induction τ with
  | nil => exact snd_nil
  | cons a l ha hl => exact snd_cons ha hl
  | star a _ => exact snd_no rfl rfl
  | scons a l ha hl => exact snd_scons ha hl
  | gti x i => exact snd_gti x i
  | gtt x i => exact snd_gtt x i
  | gst x i => exact snd_gst x i
  | var i => exact snd_var i
  | int i => exact snd_int i
  | bl i => exact snd_bl i
  | non => exact snd_non
  | str i => exact snd_str i
  | gint x i => exact snd_gint x i
  | cls i => exact snd_cls i
  | ty i => exact snd_ty i
  | gfn i => exact snd_gfn i
  | tup l h => exact snd_tup h
  | lst l h => exact snd_lst h
  | bin o a b ha hb => exact snd_bin o ha hb
  | neg a h => exact snd_neg h
  | not a h => exact snd_not h
  | and a b ha hb => exact snd_and ha hb
  | or a b ha hb => exact snd_or ha hb
  | cmp o a b ha hb => exact snd_cmp o ha hb
  | chn o p a b c ha hb hc => exact snd_chn o p ha hb hc
  | ite a b c ha hb hc => exact snd_ite ha hb hc
  | ix a b ha hb => exact snd_ix ha hb
  | slc a b c ha hb hc => exact snd_slc ha hb hc
  | rev a h => exact snd_rev h
  | call f l h => exact snd_call f h
  | callk f l k h hk => exact snd_callk f h hk
  | blt b l h => exact snd_blt b h
  | mth m o l ho hl => exact snd_mth m ho hl
  | lrng a h => exact snd_lrng h
  | att a h => exact snd_att h
  | hrd b h => exact snd_hrd h
  | comp e g it c own he hi hc => exact snd_comp he hi hc
  | comp2 e g it c g2 it2 c2 own he hi hc hi2 hc2 => exact snd_comp2 he hi hc hi2 hc2
  | rng l h => exact snd_rng h
  | enm a h => exact snd_enm h
  | zp a b ha hb => exact snd_zp ha hb
  | revd a h => exact snd_revd h
end PW

set_option Elab.async false
set_option linter.all false
set_option maxRecDepth 100000
set_option maxHeartbeats 2000000
/-! own prelude, part 14: statements -/
namespace PW
open PySem PySem.Spec PyProof.Rows L2
/-- a reading of statements, over the abstract heap -/
def liftS (G : Ge) (H0 : Hp) (t : WEn → WSt → Sto → Prop) : TS := fun D v H => ∃ (σ : WSt) (S : Sto) (D0 : WEn), Grow H0 H ∧ RSt G H σ v ∧ RS G H S ∧ t D0 σ S ∧
  (∀ σ' S' v' H', D0.nx σ' S' → Grow H H' → RSt G H' σ' v' → RS G H' S' → D.nx v' H') ∧ (∀ w S' x H', D0.rt w S' → Grow H H' → RW G H' w x → RS G H' S' → D.rt x H') ∧
  (∀ σ' S' v' H', D0.bk σ' S' → Grow H H' → RSt G H' σ' v' → RS G H' S' → D.bk v' H') ∧ (∀ σ' S' v' H', D0.ct σ' S' → Grow H H' → RSt G H' σ' v' → RS G H' S' → D.ct v' H')
structure SndS (st : Stt) (β : B) : Prop where
  s : ∀ {G R c X H0 x}, Gd st G R c X H0 → (chkB st β).s c x = true → PS X x (liftS G H0 (rdB β R))
  b : ∀ {G R c X H0 xs}, Gd st G R c X H0 → (chkB st β).b c xs = true → PSs X xs (liftS G H0 (rdB β R))
section
variable {st : Stt} {G : Ge} {R : Rc} {c : Cf} {X : Cx} {H0 : Hp}
theorem RS.wsub {H : Hp} {S S' : Sto} (r : RS G H S) (h : PW.wsub S' S) : RS G H S' := r.sub h
theorem RSt.wst {H : Hp} {σ σ' : WSt} {v : L2.St} (r : RSt G H σ v) (h : PW.wst σ' σ) : RSt G H σ' v := ⟨h.1.trans r.len, fun i w e => r.at_ i w (h.2 i w e)⟩
theorem sw_no {e : Expr} {env : Env} {t : Option Expr} {l : Nat} (h : isNoughtB e = true) : swapsWith e t l env = pure false := by
  cases e <;> first | rfl | cases h
theorem sw_tgt {e : Expr} {env : Env} {t : Expr} {l : Nat} (h : ∀ x p, t ≠ .Name x p) : swapsWith e (some t) l env = pure false := by
  cases t with
  | Name x p => exact absurd rfl (h x p)
  | _ => cases e <;> rfl
theorem sw_name {elt : Expr} {gs : List Comprehension} {sc : Scope} {pos py : Pos} {y : Str} {l : Nat} {env : Env} :
    swapsWith (.ListComp elt gs sc pos) (some (.Name y py)) l env = pure false ∨ (swapsWith (.ListComp elt gs sc pos) (some (.Name y py)) l env = pure true ∧ env.kindOf y = some .local) := by
  have e : swapsWith (.ListComp elt gs sc pos) (some (.Name y py)) l env = pure (env.blockKind == .function && env.kindOf y == some .local && py.line == pos.line && !(sc.names.any fun (n, k) => n == y && (k == .local || k == .cell))) := rfl
  cases q : (env.blockKind == .function && env.kindOf y == some .local && py.line == pos.line && !(sc.names.any fun (n, k) => n == y && (k == .local || k == .cell))) with
  | false => rw [q] at e; exact .inl e
  | true =>
    rw [q] at e
    simp only [Bool.and_eq_true] at q
    exact .inr ⟨e, by simpa using q.1.1.2⟩
theorem noStar {vs : List Expr} (h : ∀ x ∈ vs, exB x = true) : (vs.any fun | .Starred .. => true | _ => false) = false := by
  rw [List.any_eq_false]
  intro x hx
  have := h x hx
  cases x <;> first | (cases this; done) | simp
theorem kind_of (g : Gd0 st G R c X H0) (x : Str) : X.env.kindOf x = c.sc.names.lookup x := by rw [← g.sc]; rfl
theorem sws_none {ts vs : List Expr} {k k2 p p2} (g : Gd0 st G R c X H0) (h : swpB c ts vs = true) (hv : ∀ x ∈ vs, exB x = true) : swappedStores [.Tuple ts k p] (.Tuple vs k2 p2) X.env = pure none := by
  have hk := kind_of g
  unfold swpB swNames at h
  unfold swappedStores
  simp only [hk]
  repeat' split
  all_goals first
    | rfl
    | (exfalso
       rename_i x1 x2 x3 x4 x5
       simp only [Bool.or_eq_true, not_or] at h x1 x3
       obtain ⟨⟨n1, n2⟩, _⟩ := x1
       obtain ⟨n3, n4⟩ := x3
       rcases h with ((h | h) | (h | h)) | h <;> contradiction)
theorem sws_some {ts vs : List Expr} {k k2 p p2} (g : Gd0 st G R c X H0) (h1 : (ts.length == 2 || ts.length == 3) = true) (h2 : (vs.length == ts.length) = true) (h3 : swNames c.sc ts = nmsOf ts) (h4 : (nmsOf ts).length = ts.length ∧ (nmsOf ts).eraseDups.length = ts.length)
    (h5 : vs.all (foldedForSure 8) = false) (h6 : vs.all (constantsAlone 8) = false) (hv : ∀ x ∈ vs, exB x = true) : swappedStores [.Tuple ts k p] (.Tuple vs k2 p2) X.env = pure (some (nmsOf ts)) := by
  have hk := kind_of g
  have hb : X.env.blockKind = .function := by
    unfold Env.blockKind
    rw [g.kind] <;> rfl
  have hs := noStar hv
  have h2' : vs.length = ts.length := by simpa using h2
  obtain ⟨h4, h4'⟩ := h4
  unfold swappedStores
  simp only [hk]
  repeat' split
  · rename_i x
    simp [h2', hb] at x h1
    omega
  · rename_i x
    exact absurd (hs.symm.trans x) Bool.false_ne_true
  · rename_i x
    change ((swNames c.sc ts).length != ts.length || (swNames c.sc ts).eraseDups.length != (swNames c.sc ts).length) = true at x
    rw [h3] at x
    simp [h4, h4'] at x
  · rename_i x
    rw [h5] at x
    cases x
  · rename_i x
    rw [h6] at x
    cases x
  · show pure (some (swNames c.sc ts)) = pure (some (nmsOf ts))
    rw [h3]
theorem nm_of {g : Pt} {x : Str} {p : Pos} (h : chkP c g (.Name x p) = true) : ∃ i, g = .nm i ∧ locB c i x = true := by
  cases g with
  | nm i => exact ⟨i, rfl, by unfold chkP at h; exact h⟩
  | _ => unfold chkP at h; cases h
theorem tup_of' {g : Pt} {ts : List Expr} {k p} (h : chkP c g (.Tuple ts k p) = true) : ∃ l, g = .tup l ∧ chkPs c l ts = true := by
  cases g with
  | tup l => exact ⟨l, rfl, by unfold chkP at h; exact h⟩
  | _ => unfold chkP at h; cases h
/-- a target's store, behind the value -/
theorem lift_asg {gt : Pt} {te : Rc → WE} {D : Ends} {v : L2.St} {H : Hp} (h : liftS G H0 (fun D0 σ S => te R σ S fun w S1 => gP gt w σ S1 D0.nx) D v H) : tAsg (liftE G H0 (te R)) (liftG G H0 gt.slots (gP gt)) D v H := by
  obtain ⟨σ, S, D0, h0, hv, hs, h, kn, _⟩ := h
  exact ⟨σ, S, _, h0, hv, hs, h, fun w S1 x H1 hw g1 rx hs1 => ⟨w, σ, S1, D0.nx, h0.trans g1, hv.mono g1, hs1, rx, hw, fun σ' v' hq hst _ _ => kn σ' S1 v' H1 hq g1 hst hs1⟩⟩
theorem PS.asg {x : Stmt} {t : TS} (h : PS X x t) {t' : TS} (k : ∀ D σ H, t' D σ H → t D σ H) : PS X x t' := PS.weak h k
theorem exB_all {vs : List Expr} {l : T} (g : Gd st G R c X H0) (h : (chk st l).a c vs = true) : ∀ x ∈ vs, exB x = true := ((snd_all st l).a g h).1
theorem sndSt {β : B} {C : Cf → Stmt → Bool} (hc : chkB st β = mkS C) (hs : ∀ {G R c X H0 x}, Gd st G R c X H0 → C c x = true → PS X x (liftS G H0 (rdB β R))) : SndS st β where
  s := fun g h => hs g (by rw [hc] at h; exact h)
  b := fun g h => by rw [hc] at h; cases h
theorem comp_chk {e : T} {gt : Pt} {it d : T} {own : List (Str × Nat)} {c : Cf} {elt : Expr} {gs : List Comprehension} {sc : Scope} {lp : Pos} (h : (chk st (.comp e gt it d own)).e c (.ListComp elt gs sc lp) = true) :
    ∃ g' it' ifs, gs = [⟨g', it', ifs, 0⟩] ∧ (chk st e).e (c.blk sc) elt = true ∧ chkP (c.blk sc) gt g' = true ∧ (chk st it).i c g' it' = true ∧ (chk st d).c (c.blk sc) ifs = true ∧ blkC c.N c.sc sc own = true ∧ ∀ i ∈ gt.slots, (own.map (·.2)).contains i = true := by
  simp only [chk, mkC] at h
  split at h
  · rename_i e' g' it' ifs sc' lp' eq
    cases eq
    simp only [Bool.and_eq_true, List.all_eq_true] at h
    obtain ⟨⟨⟨⟨⟨h1, h2⟩, h3⟩, h4⟩, h5⟩, h6⟩ := h
    exact ⟨_, _, _, rfl, h1, h2, h3, h4, h5, h6⟩
  · cases h
theorem no_comp {e : T} {c : Cf} {elt : Expr} {gs : List Comprehension} {sc : Scope} {lp : Pos} (h : (chk st e).e c (.ListComp elt gs sc lp) = true) : (∃ e' g it d own, e = .comp e' g it d own) ∨ ∃ e' g it d g2 it2 d2 own, e = .comp2 e' g it d g2 it2 d2 own := by
  cases e with
  | comp e' g it d own => exact .inl ⟨_, _, _, _, _, rfl⟩
  | comp2 e' g it d g2 it2 d2 own => exact .inr ⟨_, _, _, _, _, _, _, _, rfl⟩
  | _ => cases h
theorem noughtB {e : T} {c : Cf} {v : Expr} (h : (chk st e).e c v = true) : isNoughtB v = true ∨ ∃ elt gs sc lp, v = .ListComp elt gs sc lp := by
  cases v with
  | ListComp elt gs sc lp => exact .inr ⟨_, _, _, _, rfl⟩
  | SetComp a b c d => have := (snd_all st e).ex h; cases this
  | DictComp a b c d f => have := (snd_all st e).ex h; cases this
  | _ => exact .inl rfl
theorem s_asg {gt : Pt} {e : T} : SndS st (.asg gt e) := by
  refine sndSt rfl (fun {G R c X H0 x} g h => ?_)
  split at h
  · rename_i x p v pos
    rw [Bool.and_eq_true] at h
    obtain ⟨hg, he⟩ := h
    obtain ⟨i, rfl, hl⟩ := nm_of hg
    obtain ⟨l1, l2, l3⟩ := loc_of g.toGd0 hl
    have plain : swapsWith v (some (.Name x p)) pos.line X.env = pure false → PS X (.Assign [.Name x p] v pos) (liftS G H0 (rdB (.asg (.nm i) e) R)) := fun sw =>
      PS.weak (ps_asg (pos := pos) ((snd_all st e).e g he) (sndP g.toGd0 (.nm i) (.Name x p) hg) sw (by cases v <;> rfl) rfl) fun D v H q => lift_asg q
    rcases noughtB he with hn | ⟨elt, gs, sc, lp, rfl⟩
    · exact plain (sw_no hn)
    · rcases sw_name (elt := elt) (gs := gs) (sc := sc) (pos := lp) (py := p) (y := x) (l := pos.line) (env := X.env) with sw | ⟨sw, hy⟩
      · exact plain sw
      · rcases no_comp he with ⟨e, g', it, d, own, rfl⟩ | ⟨e, g', it, d, gg, it2, d2, own, rfl⟩
        · obtain ⟨g2, it', ifs, rfl, h1, h2, h3, h4, h5, h6⟩ := comp_chk he
          obtain ⟨i1, i2⟩ := (snd_all st it).i g h3
          have ok := blkOk_by h5
          rw [← g.N, ← g.sc] at ok
          refine PS.weak (ps_setLc (i := i) g.calm (by rw [g.N]; exact g.nd) l1 hy sw i1 ok (fun s H C cl fp => sndP (Gd.blk g.toGd0 s H sc C cl fp ok.kind).toGd0 g' g2 h2) (fun s H C cl fp => (snd_all st d).c (Gd.blk g.toGd0 s H sc C cl fp ok.kind) h4) (fun s H C cl fp => (snd_all st e).e (Gd.blk g.toGd0 s H sc C cl fp ok.kind) h1) i2) fun D v H q => ?_
          obtain ⟨σ, S, D0, h0, hv, hs, h, kn, _⟩ := q
          have h' : (rd (.comp e g' it d own)).e R σ S (fun w S1 => gP (.nm i) w σ S1 D0.nx) := h
          refine lift_lc (te := (rd e).e R.no) (tc := (rd d).c R.no) (fun i hi => by simpa using h6 i hi) (show liftE G H0 ((rd (.comp e g' it d own)).e R) v H _ from ⟨σ, S, _, h0, hv, hs, h', fun w S1 x H1 hw g1 rx hs1 => ?_⟩)
          unfold gP at hw
          exact kn _ S1 _ H1 hw g1 ((hv.mono g1).set i rx) hs1
        · obtain ⟨g2, it', ifs, g4, it4', ifs4, rfl, h1, h2, h3, h4, h5, h6, h7, h8, h9, h10, h11⟩ := comp2_chk he
          obtain ⟨i1, i2⟩ := (snd_all st it).i g h3
          have ok := blkOk_by h5
          rw [← g.N, ← g.sc] at ok
          refine PS.weak (ps_setLc2 (i := i) (vs1 := gg.slots) g.calm (by rw [g.N]; exact g.nd) l1 hy sw i1 ok h10 (fun s H C cl fp => sndP (Gd.blk g.toGd0 s H sc C cl fp ok.kind).toGd0 g' g2 h2) (fun s H C cl fp => (snd_all st d).c (Gd.blk g.toGd0 s H sc C cl fp ok.kind) h4) (fun s H C cl fp => ((snd_all st it2).i (Gd.blk g.toGd0 s H sc C cl fp ok.kind) h8).1)
              (fun s H C cl fp => sndP (Gd.blk g.toGd0 s H sc C cl fp ok.kind).toGd0 gg g4 h7) (fun s H C cl fp => (snd_all st d2).c (Gd.blk g.toGd0 s H sc C cl fp ok.kind) h9) (fun s H C cl fp => (snd_all st e).e (Gd.blk g.toGd0 s H sc C cl fp ok.kind) h1) i2 h11) fun D v H q => ?_
          obtain ⟨σ, S, D0, h0, hv, hs, h, kn, _⟩ := q
          have h' : (rd (.comp2 e g' it d gg it2 d2 own)).e R σ S (fun w S1 => gP (.nm i) w σ S1 D0.nx) := h
          refine lift_lc2 (te := (rd e).e R.no) (tc := (rd d).c R.no) (tc2 := (rd d2).c R.no) (wi2 := (rd it2).i R.no) h6 (show liftE G H0 ((rd (.comp2 e g' it d gg it2 d2 own)).e R) v H _ from ⟨σ, S, _, h0, hv, hs, h', fun w S1 x H1 hw g1 rx hs1 => ?_⟩)
          unfold gP at hw
          exact kn _ S1 _ H1 hw g1 ((hv.mono g1).set i rx) hs1
  · rename_i ts k p v pos
    simp only [Bool.and_eq_true] at h
    obtain ⟨⟨hg, he⟩, hw⟩ := h
    obtain ⟨l, rfl, hl⟩ := tup_of' hg
    refine PS.weak (ps_asg (pos := pos) ((snd_all st e).e g he) (sndP g.toGd0 (.tup l) _ hg) (show swapsWith v (some (.Tuple ts k p)) pos.line X.env = pure false from sw_tgt fun _ _ z => by cases z) ?_ rfl) fun D v H q => lift_asg q
    cases v with
    | Tuple vs k2 p2 =>
      simp only [Bool.and_eq_true, List.all_eq_true] at hw
      exact sws_none g.toGd0 hw.1 hw.2
    | _ => rfl
  · cases h
end
end PW

set_option Elab.async false
set_option linter.all false
set_option maxRecDepth 100000
set_option maxHeartbeats 2000000
/-! own prelude, part 15: statements, further; whole bodies -/
namespace PW
open PySem PySem.Spec PyProof.Rows L2
section
variable {st : Stt} {G : Ge} {R : Rc} {c : Cf} {X : Cx} {H0 : Hp}
theorem s_nil : SndS st .nil where
  s := fun g h => by cases h
  b := fun {G R c X H0 xs} g h => by
    cases xs with
    | cons _ _ => cases h
    | nil => exact PSs.weak pss_nil fun D v H ⟨σ, S, D0, h0, hv, hs, h, kn, _⟩ => kn σ S v H h (Grow.refl _) hv hs
theorem s_seq {s r : B} (h1 : SndS st s) (h2 : SndS st r) : SndS st (.seq s r) where
  s := fun g h => by cases h
  b := fun {G R c X H0 xs} g h => by
    cases xs with
    | nil => cases h
    | cons x xs =>
      have h' : ((chkB st s).s c x && (chkB st r).b c xs) = true := h
      rw [Bool.and_eq_true] at h'
      refine PSs.weak (pss_cons (h1.s g h'.1) (h2.b g h'.2)) fun D v H ⟨σ, S, D0, h0, hv, hs, h, kn, kr, kb, kc⟩ => ?_
      exact ⟨σ, S, _, h0, hv, hs, h, fun σ' S' v' H' q g1 hv' hs' => ⟨σ', S', D0, h0.trans g1, hv', hs', q, fun σ2 S2 v2 H2 q2 g2 hv2 hs2 => kn σ2 S2 v2 H2 q2 (g1.trans g2) hv2 hs2, fun w S2 x H2 q2 g2 rx hs2 => kr w S2 x H2 q2 (g1.trans g2) rx hs2,
        fun σ2 S2 v2 H2 q2 g2 hv2 hs2 => kb σ2 S2 v2 H2 q2 (g1.trans g2) hv2 hs2, fun σ2 S2 v2 H2 q2 g2 hv2 hs2 => kc σ2 S2 v2 H2 q2 (g1.trans g2) hv2 hs2⟩, kr, kb, kc⟩
theorem parB_cons {i : Nat} {is : List Nat} {t : Expr} {ts : List Expr} (h : parB c (i :: is) (t :: ts) = true) : ∃ x p, t = .Name x p ∧ c.N[i]? = some x ∧ c.sc.names.lookup x = some .local ∧ parB c is ts = true := by
  cases t with
  | Name x p =>
    simp only [parB, Bool.and_eq_true, decide_eq_true_eq] at h
    exact ⟨x, p, rfl, h.1.1, h.1.2, h.2⟩
  | _ => simp [parB] at h
theorem s_par {is : List Nat} {l : T} : SndS st (.par is l) := by
  refine sndSt rfl (fun {G R c X H0 x} g h => ?_)
  split at h
  · rename_i ts k p vs k2 p2 pos
    simp only [Bool.and_eq_true, decide_eq_true_eq, Bool.not_eq_true'] at h
    obtain ⟨⟨⟨⟨⟨⟨⟨⟨h1, h2⟩, h3⟩, h4⟩, h5⟩, h6⟩, h7⟩, h8⟩, h9⟩ := h
    have sw := sws_some (k := k) (p := p) (k2 := k2) (p2 := p2) g.toGd0 h4 h5 h6 h7 h8 h9 (exB_all g h2)
    obtain ⟨_, hA⟩ := (snd_all st l).a g h2
    have h5' : vs.length = ts.length := by simpa using h5
    match ts, is, vs with
    | [], is, _ => simp at h4
    | [_], is, _ => simp at h4
    | t1 :: t2 :: ts, [], _ => simp [parB] at h1
    | t1 :: t2 :: ts, [_], _ => obtain ⟨x, px, rfl, _, _, q⟩ := parB_cons h1; simp [parB] at q
    | [t1, t2], i :: j :: is, [a, b] =>
      obtain ⟨x, px, rfl, nx, lx, q⟩ := parB_cons h1
      obtain ⟨y, py, rfl, ny, ly, q⟩ := parB_cons q
      cases is with
      | cons _ _ => simp [parB] at q
      | nil =>
        refine PS.weak (ps_par (i := i) (j := j) (pos := pos) g.calm (by rw [g.N]; exact g.nd) (by rw [g.N]; exact nx) (by rw [g.N]; exact ny) (by simpa using h3) (by rw [g.sc]; exact lx) (by rw [g.sc]; exact ly) hA sw rfl) fun D v H ⟨σ, S, D0, h0, hv, hs, h, kn, _⟩ => ?_
        refine ⟨σ, S, _, h0, hv, hs, h, fun ws S1 xs H1 hw g1 rw hs1 => ?_⟩
        match ws, hw, rw with
        | [], hw, _ => exact hw.elim
        | [_], hw, _ => exact hw.elim
        | [w, u], hw, rw =>
          obtain ⟨y1, y2, rfl, r1, r2⟩ := rw.two_of
          exact ⟨y1, y2, rfl, kn _ S1 _ H1 hw g1 (((hv.mono g1).set i r1).set j r2) hs1⟩
        | _ :: _ :: _ :: _, hw, _ => exact hw.elim
    | [t1, t2, t3], i :: j :: is, [a, b, d] =>
      obtain ⟨x, px, rfl, nx, lx, q⟩ := parB_cons h1
      obtain ⟨y, py, rfl, ny, ly, q⟩ := parB_cons q
      cases is with
      | nil => simp [parB] at q
      | cons m is =>
        obtain ⟨z, pz, rfl, nz, lz, q⟩ := parB_cons q
        cases is with
        | cons _ _ => simp [parB] at q
        | nil =>
          simp only [List.nodup_cons, List.mem_cons, List.not_mem_nil, or_false, not_or, List.nodup_nil, not_false_eq_true, and_true] at h3
          obtain ⟨⟨n1, n2⟩, n3⟩ := h3
          refine PS.weak (ps_par3 (i := i) (j := j) (l := m) (pos := pos) g.calm (by rw [g.N]; exact g.nd) (by rw [g.N]; exact nx) (by rw [g.N]; exact ny) (by rw [g.N]; exact nz) n1 n2 n3 (by rw [g.sc]; exact lx) (by rw [g.sc]; exact ly) (by rw [g.sc]; exact lz) hA sw rfl) fun D v H ⟨σ, S, D0, h0, hv, hs, h, kn, _⟩ => ?_
          refine ⟨σ, S, _, h0, hv, hs, h, fun ws S1 xs H1 hw g1 rw hs1 => ?_⟩
          match ws, hw, rw with
          | [], hw, _ => exact hw.elim
          | [_], hw, _ => exact hw.elim
          | [_, _], hw, _ => exact hw.elim
          | [w, u, w'], hw, rw =>
            obtain ⟨y1, r, rfl, r1, rr⟩ := rw.cons_of
            obtain ⟨y2, y3, rfl, r2, r3⟩ := rr.two_of
            exact ⟨y1, y2, y3, rfl, kn _ S1 _ H1 hw g1 ((((hv.mono g1).set i r1).set j r2).set m r3) hs1⟩
          | _ :: _ :: _ :: _ :: _, hw, _ => exact hw.elim
    | _ :: _ :: _ :: _ :: _, _, _ => simp at h4
    | [_, _], _ :: _ :: _, [] => simp at h5'
    | [_, _], _ :: _ :: _, [_] => simp at h5'
    | [_, _], _ :: _ :: _, _ :: _ :: _ :: _ => simp at h5'
    | [_, _, _], _ :: _ :: _, [] => simp at h5'
    | [_, _, _], _ :: _ :: _, [_] => simp at h5'
    | [_, _, _], _ :: _ :: _, [_, _] => simp at h5'
    | [_, _, _], _ :: _ :: _, _ :: _ :: _ :: _ :: _ => simp at h5'
  · cases h
theorem ex_sub {i o : Expr} {pos : Pos} (h : exB i = true) (env : Env) (v : Value) : assign (.Subscript o i pos) env v = (do
      let ov ← holding [v] (eval o env)
      let iv ← holding [v, ov] (eval i env)
      standAt pos
      holding [v, ov, iv] (setItem ov iv v)
      release [v, ov, iv] []) := by
  cases i <;> first | rfl | cases h
theorem ex_aug {i : Expr} (h : exB i = true) (ov iv new : Value) : augStore i ov iv new = (do holding [new, ov, iv] (setItem ov iv new); release [new, ov, iv] []; pure .next) := by
  cases i <;> first | rfl | cases h
theorem s_asgI {a i e : T} : SndS st (.asgI a i e) := by
  refine sndSt rfl (fun {G R c X H0 x} g h => ?_)
  split at h
  · rename_i a' i' p v pos
    simp only [Bool.and_eq_true] at h
    obtain ⟨⟨h1, h2⟩, h3⟩ := h
    refine PS.weak (ps_asg (pos := pos) ((snd_all st e).e g h3) (pg_sub (pos := p) ((snd_all st a).e g h1) ((snd_all st i).e g h2) (setL_ok (X := X) (G := G)) (ex_sub ((snd_all st i).ex h2) X.env)) (show swapsWith v (some (.Subscript a' i' p)) pos.line X.env = pure false from sw_tgt fun _ _ z => by cases z) (by cases v <;> rfl) rfl) fun D v H ⟨σ, S, D0, h0, hv, hs, h, kn, _⟩ => ?_
    exact ⟨σ, S, _, h0, hv, hs, h, fun w S1 x H1 hw g1 rx hs1 => ⟨σ, S1, _, h0.trans g1, hv.mono g1, hs1, hw, fun u S2 y H2 hu g2 ry hs2 => ⟨σ, S2, _, (h0.trans g1).trans g2, (hv.mono g1).mono g2, hs2, hu, fun k S3 z H3 hk g3 rz hs3 =>
      ⟨u, k, w, S3, _, ry.mono g3, rz, (rx.mono g2).mono g3, hs3, hk, fun S' H' q g4 hs4 => kn σ S' v H' q (((g1.trans g2).trans g3).trans g4) ((((hv.mono g1).mono g2).mono g3).mono g4) hs4⟩⟩⟩⟩
  · cases h
theorem s_aug {i : Nat} {o : Operator} {e : T} : SndS st (.aug i o e) := by
  refine sndSt rfl (fun {G R c X H0 x} g h => ?_)
  split at h
  · rename_i x p o' v pos
    simp only [Bool.and_eq_true, decide_eq_true_eq] at h
    obtain ⟨⟨h1, rfl⟩, h2⟩ := h
    obtain ⟨l1, l2, l3⟩ := loc_of g.toGd0 h1
    refine PS.weak (ps_aug (pos := pos) (pos' := p) (by rw [g.N]; exact g.nd) l1 l2 ((snd_all st e).e g h2) (augW_ok (X := X) (G := G) o) l3) fun D v H ⟨σ, S, D0, h0, hv, hs, h, kn, _⟩ => ?_
    have h' : (match σ[i]? with
      | some (some x) => rdE e R σ S fun y S1 => augW o x y S1 fun z S2 => D0.nx (σ.set i (some z)) S2
      | _ => False) := h
    cases q : σ[i]? with
    | none => rw [q] at h'; exact h'.elim
    | some w =>
      cases w with
      | none => rw [q] at h'; exact h'.elim
      | some w =>
        rw [q] at h'
        obtain ⟨y, e1, ry⟩ := hv.at_ i w q
        exact ⟨y, e1, σ, S, _, h0, hv, hs, h', fun u S1 z H1 hu g1 rz hs1 => ⟨w, u, S1, _, ry.mono g1, rz, hs1, hu, fun w2 S2 x2 H2 hq g2 r2 hs2 => kn _ S2 _ H2 hq (g1.trans g2) (((hv.mono g1).mono g2).set i r2) hs2⟩⟩
  · cases h
/-- a[i] read, to be written -/
theorem getL_ok : PGet X (r2W G getL) := by
  intro pins s σ H o i ov iv Q I ro ri ⟨w, z, S, Q0, hw, hz, r, h, k⟩
  unfold getL at h
  split at h
  · obtain ⟨ws, u, e, h0, e2, h⟩ := h
    rw [rw_lst hw] at ro
    rw [rw_int hz] at ri
    obtain ⟨xs, ha, hx⟩ := r.lst _ _ e
    obtain ⟨y, e3, ry⟩ := hx.get e2
    obtain ⟨its, n, rv, eo, hzz⟩ := I.lst ha
    obtain ⟨v, e4, rr⟩ := rv.get e3
    obtain rfl := ro
    obtain ⟨t, rfl⟩ := ri
    have hlt := (List.getElem?_eq_some_iff.mp e3).1
    have hl : sizeLine = 16777216 := sizeLine_eq
    exact wpAny_getItem_list (x := v) (items := its.toArray) ⟨_, eo, rfl, n, rfl⟩ h0 (by omega) (by simpa using e4) ⟨y, H, I, rr, k.pure r h ry⟩
  · exact h.elim
theorem s_augI {a i e : T} {o : Operator} : SndS st (.augI a i o e) := by
  refine sndSt rfl (fun {G R c X H0 x} g h => ?_)
  split at h
  · rename_i a' i' p o' v pos
    simp only [Bool.and_eq_true, decide_eq_true_eq] at h
    obtain ⟨⟨⟨h1, h2⟩, rfl⟩, h3⟩ := h
    refine PS.weak (ps_augS (pos := pos) ((snd_all st a).e g h1) ((snd_all st i).e g h2) (getL_ok (X := X) (G := G)) ((snd_all st e).e g h3) (augW_ok (X := X) (G := G) o) (setL_ok (X := X) (G := G)) (ex_aug ((snd_all st i).ex h2))) fun D v H ⟨σ, S, D0, h0, hv, hs, h, kn, _⟩ => ?_
    refine ⟨σ, S, _, h0, hv, hs, h, fun w S1 x H1 hw g1 rx hs1 => ⟨σ, S1, _, h0.trans g1, hv.mono g1, hs1, hw, fun u S2 y H2 hu g2 ry hs2 => ⟨w, u, S2, _, rx.mono g2, ry, hs2, hu, fun b S3 z H3 hb g3 rz hs3 =>
      ⟨σ, S3, _, ((h0.trans g1).trans g2).trans g3, ((hv.mono g1).mono g2).mono g3, hs3, hb, fun d S4 vd H4 hd g4 rd hs4 => ⟨b, d, S4, _, rz.mono g4, rd, hs4, hd, fun f S5 vf H5 hf g5 rf hs5 =>
        ⟨w, u, f, S5, _, (((rx.mono g2).mono g3).mono g4).mono g5, ((ry.mono g3).mono g4).mono g5, rf, hs5, hf, fun S' H' q g6 hs6 => ?_⟩⟩⟩⟩⟩⟩
    exact kn σ S' v H' q (((((g1.trans g2).trans g3).trans g4).trans g5).trans g6) ((((((hv.mono g1).mono g2).mono g3).mono g4).mono g5).mono g6) hs6
  · cases h
theorem s_ex {e : T} : SndS st (.ex e) := by
  refine sndSt rfl (fun {G R c X H0 x} g h => ?_)
  split at h
  · rename_i v pos
    rw [Bool.and_eq_true] at h
    exact PS.weak (ps_expr ((snd_all st e).e g h.1) (sw_no h.2)) fun D v H ⟨σ, S, D0, h0, hv, hs, h, kn, _⟩ => ⟨σ, S, _, h0, hv, hs, h, fun w S1 x H1 hw g1 rx hs1 => kn σ S1 v H1 hw g1 (hv.mono g1) hs1⟩
  · cases h
theorem s_ret {e : T} : SndS st (.ret e) := by
  refine sndSt rfl (fun {G R c X H0 x} g h => ?_)
  split at h
  · exact PS.weak (ps_ret ((snd_all st e).e g h)) fun D v H ⟨σ, S, D0, h0, hv, hs, h, kn, kr, _⟩ => ⟨σ, S, _, h0, hv, hs, h, fun w S1 x H1 ⟨S2, hsub, hw⟩ g1 rx hs1 => kr w S2 x H1 hw g1 rx (hs1.wsub hsub)⟩
  · cases h
theorem s_retN : SndS st .retN := by
  refine sndSt rfl (fun {G R c X H0 x} g h => ?_)
  split at h
  · exact PS.weak ps_retN fun D v H ⟨σ, S, D0, h0, hv, hs, h, kn, kr, _⟩ => by
      obtain ⟨S2, hsub, hw⟩ := h
      exact kr .non S2 _ H hw (Grow.refl _) rwN (hs.wsub hsub)
  · cases h
theorem lift_more {t : WEn → WSt → Sto → Prop} {D : Ends} {σ : WSt} {S' : Sto} {D0 : WEn} {v : L2.St} {H H' : Hp} (g1 : Grow H H') (h0 : Grow H0 H) (hv : RSt G H' σ v) (hs : RS G H' S') (h : t D0 σ S')
    (kn : ∀ σ' S' v' H', D0.nx σ' S' → Grow H H' → RSt G H' σ' v' → RS G H' S' → D.nx v' H') (kr : ∀ w S' x H', D0.rt w S' → Grow H H' → RW G H' w x → RS G H' S' → D.rt x H')
    (kb : ∀ σ' S' v' H', D0.bk σ' S' → Grow H H' → RSt G H' σ' v' → RS G H' S' → D.bk v' H') (kc : ∀ σ' S' v' H', D0.ct σ' S' → Grow H H' → RSt G H' σ' v' → RS G H' S' → D.ct v' H') : liftS G H0 t D v H' :=
  ⟨σ, S', D0, h0.trans g1, hv, hs, h, fun σ2 S2 v2 H2 q2 g2 hv2 hs2 => kn σ2 S2 v2 H2 q2 (g1.trans g2) hv2 hs2, fun w S2 x H2 q2 g2 rx hs2 => kr w S2 x H2 q2 (g1.trans g2) rx hs2,
    fun σ2 S2 v2 H2 q2 g2 hv2 hs2 => kb σ2 S2 v2 H2 q2 (g1.trans g2) hv2 hs2, fun σ2 S2 v2 H2 q2 g2 hv2 hs2 => kc σ2 S2 v2 H2 q2 (g1.trans g2) hv2 hs2⟩
theorem s_ifs {d : T} {a b : B} (ha : SndS st a) (hb : SndS st b) : SndS st (.ifs d a b) := by
  refine sndSt rfl (fun {G R c X H0 x} g h => ?_)
  split at h
  · simp only [Bool.and_eq_true] at h
    refine PS.weak (ps_if ((snd_all st d).t g h.1.1) (ha.b g h.1.2) (hb.b g h.2)) fun D v H ⟨σ, S, D0, h0, hv, hs, h, kn, kr, kb, kc⟩ => ?_
    refine ⟨σ, S, _, h0, hv, hs, h, fun k S1 H1 hk g1 hs1 => ?_⟩
    cases k with
    | true =>
      simp only [if_true] at hk ⊢
      exact lift_more g1 h0 (hv.mono g1) hs1 hk kn kr kb kc
    | false =>
      simp only [Bool.false_eq_true, if_false] at hk ⊢
      exact lift_more g1 h0 (hv.mono g1) hs1 hk kn kr kb kc
  · cases h
theorem s_for {gt : Pt} {it : T} {b : B} (hb : SndS st b) : SndS st (.for gt it b) := by
  refine sndSt rfl (fun {G R c X H0 x} g h => ?_)
  split at h
  · rename_i g' it' b' pos
    simp only [Bool.and_eq_true] at h
    obtain ⟨⟨h1, h2⟩, h3⟩ := h
    obtain ⟨i1, i2⟩ := (snd_all st it).i g h2
    refine PS.weak (ps_for g.pass g.calm i1 (sndP g.toGd0 gt g' h1) (hb.b g h3) i2) fun D v H ⟨σ, S, D0, h0, hv, hs, h, kn, kr, kb, kc⟩ => ?_
    refine ⟨σ, S, _, h0, hv, hs, h, fun items P S1 J H1 hk g1 hs1 hw => ?_⟩
    refine ⟨fun i m v' H' => ∃ σ' S', Grow H1 H' ∧ RSt G H' σ' v' ∧ RS G H' S' ∧ i ≤ items.length ∧ m = items.length - i ∧ forR P (gP gt) (rdB b R) D0 (items.drop i) σ' S',
      ⟨items.length, σ, S1, Grow.refl _, hv.mono g1, hs1, Nat.zero_le _, rfl, hk⟩, ?_⟩
    rintro i m v' H' ⟨σ', S', gr, hv', hs', hi, rfl, hf⟩
    by_cases hlt : i < items.length
    · rw [List.drop_eq_getElem_cons hlt] at hf
      unfold forR at hf
      obtain ⟨hG, hf⟩ := hf
      obtain ⟨w1, _⟩ := hw i H' S' gr hs' hG
      obtain ⟨w2, w3⟩ := w1 _ (List.getElem?_eq_getElem hlt)
      refine .inr ⟨w2, fun v2 H2 => ∃ m', m' < items.length - i ∧ ∃ σ' S', Grow H1 H2 ∧ RSt G H2 σ' v2 ∧ RS G H2 S' ∧ i + 1 ≤ items.length ∧ m' = items.length - (i + 1) ∧ forR P (gP gt) (rdB b R) D0 (items.drop (i + 1)) σ' S', fun _ _ q => q, fun x Hy hy => ?_⟩
      obtain ⟨gy, ry, rx⟩ := w3 x Hy hy
      have gc := g1.trans gr
      refine ⟨_, σ', S', _, (h0.trans gc).trans gy, hv'.mono gy, ry, rx, hf, fun σ2 v2 hq hst _ _ => ?_⟩
      have nxt : ∀ (σ3 : WSt) (S3 : Sto) (v3 : L2.St) (H3 : Hp), less (forR P (gP gt) (rdB b R) D0 (items.drop (i + 1))) σ3 S3 → Grow Hy H3 → RSt G H3 σ3 v3 → RS G H3 S3 →
          ∃ m', m' < items.length - i ∧ ∃ σ' S', Grow H1 H3 ∧ RSt G H3 σ' v3 ∧ RS G H3 S' ∧ i + 1 ≤ items.length ∧ m' = items.length - (i + 1) ∧ forR P (gP gt) (rdB b R) D0 (items.drop (i + 1)) σ' S' :=
        fun σ3 S3 v3 H3 ⟨σ4, S4, q1, q2, q⟩ g3 hv3 hs3 => ⟨_, by omega, σ4, S4, (gr.trans gy).trans g3, hv3.wst q1, hs3.wsub q2, hlt, rfl, q⟩
      have gg := gc.trans gy
      exact ⟨σ2, S', _, (h0.trans gc).trans gy, hst, ry, hq, nxt, fun w S2 x H2 q2 g2 rx hs2 => kr w S2 x H2 q2 (gg.trans g2) rx hs2, fun σ3 S3 v3 H3 q3 g3 hv3 hs3 => kn σ3 S3 v3 H3 q3 (gg.trans g3) hv3 hs3, nxt⟩
    · have e : i = items.length := by omega
      subst e
      rw [List.drop_length] at hf
      unfold forR at hf
      exact .inl ⟨(hw _ H' S' gr hs' hf.1).2 (Nat.le_refl _), kn σ' S' v' H' hf.2 (g1.trans gr) hv' hs'⟩
  · cases h
theorem s_whl {d : T} {b : B} (hb : SndS st b) : SndS st (.whl d b) := by
  refine sndSt rfl (fun {G R c X H0 x} g h => ?_)
  split at h
  · rename_i d' b' pos
    rw [Bool.and_eq_true] at h
    obtain ⟨h1, h2⟩ := h
    refine PS.weak (ps_while g.pass ((snd_all st d).t g h1) (hb.b g h2)) fun D v H ⟨σ, S, D0, h0, hv, hs, h, kn, kr, kb, kc⟩ => ?_
    obtain ⟨I, μ, hi, turn⟩ := h
    refine ⟨fun n v' H' => ∃ σ' S', Grow H H' ∧ RSt G H' σ' v' ∧ RS G H' S' ∧ I σ' S' ∧ n = μ σ' S', ⟨_, σ, S, Grow.refl _, hv, hs, hi, rfl⟩, ?_⟩
    rintro n v' H' ⟨σ', S', gr, hv', hs', hi', rfl⟩
    refine ⟨σ', S', _, h0.trans gr, hv', hs', turn σ' S' hi', fun k S1 H1 hk g1 hs1 => ?_⟩
    cases k with
    | false =>
      simp only [Bool.false_eq_true, if_false] at hk ⊢
      exact kn σ' S1 v' H1 hk (gr.trans g1) (hv'.mono g1) hs1
    | true =>
      simp only [if_true] at hk ⊢
      refine ⟨fun v2 H2 => ∃ n', n' < μ σ' S' ∧ ∃ σ'' S'', Grow H H2 ∧ RSt G H2 σ'' v2 ∧ RS G H2 S'' ∧ I σ'' S'' ∧ n' = μ σ'' S'', fun _ _ q => q, ?_⟩
      have gg := gr.trans g1
      have nxt : ∀ (σ3 : WSt) (S3 : Sto) (v3 : L2.St) (H3 : Hp), less (fun σ'' S'' => I σ'' S'' ∧ μ σ'' S'' < μ σ' S') σ3 S3 → Grow H1 H3 → RSt G H3 σ3 v3 → RS G H3 S3 →
          ∃ n', n' < μ σ' S' ∧ ∃ σ'' S'', Grow H H3 ∧ RSt G H3 σ'' v3 ∧ RS G H3 S'' ∧ I σ'' S'' ∧ n' = μ σ'' S'' :=
        fun σ3 S3 v3 H3 ⟨σ4, S4, q1, q2, q3, q4⟩ g3 hv3 hs3 => ⟨_, q4, σ4, S4, gg.trans g3, hv3.wst q1, hs3.wsub q2, q3, rfl⟩
      exact ⟨σ', S1, _, h0.trans gg, hv'.mono g1, hs1, hk, nxt, fun w S2 x H2 q2 g2 rx hs2 => kr w S2 x H2 q2 (gg.trans g2) rx hs2, fun σ3 S3 v3 H3 q3 g3 hv3 hs3 => kn σ3 S3 v3 H3 q3 (gg.trans g3) hv3 hs3, nxt⟩
  · cases h
theorem s_rais {i : Nat} {e : T} : SndS st (.rais i e) := by
  refine sndSt rfl (fun {G R c X H0 x} g h => ?_)
  split at h
  · rename_i x p v cp pos
    simp only [Bool.and_eq_true, decide_eq_true_eq] at h
    obtain ⟨⟨h1, h2⟩, h3⟩ := h
    obtain ⟨g1, g2⟩ := gl_of g.toGd0 h2
    refine PS.weak (ps_raise g.calm g.tk (g.gf.mke X i x v _ p cp h1 g.prog g.K g.mg g.calm g.rm g1 g2 ((snd_all st e).e g h3) (ex_star ((snd_all st e).ex h3) [] X.env))) fun D v H ⟨σ, S, D0, h0, hv, hs, h, kn, _⟩ => ?_
    exact ⟨σ, S, _, h0, hv, hs, h, fun w S1 y H1 ⟨S2, hsub, hw⟩ g1 ry hs1 => ⟨w, S2, ry, hs1.wsub hsub, fun cls d H2 g2 rx hs2 => ⟨_, S2, (h0.trans g1).trans g2, rx, hs2, hw⟩⟩⟩
  · cases h
theorem snd_allB (st : Stt) : ∀ β : B, SndS st β := by
  intro β
  induction β with
  | nil => exact s_nil
  | seq s r h1 h2 => exact s_seq h1 h2
  | asg g e => exact s_asg
  | par is l => exact s_par
  | asgI a i e => exact s_asgI
  | aug i o e => exact s_aug
  | augI a i o e => exact s_augI
  | ex e => exact s_ex
  | ret e => exact s_ret
  | retN => exact s_retN
  | ifs c a b ha hb => exact s_ifs ha hb
  | «for» g it b hb => exact s_for hb
  | whl c b hb => exact s_whl hb
  | rais c e => exact s_rais
  | brk =>
    refine sndSt rfl (fun {G R c X H0 x} g h => ?_)
    split at h
    · exact PS.weak ps_break fun D v H ⟨σ, S, D0, h0, hv, hs, h, kn, kr, kb, kc⟩ => kb σ S v H h (Grow.refl _) hv hs
    · cases h
  | cnt =>
    refine sndSt rfl (fun {G R c X H0 x} g h => ?_)
    split at h
    · exact PS.weak ps_continue fun D v H ⟨σ, S, D0, h0, hv, hs, h, kn, kr, kb, kc⟩ => kc σ S v H h (Grow.refl _) hv hs
    · cases h
  | pass =>
    refine sndSt rfl (fun {G R c X H0 x} g h => ?_)
    split at h
    · exact PS.weak ps_pass fun D v H ⟨σ, S, D0, h0, hv, hs, h, kn, kr, kb, kc⟩ => kn σ S v H h (Grow.refl _) hv hs
    · cases h
  | doc =>
    refine sndSt rfl (fun {G R c X H0 x} g h => ?_)
    split at h
    · exact PS.weak ps_doc fun D v H ⟨σ, S, D0, h0, hv, hs, h, kn, kr, kb, kc⟩ => kn σ S v H h (Grow.refl _) hv hs
    · cases h
end
end PW

set_option Elab.async false
set_option linter.all false
set_option maxRecDepth 100000
set_option maxHeartbeats 2000000
/-! own prelude, part 16: an error caught and kept as a value -/
namespace PW
open PySem PySem.Spec PyProof.Rows L2
theorem exO_is {c d a : Addr} {P : Program} {w : World} {H : Hp} {h : Heap} {oe : Obj} {vs : Array Value} (e : h.get? a = some oe) (z : Zc (.ref c) (some d) oe) (hd : oe.data = .fields vs) : ObjOk P w H h a (ExO c d a) :=
  ⟨⟨oe, vs, e, z.1, z.2, hd⟩, ⟨oe, e⟩, fun _ _ ⟨o, v, q, r⟩ k => ⟨o, v, k o q, r⟩⟩
section
variable {X : Cx} {pins : List (Addr × Obj)} {σ : L2.St} {H : Hp} {s : Shared}
/-- a pinned object comes to be tracked -/
theorem track {a : Addr} {oe : Obj} {φ : Heap → Prop} (I : Inv X ((a, oe) :: pins) σ H s) (n0 : X.s_0.heap.get? a = none) (npin : ∀ p ∈ X.pn ++ pins, p.1 ≠ a) (new : ObjOk X.prog X.w (upd H a (.ext φ)) s.heap a (.ext φ)) : Inv X pins σ (upd H a (.ext φ)) s := by
  have pa := I.pin (a, oe) (List.mem_append_right _ List.mem_cons_self)
  have na : H a = none := pa.2.1
  have nz : ∀ b, H b = none → b ≠ a → upd H a (.ext φ) b = none := fun b n h => by rw [L2.upd_ne h]; exact n
  have nb : ∀ b o, H b = some o → upd H a (.ext φ) b = some o := fun b o q => by rw [L2.upd_ne (ne_of_none q na)]; exact q
  refine ⟨I.ok, I.os, I.bare, ⟨I.base.keep, I.base.slot, fun b o e n hx => nz b (I.base.free b o e n hx) fun z => ?_, I.base.there, fun b xs e => nb b _ (I.base.tups b xs e), fun b o u e => nb b _ (I.base.frzs b o u e), fun b ps e => ?_⟩, I.loc, I.cell, nz _ I.free (Ne.symm pa.2.2.1), fun x c e => nz c (I.freeC x c e) fun z => ?_, fun p hp => ?_, fun b u e => ?_, I.len⟩
  · rw [z, n0] at e; cases e
  · obtain ⟨m, q⟩ := I.base.tbls b ps e
    exact ⟨m, nb b _ q⟩
  · obtain ⟨v, o, ho, hd⟩ := I.cell x c e
    rw [z, pa.1] at ho
    cases ho
    exact pa.2.2.2.2 v hd
  · obtain ⟨h1, h2, h3⟩ := I.pin p (by
      rcases List.mem_append.mp hp with q | q
      · exact List.mem_append_left _ q
      · exact List.mem_append_right _ (List.mem_cons_of_mem _ q))
    exact ⟨h1, nz _ h2 (npin p hp), h3⟩
  · by_cases hb : b = a
    · subst hb
      rw [L2.upd_same] at e
      cases e
      exact new
    · rw [L2.upd_ne hb] at e
      exact (I.hok b u e).stay (fun c v _ q => q) (fun c q => nb c _ q) fun c xs q => nb c _ q
theorem unsuite2 {a : Addr} {q : Addr × Obj} {pn' : List (Addr × Obj)} (I : Inv (X.suite a (q :: (X.pn ++ pins))) pn' σ H s) (ok : X.Ok) : Inv X (q :: pins) σ H s :=
  ⟨ok, I.os, I.bare, I.base, I.loc, I.cell, I.free, I.freeC, fun p hp => I.pin p (by
    refine List.mem_append_left _ ?_
    rcases List.mem_append.mp hp with h | h
    · exact List.mem_cons_of_mem _ (List.mem_append_left _ h)
    · rcases List.mem_cons.mp h with h | h
      · exact h ▸ List.mem_cons_self
      · exact List.mem_cons_of_mem _ (List.mem_append_right _ h)), I.hok, I.len⟩
end
/-- what 'except x as n: y = n' wishes of the exceptions of the body; i, j: the slots of n, y -/
def wKeep (K : PySem.W.Frag) (cc : Value) (i j : Nat) (D : Ends) : WX := fun cls d σ H => PySem.W.exmOne K cls cc = some true ∧ ∃ c dd, cls = .ref c ∧ d = some dd ∧ ∀ a, H a = none → D.nx ((σ.set j (some (.ref a))).set i none) (upd H a (ExO c dd a))
theorem ps_keep {X : Cx} {x n y : Str} {cc : Value} {i j : Nat} {blk : List Stmt} {np p1 p2 p3 p4 p5 : Pos} {tb : WX → TS} (hs : X.stack = X.env :: X.outer) (hf : X.env.frame = some X.env.locals) (hex : X.ex = []) (hN : X.N.Nodup) (hi : X.N[i]? = some n) (hj : X.N[j]? = some y) (hij : i ≠ j)
    (hln : X.env.kindOf n = some .local) (hly : X.env.kindOf y = some .local) (hd1 : (n == ("__debug__" : Str)) = false) (hd2 : (n == ("__classdict__" : Str)) = false) (hc : Names X x cc)
    (hb : ∀ (W : WX) (pn : List (Addr × Obj)) (xe : Value → Shared → Prop), Takes (X.tr pn xe) W → PassesOwn (model X.prog X.w) X.A X.env xe → PSs (X.tr pn xe) blk (tb W)) :
    PS X (.Try blk [.ExceptHandler (some (.Name x np)) (some n) [.Assign [.Name y p1] (.Name n p2) p3] p4] [] [] p5) (fun D σ H => tb (wKeep X.K cc i j D) D σ H) := by
  refine ⟨fun pins s σ H D I h => ?_⟩
  have ok := I.ok
  have frs0 : X.A.frames = some (X.env :: X.outer) := by rw [ok.frames, hs]
  refine wpAny_Try_except ?_
  refine wpAny_mono ((hb (wKeep X.K cc i j D) (X.pn ++ pins) (fun e s₁ => wpAny (model X.prog X.w) X.A (noteFrame e X.env) (fun _ s₂ => wpAny (model X.prog X.w) X.A (setFlight e none) (fun _ s₃ =>
    wpAny (model X.prog X.w) X.A (handleBy e X.env [.ExceptHandler (some (.Name x np)) (some n) [.Assign [.Name y p1] (.Name n p2) p3] p4]) (SP X pins D) X.xe s₃) X.xe s₂) X.xe s₁) (fun u s' xx => ?_) PassesOwn.looking).run [] s σ H D (I.toTry _) h) (fun f s1 hsp => ?_) (fun e s1 he => he)
  · obtain ⟨a, B, sI, pins', σ', H', cls, d, rfl, J', nb, up, sky, na, os, ag, hb1, c, dd, rfl, rfl, yes⟩ := xx
    have J : Inv X pins σ' H' sI := J'.ofTry ok
    rw [hs] at sky
    show wpAny (model X.prog X.w) X.A (noteFrame (.ref a) X.env) _ _ _
    refine Sky.land Zc.steady frs0 hf sky fun h3 fl3 up3 => ?_
    have J3 : Inv X pins σ' H' { s' with heap := h3 } := J.landed nb fl3.1 (up.trans up3) os ag
    obtain ⟨oe3, vs3, he3, hz3, hd3⟩ := fl3.there
    have nfr : a ∉ frs (X.env :: X.outer) := fun hm => by
      obtain ⟨_, o', e', hnf⟩ := fl3.2.2.1.mem hm
      rw [he3] at e'; cases e'
      exact hnf _ hd3
    have nL : a ≠ X.env.locals := fun z => nfr (List.mem_filterMap.mpr ⟨X.env, List.mem_cons_self, by rw [hf, z]⟩)
    have nF : a ∉ X.fs := fun hm => by
      obtain ⟨e, he, q⟩ := List.mem_filterMap.mp hm
      exact nfr (List.mem_filterMap.mpr ⟨e, List.mem_cons_of_mem _ he, q⟩)
    have nI : sI.heap.get? a = none := by
      cases q : sI.heap.get? a with
      | none => rfl
      | some o =>
        have z := nb a o q (by rw [hs]; exact nfr)
        rw [fl3.2.1] at z; cases z
    have n0 : X.s_0.heap.get? a = none := by
      cases q : X.s_0.heap.get? a with
      | none => rfl
      | some o =>
        obtain ⟨o', z⟩ := J.base.there a o q (by rw [hex]; exact fun z => nomatch z)
        rw [nI] at z; cases z
    have npin : ∀ p ∈ X.pn ++ pins, p.1 ≠ a := fun p hp z => by
      have q := (J.pin p hp).1
      rw [z, nI] at q; cases q
    have S3 := J3.suite he3 hd3 na nL nF
    refine wpAny_handleBy_cons (codeAny_handlers_test ?_) (by intro q; cases q)
    have LT : PySem.W.Looks (model X.prog X.w) h3 (typeOf (.ref a)) (.ref c) := fun A Q E s k q => wpAny_typeOf_ref (k _ _ he3) (by rw [hz3.1]; exact q)
    have LM := PySem.W.exm_one (M := model X.prog X.w) (J3.kIn) LT hb1
    have test : ∀ {Q E : Value → Shared → Prop}, Q cc { s' with heap := h3 } → wpAny (model X.prog X.w) (X.A.mark (some (.ref a))) (eval (.Name x np) X.env) Q E { s' with heap := h3 } := fun {Q E} q => by
      obtain ⟨hg, hdbg, hm | ⟨hm, hv, hnn⟩⟩ := hc
      · exact ld_glob (X := X.suite a ((a, oe3) :: (X.pn ++ pins))) S3 hg hm q hdbg
      · exact ld_blt (X := X.suite a ((a, oe3) :: (X.pn ++ pins))) S3 hg hm hv q hnn hdbg
    refine test (LM.here ?_)
    refine codeAny_handlers_suite_as ?_
    refine HandSPX.lands_againZ fl3 fun h4 fl4 up4 => ?_
    have J4 : Inv X pins σ' H' { s' with heap := h4 } := J.landed nb fl4.1 ((up.trans up3).trans up4) os ag
    obtain ⟨oe4, vs4, he4, hz4, hd4⟩ := fl4.there
    have S4 := J4.suite he4 hd4 na nL nF
    refine store_ok (X := X.suite a ((a, oe4) :: (X.pn ++ pins))) (v := .ref a) S4 hN hi (.inl hln) rfl (fun s5 S5 => ?_) (.inr hln)
    have one : PSs (X.suite a ((a, oe4) :: (X.pn ++ pins))) [.Assign [.Name y p1] (.Name n p2) p3] (tAsg (tVar i) (gName j)) :=
      pss_one (ps_asg (pe_var hi (.inl hln) hd1 hd2) (pg_name hN hj (.inl hly) (.inr hly)) rfl rfl rfl)
    have slot : (σ'.set i (some (V.ref a)))[i]? = some (some (.ref a)) := by
      have hl : i < σ'.length := by
        rw [J4.len]
        exact (List.getElem?_eq_some_iff.mp hi).1
      rw [List.getElem?_set_self hl]
    refine wpAny_mono (one.run [] s5 _ H' { nx := fun σ2 H2 => σ2 = (σ'.set i (some (.ref a))).set j (some (.ref a)) ∧ H2 = H', rt := fun _ _ => False } S5 ⟨.ref a, slot, rfl, rfl⟩) (fun f s6 hsp => ?_) (fun _ _ z => False.elim z)
    cases f with
    | next =>
      obtain ⟨σ6, H6, S6, rfl, rfl⟩ := hsp
      refine gone_ok (unsuite2 S6 ok) hN hi hln fun s7 J7 => ?_
      have pa := J7.pin (a, oe4) (List.mem_append_right _ List.mem_cons_self)
      have e : ((σ'.set i (some (V.ref a))).set j (some (V.ref a))).set i none = (σ'.set j (some (V.ref a))).set i none := by
        rw [List.set_comm _ _ (Ne.symm hij), List.set_set, ← List.set_comm _ _ hij] <;> first | rfl | exact hij | exact Ne.symm hij
      refine ⟨_, _, track J7 n0 npin (exO_is (c := c) (d := dd) pa.1 hz4 hd4), ?_⟩
      rw [e]
      exact yes a na
    | brk => obtain ⟨_, _, _, z⟩ := hsp; exact False.elim z
    | cont => obtain ⟨_, _, _, z⟩ := hsp; exact False.elim z
    | ret u => obtain ⟨_, _, _, _, _, z⟩ := hsp; exact False.elim z
  · cases f with
    | next =>
      obtain ⟨σ', H', J', q⟩ := hsp
      exact wpAny_execs_nil ⟨σ', H', J'.ofTry ok, q⟩
    | brk =>
      obtain ⟨σ', H', J', q⟩ := hsp
      exact ⟨σ', H', J'.ofTry ok, q⟩
    | cont =>
      obtain ⟨σ', H', J', q⟩ := hsp
      exact ⟨σ', H', J'.ofTry ok, q⟩
    | ret u =>
      obtain ⟨v, σ', H', J', r, q⟩ := hsp
      exact ⟨v, σ', H', J'.ofTry ok, r, q⟩
end PW

set_option Elab.async false
set_option linter.all false
set_option maxRecDepth 100000
set_option maxHeartbeats 2000000
/-! own prelude, part 17: a lambda heard -/
namespace PW
open PySem PySem.Spec PyProof.Rows L2
/-- the handed lambda called, in the def that got it; what it may raise is told of the very slots -/
theorem act2 {X : Cx} {pins : List (Addr × Obj)} {σ : L2.St} {H : Hp} {s : Shared} {Ng : List Str} {qg : Str} {sg : Scope} {g f c' : Addr} {cdg pm ctv : Value} {pr : Arguments} {bd : Expr} {sc : Scope} {k i : Nat} {a : Str} {pn : List (Addr × Obj)} {xe : Value → Shared → Prop} {W : WX} {tb : XK → TE} {p1 p2 : Pos} {CXg : CXT} {Eg : XK}
    (I : Inv X pins σ H s) (L : LamX.LamS X.env.scope sc) (hf : s.heap.get? f = some (PySem.W.kla_obj "<lambda>" (X.env.qual ++ "<lambda>") pr bd sc (cloFrom X.env.cells sc.names []) pm c' ctv)) (hfn : H f = none) (hfr : f ∉ frs X.stack)
    (hbind : bindArgs (PySem.W.kla_fn "<lambda>" (X.env.qual ++ "<lambda>") pr bd sc (cloFrom X.env.cells sc.names []) pm (.ref c') ctv) ⟨[], []⟩ = pure [])
    (tk : Takes ((cxOf CXg X.prog X.w X.K X.mg X.base Ng qg sg g cdg X.A X.stack s H Eg).tr pn xe) W) (hr : Room (k + 1) (X.A.deeper (envOfC qg sg s.heap.objs.size g cdg)))
    (hbody : ∀ (A : Around) (outer : List Env) (s : Shared) (H : Hp) (E : XK), A.guards = X.A.guards → Room k (A.deeper (LamX.lamEnv X sc s.heap.objs.size f c')) → PE (LamX.lamCx X A outer s H E sc f c') bd (tb E))
    (hN : Ng[i]? = some a) (hv : Vis sg a) (hd : (a == ("__debug__" : Str)) = false) (hcd : (a == ("__classdict__" : Str)) = false) :
    PE ((cxOf CXg X.prog X.w X.K X.mg X.base Ng qg sg g cdg X.A X.stack s H Eg).tr pn xe) (.Call (.Name a p1) [] [] p2)
      (fun v1 H1 Q => v1[i]? = some (some (.ref f)) ∧ H1 c' = some (LamX.CodeO c' (X.env.qual ++ "<lambda>")) ∧ ∃ E : XK, (∀ cls d H2, E cls d H2 → W cls d v1 H2) ∧ tb E σ H1 Q) := by
  refine ⟨fun pinsZ sZ v1 HZ Q IZ h => ?_⟩
  obtain ⟨hs, hc, E, hE, ht⟩ := h
  refine wpAny_Call_Name_kw (thn ((pe_var (pos := p1) (i := i) hN hv hd hcd).run pinsZ sZ v1 HZ (fun v H1 => v = .ref f ∧ H1 = HZ) IZ ⟨.ref f, hs, rfl, rfl⟩) fun u s1 ⟨v, H1, I1, r1, ev, eH⟩ => ?_)
  subst ev
  rw [eH] at I1
  obtain rfl : u = Value.ref f := r1
  have at1 : s1.heap.get? f = some (PySem.W.kla_obj "<lambda>" (X.env.qual ++ "<lambda>") pr bd sc (cloFrom X.env.cells sc.names []) pm c' ctv) := I1.base.keep f _ hf hfn hfr (fun z => nomatch (show f ∈ ([] : List Addr) from z))
  refine PySem.W.callWith_F0 ⟨_, _, _, _, at1⟩ ?_
  have un : Un (frs X.stack) [] H HZ s.heap s1.heap := I1.base
  obtain ⟨⟨oc, vs, t, hoc, hdc, hvc⟩, _, _⟩ := I1.hok c' _ hc
  have rc : codeAny (model X.prog X.w) (X.A.deeper (envOfC qg sg s.heap.objs.size g cdg)) (.call (.ref f) ⟨[], []⟩) (CR (L2.CX X.prog X.w) (envOfC qg sg s.heap.objs.size g cdg :: X.stack) X.prog X.w HZ s1 Q E) s1 := by
    refine PySem.W.kla_callFunE hr.depth at1 rfl L.co L.gen rfl ⟨c', oc, vs, t, rfl, hoc, hdc, hvc⟩ ?_
    rw [hbind]
    refine wpAny_pure (wpAny_newFunctionEnv (fun y hy => (L.own y hy).2) (fun y hy => absurd hy (by simp)) (fun h₁ hns hsb => ⟨I1.nolimit.fresh _ hsb, ?_⟩) L.kind)
    show codeAny _ _ (.expr bd (LamX.lamEnv X sc s1.heap.objs.size f c')) _ _
    have J : Inv (LamX.lamCx X (X.A.deeper (envOfC qg sg s.heap.objs.size g cdg)) (envOfC qg sg s.heap.objs.size g cdg :: X.stack) s1 HZ E sc f c') [] σ HZ { s1 with heap := h₁, toks := s1.toks + ([] : List (Str × Value)).length } :=
      LamX.lam_start2 I L I1.env0 hr.hd un hns fun b o e => hsb.extBut b o (Nat.ne_of_lt (Heap.lt_size e)) (Heap.get?_push_of_some _ e)
    refine PySem.W.kla_codeExpr (wpAny_mono ((hbody (X.A.deeper (envOfC qg sg s.heap.objs.size g cdg)) _ s1 HZ E rfl (hr.deeper _)).run [] _ _ HZ Q J ht) (fun v s' hq => ?_) fun e s' hq => hq)
    obtain ⟨w', H', J', rv, q⟩ := hq
    exact ⟨w', H', J'.os, J'.bare, J'.base, J'.hok, rv, q⟩
  refine wpAny_call (codeAny_mono rc fun r s' hq => ?_)
  cases r with
  | error e => exact tk e s' (XE.of_call I1 hE hq)
  | ok fl =>
    cases fl with
    | ret u => exact I1.after hq
    | next => exact False.elim hq
    | brk => exact False.elim hq
    | cont => exact False.elim hq
/-- the text of the def that hears -/
def hrdShape (b : List Stmt) : Bool := match b with
  | [.Assign [.Tuple [.Name x1 _, .Name x2 _] _ _] (.Tuple [.Constant .none _ _, .Constant .none _ _] _ _) _, .Try [.Assign [.Name x3 _] (.Call (.Name x4 _) [] [] _) _] [.ExceptHandler (some (.Name x5 _)) (some x6) [.Assign [.Name x7 _] (.Name x8 _) _] _] [] [] _, .Return (some (.Tuple [.Name x9 _, .Name x10 _] _ _)) _] =>
    decide (x1 = ("caught" : Str)) && decide (x2 = ("gave" : Str)) && decide (x3 = ("gave" : Str)) && decide (x4 = ("call" : Str)) && decide (x5 = ("CurveError" : Str)) && decide (x6 = ("error" : Str)) && decide (x7 = ("caught" : Str)) && decide (x8 = ("error" : Str)) && decide (x9 = ("caught" : Str)) && decide (x10 = ("gave" : Str))
  | _ => false
def hrdN : List Str := ["call", "caught", "gave", "error"]
def hrdSc (sg : Scope) : Bool := decide (sg.kind = .function) && decide (sg.names.lookup ("call" : Str) = some .local) && decide (sg.names.lookup ("caught" : Str) = some .local) && decide (sg.names.lookup ("gave" : Str) = some .local) && decide (sg.names.lookup ("error" : Str) = some .local) && decide (sg.names.lookup ("CurveError" : Str) = some .globalImplicit)
/-- what is known of that def and of the class that it hears -/
structure HeardF (G : Ge) (g CE : Addr) (pg : Arguments) (bg : List Stmt) (sg : Scope) (dV kV doc pm cdv ct oc : Value) (an od : Option Addr) (osl : Array (Option Value)) : Prop where
  mg : G.mg "_law_heard" = some (.ref g)
  ce : G.mg "CurveError" = some (.ref CE)
  kp : PySem.W.keepIn G.K (.ref g) = true
  lk : G.K.lookup g = some ⟨oc, od, .func (PySem.W.fnOf "_law_heard" "_law_heard" pg bg sg dV kV doc pm an cdv ct), osl⟩
  cd : PySem.W.codeIn G.K cdv "_law_heard" = true
  bi : L2.Binds G.K (PySem.W.fnOf "_law_heard" "_law_heard" pg bg sg dV kV doc pm an cdv ct) ["call"] []
  sc : FnScope hrdN ["call"] sg
  names : hrdSc sg = true
  shape : hrdShape bg = true
  exm : ∀ i c, G.mg (G.cnm i) = some (.ref c) → PySem.W.exmOne G.K (.ref c) (.ref CE) = some true
theorem swNone {ts : List Expr} {k k2 : Nat} {p p2 p3 p4 : Pos} {j1 j2} {env : Env} : swappedStores [.Tuple ts k p] (.Tuple [.Constant .none j1 p3, .Constant .none j2 p4] k2 p2) env = pure none := by
  unfold swappedStores
  dsimp only
  repeat' split
  all_goals first
    | rfl
    | (exfalso; rename_i z1 z2 z3 z4 z5; exact z4 rfl)
/-- the def that hears runs so: E, what is caught; Q, what is given -/
theorem heard_body {X : Cx} {G : Ge} {g CE : Addr} {pg : Arguments} {bg : List Stmt} {sg : Scope} {dV kV doc pm cdv ct oc : Value} {an od : Option Addr} {osl : Array (Option Value)} (F : HeardF G g CE pg bg sg dV kV doc pm cdv ct oc an od osl) (hK : X.K = G.K) (hm : X.mg = G.mg)
    {f c' : Addr} {s : Shared} {H : Hp} {Q : VK} {q : Str} {tl : XK → Hp → VK → Prop} (hc : H c' = some (LamX.CodeO c' q))
    (act : ∀ (W : WX) (pn : List (Addr × Obj)) (xe : Value → Shared → Prop) (p1 p2 : Pos), Takes ((cxOf (L2.CX X.prog X.w) X.prog X.w X.K X.mg X.base hrdN "_law_heard" sg g cdv X.A X.stack s H fun _ _ _ => False).tr pn xe) W →
      PE ((cxOf (L2.CX X.prog X.w) X.prog X.w X.K X.mg X.base hrdN "_law_heard" sg g cdv X.A X.stack s H fun _ _ _ => False).tr pn xe) (.Call (.Name "call" p1) [] [] p2) (fun v1 H1 Q => v1[0]? = some (some (.ref f)) ∧ H1 c' = some (LamX.CodeO c' q) ∧ ∃ E : XK, (∀ cls d H2, E cls d H2 → W cls d v1 H2) ∧ tl E H1 Q))
    (h : ∀ t0, H t0 = none → ∀ (E : XK) (M : VK), (∀ cls d H2, (∃ i c dd, cls = .ref c ∧ d = some dd ∧ G.mg (G.cnm i) = some (.ref c) ∧ ∀ a, H2 a = none → ∀ p, upd H2 a (ExO c dd a) p = none → Q (.ref p) (upd (upd H2 a (ExO c dd a)) p (.tup [.ref a, .non]))) → E cls d H2) →
      (∀ v H2, (∀ p, H2 p = none → Q (.ref p) (upd H2 p (.tup [.non, v]))) → M v H2) → tl E (upd H t0 (.tup [.non, .non])) M) :
    ∃ t, PSs (cxOf (L2.CX X.prog X.w) X.prog X.w X.K X.mg X.base hrdN "_law_heard" sg g cdv X.A X.stack s H fun _ _ _ => False) bg t ∧ t { nx := fun _ H' => Q .non H', rt := Q } (L2.start hrdN [.ref f]) H := by
  have sh := F.shape
  unfold hrdShape at sh
  split at sh
  · simp only [Bool.and_eq_true, decide_eq_true_eq] at sh
    obtain ⟨⟨⟨⟨⟨⟨⟨⟨⟨rfl, rfl⟩, rfl⟩, rfl⟩, rfl⟩, rfl⟩, rfl⟩, rfl⟩, rfl⟩, rfl⟩ := sh
    have nm := F.names
    unfold hrdSc at nm
    simp only [Bool.and_eq_true, decide_eq_true_eq] at nm
    obtain ⟨⟨⟨⟨⟨k0, n0⟩, n1⟩, n2⟩, n3⟩, n4⟩ := nm
    have hgl : Gl (cxOf (L2.CX X.prog X.w) X.prog X.w X.K X.mg X.base hrdN "_law_heard" sg g cdv X.A X.stack s H fun _ _ _ => False) "CurveError" := n4
    refine ⟨_, pss_cons (ps_asg (pe_tup (pa_cons pe_non (pa_cons pe_non pa_nil))) (pg_tup rfl (pgs_cons (pg_name (i := 1) F.sc.nd rfl (.inl n1) (.inr n1)) (pgs_cons (pg_name (i := 2) F.sc.nd rfl (.inl n2) (.inr n2)) pgs_nil))) rfl swNone rfl)
      (pss_cons (ps_keep (i := 3) (j := 1) (cc := .ref CE) (tb := fun W D v1 H1 => v1[0]? = some (some (.ref f)) ∧ H1 c' = some (LamX.CodeO c' q) ∧ ∃ E : XK, (∀ cls d H2, E cls d H2 → W cls d v1 H2) ∧ tl E H1 fun v H2 => D.nx (v1.set 2 (some v)) H2) rfl rfl rfl F.sc.nd rfl rfl (by decide) n3 n1 (by decide +kernel) (by decide +kernel) ⟨hgl, by decide +kernel, .inl (by rw [show (cxOf (L2.CX X.prog X.w) X.prog X.w X.K X.mg X.base hrdN "_law_heard" sg g cdv X.A X.stack s H fun _ _ _ => False).mg = X.mg from rfl, hm]; exact F.ce)⟩ fun W pn xe tk _ => ?_)
        (pss_one (ps_ret (pe_tup (pa_cons (pe_var (i := 1) rfl (.inl n1) (by decide +kernel) (by decide +kernel)) (pa_cons (pe_var (i := 2) rfl (.inl n2) (by decide +kernel) (by decide +kernel)) pa_nil)))))), ?_⟩
    · exact PSs.weak (pss_one (ps_asg (act W pn xe _ _ tk) (pg_name (i := 2) F.sc.nd rfl (.inl n2) (.inr n2)) rfl rfl rfl)) fun D v1 H1 z => z
    · refine ⟨by show 2 ≤ sizeLine; decide, fun t0 ht0 => ⟨t0, [.non, .non], rfl, SqT.of L2.upd_same, rfl, .non, [.non], rfl, .non, [], rfl, rfl, rfl, by rw [L2.upd_ne (ne_of_none hc ht0)]; exact hc, fun cls d H2 => PySem.W.exmOne X.K cls (.ref CE) = some true ∧ ∃ c dd, cls = .ref c ∧ d = some dd ∧ ∀ a, H2 a = none → ∀ p, upd H2 a (ExO c dd a) p = none → Q (.ref p) (upd (upd H2 a (ExO c dd a)) p (.tup [.ref a, .non])), ?_, ?_⟩⟩
      · rintro cls d H2 ⟨e1, c, dd, e2, e3, k⟩
        exact ⟨e1, c, dd, e2, e3, fun a na => ⟨.ref a, rfl, .non, rfl, by show 2 ≤ sizeLine; decide, fun p hp => k a na p hp⟩⟩
      · refine h t0 ht0 _ _ ?_ ?_
        · rintro cls d H2 ⟨i, c, dd, e1, e2, e3, k⟩
          refine ⟨?_, c, dd, e1, e2, k⟩
          rw [hK, e1]
          exact F.exm i c e3
        · intro v H2 k
          exact ⟨.non, rfl, v, rfl, by show 2 ≤ sizeLine; decide, fun p hp => k p hp⟩
  · cases sh
end PW

set_option Elab.async false
set_option linter.all false
set_option maxRecDepth 100000
set_option maxHeartbeats 2000000
/-! own prelude, part 18: f(lambda: e) as its term reads -/
namespace PW
open PySem PySem.Spec PyProof.Rows L2
theorem un66 {k : Nat} {A : Around} (h : Room k A) : A.units + 66 < cLine := by have := h.un; omega
theorem extN_grow {H H' : Hp} (e : LamX.ExtN H H') : Grow H H' := fun a o h k => e a o h fun ps z => by subst z; cases k
theorem RS.ext {G : Ge} {H H' : Hp} {S : Sto} (r : RS G H S) (e : LamX.ExtN H H') (t : LamX.Tabs G.TT H') : RS G H' S :=
  ⟨fun a ws h => let ⟨xs, q, k⟩ := r.lst a ws h; ⟨xs, e a _ q (fun _ z => by cases z), k.mono (extN_grow e)⟩, t⟩
/-- the caught error in a new pair -/
theorem caught_pair {G : Ge} {H2 : Hp} {S : Sto} {w : Vl} {cls : Value} {d : Option Addr} (rx : RX G H2 w cls d) (rs : RS G H2 S) : ∃ i c dd, cls = .ref c ∧ d = some dd ∧ G.mg (G.cnm i) = some (.ref c) ∧ ∀ a, H2 a = none → ∀ p, upd H2 a (ExO c dd a) p = none →
    Grow H2 (upd (upd H2 a (ExO c dd a)) p (.tup [.ref a, .non])) ∧ RS G (upd (upd H2 a (ExO c dd a)) p (.tup [.ref a, .non])) S ∧ RW G (upd (upd H2 a (ExO c dd a)) p (.tup [.ref a, .non])) (.tup [w, .non]) (.ref p) := by
  obtain ⟨i, arg, c, dd, x, rfl, hc, rfl, rfl, hx, ra⟩ := rx
  refine ⟨i, c, dd, rfl, rfl, hc, fun a na p np => ?_⟩
  have g1 : Grow H2 (upd H2 a (ExO c dd a)) := Grow.new na
  have g2 : Grow (upd H2 a (ExO c dd a)) (upd (upd H2 a (ExO c dd a)) p (.tup [.ref a, .non])) := Grow.new np
  refine ⟨g1.trans g2, (rs.new na).new np, ?_⟩
  unfold RW
  refine ⟨p, _, rfl, SqT.of L2.upd_same, .cons ?_ (.cons rwN .nil)⟩
  unfold RW
  exact ⟨a, c, dd, x, rfl, hc, g2 a _ L2.upd_same rfl, (g1.trans g2) dd _ hx rfl, ra.mono (g1.trans g2)⟩
/-- the defs as a context of the room k wants them -/
def DefsAt (st : Stt) (G : Ge) (P : Program) (w : World) (base : Heap) (Γ : Nat → SpW) (k : Nat) : Prop := ∀ f x ps, st.fnm[f]? = some x → st.fps[f]? = some ps → ∃ a fd, G.mg x = some (.ref a) ∧ PySem.W.keepIn G.K (.ref a) = true ∧ Binds G.K fd ps [] ∧
  (∀ n, (f, n) ∈ st.kws → KBinds G.K fd ps (ps.drop n) (kbg n) (kbg n)) ∧ FnG P w G.K G.mg base k a fd ps (liftSp G (Γ f))
theorem hrd_ok {st : Stt} {G : Ge} {R : Rc} {c : Cf} {X : Cx} {H0 : Hp} {k : Nat} {cc PP : Addr} {g CE : Addr} {pg : Arguments} {bg : List Stmt} {sg : Scope} {dV kV doc pm cdv ct oc : Value} {an od : Option Addr} {osl : Array (Option Value)}
    (F : HeardF G g CE pg bg sg dV kV doc pm cdv ct oc an od osl) (TB : LamX.TabB X.base X.mg cc PP) (hcode : X.env.code = .ref cc) (hmT : (PP, X.env.qual ++ "<lambda>") ∈ G.TT) (hu : ∀ p ∈ G.TT, p.1 = PP → p.2 = X.env.qual ++ "<lambda>")
    (hr : Room (k + 2) X.A) (hk : 4 ≤ k) (defs : DefsAt st G X.prog X.w X.base R.Γ k) : HrdOk st G R c X H0 := by
  intro tb x p lp pos ps bd sc hx hgl hlam hps gd hb
  subst hx hps
  obtain ⟨g1, g2⟩ := gl_of gd hgl
  have L := LamX.lamS_by hlam
  rw [← gd.sc] at L
  refine ⟨fun pins s v H Q I q => ?_⟩
  obtain ⟨σ, S, Q0, h0, hv, hs, h, kk⟩ := q
  refine wpAny_Call_Name_kw (ld_glob I g1 (by rw [gd.mg]; exact F.mg) ?_ g2)
  refine PySem.W.callWith_K (h₀ := X.base) I.ok.mod.kin (by rw [gd.K]; exact F.kp) ?_ (by rfl) (by rfl)
  show wpAny _ _ (spliced ((false, eval (.Lambda ⟨[], [], none, [], [], none, []⟩ bd sc lp) X.env) :: backTo pos (starEach [] X.env))) _ _ s
  refine Calls.spliced_cons (LamX.lam_make2 I TB hcode hmT hu hs.tab rfl (L.has I.ok) fun f c' pm' ctv H1 s' I1 eN T1 hf hfn hfr hco => ?_)
  refine Calls.spliced_nil ⟨I1.kIn, ?_⟩
  have gN := extN_grow eN
  have hs1 : RS G H1 S := hs.ext eN T1
  have rc : codeAny (model X.prog X.w) X.A (.call (.ref g) ⟨[.ref f], []⟩) (CR (L2.CX X.prog X.w) X.stack X.prog X.w H1 s' Q fun _ _ _ => False) s' := by
    have lk := F.lk
    have cd := F.cd
    have bi := F.bi
    rw [← gd.K] at lk cd bi
    refine LamX.run_ofS (k := k + 1) (N := hrdN) (ps := ["call"]) (us := [.ref f]) (vs := [.ref f]) lk cd F.sc hr I1.env0 (by have z := bi s' [.ref f] I1.kIn rfl; exact z) (.cons rfl .nil) rfl fun hr' => ?_
    refine heard_body F gd.K gd.mg hco (tl := fun E H' Q' => ∃ R' H0', R'.Γ = R.Γ ∧ R'.sb = R.sb ∧ (∀ cls d H2, liftX G H0' R'.E cls d H2 → E cls d H2) ∧ liftE G H0' (tb R') v H' Q') (fun W pn xe p1 p2 tk => ?_) ?_
    · have nm := F.names
      unfold hrdSc at nm
      simp only [Bool.and_eq_true, decide_eq_true_eq] at nm
      refine act2 (i := 0) (tb := fun E v H' Q' => ∃ R' H0', R'.Γ = R.Γ ∧ R'.sb = R.sb ∧ (∀ cls d H2, liftX G H0' R'.E cls d H2 → E cls d H2) ∧ liftE G H0' (tb R') v H' Q') I1 L hf hfn hfr rfl tk hr' (fun A outer s2 H2 E hg hr2 => ⟨fun pins v' σ' H' Q' I' q' => ?_⟩) rfl (.inl nm.1.1.1.1.2) (by decide +kernel) (by decide +kernel)
      obtain ⟨R', H0', e1, e2, hE, q'⟩ := q'
      refine (hb R' _ H0' e1 ?_).run pins v' σ' H' Q' I' q'
      have dd : ∀ m x ps, st.fnm[m]? = some x → st.fps[m]? = some ps → ∃ a fd k', G.mg x = some (.ref a) ∧ PySem.W.keepIn G.K (.ref a) = true ∧ Binds G.K fd ps [] ∧ (∀ n, (m, n) ∈ st.kws → KBinds G.K fd ps (ps.drop n) (kbg n) (kbg n)) ∧
          Room k' (A.deeper (LamX.lamEnv X sc s2.heap.objs.size f c')) ∧ FnG X.prog X.w G.K G.mg X.base k' a fd ps (liftSp G (R'.Γ m)) := fun m x ps h1 h2 => by
        obtain ⟨a, fd, q1, q2, q3, q4, q5⟩ := defs m x ps h1 h2
        rw [e1]
        exact ⟨a, fd, k, q1, q2, q3, q4, hr2, q5⟩
      exact ⟨gd.nd, gd.N, rfl, fun x hx => (by cases hx), gd.prog, rfl, gd.K, gd.mg, hg.trans gd.gs, un66 hr2, hr2.mono hk, L.kind, passes_of rfl, gd.gf, e2.trans gd.sb, dd, (takes_of rfl rfl rfl rfl).imp fun cls d σ H h => hE cls d H h⟩
    · intro t0 ht0 E M hE hM
      have g2 : Grow H1 (upd H1 t0 (.tup [.non, .non])) := Grow.new ht0
      refine ⟨{ R with E := fun w S' => Q0 (.tup [w, .non]) S' }, upd H1 t0 (.tup [.non, .non]), rfl, rfl, fun cls d H2 ⟨w, S2, gr, rx, rs, hq⟩ => hE cls d H2 ?_, σ, S, _, Grow.refl _, (hv.mono gN).mono g2, hs1.new ht0, h, fun w S2 y H2 hq gr ry rs => hM y H2 fun p hp => ?_⟩
      · obtain ⟨i, c, dd, e1, e2, e3, z⟩ := caught_pair rx rs
        refine ⟨i, c, dd, e1, e2, e3, fun a na p np => ?_⟩
        obtain ⟨z1, z2, z3⟩ := z a na p np
        exact kk _ S2 _ _ hq (((gN.trans g2).trans gr).trans z1) z3 z2
      · refine kk _ S2 _ _ hq (((gN.trans g2).trans gr).trans (Grow.new hp)) ?_ (rs.new hp)
        unfold RW
        exact ⟨p, _, rfl, SqT.of L2.upd_same, .cons rwN (.cons (ry.mono (Grow.new hp)) .nil)⟩
  refine wpAny_call (codeAny_mono rc fun r s2 hq => ?_)
  cases r with
  | error e =>
    obtain ⟨_, _, _, _, _, _, _, _, _, _, _, _, z⟩ := hq
    exact z.elim
  | ok fl =>
    cases fl with
    | ret u => exact I1.after hq
    | next => exact False.elim hq
    | brk => exact False.elim hq
    | cont => exact False.elim hq
/-! ### a def keeps its promise -/
def startW (n : Nat) (ws : List Vl) : WSt := ws.map some ++ List.replicate (n - ws.length) none
theorem start_rel {G : Ge} {H : Hp} {N : List Str} {ws : List Vl} {vs : List V} (h : RWs G H ws vs) : RSt G H (startW N.length ws) (L2.start N vs) := by
  have hl := h.length
  refine ⟨by unfold startW L2.start; simp [hl], fun i w e => ?_⟩
  unfold startW at e
  unfold L2.start
  by_cases q : i < ws.length
  · rw [List.getElem?_append_left (by simpa using q), List.getElem?_map] at e
    cases e2 : ws[i]? with
    | none => rw [e2] at e; cases e
    | some u =>
      rw [e2] at e
      cases e
      obtain ⟨v, e3, r⟩ := h.get e2
      exact ⟨v, by rw [List.getElem?_append_left (by rw [List.length_map, ← hl]; exact q), List.getElem?_map, e3] <;> rfl, r⟩
  · rw [List.getElem?_append_right (by simpa using q), List.getElem?_replicate] at e
    split at e <;> cases e
/-- a lambda's name, made in the def of that qualified name -/
def lamQ (qual : Str) : Str := (qual ++ ".<locals>.") ++ "<lambda>"
/-- the end of a body: without a return it gives None -/
def endW (Q : WK) : WEn := { nx := fun _ S => ∃ S2, wsub S2 S ∧ Q .non S2, rt := Q }
theorem fnG_of {st : Stt} {G : Ge} {w : World} {base : Heap} {k : Nat} {Γ : Nat → SpW} {x qual : Str} {params : Arguments} {body : List Stmt} {scope : Scope} {f : Addr} {fd : FuncData} {N ps : List Str} {β : B} {sp : SpW} {hd : Bool}
    (F : FunD G.K x qual params body scope [] [] f fd) (S : FnScope N ps scope) (gf : GF st G) (len : ∀ ws S Q E, sp ws S Q E → ws.length = ps.length) (ck : (chkB st β).b ⟨N, scope, N, hd⟩ body = true)
    (red : ∀ ws S Q E, sp ws S Q E → rdB β ⟨Γ, E, st.sub⟩ (endW Q) (startW N.length ws) S) (hk : 4 ≤ k) (defs : DefsAt st G G.P w base Γ k)
    (hh : hd = true → ∃ (g CE cc PP : Addr) (pg : Arguments) (bg : List Stmt) (sg : Scope) (dV kV doc pm cdv ct oc : Value) (an od : Option Addr) (osl : Array (Option Value)), HeardF G g CE pg bg sg dV kV doc pm cdv ct oc an od osl ∧ LamX.TabB base G.mg cc PP ∧ fd.code = .ref cc ∧ (PP, lamQ qual) ∈ G.TT ∧ ∀ p ∈ G.TT, p.1 = PP → p.2 = lamQ qual) :
    FnG G.P w G.K G.mg base (k + 3) f fd ps (liftSp G sp) := by
  obtain ⟨oc, od, dV, kV, doc, pm, an, cdv, ct, osl, rfl, lk, hcd, _, _⟩ := F.ex
  have ln : ∀ vs H Q E, liftSp G sp vs H Q E → vs.length = ps.length := fun vs H Q E ⟨ws, S, Q0, E0, r, _, h, _⟩ => by rw [← r.length]; exact len _ _ _ _ h
  refine ⟨ln, fun A outer s H args us vs Q E hg hr e0 hb r h => ?_⟩
  refine LamX.run_ofS (N := N) lk hcd S hr e0 hb r (ln _ _ _ _ h) fun hr' => ?_
  obtain ⟨ws, S0, Q0, E0, rw0, rs, h, kq, kx⟩ := h
  have g0 : Gd0 st G ⟨Γ, E0, st.sub⟩ ⟨N, scope, N, hd⟩ (cxOf (L2.CX G.P w) G.P w G.K G.mg base N qual scope f cdv A outer s H E) H :=
    { nd := S.nd, N := rfl, sc := rfl, fn := fun _ _ => rfl, prog := rfl, calm := rfl, K := rfl, mg := rfl, gs := hg, un := un66 hr', rm := hr'.mono (by omega), kind := S.kind, pass := passes_of rfl, gf := gf, sb := rfl,
      defs := fun f x ps h1 h2 => (by
        obtain ⟨a, fd, q1, q2, q3, q4, q5⟩ := defs f x ps h1 h2
        exact ⟨a, fd, k, q1, q2, q3, q4, hr'.mono (by omega), q5⟩),
      tk := (takes_of rfl rfl rfl rfl).imp fun cls d σ H' ⟨w, S, gr, rx, rs, hq⟩ => kx w S cls d H' hq gr rx rs }
  have gd : Gd st G ⟨Γ, E0, st.sub⟩ ⟨N, scope, N, hd⟩ (cxOf (L2.CX G.P w) G.P w G.K G.mg base N qual scope f cdv A outer s H E) H :=
    { g0 with hrd := fun hd' => (by
        obtain ⟨g, CE, cc, PP, pg, bg, sg, dV', kV', doc', pm', cdv', ct', oc', an', od', osl', HF, TB, hc, hm, hu⟩ := hh hd'
        exact hrd_ok (k := k) HF TB hc hm hu (hr'.mono (by omega)) hk defs) }
  exact ⟨_, (snd_allB st β).b gd ck, startW N.length ws, S0, endW Q0, Grow.refl _, start_rel rw0, rs, red _ _ _ _ h, fun σ' S' v' H' ⟨S2, hsub, hq⟩ g1 _ hs' => kq .non S2 .non H' hq g1 rwN (hs'.wsub hsub), fun w S' x H' hq g1 rx rs' => kq w S' x H' hq g1 rx rs',
    fun _ _ _ _ z => z.elim, fun _ _ _ _ z => z.elim⟩
end PW

set_option Elab.async false
set_option linter.all false
set_option maxRecDepth 100000
set_option maxHeartbeats 4000000
/-! own prelude, part 19: super().__init__(v) where the next class is ValueError -/
namespace PySem
namespace PWX
/-- ValueError.__init__ bound to an instance -/
abbrev bnd (x : Addr) : Obj := { cls := .type "method-wrapper", dict := none, data := .fields #[.builtin "ValueError.__init__", .ref x], slots := #[] }
theorem vi_type : typeOf (.builtin "ValueError.__init__") = pure (.type "wrapper_descriptor") := by show builtinType _ = _; rw [builtinType_eq_fast]; kernel_rfl
theorem vi_name : (kfb_private% "nameAndClass") (Value.builtin "ValueError.__init__") = (pure (("__init__" : Str), Value.type "ValueError") : Sem (Str × Value)) := by kernel_rfl
section
open PySem.W
variable {prog : Program} {w : World} {M : Model} {A : Around} {E : Value → Shared → Prop} {h : Heap} {g : Array GenState} {d : Drawn} {t : Nat} {os : OsState}
theorem wd_run {x C : Addr} {P : Fin → Shared → Prop} (is : W.Looks M h (isInstance (.ref x) (.type "ValueError")) true) (k : P (.done (.ret (.ref h.objs.size))) ⟨h.push (bnd x), g, d, t, os⟩) :
    wpAny M A (Builtin.«wrapper_descriptor.__get__» ⟨[.builtin "ValueError.__init__", .ref x, .ref C], []⟩) P E ⟨h, g, d, t, os⟩ := by
  unfold Builtin.«wrapper_descriptor.__get__»
  refine wpAny_bind (wpAny_of_eq (a := (.builtin "ValueError.__init__", some (.ref x), some (.ref C))) (by first | rfl | kernel_rfl) ?_)
  show wpAny M A ((kfb_private% "checkInstance") (.builtin "ValueError.__init__") (.ref x) >>= fun _ => newFields "method-wrapper" [.builtin "ValueError.__init__", .ref x] >>= fun r => ret r) P E _
  refine wpAny_bind ?_
  show wpAny M A ((kfb_private% "nameAndClass") (.builtin "ValueError.__init__") >>= _) _ E _
  refine wpAny_bind (wpAny_of_eq vi_name ?_)
  show wpAny M A (isInstance (.ref x) (.type "ValueError") >>= _) _ E _
  refine wpAny_bind (is.at ?_)
  refine KFB.if_not rfl ?_
  refine wpAny_pure ?_
  exact wpAny_bind (wpAny_newObj_type (wpAny_pure k))
theorem sup_ga {so D x C : Addr} {l₀ l : List Value} {K : Frag} {name : Str} {tk : Tok} {Q : Fin → Shared → Prop}
    (hso : h.get? so = some { cls := .type "super", dict := none, data := .fields #[.ref D, .ref x, .ref C], slots := #[] }) (no : W.Looks (model prog w) h (opaqueClassAbove (.ref C)) none)
    (mro : W.Looks (model prog w) h (mroOf (.ref C)) l₀) (behind : (l₀.dropWhile (· != .ref D)).drop 1 = l) (X : K.In h)
    (found : alongIn K name l = some (some (.builtin "ValueError.__init__"))) (xC : x ≠ C) (nc : (name == ("__class__" : Str)) = false) (is : W.Looks (model prog w) h (isInstance (.ref x) (.type "ValueError")) true)
    (k : Q (.done (.ret (.ref h.objs.size))) ⟨h.push (bnd x), g, d, t, os⟩) :
    wpAny (model prog w) A (Builtin.«super.__getattribute__» ⟨[.ref so, .str name tk], []⟩) Q E ⟨h, g, d, t, os⟩ := by
  have lk := ESX.slot_wd.lookup
  have ne : (Value.ref x == Value.ref C) = false := by simp [xC]
  have tf := vi_type
  have ti : Shared.TypeIs ⟨h, g, d, t, os⟩ (.builtin "ValueError.__init__") "wrapper_descriptor" := vi_type
  have dt : ({ cls := .type "super", dict := none, data := .fields #[.ref D, .ref x, .ref C], slots := #[] } : Obj).data = .fields #[.ref D, .ref x, .ref C] := rfl
  have z0 : (#[.ref D, .ref x, .ref C] : Array Value)[0]? = some (.ref D) := rfl
  have z1 : (#[.ref D, .ref x, .ref C] : Array Value)[1]? = some (.ref x) := rfl
  have z2 : (#[.ref D, .ref x, .ref C] : Array Value)[2]? = some (.ref C) := rfl
  unfold Builtin.«super.__getattribute__»
  repeat (first
    | (with_reducible refine wpAny_field hso dt z0 ?_) | (with_reducible refine wpAny_field hso dt z1 ?_) | (with_reducible refine wpAny_field hso dt z2 ?_)
    | (with_reducible refine ks_wpAny_notOpaque no ?_)
    | (with_reducible refine Looks.at mro ?_; rw [behind])
    | (refine ks_forIn_along X (fun _ _ => rfl) rfl ?_ found)
    | (with_reducible refine wpAny_call_entry ESX.slot_wd ti ESX.entry_wd ?_ (ESX.args_wd _ _ _))
    | (with_reducible refine wd_run is ?_)
    | (with_reducible refine ⟨_, rfl, ?_⟩)
    | (simp only [nc, ne, Bool.or_false, Bool.false_eq_true, if_false])
    | wp_step
    | dsimp only)
  all_goals exact k
theorem sup_method {so D x C : Addr} {l₀ l : List Value} {K : Frag} {name : Str} {pl : Sem Bool} {Q : Value × List Value → Shared → Prop}
    (hso : h.get? so = some { cls := .type "super", dict := none, data := .fields #[.ref D, .ref x, .ref C], slots := #[] }) (no : W.Looks (model prog w) h (opaqueClassAbove (.ref C)) none)
    (mro : W.Looks (model prog w) h (mroOf (.ref C)) l₀) (behind : (l₀.dropWhile (· != .ref D)).drop 1 = l) (X : K.In h)
    (found : alongIn K name l = some (some (.builtin "ValueError.__init__"))) (xC : x ≠ C) (nc : (name == ("__class__" : Str)) = false) (is : W.Looks (model prog w) h (isInstance (.ref x) (.type "ValueError")) true)
    (k : Q (.ref h.objs.size, []) ⟨h.push (bnd x), g, d, t + 1, os⟩) :
    wpAny (model prog w) A (getMethod (.ref so) name pl) Q E ⟨h, g, d, t, os⟩ := by
  have lk := F.ks_slot_super_ga.lookup
  have can := F.ks_canon_super_ga
  have T : ∀ t', (⟨h, g, d, t', os⟩ : Shared).TypeIs (.ref so) "super" := fun _ => ⟨_, hso, rfl⟩
  unfold getMethod
  refine wpAny_bind (wpAny_specialOf (T _) lk ?_)
  show wpAny _ _ (if (Manifest.canonical "super.__getattribute__" != "object.__getattribute__") = true then _ else _) _ _ _
  rw [if_pos can]
  unfold getAttr getAttrBy
  refine wpAny_bind (wpAny_bind (wpAny_mkText (wpAny_holding (wpAny_bind (wpAny_typeOf (T _) (wpAny_bind (wpAny_of_eq lk ?_)))))))
  show wpAny _ _ (getAttrByItsOwn (.ref so) (.str name t) (.type "super") (.builtin "super.__getattribute__") true false) _ _ _
  unfold getAttrByItsOwn hookBefore callGetattribute boundAndCalled
  refine wpAny_bind (wpAny_of_eq (show (if onTheHeap (.type "super") then typeLookup (.type "super") "__getattr__" else pure none) = pure none from rfl) ?_)
  refine wpAny_bind (wpAny_attempt (wpAny_holding ?_))
  show wpAny _ _ (bindSpecial (.builtin "super.__getattribute__") (.ref so) >>= _) _ _ _
  refine wpAny_bind (wpAny_of_eq (F.ks_slot_super_ga.bind _) ?_)
  refine wpAny_mono (Q := fun v s' => v = .ref h.objs.size ∧ s' = ⟨h.push (bnd x), g, d, t + 1, os⟩) (E := fun _ _ => False)
    (wpAny_call_entry F.ks_slot_super_ga (T _) F.ks_entry_super_ga (sup_ga hso no mro behind X found xC nc is ⟨_, rfl, rfl, rfl⟩) (F.ks_gaArgs_super _ _)) (fun v s' hv => ?_) fun _ _ z => z.elim
  obtain ⟨rfl, rfl⟩ := hv
  exact wpAny_pure (wpAny_pure k)
end
section
open PySem.W PySem.Calls PyProof.Rows
variable {prog : Program} {w : World} {M : Model} {A : Around} {E : Value → Shared → Prop} {s : Shared}
theorem with_bnd {pos : Pos} {u x : Addr} {first : List Value} {args : List (Bool × Sem Value)} {Q : Value → Shared → Prop} (plain : args.any (·.1) = false)
    (k : wpAny M A (evalArgs (.ref u) true args []) (fun a s₁ => s₁.heap.get? u = some (bnd x) ∧ wpAny M A (call (.ref u) (first ++ a.pos) a.kw) Q E s₁) E s) : wpAny M A (callWith pos (.ref u) first args []) Q E s := by
  unfold callWith
  refine wpAny_bind (wpAny_holding (wpAny_mono k (fun a s₁ k₁ => wpAny_bind (wpAny_standAt ?_)) fun _ _ x => x))
  obtain ⟨ho, go⟩ := k₁
  simp only [plain, List.any_nil, Bool.or_false]
  refine wpAny_bind (m := keeperOf (.ref u)) ?_
  unfold keeperOf
  refine wpAny_bind (wpAny_load ho ?_)
  simp only [bnd, show (Value.type "method-wrapper" != Value.type "method") = true by decide, show (Value.type "method-wrapper" == Value.type "builtin_function_or_method" || Value.type "method-wrapper" == Value.type "method-wrapper") = true by decide, if_true]
  refine wpAny_pure ?_
  exact wpAny_bind (wpAny_mono go (fun r s₂ hr => wpAny_bind (wpAny_holding (wpAny_point (wpAny_pure hr)))) fun _ _ x => x)
variable {h : Heap} {g : Array GenState} {d : Drawn} {t : Nat} {os : OsState}
variable {nm q : Str} {C N : Addr} {bs bm : List Value} {hdct : Bool} {sn : List Str} {sub : List Value} {ab : Bool} {col : Option Bool} {dd : Option Addr} {k0 k1 k2 k3 k5 : Option Value}
theorem ck_bnd {bmB : List Value} {B newId initId : String} (F : ExcBaseFacts B newId initId bmB) {e : Addr} {oe : Obj} {rest : List Value} {Q : Unit → Shared → Prop} (has : bm.contains (.type B) = true)
    (hC : h.get? C = some (excClassObj nm q C N bs bm hdct sn sub ab col dd k0 k1 k2 k3 k5 newId)) (he : h.get? e = some oe) (hcls : oe.cls = .ref C) (k : Q () ⟨h, g, d, t, os⟩) :
    wpAny M A (checkBoundCall initId ⟨.ref e :: rest, []⟩) Q E ⟨h, g, d, t, os⟩ := by
  have short := F.noStar
  simp only [checkBoundCall, F.initKind, F.initRow]
  repeat (first | (with_reducible refine wpAny_loadPart_at he ?_; rw [hcls]) | with_reducible refine wpAny_loadPart_at hC ?_ | wp_step)
  refine wpAny_onRaise ?_
  rw [show ∀ (a b : String) (n : Nat), Bind.check ⟨.positional, "*", B, .self, [⟨"args", .varPos, false⟩]⟩ a b n (List.map (fun x => x.fst) ({ pos := Value.ref e :: rest } : Args).kw) = pure () from
    fun a b n => check_star_args _ _ _ _ _ _]
  exact wpAny_pure k
/-- the wrapper called: nothing of it is told but the texts -/
theorem call_bnd {u e t0 : Addr} {rest : List Value} {Q : Value → Shared → Prop} (has : ∀ X : String, bm.contains (.type X) = [Value.type "ValueError", .type "Exception", .type "BaseException", .type "object"].contains (.type X))
    (hC : h.get? C = some (excClassObj nm q C N bs bm hdct sn sub ab col dd k0 k1 k2 k3 k5 "ValueError.__new__")) (he : h.get? e = some (HandSPX.excO C t0)) (hu : h.get? u = some (bnd e)) (few : rest.length ≤ sizeLine)
    (k : ∀ h' t1, (∀ b o, b ≠ e → h.get? b = some o → h'.get? b = some o) → h'.get? e = some (HandSPX.excO C t1) → Q .none ⟨h', g, d, t, os⟩) :
    wpAny (model prog w) A (call (.ref u) rest) Q E ⟨h, g, d, t, os⟩ := by
  refine wpAny_call (codeAny_of_tree ?_)
  show wpAny _ A.in1 (callAny (.ref u) ⟨rest, []⟩) _ _ _
  simp only [callAny]
  refine wpAny_bind (wpAny_load hu ?_)
  simp only [bnd, show (Value.type "method-wrapper" == Value.type "method" || Value.type "method-wrapper" == Value.type "builtin_function_or_method" || Value.type "method-wrapper" == Value.type "method-wrapper") = true by decide, if_true]
  refine W.KFB.if_so (by decide) ?_
  refine wpAny_bind (ck_bnd F.excBase_ValueError (by rw [has]; decide +kernel) hC he rfl ?_)
  refine wpAny_bind (wpAny_pure (wpAny_pure ?_))
  refine ⟨Code.quiet_builtin _ (by decide +kernel), codeAny_builtin F.excBase_ValueError.initEntry ?_⟩
  rw [Around.under_plainId F.excBase_ValueError.init.plain _]
  wp_walk
  refine k _ h.objs.size (fun b o hb ho => ?_) ?_
  · rw [Heap.get?_update_other _ _ (Ne.symm hb)]
    exact Heap.get?_push_of_some _ ho
  · rw [Heap.get?_update_self _ (Heap.get?_push_of_some _ he) rfl]
    rfl
end
end PWX
end PySem

set_option Elab.async false
set_option linter.all false
set_option maxRecDepth 100000
set_option maxHeartbeats 4000000
/-! own prelude, part 20: the text's own errors: made, read, asked -/
namespace PW
open PySem PySem.Spec PyProof.Rows L2
open PySem.W (Frag)
/-- what is known of an error's class at C: CE the first of them, fI its __init__ -/
structure ClsF (K : Frag) (CE fI C : Addr) : Prop where
  ox : OexC K C
  ini : PySem.W.findIn K (.ref C) "__init__" = some (some (.ref fI))
  sub : PySem.W.mroIn K C (.ref CE) = some true
  along : PySem.W.ks_superIn K C CE "__init__" = some (some (.builtin "ValueError.__init__"))
  vno : PySem.W.findIn K (.ref C) "value" = some none
  xf : XfC K C
  xc : ExcC K C
/-- the text of CurveError.__init__ -/
def iniShape (b : List Stmt) : Bool := match b with
  | [.Expr (.Call (.Attribute (.Call (.Name x1 _) [] [] _) x2 ap) [.Name x3 _] [] cp) _, .Assign [.Attribute (.Name x4 _) x5 _] (.Name x6 _) _] =>
    decide (x1 = ("super" : Str)) && decide (x2 = ("__init__" : Str)) && decide (x3 = ("value" : Str)) && decide (x4 = ("self" : Str)) && decide (x5 = ("value" : Str)) && decide (x6 = ("value" : Str)) && (ap.endLine == cp.line)
  | _ => false
def iniSc (sg : Scope) : Bool := decide (sg.kind = .function) && !sg.isCoroutine && !sg.isGenerator && decide (sg.names.lookup ("self" : Str) = some .local) && decide (sg.names.lookup ("value" : Str) = some .local) && decide (sg.names.lookup ("super" : Str) = some .globalImplicit) && decide (sg.names.lookup ("__class__" : Str) = some .free) && sg.names.all fun y => !decide (y.2 = .cell)
structure IniF (K : Frag) (mg : Str → Option Value) (P : Program) (fI CE cc cda : Addr) (pr : Arguments) (bd : List Stmt) (sc : Scope) : Prop where
  lk : ∃ (oc : Value) (od : Option Addr) (osl : Array (Option Value)) (kV doc pm ct : Value) (an : Option Addr), K.lookup fI = some ⟨oc, od, .func (PySem.W.ksFn "__init__" "CurveError.__init__" pr bd sc .none kV doc pm an (.ref cda) ct cc), osl⟩
  cd : PySem.W.codeIn K (.ref cda) "CurveError.__init__" = true
  ty : PySem.W.typeIn K (.ref fI) = some (.type "function")
  shape : iniShape bd = true
  names : iniSc sc = true
  bind : ∀ (kV doc pm ct : Value) (an : Option Addr) (u v : Value), bindArgs (PySem.W.ksFn "__init__" "CurveError.__init__" pr bd sc .none kV doc pm an (.ref cda) ct cc) ⟨[u, v], []⟩ = pure [(("self" : Str), u), (("value" : Str), v)]
  head : ∃ ar : Arg, (pr.posonlyargs ++ pr.args).head? = some ar ∧ ar.arg = ("self" : Str)
  code : ∃ (ccl : Value) (cdd : Option Addr) (vs : Array Value) (ccs : Array (Option Value)) (file : Str) (tf : Tok), K.lookup cda = some ⟨ccl, cdd, .fields vs, ccs⟩ ∧ vs[2]? = some (.str file tf) ∧ (P.main.file == file) = true
  cell : ∃ (cl : Value) (cld : Option Addr) (csl : Array (Option Value)), K.lookup cc = some ⟨cl, cld, .cell (some (.ref CE)), csl⟩
  cls : ∃ cdD, PySem.W.clsIn K CE = some cdD
  top : (P.main.scope.names.lookup ("super" : Str)).isSome = false
  free : mg "super" = none
  any : PySem.W.nsIn K cStatics "thirdparty.any" = some none
theorem boot_super : bootBuiltins "super" = some (.type "super") := by decide +kernel
theorem call_arm {o a : Expr} {m : Str} {ap cp : Pos} {env : Env} (line : (ap.endLine == cp.line) = true) (ha : starEach [a] env = [(false, eval a env)]) : eval (.Call (.Attribute o m ap) [a] [] cp) env = (do
    let ov ← attributeBase o m env (eval o env)
    standAt ap.atName
    let (f, first) ← holding [ov] (getMethod ov m (plainOf o env))
    callWith cp f first (backTo cp (starEach [a] env)) []) := by
  show (do
    let ov ← attributeBase o m env (eval o env)
    standAt ap.atName
    methodCall o m ap cp env ov 1 (backTo cp (starEach [a] env)) (backToKw cp (keywordEach [] env))) = _
  congr 1
  funext ov
  congr 1
  funext _
  rw [mcall_line (by rw [ha]; rfl) line] <;> rfl
/-- the two statements -/
theorem init_body {K : Frag} {mg mb : Str → Option Value} {P : Program} {w : World} {A : Around} {fI CE C cc cda x t0 L : Addr} {pr : Arguments} {bd : List Stmt} {sc : Scope} {u : Value} {s : Shared} {E : Value → Shared → Prop} {Q : Flow → Shared → Prop} {env : Env}
    (F : IniF K mg P fI CE cc cda pr bd sc) (c : ClsF K CE fI C) (X : K.In s.heap) (hg : s.heap.Ns mainGlobals mg) (hb : s.heap.Ns builtinsNs mb) (hbb : ∀ x : Str, x ≠ "__name__" → mb x = bootBuiltins x) (hx : s.heap.get? x = some (HandSPX.excO C t0))
    (e1 : env.scope = sc) (e2 : env.func = some fI) (e3 : env.code = .ref cda) (e4 : env.globals = mainGlobals) (e5 : env.builtins = builtinsNs) (e6 : env.cells = [(("__class__" : Str), cc)]) (e7 : env.locals = L) (hL : s.heap.Ns L fun y => ([(("self" : Str), Value.ref x), (("value" : Str), u)]).reverse.lookup y) (nL : L ≠ x) (nK : K.lookup x = none)
    (k : ∀ h' tk' dx t1, (∀ b o, b ≠ x → s.heap.get? b = some o → h'.get? b = some o) → s.heap.get? dx = none → dx ≠ x → h'.get? x = some { cls := .ref C, dict := some dx, data := .fields #[.ref t1, .none, .none, .none, .bool false, .none] } →
      h'.Ns1 dx (fun y => if y = "value" then some u else none) → Q .next { s with heap := h', toks := tk' }) : PySem.wpAt (model P w) A (.func bd env) (execs bd env) Q E s := by
  obtain ⟨oc, od, osl, kV, doc, pm, ct, an, lk⟩ := F.lk
  obtain ⟨nm, q, N, bs, bm, sn, sub, ab, col, dd, k0, k1, k2, k3, k5, hC, hbm⟩ := c.ox.cls
  have hcl : PySem.W.clsIn K C = some { name := nm, bases := bs, mro := .ref C :: bm, ns := N, qualname := q, hasDict := true, slotNames := sn, subclasses := sub, abstract := ab, collection := col, hasDel := false } := by unfold PySem.W.clsIn; rw [hC] <;> rfl
  have nms := F.names
  unfold iniSc at nms
  simp only [Bool.and_eq_true, decide_eq_true_eq, Bool.not_eq_true', List.all_eq_true, decide_eq_false_iff_not] at nms
  obtain ⟨⟨⟨⟨⟨⟨⟨n0, n1⟩, n2⟩, n3⟩, n4⟩, n5⟩, n6⟩, n7⟩ := nms
  obtain ⟨ar, har, ear⟩ := F.head
  obtain ⟨ccl, cdd, vs, ccs, file, tf, lkc, hvs, hfile⟩ := F.code
  obtain ⟨cl, cld, csl, lkcc⟩ := F.cell
  obtain ⟨cdD, hD⟩ := F.cls
  have kd : ∀ y : Str, env.kindOf y = sc.names.lookup y := fun y => by rw [← e1]; rfl
  have ek : env.scope.kind = .function := by rw [e1]; exact n0
  have inter : interactive env = false := by
    unfold interactive
    rw [ek] <;> rfl
  have sh := F.shape
  unfold iniShape at sh
  split at sh
  · rename_i b0 x1 p1 p2 x2 ap x3 p3 cp p4 x4 p5 x5 p6 x6 p7 p8
    simp only [Bool.and_eq_true, decide_eq_true_eq] at sh
    obtain ⟨⟨⟨⟨⟨⟨rfl, rfl⟩, rfl⟩, rfl⟩, rfl⟩, rfl⟩, line⟩ := sh
    refine ks_wpAt_execs_cons (ks_wpAt_Expr_any (ks_wpAt_MethodCall ?_ (call_arm line (by rfl))) inter)
    obtain ⟨hp, g, d, tk, os⟩ := s
    obtain ⟨oD, hD1, hD2⟩ : ∃ oD, hp.get? CE = some oD ∧ oD.data = .cls cdD := by
      unfold PySem.W.clsIn at hD
      split at hD
      · rename_i c d cd' sl ho
        cases hD
        exact ⟨_, X _ _ ho, rfl⟩
      · cases hD
    refine ks_wpAt_super_base (by rw [kd]; exact n5) (by rw [kd]; exact n6) (by decide +kernel) e2 (X _ _ lk) rfl har e3 (X _ _ lkc) rfl hvs hfile F.top ?_
    refine PySem.W.ks_loadName_global ek (by rw [kd]; exact n5) (Calls.loadGlobal_builtin (by rw [e4]; exact hg) F.free (by rw [e5]; exact hb) ((hbb _ (by decide +kernel)).trans boot_super) ⟨rfl, ?_⟩)
    refine wpAny_loadName_free ek (by rw [kd]; exact n6) (by rw [e6]; rfl) ⟨_, X _ _ lkcc, rfl⟩ ?_
    rw [ear]
    refine wpAny_loadName_local ek (by rw [kd]; exact n3) (by rw [e7]; exact hL) (by rfl) ?_
    refine ks_wpAny_isType_cls hD1 hD2 ⟨rfl, ?_⟩
    refine ks_wpAny_call_super hD1 hD2 hx rfl (fun c z => by cases z) (PySem.W.looks_mroIn X c.sub) (fun h2 hso k2 => ?_)
    have X2 : K.In h2 := X.keeps k2
    have hm : HandSPX.refsVE (.ref C :: bm) = true := hbm
    have ne := HandSPX.refsVE_ne hm
    have hx2 := k2 _ _ hx
    have I2 : PySem.W.InstAt h2 x (HandSPX.excO C t0) C none := ⟨hx2, rfl, rfl, trivial⟩
    have ve : (Value.ref C :: bm).contains (.type "ValueError") = true := (HandSPX.refsVE_contains "ValueError" _ hm).trans (by decide +kernel)
    have al := c.along
    unfold PySem.W.ks_superIn at al
    rw [hcl] at al
    refine PWX.sup_method hso (PySem.W.looks_opaque X2 F.any) (l₀ := .ref C :: bm) ((PySem.W.looks_clsIn X2 hcl).andThen .now) rfl X2 al (PySem.W.ks_ne X2 I2 hcl) (by decide +kernel) (I2.type.andThen (PySem.W.looks_mroIn X2 (by unfold PySem.W.mroIn; rw [hcl, Option.bind_some, if_neg (by rw [ne]; decide), ve]))) ?_
    have hbn : (h2.push (PWX.bnd x)).get? h2.objs.size = some (PWX.bnd x) := Heap.get?_push_size _ rfl
    have hL2 : (h2.push (PWX.bnd x)).Ns L fun y => ([(("self" : Str), Value.ref x), (("value" : Str), u)]).reverse.lookup y := hL.at fun o q => Heap.get?_push_of_some _ (k2 _ _ q)
    have lV : ∀ {h' : Heap} {tk' : Nat} {pp : Pos} {Q' E' : Value → Shared → Prop} {B : Around}, (h'.Ns L fun y => ([(("self" : Str), Value.ref x), (("value" : Str), u)]).reverse.lookup y) → Q' u ⟨h', g, d, tk', os⟩ → wpAny (model P w) B (eval (.Name "value" pp) env) Q' E' ⟨h', g, d, tk', os⟩ :=
      fun hn hq => wpAny_Name (wpAny_loadName_local ek (by rw [kd]; exact n4) (by rw [e7]; exact hn) (by rfl) hq) (by decide +kernel)
    refine PWX.with_bnd (x := x) rfl (Calls.evalArgs_plain (PyProof.Rows.args_cons (lV hL2 (PyProof.Rows.args_nil ?_)) rfl))
    refine ⟨hbn, ?_⟩
    have X3 : K.In (h2.push (PWX.bnd x)) := X2.keeps fun b o q => Heap.get?_push_of_some _ q
    refine PWX.call_bnd (fun Y => HandSPX.refsVE_contains Y bm hbm) (X3 _ _ hC) (Heap.get?_push_of_some _ hx2) hbn (by show 1 ≤ sizeLine; rw [sizeLine_eq]; omega) fun h4 t1 k4 hx4 => ?_
    have k04 : ∀ b o, b ≠ x → hp.get? b = some o → h4.get? b = some o := fun b o hb q => k4 b o hb (Heap.get?_push_of_some _ (k2 _ _ q))
    have hL4 : h4.Ns L fun y => ([(("self" : Str), Value.ref x), (("value" : Str), u)]).reverse.lookup y := hL.at fun o q => k04 _ _ nL q
    have xK : ∀ a o, K.lookup a = some o → a ≠ x := fun a o q z => by
      rw [z, nK] at q; cases q
    have X4 : K.In h4 := fun a o q => k04 a o (xK a o q) (X a o q)
    have I4 : PySem.W.InstAt h4 x (HandSPX.excO C t1) C none := ⟨hx4, rfl, rfl, trivial⟩
    refine ks_wpAt_execs_cons (wpAt_of_wpAny (plainObj_wpAny_Assign_Attribute (lV hL4 (wpAny_Name (wpAny_loadName_local ek (by rw [kd]; exact n3) (by rw [e7]; exact hL4) (by rfl) ?_) (by decide +kernel))) rfl))
    refine PySem.W.set_plain X4 I4 c.ox.sa (HandSPX.exc_osa X4 hx4 hcl hm rfl c.vno fun h5 tk5 dx k5 dn dne hx5 hn5 => ?_)
    refine wpAt_of_wpAny (wpAny_execs_nil ?_)
    refine k h5 tk5 dx t1 (fun b o hb q => k5 b o hb (k04 b o hb q)) ?_ dne hx5 hn5
    cases q : hp.get? dx with
    | none => rfl
    | some o => exact absurd (Heap.lt_size (k04 dx o dne q)) (Nat.not_lt.mpr dn)
  · cases sh
theorem init_code {K : Frag} {mg mb : Str → Option Value} {P : Program} {w : World} {A : Around} {fI CE C cc cda x t0 : Addr} {pr : Arguments} {bd : List Stmt} {sc : Scope} {u : Value} {s : Shared} {R : Result → Shared → Prop}
    (F : IniF K mg P fI CE cc cda pr bd sc) (c : ClsF K CE fI C) (X : K.In s.heap) (hg : s.heap.Ns mainGlobals mg) (hb : s.heap.Ns builtinsNs mb) (hbb : ∀ x : Str, x ≠ "__name__" → mb x = bootBuiltins x) (lim : s.heap.NoLimit) (hx : s.heap.get? x = some (HandSPX.excO C t0)) (nK : K.lookup x = none) (room : A.depth < recursionLimit)
    (k : ∀ h' tk' dx t1, (∀ b o, b ≠ x → s.heap.get? b = some o → h'.get? b = some o) → s.heap.get? dx = none → dx ≠ x → h'.get? x = some { cls := .ref C, dict := some dx, data := .fields #[.ref t1, .none, .none, .none, .bool false, .none] } →
      h'.Ns1 dx (fun y => if y = "value" then some u else none) → R (.ok (.ret .none)) { s with heap := h', toks := tk' }) :
    codeAny (model P w) A (.call (.ref fI) ⟨[.ref x, u], []⟩) R s := by
  obtain ⟨oc, od, osl, kV, doc, pm, ct, an, lk⟩ := F.lk
  have nms := F.names
  unfold iniSc at nms
  simp only [Bool.and_eq_true, decide_eq_true_eq, Bool.not_eq_true', List.all_eq_true, decide_eq_false_iff_not] at nms
  obtain ⟨⟨⟨⟨⟨⟨⟨n0, n1⟩, n2⟩, n3⟩, n4⟩, n5⟩, n6⟩, n7⟩ := nms
  refine ks_codeAny_call_defAt (binds := [(("self" : Str), .ref x), (("value" : Str), u)]) room (X _ _ lk) rfl lim (PySem.W.codeRec_of X F.cd) rfl (.of_eq (F.bind _ _ _ _ _ _ _)) n7 (fun y hy => ?_) (fun h1 hns kp => ?_) n1 n2 n0
  · rcases List.mem_cons.mp hy with rfl | hy
    · exact n3
    · rcases List.mem_cons.mp hy with rfl | hy
      · exact n4
      · cases hy
  · obtain ⟨hp, g, d, tk, os⟩ := s
    refine init_body (s := ⟨h1, g, d, tk + [(("self" : Str), Value.ref x), (("value" : Str), u)].length, os⟩) F c (X.keeps kp) (hg.at fun o q => kp _ _ q) (hb.at fun o q => kp _ _ q) hbb (kp _ _ hx) rfl rfl rfl rfl rfl rfl rfl hns (fun z => ?_) nK fun h' tk' dx t1 k1 dn dne hx' hn => ?_
    · have q := Heap.lt_size hx
      rw [← z] at q
      exact Nat.lt_irrefl _ q
    · refine k h' tk' dx t1 (fun b o hb q => k1 b o hb (kp _ _ q)) ?_ dne hx' hn
      cases q : hp.get? dx with
      | none => rfl
      | some o =>
        have z := kp _ _ q
        rw [show h1.get? dx = none from dn] at z
        cases z
theorem mk_ok {st : Stt} {G : Ge} {fI CE cc cda : Addr} {pr : Arguments} {bd : List Stmt} {sc : Scope} (IF : IniF G.K G.mg G.P fI CE cc cda pr bd sc)
    (cf : ∀ i x, st.cnm[i]? = some x → G.cnm i = x ∧ ∃ C, G.mg x = some (.ref C) ∧ ClsF G.K CE fI C) : MkOk st G := by
  intro X i x e te p pos hi hp hK hm hc hr hgl hd he hs pins s σ H Q I h
  obtain ⟨ei, C, hC, c⟩ := cf i x hi
  obtain ⟨nm, q, N, bs, bm, sn, sub, ab, col, dd, k0, k1, k2, k3, k5, lkC, hbm⟩ := c.ox.cls
  refine wpAny_Call_Name_kw (ld_glob I hgl (by rw [hm]; exact hC) ?_ hd)
  refine PySem.W.callWith_K (h₀ := X.base) I.ok.mod.kin (by rw [hK]; exact c.ox.kC) ?_ hs (by rfl)
  rw [hs]
  show wpAny _ _ (spliced ((false, eval e X.env) :: backTo pos (starEach [] X.env))) _ _ s
  refine Calls.spliced_cons (thn (he.run pins s σ H _ I h) fun u s1 ⟨y, H1, I1, r1, w, S, rw1, rs1, q1⟩ => ?_)
  refine Calls.spliced_nil ⟨I1.kIn, ?_⟩
  show wpAny _ _ (call (.ref C) [u]) _ _ _
  have KX : G.K.In s1.heap := by rw [← hK]; exact I1.kIn
  obtain ⟨h1, g, dr, tk, os⟩ := s1
  have kk : ∀ b o, h1.get? b = some o → ((h1.push (PySem.W.kdv_tup [u])).push (HandSPX.excO C h1.objs.size)).get? b = some o := fun b o e => Heap.get?_push_of_some _ (Heap.get?_push_of_some _ e)
  have hget : ((h1.push (PySem.W.kdv_tup [u])).push (HandSPX.excO C h1.objs.size)).get? (h1.objs.size + 1) = some (HandSPX.excO C h1.objs.size) := by heap_get
  have nb : ∀ {b : Addr} {o : Obj}, h1.get? b = some o → b ≠ h1.objs.size + 1 := fun {b o} z => Nat.ne_of_lt (Nat.lt_succ_of_lt (Heap.lt_size z))
  obtain ⟨mb, hb, hbb⟩ := I1.mod.blt
  have hg := I1.mod.glob
  have lim := I1.nolimit
  have bk : ∀ b o, X.base.get? b = some o → ((h1.push (PySem.W.kdv_tup [u])).push (HandSPX.excO C h1.objs.size)).get? b = some o := fun b o e => kk b o (I1.bk b o e)
  rw [hm] at hg
  refine wpAny_call (HandSPX.call_own F.excBase_ValueError (fun Y => HandSPX.refsVE_contains Y bm hbm) (KX _ _ lkC) (PySem.W.looks_findIn KX c.ini) (fun self => PySem.W.bind_fn KX self IF.ty) (by show 1 ≤ sizeLine; rw [sizeLine_eq]; omega) ?_)
  have X2 : G.K.In ((h1.push (PySem.W.kdv_tup [u])).push (HandSPX.excO C h1.objs.size)) := KX.keeps kk
  have nK : G.K.lookup (h1.objs.size + 1) = none := by
    cases z : G.K.lookup (h1.objs.size + 1) with
    | none => rfl
    | some o => exact absurd (Heap.lt_size (KX _ _ z)) (Nat.not_lt.mpr (Nat.le_succ _))
  rw [hp]
  refine init_code (s := ⟨(h1.push (PySem.W.kdv_tup [u])).push (HandSPX.excO C h1.objs.size), g, dr, tk, os⟩) IF c X2 (hg.at fun o q => bk _ _ q) (hb.at fun o q => bk _ _ q) hbb (lim.keeps kk) hget nK (hr.make C [u] []).depth fun h' tk' dx t1 k1 dn dne hx' hn => ?_
  obtain ⟨Gr, g1, g2⟩ := restrict h' fun b => decide (b ≠ h1.objs.size + 1)
  have gk : ∀ b, b ≠ h1.objs.size + 1 → Gr.get? b = h'.get? b := fun b hb => g1 b (decide_eq_true hb)
  have ga : Gr.get? (h1.objs.size + 1) = none := g2 _ (decide_eq_false fun z => z rfl)
  have nd : h1.get? dx = none := by
    cases q : h1.get? dx with
    | none => rfl
    | some o =>
      have z := kk _ _ q
      rw [show ((h1.push (PySem.W.kdv_tup [u])).push (HandSPX.excO C h1.objs.size)).get? dx = none from dn] at z
      cases z
  have hn1 : H1 dx = none := I1.hok.gone nd
  have na : H1 (h1.objs.size + 1) = none := I1.hok.fresh (Nat.le_succ _)
  have J : Inv X pins σ (upd H1 dx (.xd [("value", y)])) ⟨Gr, g, dr, tk', os⟩ :=
    I1.laidN (t' := tk') (h' := Gr) (fun b o q => by rw [gk b (nb q)]; exact k1 b o (nb q) (kk b o q)) nd hn1 ⟨_, hn.at fun o q => (gk dx dne).trans q, relO_put (fs := []) r1 fun _ => True.intro⟩
  have gr : Grow H1 (upd H1 dx (.xd [("value", y)])) := Grow.new hn1
  refine ⟨rfl, h1.objs.size + 1, _, _, ⟨Gr, g, dr, tk', os⟩, _, .ref C, some dx, rfl, J, fun b o q => ?_, ga, hx', ⟨rfl, rfl⟩, rfl, rfl, ?_, rfl, I1.bare, raises_own (by rw [hK]; exact c.ox.exC) (by rw [hK]; exact c.ox.tyC), q1 _ _ _ gr ?_ (rs1.new hn1)⟩
  · have hb : b ≠ h1.objs.size + 1 := fun z => by
      rw [z, ga] at q; cases q
    exact (gk b hb).symm.trans q
  · rw [L2.upd_ne (Ne.symm dne)]; exact na
  · exact ⟨i, w, C, dx, y, rfl, by rw [ei]; exact hC, rfl, rfl, L2.upd_same, rw1.mono gr⟩
/-- reading .value of a caught error -/
theorem att_ok {G : Ge} {CE fI : Addr} (cf : ∀ i C, G.mg (G.cnm i) = some (.ref C) → ClsF G.K CE fI C) : AttOk G := by
  intro X i w pins s σ H v u Q hK I r rw0 k
  unfold RW at rw0
  obtain ⟨a, c, d, x, rfl, hc, ha, hd, rx⟩ := rw0
  obtain rfl : u = Value.ref a := r
  have C := cf i c hc
  obtain ⟨⟨oe, vs, ho, hcls, hdict, hdat⟩, _, _⟩ := I.hok a _ ha
  obtain ⟨mA, hns, hr⟩ := (show ObjOk X.prog X.w H s.heap d (.xd [("value", x)]) from I.hok d _ hd)
  obtain ⟨od, hod, hl⟩ := lookIn_ns hns
  have hv := hr "value"
  have e : List.lookup ("value" : Str) [(("value" : Str), x)] = some x := by simp [List.lookup]
  obtain ⟨u, hu, ru⟩ := RelO.some_of (v := x) (o := mA "value") (by rw [← e]; exact hv)
  have KX : G.K.In s.heap := by rw [← hK]; exact I.kIn
  have J : PySem.W.InstAt s.heap a oe c (some od) := ⟨ho, hcls, by unfold PySem.W.notCls; rw [hdat] <;> rfl, by rw [hdict]; exact hod⟩
  exact HandSPX.exc_get KX J C.xf.ga C.xf.gg C.xf.exC (PySem.W.findObj_own C.xf.hdC C.vno rfl (by rw [hl, hu])) (handed_of ru) ⟨x, H, I.tok _, ru, k x rx⟩
end PW

set_option Elab.async false
set_option linter.all false
set_option maxRecDepth 100000
set_option maxHeartbeats 4000000
/-! own prelude, part 21: isinstance of a caught error that has its own dict -/
namespace PySem.W
open PySem PySem.Spec PySem.Calls PyProof.Rows
section
variable {prog : Program} {w : World} {A : Around} {E : Value → Shared → Prop} {s : Shared} {K : Frag} {x D : Addr} {ox : Obj} {od : Option Obj}
theorem pw_found {C : Addr} {name : Str} {a g : Value} (hc : (clsIn K C).isSome = true) (ha : findIn K (.ref C) name = some (some a)) (hg : specialIn K a "__get__" = some (some g)) (ht : takesIn K a = some true) : findObj K C od name = some (.bind g a) := by
  obtain ⟨cd, hc⟩ := Option.isSome_iff_exists.mp hc
  unfold findObj
  rw [hc, Option.bind_some, ha, Option.bind_some]
  simp [hg, ht]
theorem pw_class {Q : Option Value → Shared → Prop} (T : L2.ExcC K D) (X : K.In s.heap) (I : InstAt s.heap x ox D od) (k : Q (some (.ref D)) { s with toks := s.toks + 1 }) : wpAny (model prog w) A (getAttr? (.ref x) "__class__") Q E s := by
  have fnd : findObj K D od "__class__" = some (.bind (.builtin "getset_descriptor.__get__") (.builtin "object.__class__")) := pw_found (by obtain ⟨cd, hc, _⟩ := any_some T.hd; rw [hc]; rfl) T.ha T.hn T.ht
  obtain ⟨hp, g, d, t, os⟩ := s
  have w0 := I.type (M := model prog w)
  have w1 := looks_findIn (M := model prog w) X T.hg
  have w2 := looks_findIn (M := model prog w) X T.hk
  have w3 := looks_find (M := model prog w) X I fnd
  have is : Looks (model prog w) hp (isInstance (.ref x) (.type "BaseException")) true := w0.andThen (looks_subIn X T.hs)
  have y0 : (false && onTheHeap (Value.builtin "BaseException.__getattribute__")) = false := rfl
  have y2 : (Value.builtin "BaseException.__getattribute__" == Value.builtin "object.__getattribute__") = false := by decide +kernel
  have y1 : (onTheHeap (Value.ref D) && Value.builtin "BaseException.__getattribute__" == Value.builtin "object.__getattribute__") = false := by rw [y2]; rfl
  unfold getAttr? getAttrBy? getAttrBy
  refine wpAny_bind (wpAny_mkText (wpAny_bind (wpAny_attempt (wpAny_holding (wpAny_bind (w0.at (wpAny_bind (w1.at ?_))))))))
  show wpAny _ _ (if (onTheHeap (Value.ref D) && Value.builtin "BaseException.__getattribute__" == Value.builtin "object.__getattribute__") = true then _ else _) _ _ _
  rw [y1, if_neg Bool.false_ne_true]
  unfold getAttrByItsOwn hookBefore
  refine wpAny_bind ?_
  rw [if_pos (show onTheHeap (Value.ref D) = true from rfl)]
  refine w2.at ?_
  refine wpAny_bind (wpAny_attempt (wpAny_holding ?_))
  unfold callGetattribute
  rw [y0, if_neg Bool.false_ne_true]
  unfold boundAndCalled
  rw [PySem.F.excAttr_ValueError.ga.bind (.ref x)]
  refine wpAny_bind (wpAny_pure ?_)
  show wpAny _ _ (call (.builtin "BaseException.__getattribute__") [.ref x, .str "__class__" t]) _ _ _
  refine wpAny_call (codeAny_call_builtin PySem.F.excAttr_ValueError.ga.plain PySem.F.entry_bexc_ga ?_)
  refine @check_slot (model prog w) _ _ ⟨hp, g, d, t + 1, os⟩ "BaseException.__getattribute__" "BaseException" "__getattribute__" (.ref x) [.str "__class__" t] [] _ (by decide +kernel) (by decide +kernel) is (PySem.F.args_bexc_ga (.ref x) (.str "__class__" t)) ?_
  unfold Builtin.«object.__getattribute__»
  refine wpAny_bind (wpAny_of_eq (a := ((Value.ref x : Value), [Value.str "__class__" t])) (by first | rfl | (simp only [slotArgs]; rfl)) ?_)
  refine wpAny_bind (wpAny_pure (wpAny_bind (w0.at (wpAny_bind (w3.at ?_)))))
  show wpAny _ _ (holding [Value.builtin "object.__class__"] (call (.builtin "getset_descriptor.__get__") [.builtin "object.__class__", .ref x, .ref D]) >>= ret) _ _ _
  refine wpAny_bind (wpAny_holding (wpAny_call (class_get (s := ⟨hp, g, d, t + 1, os⟩) (ox := ox) (od := od) X I T.hm ?_)))
  refine wpAny_pure ?_
  show wpAny _ _ (handedOut (.ref D)) _ _ _
  rw [handedOut_of (v := .ref D) rfl]
  first
    | exact wpAny_pure (wpAny_pure k)
    | exact wpAny_pure k
    | exact wpAny_pure (wpAny_bind (wpAny_pure (wpAny_pure k)))
theorem pw_kit (T : L2.ExcC K D) : KitX K (.ref x) (.ref D) (fun h => InstAt h x ox D od) where
  ty := fun _ _ _ I => I.type
  it := fun _ _ X _ => by
    obtain ⟨cd, hc, _⟩ := any_some T.hd
    unfold clsIn at hc
    split at hc
    · rename_i c' d' cd' sl' ho
      intro A' Q' E' s' k q
      unfold isType loadHead
      exact wpAny_bind (wpAny_loadPart (k _ _ (X _ _ ho)) (wpAny_pure q))
    · cases hc
  ne := fun h tp dd its n sl X htp => by
    obtain ⟨cd, hc, _⟩ := any_some T.hd
    refine Bool.eq_false_iff.mpr fun q => ?_
    have e : D = tp := Value.ref.inj (beq_iff_eq.mp q)
    subst e
    unfold clsIn at hc
    split at hc
    · rename_i c' d' cd' sl' ho
      have z := (X _ _ ho).symm.trans htp
      cases z
    · cases hc
  ca := fun X I k => pw_class T X I k
end
end PySem.W
namespace PW
open PySem PySem.Spec PyProof.Rows L2
theorem is_ok {G : Ge} {CE fI : Addr} {sb : Subs} (cf : ∀ i C, G.mg (G.cnm i) = some (.ref C) → ClsF G.K CE fI C) (kit : ∀ i j C D, G.mg (G.cnm i) = some (.ref C) → G.mg (G.cnm j) = some (.ref D) → PySem.W.kitOne G.K (.ref C) (.ref D) = some (sb i j)) (X : Cx) (hK : X.K = G.K) : ExcIs G X sb := by
  intro i j w pins s σ H v c us Q I rv rw0 rc q
  unfold RW at rw0 rc
  obtain ⟨a, C, d, x, rfl, hC, ha, hd, rx⟩ := rw0
  obtain ⟨D, rfl, hD⟩ := rc
  obtain ⟨u, u2, rfl, r1, r2⟩ := Vals.two rv
  obtain rfl : u = Value.ref a := r1
  obtain rfl : u2 = Value.ref D := r2
  have T := cf i C hC
  obtain ⟨⟨oe, vs, ho, hcls, hdict, hdat⟩, _, _⟩ := I.hok a _ ha
  obtain ⟨mA, hns, hr⟩ := (show ObjOk X.prog X.w H s.heap d (.xd [("value", x)]) from I.hok d _ hd)
  obtain ⟨od, hod, hl⟩ := lookIn_ns hns
  have KX : G.K.In s.heap := by rw [← hK]; exact I.kIn
  have J : PySem.W.InstAt s.heap a oe C (some od) := ⟨ho, hcls, by unfold PySem.W.notCls; rw [hdat] <;> rfl, by rw [hdict]; exact hod⟩
  exact PySem.W.kia_one (PySem.W.pw_kit T.xc) KX J (kit i j C D hC hD) (fun z => nomatch z) fun tk => ⟨.bl (sb i j), H, I.kept (t' := tk) fun _ _ z => z, rfl, q⟩
end PW

set_option Elab.async false
set_option linter.all false
set_option maxRecDepth 100000
set_option maxHeartbeats 4000000
/-! own prelude, part 22: the end of a law -/
namespace PW
open PySem PySem.Spec PyProof.Rows L2
open LamX
abbrev emptyT : Obj := { cls := .none, data := .fields #[] }
/-- the law's call, from the head's end: the script at a, the tables cs -/
theorem law_end {P : Program} {w : World} {K : PySem.W.Frag} {mg mb : Str → Option Value} {k : Nat} {fa a : Addr} {cs : List (Addr × Addr)} {fd : FuncData} {x : Str} {sp : Sp} {s : Shared} {vs : List Value} {ns : List Int}
    (KX : K.In s.heap) (hns : s.heap.Ns mainGlobals mg) (hb : s.heap.Ns builtinsNs mb) (hbb : ∀ x : Str, x ≠ "__name__" → mb x = bootBuiltins x) (lim : s.heap.NoLimit) (hg : s.gens = #[])
    (hT : ∀ p ∈ cs, s.heap.get? p.2 = some emptyT) (nT : ∀ p ∈ cs, K.lookup p.2 = none) (C : ∀ p ∈ cs, PySem.W.CodeHd s.heap p.1 p.2)
    (hbm : ∃ (bm : Addr) (ob : Obj), mg "__builtins__" = some (.ref bm) ∧ bm ≠ builtinsNs ∧ s.heap.get? bm = some ob ∧ ob.cls = .type "module" ∧ ob.dict = some builtinsNs ∧ ob.data = .plain)
    (ha : s.heap.get? a = some { cls := .type "list", data := .seq vs.toArray }) (hi : IntsAre vs ns) (hl : ns.length ≤ sizeLine) (hr : Room k callerA)
    (F : ∀ base : Heap, K.In base → base.Ns mainGlobals mg → (∀ p ∈ cs, TabB base mg p.1 p.2) → FnG P w K mg base k fa fd [x] sp) (hbind : ∀ (s : Shared) (u : Value), BindsTo s fd ⟨[u], []⟩ [(x, u)])
    (hsp : ∀ H : Hp, (∀ p ∈ cs, H p.2 = some (.tbl #[])) → Frz K H a (ns.map V.int) → sp [.ref a] H (fun v _ => v = .bl true) fun _ _ _ => False) :
    codeAny (model P w) callerA (.call (.ref fa) ⟨[.ref a], []⟩) (fun r s' => r = .ok (.ret (.bool true)) ∧ OldK s.heap s'.heap ∧ s'.os = s.os ∧ AllBare s'.gens) s := by
  have rv := vals_ints hi
  have lenV := hi.length
  have tabs : ∀ b : Addr, b ∈ cs.map (·.2) → s.heap.get? b = some emptyT := fun b m => by
    obtain ⟨p, hp, e⟩ := List.mem_map.mp m
    rw [← e]
    exact hT p hp
  have inT : ∀ p ∈ cs, p.2 ∈ cs.map (·.2) := fun p hp => List.mem_map.mpr ⟨p, hp, rfl⟩
  have noScript : a ∉ cs.map (·.2) := fun z => by
    have q := tabs a z
    rw [ha] at q
    cases congrArg Obj.data (Option.some.inj q)
  have main : ∀ H : Hp, (∀ p ∈ cs, H p.2 = some (.tbl #[])) → (∀ b, H b = none ∨ (b ∈ cs.map (·.2)) ∨ (b = a ∧ K.lookup a = none ∧ ∃ o xs, H b = some (.frz o (.lst xs)))) → Frz K H a (ns.map V.int) → HOk P w H s.heap →
      codeAny (model P w) callerA (.call (.ref fa) ⟨[.ref a], []⟩) (fun r s' => r = .ok (.ret (.bool true)) ∧ OldK s.heap s'.heap ∧ s'.os = s.os ∧ AllBare s'.gens) s := by
    intro H hH three hS hok
    have keep : ∀ {b : Addr} {o : Obj}, s.heap.get? b = some o → H b = none → (hidT s.heap H).get? b = some o := fun e n => hidT_get e n
    have free : ∀ {b : Addr} {o : Obj}, s.heap.get? b = some o → (∀ vs n, o.data ≠ .seq vs n) → o.data ≠ .fields #[] → H b = none := fun {b o} e n1 n2 => by
      rcases three b with z | z | ⟨rfl, _, _⟩
      · exact z
      · rw [tabs b z] at e
        cases e
        exact (n2 rfl).elim
      · rw [ha] at e
        cases e
        exact (n1 _ _ rfl).elim
    have nsp : ∀ {b : Addr} {m : Str → Option Value}, s.heap.Ns b m → (hidT s.heap H).Ns b m := fun {b m} ⟨o, es, ep, e, d, r⟩ =>
      ⟨o, es, ep, keep e (free e (fun vs n z => by rw [d] at z; cases z) fun z => by rw [d] at z; cases z), d, r⟩
    have kin : K.In (hidT s.heap H) := fun b o e => keep (KX b o e) (by
      rcases three b with z | z | ⟨rfl, z, _⟩
      · exact z
      · obtain ⟨p, hp, ep⟩ := List.mem_map.mp z
        rw [← ep, nT p hp] at e
        cases e
      · rw [z] at e
        cases e)
    have mod : L2.Mod K mg (hidT s.heap H) := ⟨kin, nsp hns, ⟨mb, nsp hb, hbb⟩, let ⟨mc, h1, h2⟩ := lim; ⟨mc, nsp h1, h2⟩⟩
    have tb : ∀ p ∈ cs, TabB (hidT s.heap H) mg p.1 p.2 := fun p hp => by
      have tp := hT p hp
      refine ⟨?_, ?_, fun z => ?_⟩
      · obtain ⟨o, us, file, tf, flags, tg, inF, text, tt, e1, r1, r2, r3, r4, r5, r6, r7, r8, ne⟩ := C p hp
        refine ⟨o, us, file, tf, flags, tg, inF, text, tt, keep e1 (free e1 (fun vs n z => ?_) fun z => ?_), r1, r2, r3, r4, r5, r6, r7, r8, ne⟩
        · rw [r2] at z; cases z
        · rw [r2] at z; cases z; simp at r3
      · obtain ⟨bm, ob, b1, b2, b3, b4, b5, b6⟩ := hbm
        refine ⟨bm, ob, b1, b2, fun q => ?_, fun q => ?_, keep b3 (free b3 (fun vs n z => ?_) fun z => ?_), b4, b5, b6⟩
        · obtain ⟨o, es, ep, e, d, _⟩ := hns
          rw [q, e] at b3
          cases b3
          rw [d] at b6
          cases b6
        · rw [q, tp] at b3
          cases b3
          cases b6
        · rw [b6] at z; cases z
        · rw [b6] at z; cases z
      · obtain ⟨o, es, ep, e, d, _⟩ := hns
        rw [z, tp] at e
        cases e
        cases d
    have e0 : Env0 P w K mg (hidT s.heap H) callerA [] s H := ⟨rfl, mod, fun b o e => of_hidT e, Nat.le_of_eq (hidT_size _ _), trivial, fun b m => absurd (show b ∈ ([] : List Addr) from m) (by simp), hok, .of_eq hg⟩
    refine codeAny_mono ((F _ kin (nsp hns) tb).run callerA [] s H ⟨[.ref a], []⟩ [.ref a] [.ref a] _ _ rfl hr e0 (hbind s (.ref a)) (.cons rfl .nil) (hsp H hH hS)) fun r s' h => ?_
    cases r with
    | error e =>
      obtain ⟨_, _, _, _, _, _, _, _, _, _, _, _, z⟩ := h
      exact z.elim
    | ok fl =>
      cases fl with
      | next => exact False.elim h
      | brk => exact False.elim h
      | cont => exact False.elim h
      | ret u =>
        obtain ⟨v, H', os, bare, un, hok', r', q⟩ := h
        obtain rfl : v = .bl true := q
        obtain rfl : u = Value.bool true := r'
        have same : ∀ b o, b ∉ cs.map (·.2) → s.heap.get? b = some o → s'.heap.get? b = some o := fun b o nb e => by
          rcases three b with z | z | ⟨_, _, ob, xs, z⟩
          · exact un.keep b o e z (by intro m; exact absurd (show b ∈ ([] : List Addr) from m) (by simp)) (by simp)
          · exact absurd z nb
          · obtain ⟨e1, _⟩ := hok b _ z
            obtain ⟨e2, _⟩ := hok' b _ (un.frzs b ob _ z)
            rw [e] at e1; cases e1
            exact e2
        have more : ∀ p ∈ cs, ∃ m : Array Value, s'.heap.get? p.2 = some { cls := .none, data := .fields m } := fun p hp => by
          obtain ⟨m, z⟩ := un.tbls p.2 #[] (hH p hp)
          exact ⟨_, hok' p.2 _ z⟩
        refine ⟨rfl, ⟨fun b o e => ?_, fun b o e => ?_⟩, os, bare⟩
        · by_cases m : b ∈ cs.map (·.2)
          · obtain ⟨p, hp, ep⟩ := List.mem_map.mp m
            obtain ⟨m, hm⟩ := more p hp
            rw [← ep] at e ⊢
            rw [hT p hp] at e
            cases e
            exact .inr (.inl ⟨((C p hp).tab (hT p hp)).isCodeTable, rfl, #[], m, rfl, by rw [Array.empty_append]; exact hm⟩)
          · exact .inl (same b o m e)
        · by_cases m : b ∈ cs.map (·.2)
          · obtain ⟨p, hp, ep⟩ := List.mem_map.mp m
            obtain ⟨m, hm⟩ := more p hp
            rw [← ep]
            exact ⟨_, hm⟩
          · exact ⟨o, same b o m e⟩
  cases hk : K.lookup a with
  | some o =>
    have e := KX a o hk
    rw [ha] at e
    cases e
    refine main (fun b => if b ∈ cs.map (·.2) then some (.tbl #[]) else none) (fun p hp => if_pos (inT p hp)) (fun b => ?_) (.inr ⟨_, vs.toArray, _, hk, rfl, rfl, rfl, by rw [List.size_toArray, lenV]; exact hl, by simpa using rv⟩) fun b u z => ?_
    · by_cases m : b ∈ cs.map (·.2)
      · exact .inr (.inl m)
      · exact .inl (if_neg m)
    · by_cases m : b ∈ cs.map (·.2)
      · cases (if_pos m).symm.trans z
        exact tabs b m
      · cases (if_neg m).symm.trans z
  | none =>
    refine main (fun b => if b = a then some (.frz { cls := .type "list", data := .seq vs.toArray } (.lst (ns.map V.int))) else if b ∈ cs.map (·.2) then some (.tbl #[]) else none) (fun p hp => (if_neg (show ¬ p.2 = a from fun z => noScript (by rw [← z]; exact inT p hp))).trans (if_pos (inT p hp))) (fun b => ?_) (.inl ⟨_, if_pos rfl⟩) fun b u z => ?_
    · by_cases m : b = a
      · exact .inr (.inr ⟨m, hk, _, _, if_pos m⟩)
      · by_cases m2 : b ∈ cs.map (·.2)
        · exact .inr (.inl m2)
        · exact .inl ((if_neg m).trans (if_neg m2))
    · by_cases m : b = a
      · cases (if_pos m).symm.trans z
        rw [m]
        exact ⟨ha, by rw [List.length_map]; exact hl, vs, _, rv, ha⟩
      · have z1 := (if_neg m).symm.trans z
        by_cases m2 : b ∈ cs.map (·.2)
        · cases (if_pos m2).symm.trans z1
          exact tabs b m2
        · cases (if_neg m2).symm.trans z1
/-- what is known of a law's promise at the head's heap -/
def LawG (l : PySem.W.OpenLaw) (w : World) (K : PySem.W.Frag) (k n : Nat) (x : Str) (mg : Str → Option Value) (fa : Addr) (h : Heap) : Prop :=
  ∃ (fd : FuncData) (cs : List (Addr × Addr)) (sp : Sp), (∀ p ∈ cs, h.get? p.2 = some emptyT) ∧ (∀ p ∈ cs, K.lookup p.2 = none) ∧ (∀ p ∈ cs, PySem.W.CodeHd h p.1 p.2) ∧ (∀ (s : Shared) (u : Value), BindsTo s fd ⟨[u], []⟩ [(x, u)]) ∧
    (∀ (H : Hp) (a : Addr) (ns : List Int), ns.length ≤ n → (∀ z ∈ ns, Builtin.Int.intBits z ≤ 1048576) → (∀ p ∈ cs, H p.2 = some (.tbl #[])) → Frz K H a (ns.map V.int) → sp [.ref a] H (fun v _ => v = .bl true) fun _ _ _ => False) ∧
    ∀ base : Heap, K.In base → base.Ns mainGlobals mg → (∀ p ∈ cs, TabB base mg p.1 p.2) → FnG l.prog w K mg base k fa fd [x] sp
theorem walk_G {l : PySem.W.OpenLaw} {n k : Nat} {q : Program} {loose : List Str} {XP : (Str → Option Value) → Heap → Prop} {YP : World → Heap → Prop} {d : DefRec} {x : Str}
    (hn : l.most = some n) (hn2 : n ≤ sizeLine) (hdf : d.params.defaults = []) (hr : Room k callerA)
    (F : ∀ (w : World) (mg : Str → Option Value) (fa : Addr) (h : Heap), YP w h → h.Ns mainGlobals mg → mg d.name = some (.ref fa) → ∃ K : PySem.W.Frag, K.In h ∧ LawG l w K k n x mg fa h) :
    PySem.W.WalkO q loose XP YP l.row.toRowW d [] (fun f vs => PySem.call f vs) := by
  refine Att.attach_callB hn hdf fun w s₀ s₁ mg mb fa o pm cd doc a vs ns G Y ho hd hcd hmg hobj hints hlen hbits hg => ?_
  obtain ⟨K, KX, fd, cs, sp, hT, nT, C, hb, hsp, hF⟩ := F w mg fa _ Y G.T.g hmg
  exact law_end KX G.T.g G.T.b G.T.builtins G.T.nolimit hg hT nT C G.T.bmain hobj hints (Nat.le_trans hlen hn2) hr hF hb fun H hH hS => hsp H a ns hlen hbits hH hS
end PW

set_option Elab.async false
set_option linter.all false
set_option maxRecDepth 100000
set_option maxHeartbeats 4000000
/-! own prelude, part 23: what the head must tell, as one Bool; the facts from it -/
namespace PW
open PySem PySem.Spec PyProof.Rows L2
open PySem.W (Frag)
abbrev sIni : Str := "__init__"
abbrev sCE : Str := "CurveError"
def oexB (K : Frag) (C : Addr) : Bool := (match K.lookup C with
    | some ⟨.type t, _, .cls ⟨_, _, v :: bm, _, _, hd, _, _, _, _, hdel⟩, ⟨[_, _, _, _, some (.builtin b), _]⟩⟩ => decide (t = "type") && decide (v = .ref C) && PySem.HandSPX.refsVE bm && hd && !hdel && decide (b = "ValueError.__new__")
    | _ => false) &&
  decide (PySem.W.findIn K (.ref C) "__setattr__" = some (some (.builtin "object.__setattr__"))) && decide (PySem.W.subIn K (.ref C) (.type "BaseException") = some true) && decide (PySem.W.typeIn K (.ref C) = some (.type "type")) && PySem.W.keepIn K (.ref C)
theorem oexB_ok {K : Frag} {C : Addr} (h : oexB K C = true) : OexC K C := by
  unfold oexB at h
  simp only [Bool.and_eq_true, decide_eq_true_eq] at h
  obtain ⟨⟨⟨⟨h1, h2⟩, h3⟩, h4⟩, h5⟩ := h
  refine ⟨?_, h2, h3, h4, h5⟩
  split at h1
  · rename_i t dd nm bs v bm N q hd sn sub ab col hdel k0 k1 k2 k3 b k5 lk
    simp only [Bool.and_eq_true, decide_eq_true_eq, Bool.not_eq_true'] at h1
    obtain ⟨⟨⟨⟨⟨rfl, rfl⟩, e1⟩, rfl⟩, rfl⟩, rfl⟩ := h1
    exact ⟨nm, q, N, bs, bm, sn, sub, ab, col, dd, k0, k1, k2, k3, k5, lk, e1⟩
  · cases h1
def excB (K : Frag) (D : Addr) : Bool := decide (PySem.W.findIn K (.ref D) "__getattribute__" = some (some (.builtin "BaseException.__getattribute__"))) && decide (PySem.W.findIn K (.ref D) "__getattr__" = some none) && decide (PySem.W.subIn K (.ref D) (.type "BaseException") = some true) &&
  PySem.W.hasDictIn K D && decide (PySem.W.findIn K (.ref D) "__class__" = some (some (.builtin "object.__class__"))) && decide (PySem.W.specialIn K (.builtin "object.__class__") "__get__" = some (some (.builtin "getset_descriptor.__get__"))) &&
  decide (PySem.W.takesIn K (.builtin "object.__class__") = some true) && decide (PySem.W.mroIn K D (.type "object") = some true)
theorem excB_ok {K : Frag} {D : Addr} (h : excB K D = true) : ExcC K D := by
  unfold excB at h
  simp only [Bool.and_eq_true, decide_eq_true_eq] at h
  obtain ⟨⟨⟨⟨⟨⟨⟨h1, h2⟩, h3⟩, h4⟩, h5⟩, h6⟩, h7⟩, h8⟩ := h
  exact ⟨h1, h2, h3, h4, h5, h6, h7, h8⟩
def clsB (K : Frag) (CE fI C : Addr) : Bool := oexB K C && decide (PySem.W.findIn K (.ref C) sIni = some (some (.ref fI))) && decide (PySem.W.mroIn K C (.ref CE) = some true) && decide (PySem.W.ks_superIn K C CE sIni = some (some (.builtin "ValueError.__init__"))) &&
  decide (PySem.W.findIn K (.ref C) "value" = some none) && xfB K C && excB K C
theorem clsB_ok {K : Frag} {CE fI C : Addr} (h : clsB K CE fI C = true) : ClsF K CE fI C := by
  unfold clsB at h
  simp only [Bool.and_eq_true, decide_eq_true_eq] at h
  obtain ⟨⟨⟨⟨⟨⟨h1, h2⟩, h3⟩, h4⟩, h5⟩, h6⟩, h7⟩ := h
  exact ⟨oexB_ok h1, h2, h3, h4, h5, xfB_ok h6, excB_ok h7⟩
/-- its cell, its code object -/
def iniC (K : Frag) (fI : Addr) : Addr × Addr := match K.lookup fI with
  | some ⟨_, _, .func ⟨_, _, _, _, _, _, [(_, cc)], _, _, _, _, _, .ref cda, _, _⟩, _⟩ => (cc, cda)
  | _ => (0, 0)
def parsB (p : Arguments) : Bool := match p with
  | ⟨[], [a, b], none, [], [], none, []⟩ => decide (a.arg = ("self" : Str)) && decide (b.arg = ("value" : Str))
  | _ => false
def iniB (K : Frag) (file : Str) (fI CE : Addr) : Bool := (match K.lookup fI with
    | some ⟨_, _, .func ⟨nm, ql, pr, .stmts bd, sc, gl, [(x, cc)], .none, _, _, _, _, .ref cda, _, bl⟩, _⟩ => decide (nm = sIni) && decide (ql = ("CurveError.__init__" : Str)) && parsB pr && iniShape bd && iniSc sc && decide (gl = mainGlobals) && decide (x = ("__class__" : Str)) && decide (bl = builtinsNs) &&
        PySem.W.codeIn K (.ref cda) "CurveError.__init__" && (match K.lookup cda with
          | some ⟨_, _, .fields vs, _⟩ => (match (vs[2]? : Option Value) with
            | some (.str f _) => file == f
            | _ => false)
          | _ => false) && (match K.lookup cc with
          | some ⟨_, _, .cell (some (.ref D)), _⟩ => decide (D = CE)
          | _ => false)
    | _ => false) && decide (PySem.W.typeIn K (.ref fI) = some (.type "function")) && (PySem.W.clsIn K CE).isSome && decide (PySem.W.nsIn K cStatics "thirdparty.any" = some none)
theorem iniB_ok {K : Frag} {mg : Str → Option Value} {P : Program} {fI CE : Addr} (h : iniB K P.main.file fI CE = true) (top : (P.main.scope.names.lookup ("super" : Str)).isSome = false) (free : mg "super" = none) : ∃ cc cda pr bd sc, IniF K mg P fI CE cc cda pr bd sc := by
  unfold iniB at h
  simp only [Bool.and_eq_true, decide_eq_true_eq] at h
  obtain ⟨⟨⟨h1, h2⟩, h3⟩, h4⟩ := h
  split at h1
  · rename_i oc od nm ql pr bd sc gl x cc kV doc pm an cda ct bl osl lk
    simp only [Bool.and_eq_true, decide_eq_true_eq] at h1
    obtain ⟨⟨⟨⟨⟨⟨⟨⟨⟨⟨rfl, rfl⟩, k1⟩, k2⟩, k3⟩, rfl⟩, rfl⟩, rfl⟩, k4⟩, k5⟩, k6⟩ := h1
    refine ⟨cc, cda, pr, bd, sc, ⟨oc, od, osl, kV, doc, pm, ct, an, lk⟩, k4, h2, k2, k3, ?_, ?_, ?_, ?_, Option.isSome_iff_exists.mp h3, top, free, h4⟩
    · intro kV doc pm ct an u v
      unfold parsB at k1
      split at k1
      · rename_i a b
        simp only [Bool.and_eq_true, decide_eq_true_eq] at k1
        obtain ⟨a1, a2, a3⟩ := a
        obtain ⟨b1, b2, b3⟩ := b
        dsimp only at k1
        obtain ⟨rfl, rfl⟩ := k1
        rfl
      · cases k1
    · unfold parsB at k1
      split at k1
      · rename_i a b
        simp only [Bool.and_eq_true, decide_eq_true_eq] at k1
        exact ⟨a, rfl, k1.1⟩
      · cases k1
    · split at k5
      · rename_i c1 c2 vs c3 lc
        split at k5
        · rename_i f t hv
          exact ⟨_, _, _, _, _, _, lc, hv, k5⟩
        · cases k5
      · cases k5
    · split at k6
      · rename_i c1 c2 D c3 lc
        have e : D = CE := by simpa using k6
        subst e
        exact ⟨_, _, _, lc⟩
      · cases k6
  · cases h1
/-- all that is asked of the written part beside names and defs -/
def errB (st : Stt) (file : Str) (K : Frag) : Bool := iniB K file (He.ma K (He.ga K sCE) sIni) (He.ga K sCE) && (sCE :: st.cnm).all (fun x => clsB K (He.ga K sCE) (He.ma K (He.ga K sCE) sIni) (He.ga K x) && decide (PySem.W.exmOne K (.ref (He.ga K x)) (.ref (He.ga K sCE)) = some true)) &&
  (List.range st.cnm.length).all fun i => (List.range st.cnm.length).all fun j => decide (PySem.W.kitOne K (.ref (He.ga K (st.cnm.getD i sCE))) (.ref (He.ga K (st.cnm.getD j sCE))) = some (st.sub i j))
/-- the module's tuples of ints, of texts -/
def tabB (st : Stt) (K : Frag) : Bool := st.gti.all (fun p => He.tupB K p.1 (p.2.map .int)) && st.gtt.all (fun p => He.tupB K p.1 (p.2.map .str))
def faOf (st : Stt) : List He.Fa := (sCE :: st.cnm).map .glo ++ st.fnm.map .glo ++ st.gis.map (fun p => .int p.1 p.2) ++ st.blt.map .free ++ st.gti.map (fun p => .glo p.1) ++ st.gtt.map (fun p => .glo p.1) ++ st.gst.map (fun p => .str p.1 p.2) ++ [.glo "_law_heard", .free "super"]
end PW

set_option Elab.async false
set_option linter.all false
set_option maxRecDepth 100000
set_option maxHeartbeats 4000000
/-! own prelude, part 24: the parts joined -/
namespace PW
open PySem PySem.Spec PyProof.Rows L2
open PySem.W (Frag)
/-- the defs with lambdas bear tables of their own -/
def tabsNe (tf : List He.Defn) (K : Frag) : Bool := tf.all fun p => tf.all fun q => decide (p = q) || !decide ((He.cT K p).2 = (He.cT K q).2)
def geOf (st : Stt) (tf : List He.Defn) (P : Program) (K : Frag) (mg : Str → Option Value) : Ge where
  P := P
  K := K
  mg := mg
  TT := tf.map fun p => ((He.cT K p).2, lamQ p.1)
  fnm := fun i => st.fnm.getD i ""
  cnm := fun i => st.cnm.getD i ""
/-- .. and the empty name stands for nothing -/
def faAll (st : Stt) : List He.Fa := .free "" :: faOf st
section
variable {st : Stt} {tf : List He.Defn} {P : Program} {K : Frag} {mg : Str → Option Value} {h : Heap} {fn : List He.DefD}
theorem glo_at (X : K.In h) (G : h.Ns mainGlobals mg) (c : He.SaysD (faAll st) fn K) {x : Str} (m : He.Fa.glo x ∈ faAll st) : mg x = some (.ref (He.ga K x)) := He.glo_ok X G (c.facts m)
theorem mem_cls {x : Str} (m : x ∈ sCE :: st.cnm) : He.Fa.glo x ∈ faAll st := by
  unfold faAll faOf
  simp only [List.mem_cons, List.mem_append, List.mem_map]
  exact .inr (.inl (.inl (.inl (.inl (.inl (.inl (.inl ⟨x, by simpa using m, rfl⟩)))))))
theorem mem_fn {x : Str} (m : x ∈ st.fnm) : He.Fa.glo x ∈ faAll st := by
  unfold faAll faOf
  simp only [List.mem_cons, List.mem_append, List.mem_map]
  exact .inr (.inl (.inl (.inl (.inl (.inl (.inl (.inr ⟨x, m, rfl⟩)))))))
theorem getD_some {l : List Str} {i : Nat} {x : Str} (e : l[i]? = some x) : l.getD i "" = x := by
  rw [List.getD_eq_getElem?_getD, e] <;> rfl
theorem cnm_in (X : K.In h) (G : h.Ns mainGlobals mg) (c : He.SaysD (faAll st) fn K) {i : Nat} {C : Addr} (e : mg (st.cnm.getD i "") = some (.ref C)) : i < st.cnm.length ∧ st.cnm.getD i "" ∈ st.cnm ∧ C = He.ga K (st.cnm.getD i "") := by
  by_cases q : i < st.cnm.length
  · have hm : st.cnm.getD i "" ∈ st.cnm := by
      rw [List.getD_eq_getElem?_getD, List.getElem?_eq_getElem q]
      exact List.getElem_mem q
    have z := glo_at X G c (mem_cls (List.mem_cons_of_mem _ hm))
    rw [e] at z
    exact ⟨q, hm, by cases z; rfl⟩
  · have z : mg "" = none := He.free_ok X G (c.facts List.mem_cons_self)
    rw [List.getD_eq_getElem?_getD, List.getElem?_eq_none (by omega)] at e
    have e' : mg "" = some (.ref C) := e
    rw [z] at e'
    cases e'
theorem err_cls (e : errB st P.main.file K = true) {x : Str} (m : x ∈ sCE :: st.cnm) : ClsF K (He.ga K sCE) (He.ma K (He.ga K sCE) sIni) (He.ga K x) ∧ PySem.W.exmOne K (.ref (He.ga K x)) (.ref (He.ga K sCE)) = some true := by
  unfold errB at e
  simp only [Bool.and_eq_true, List.all_eq_true, decide_eq_true_eq] at e
  obtain ⟨q1, q2⟩ := e.1.2 x m
  exact ⟨clsB_ok q1, q2⟩
theorem rws_int {G : Ge} {H : Hp} {K' : Frag} : ∀ ns : List Int, RWs G H (ns.map Vl.int) ((ns.map He.Dv.int).map (He.Dv.v K'))
  | [] => RWs.nil
  | n :: ns => .cons (rwI n) (rws_int ns)
theorem rws_str {G : Ge} {H : Hp} {K' : Frag} : ∀ ns : List Str, RWs G H (ns.map Vl.str) ((ns.map He.Dv.str).map (He.Dv.v K'))
  | [] => RWs.nil
  | n :: ns => .cons (rwS n) (rws_str ns)
theorem gf_of (X : K.In h) (G : h.Ns mainGlobals mg) (c : He.SaysD (faAll st) fn K) (e : errB st P.main.file K = true) (tb : tabB st K = true) (top : (P.main.scope.names.lookup ("super" : Str)).isSome = false) : GF st (geOf st tf P K mg) := by
  have cf : ∀ i C, (geOf st tf P K mg).mg ((geOf st tf P K mg).cnm i) = some (.ref C) → ClsF (geOf st tf P K mg).K (He.ga K sCE) (He.ma K (He.ga K sCE) sIni) C := fun i C q => by
    obtain ⟨_, m, rfl⟩ := cnm_in X G c q
    exact (err_cls e (List.mem_cons_of_mem _ m)).1
  have kit : ∀ i j C D, (geOf st tf P K mg).mg ((geOf st tf P K mg).cnm i) = some (.ref C) → (geOf st tf P K mg).mg ((geOf st tf P K mg).cnm j) = some (.ref D) → PySem.W.kitOne (geOf st tf P K mg).K (.ref C) (.ref D) = some (st.sub i j) := fun i j C D q1 q2 => by
    obtain ⟨l1, m1, rfl⟩ := cnm_in X G c q1
    obtain ⟨l2, m2, rfl⟩ := cnm_in X G c q2
    unfold errB at e
    simp only [Bool.and_eq_true, List.all_eq_true, decide_eq_true_eq] at e
    have z := e.2 i (List.mem_range.mpr l1) j (List.mem_range.mpr l2)
    have g1 : st.cnm.getD i sCE = st.cnm.getD i "" := by rw [List.getD_eq_getElem?_getD, List.getD_eq_getElem?_getD, List.getElem?_eq_getElem l1] <;> rfl
    have g2 : st.cnm.getD j sCE = st.cnm.getD j "" := by rw [List.getD_eq_getElem?_getD, List.getD_eq_getElem?_getD, List.getElem?_eq_getElem l2] <;> rfl
    rw [g1, g2] at z
    exact z
  have sup : mg "super" = none := He.free_ok X G (c.facts (by unfold faAll faOf; simp))
  have hi : iniB K P.main.file (He.ma K (He.ga K sCE) sIni) (He.ga K sCE) = true := by
    unfold errB at e
    simp only [Bool.and_eq_true] at e
    exact e.1.1
  obtain ⟨cc, cda, pr, bd, sc, IF⟩ := iniB_ok (mg := mg) hi top sup
  refine ⟨fun i x q => ⟨getD_some q, _, glo_at X G c (mem_cls (List.mem_cons_of_mem _ (List.mem_of_getElem? q)))⟩, fun i x q => ⟨getD_some q, _, glo_at X G c (mem_fn (List.mem_of_getElem? q))⟩, fun x i m => ?_, fun x ns m => ?_, fun x ns m => ?_, fun x z m => ?_, fun x m => ?_, fun Y hK => is_ok cf kit Y hK, att_ok cf, ?_⟩
  · exact He.int_ok X G (c.facts (by
      unfold faAll faOf
      simp only [List.mem_cons, List.mem_append, List.mem_map]
      exact .inr (.inl (.inl (.inl (.inl (.inl (.inr ⟨(x, i), m, rfl⟩))))))))
  · unfold tabB at tb
    simp only [Bool.and_eq_true, List.all_eq_true] at tb
    refine ⟨_, _, He.glo_ok X G (c.facts (by
      unfold faAll faOf
      simp only [List.mem_cons, List.mem_append, List.mem_map]
      exact .inr (.inl (.inl (.inl (.inr ⟨(x, ns), m, rfl⟩)))))), fun H => ⟨He.tupB_ok (tb.1 _ m) H, rws_int ns⟩⟩
  · unfold tabB at tb
    simp only [Bool.and_eq_true, List.all_eq_true] at tb
    refine ⟨_, _, He.glo_ok X G (c.facts (by
      unfold faAll faOf
      simp only [List.mem_cons, List.mem_append, List.mem_map]
      exact .inr (.inl (.inl (.inr ⟨(x, ns), m, rfl⟩))))), fun H => ⟨He.tupB_ok (tb.2 _ m) H, rws_str ns⟩⟩
  · exact He.str_ok X G (c.facts (by
      unfold faAll faOf
      simp only [List.mem_cons, List.mem_append, List.mem_map]
      exact .inr (.inl (.inr ⟨(x, z), m, rfl⟩))))
  · exact He.free_ok X G (c.facts (by
      unfold faAll faOf
      simp only [List.mem_cons, List.mem_append, List.mem_map]
      exact .inr (.inl (.inl (.inl (.inl (.inr ⟨x, m, rfl⟩)))))))
  · exact mk_ok (G := geOf st tf P K mg) IF fun i x q => ⟨getD_some q, _, glo_at X G c (mem_cls (List.mem_cons_of_mem _ (List.mem_of_getElem? q))), (err_cls e (List.mem_cons_of_mem _ (List.mem_of_getElem? q))).1⟩
/-- the def that hears, by what the head tells of it -/
theorem heard_of (X : K.In h) (G : h.Ns mainGlobals mg) (c : He.SaysD (faAll st) fn K) (e : errB st P.main.file K = true) {pg : Arguments} {bg : List Stmt} {sg : Scope} {fd : FuncData} (F : FunD K "_law_heard" "_law_heard" pg bg sg [] [] (He.fAd K ("_law_heard", none)) fd)
    (bi : Binds K fd ["call"] []) (sc : FnScope hrdN ["call"] sg) (nm : hrdSc sg = true) (sh : hrdShape bg = true) :
    ∃ (g CE : Addr) (dV kV doc pm cdv ct oc : Value) (an od : Option Addr) (osl : Array (Option Value)), HeardF (geOf st tf P K mg) g CE pg bg sg dV kV doc pm cdv ct oc an od osl := by
  obtain ⟨oc, od, dV, kV, doc, pm, an, cdv, ct, osl, rfl, lk, hcd, _, _⟩ := F.ex
  exact ⟨_, He.ga K sCE, dV, kV, doc, pm, cdv, ct, oc, an, od, osl, He.glo_ok X G (c.facts (by unfold faAll faOf; simp)), glo_at X G c (mem_cls List.mem_cons_self), F.kp, lk, hcd, bi, sc, nm, sh, fun i C q => by
    obtain ⟨_, m, rfl⟩ := cnm_in X G c q
    exact (err_cls e (List.mem_cons_of_mem _ m)).2⟩
/-- a def with lambdas -/
theorem lam_of {base : Heap} {x : Str} {params : Arguments} {body : List Stmt} {scope : Scope} {fd : FuncData} (F : FunD K x x params body scope [] [] (He.fAd K (x, none)) fd) (m : (x, none) ∈ tf) (ne : tabsNe tf K = true) (only : ∀ p ∈ tf, p.2 = none) (TB : ∀ p ∈ tf.map (He.cT K), LamX.TabB base mg p.1 p.2)
    (hh : ∃ (g CE : Addr) (pg : Arguments) (bg : List Stmt) (sg : Scope) (dV kV doc pm cdv ct oc : Value) (an od : Option Addr) (osl : Array (Option Value)), HeardF (geOf st tf P K mg) g CE pg bg sg dV kV doc pm cdv ct oc an od osl) :
    ∃ (g CE cc PP : Addr) (pg : Arguments) (bg : List Stmt) (sg : Scope) (dV kV doc pm cdv ct oc : Value) (an od : Option Addr) (osl : Array (Option Value)), HeardF (geOf st tf P K mg) g CE pg bg sg dV kV doc pm cdv ct oc an od osl ∧ LamX.TabB base (geOf st tf P K mg).mg cc PP ∧ fd.code = .ref cc ∧ (PP, lamQ x) ∈ (geOf st tf P K mg).TT ∧ ∀ p ∈ (geOf st tf P K mg).TT, p.1 = PP → p.2 = lamQ x := by
  obtain ⟨g, CE, pg, bg, sg, dV, kV, doc, pm, cdv, ct, oc, an, od, osl, HF⟩ := hh
  obtain ⟨oc', od', dV', kV', doc', pm', an', cdv', ct', osl', rfl, lk, hcd, _, _⟩ := F.ex
  obtain ⟨c, e⟩ := He.codeIn_ref hcd
  have ec : (He.cT K (x, none)).1 = c := He.codeOf_eq lk e
  refine ⟨g, CE, c, (He.cT K (x, none)).2, pg, bg, sg, dV, kV, doc, pm, cdv, ct, oc, an, od, osl, HF, ?_, e, List.mem_map.mpr ⟨_, m, rfl⟩, fun p hp hq => ?_⟩
  · have z := TB (He.cT K (x, none)) (List.mem_map.mpr ⟨_, m, rfl⟩)
    rw [ec] at z
    exact z
  · obtain ⟨r, hr, rfl⟩ := List.mem_map.mp hp
    have z := List.all_eq_true.mp (List.all_eq_true.mp ne r hr) _ m
    rw [Bool.or_eq_true] at z
    rcases z with z | z
    · rw [of_decide_eq_true z]
    · rw [Bool.not_eq_true', decide_eq_false_iff_not] at z
      exact absurd hq z
end
/-- how deep a def of the level k may call -/
def kk (k : Nat) : Nat := 3 * k + 6
theorem FnG.never {P : Program} {w : World} {K : Frag} {mg : Str → Option Value} {base : Heap} {k : Nat} {f : Addr} {fd : FuncData} {ps : List Str} {G : Ge} {sp : SpW} (n : ∀ ws S Q E, ¬ sp ws S Q E) : FnG P w K mg base k f fd ps (liftSp G sp) :=
  ⟨fun vs H Q E ⟨ws, S, Q0, E0, _, _, h, _⟩ => (n _ _ _ _ h).elim, fun A outer s H args us vs Q E _ _ _ _ _ ⟨ws, S, Q0, E0, _, _, h, _⟩ => (n _ _ _ _ h).elim⟩
/-- the call with keywords for the last parameters -/
theorem kb_of {K : Frag} {x qual : Str} {params : Arguments} {body : List Stmt} {scope : Scope} {f : Addr} {fd : FuncData} {ps : List Str} (n : Nat) (F : FunD K x qual params body scope [] [] f fd) (hn : n ≤ ps.length) (pos : 0 < ps.length)
    (h : ∀ (kV doc pm : Value) (an : Option Addr) (cdv ct : Value) (us ws : List Value), us.length = n → ws.length = ps.length - n → bindArgs (PySem.W.fnOf x qual params body scope .none kV doc pm an cdv ct) ⟨us, (ps.drop n).zip ws⟩ = pure (ps.zip (us ++ ws))) : KBinds K fd ps (ps.drop n) (kbg n) (kbg n) := by
  obtain ⟨oc, od, dV, kV, doc, pm, an, cdv, ct, osl, rfl, lk, hcd, hD, hK⟩ := F.ex
  have eD : dV = .none := by
    rcases hD with ⟨_, e⟩ | ⟨e, _⟩
    · exact e
    · exact absurd rfl e
  subst eD
  refine ⟨fun s us ws _ hl => ?_, fun {vs us zs ws} r1 r2 => ?_⟩
  · unfold kbg at hl ⊢
    by_cases q : us.length = n
    · rw [if_pos q] at hl ⊢
      rw [List.length_append] at hl
      exact .of_eq (h kV doc pm an cdv ct us ws q (by omega))
    · rw [if_neg q] at hl
      simp at hl
      omega
  · unfold kbg
    rw [r1.length]
    by_cases q : us.length = n
    · rw [if_pos q, if_pos q]
      exact r1.append r2
    · rw [if_neg q, if_neg q]
      exact .nil
end PW

set_option Elab.async false
set_option linter.all false
set_option maxRecDepth 100000
set_option maxHeartbeats 4000000
/-! own prelude, part 25: the head's look, with the house's own table of names -/
namespace PW
open PySem PySem.Spec PyProof.Rows L2
open He
def obsY (fa : List Fa) (fn : List DefD) (tf : List Defn) (ex : PySem.W.Frag → Bool) (g : Addr → Option Obj) (as : List Addr) : AlX := (obsT fa fn [] (frT g as), ex (frT g as) && tabsB g tf (frT g as))
theorem saysY {fa : List Fa} {fn : List DefD} {tf : List Defn} {ex : PySem.W.Frag → Bool} {w : World} {h : Heap} {as : List Addr} (e : obsY fa fn tf ex h.get? as = valX fn [] w) : SaysX fa fn [] tf ex w h (frT h.get? as) := by
  have e1 : obsT fa fn [] (frT h.get? as) = valT fn [] w := congrArg (fun z : AlX => z.1) e
  obtain ⟨m1, m2⟩ := ba (show (ex (frT h.get? as) && tabsB h.get? tf (frT h.get? as)) = true from congrArg (fun z : AlX => z.2) e)
  have at_ : ∀ p ∈ tf, PySem.W.codeHdIn (frT h.get? as) (cT (frT h.get? as) p).1 (cT (frT h.get? as) p).2 = true ∧ ∃ o, h.get? (cT (frT h.get? as) p).2 = some o ∧ emptyTab o = true := fun p hp => by
    obtain ⟨a1, a2⟩ := ba (List.all_eq_true.mp m2 p hp)
    refine ⟨a1, ?_⟩
    cases z : h.get? (cT (frT h.get? as) p).2 with
    | none => rw [z] at a2; cases a2
    | some o => rw [z] at a2; exact ⟨o, rfl, a2⟩
  refine ⟨e1, m1, fun p hp => (at_ p hp).1, fun p hp => ?_, fun p hp => ?_⟩
  · obtain ⟨_, o, z1, z2⟩ := at_ p hp
    exact frT_none z1 z2
  · obtain ⟨_, o, z1, z2⟩ := at_ p hp
    rw [z1, emptyTab_eq z2]
def asY (g : Addr → Option Obj) (n : Nat) : List Addr := asD g n ++ [cStatics]
def hookY (n : Nat) (fa : List Fa) (fn : List DefD) (tf : List Defn) (ex : PySem.W.Frag → Bool) : PySem.W.Hook where
  α := AlX
  obs := fun s => obsY fa fn tf ex s.heap.get? (asY s.heap.get? n)
  val := fun w => valX fn [] w
  says := fun w h => ∃ K : PySem.W.Frag, K.In h ∧ SaysX fa fn [] tf ex w h K
  of := fun _ _ e => ⟨_, frT_in, saysY e⟩
  keeps := fun _ _ _ ⟨K, hK, c⟩ k => ⟨K, PySem.W.Frag.In.keeps hK k, ⟨c.t, c.more, c.hd, c.out, fun p hp => k _ _ (c.empty p hp)⟩⟩
theorem obsY_eq {n : Nat} {fa : List Fa} {fn : List DefD} {tf : List Defn} {ex : PySem.W.Frag → Bool} {g : Addr → Option Obj} {s : Shared} (h : ∀ a, g a = s.heap.get? a) : obsY fa fn tf ex g (asY g n) = (hookY n fa fn tf ex).obs s := by
  have e : g = s.heap.get? := funext h
  rw [e] <;> rfl
end PW

set_option Elab.async false
set_option linter.all false
set_option maxRecDepth 100000
set_option maxHeartbeats 2000000
/-! own prelude, part 26: readings laid open, row by row -/
namespace PW
open PySem PySem.Spec PyProof.Rows L2
section
variable {R : Rc} {D : WEn} {σ : WSt} {S : Sto} {Q : WK} {QA : List Vl → Sto → Prop} {QT : Bool → Sto → Prop} {QO : Option Int → Sto → Prop} {QI : List Vl → (Sto → Prop) → Sto → Prop} {a b c d e it l : T} {s r t : B} {i : Nat}
theorem o_nil : rdB .nil R D σ S = D.nx σ S := (rfl)
theorem o_seq : rdB (.seq s r) R D σ S = rdB s R { D with nx := rdB r R D } σ S := (rfl)
theorem o_asg {g : Pt} : rdB (.asg g e) R D σ S = (rd e).e R σ S fun w S1 => gP g w σ S1 D.nx := (rfl)
theorem o_par {is : List Nat} : rdB (.par is l) R D σ S = (rd l).a R σ S fun ws S1 => (match setS is ws σ with
    | some σ' => D.nx σ' S1
    | none => False) := (rfl)
theorem o_asgI : rdB (.asgI a b e) R D σ S = (rd e).e R σ S fun w S1 => (rd a).e R σ S1 fun x S2 => (rd b).e R σ S2 fun y S3 => setL x y w S3 (D.nx σ) := (rfl)
theorem o_aug {o : Operator} : rdB (.aug i o e) R D σ S = (match σ[i]? with
    | some (some x) => (rd e).e R σ S fun y S1 => augW o x y S1 fun z S2 => D.nx (σ.set i (some z)) S2
    | _ => False) := (rfl)
theorem o_augI {o : Operator} : rdB (.augI a b o e) R D σ S = (rd a).e R σ S fun x S1 => (rd b).e R σ S1 fun y S2 => getL x y S2 fun u S3 => (rd e).e R σ S3 fun w S4 => augW o u w S4 fun z S5 => setL x y z S5 (D.nx σ) := (rfl)
theorem o_ex : rdB (.ex e) R D σ S = (rd e).e R σ S fun _ S1 => D.nx σ S1 := (rfl)
theorem o_ret : rdB (.ret e) R D σ S = (rd e).e R σ S fun w S1 => ∃ S2, wsub S2 S1 ∧ D.rt w S2 := (rfl)
theorem o_retN : rdB .retN R D σ S = ∃ S2, wsub S2 S ∧ D.rt .non S2 := (rfl)
theorem o_ifs : rdB (.ifs c s r) R D σ S = (rd c).t R σ S fun k S1 => if k = true then rdB s R D σ S1 else rdB r R D σ S1 := (rfl)
theorem o_for {g : Pt} : rdB (.for g it s) R D σ S = (rd it).i R σ S fun items G S1 => forR G (gP g) (rdB s R) D items σ S1 := (rfl)
theorem o_whl : rdB (.whl c s) R D σ S = whlR ((rd c).t R) (rdB s R) D σ S := (rfl)
theorem o_rais {j : Nat} : rdB (.rais j e) R D σ S = (rd e).e R σ S fun w S1 => ∃ S2, wsub S2 S1 ∧ R.E (.exc j w) S2 := (rfl)
theorem o_brk : rdB .brk R D σ S = D.bk σ S := (rfl)
theorem o_cnt : rdB .cnt R D σ S = D.ct σ S := (rfl)
theorem o_pass : rdB .pass R D σ S = D.nx σ S := (rfl)
/-! ### expressions -/
theorem e_var : (rd (.var i)).e R σ S Q = (match σ[i]? with
    | some (some w) => Q w S
    | _ => False) := (rfl)
theorem e_int {i : Int} : (rd (.int i)).e R σ S Q = Q (.int i) S := (rfl)
theorem e_bl {i : Bool} : (rd (.bl i)).e R σ S Q = Q (.bl i) S := (rfl)
theorem e_non : (rd .non).e R σ S Q = Q .non S := (rfl)
theorem e_str {x : Str} : (rd (.str x)).e R σ S Q = Q (.str x) S := (rfl)
theorem e_gint {x : Str} {i : Int} : (rd (.gint x i)).e R σ S Q = Q (.int i) S := (rfl)
theorem e_gti {x : Str} {ns : List Int} : (rd (.gti x ns)).e R σ S Q = Q (.tup (ns.map Vl.int)) S := (rfl)
theorem e_gtt {x : Str} {ns : List Str} : (rd (.gtt x ns)).e R σ S Q = Q (.tup (ns.map Vl.str)) S := (rfl)
theorem e_gst {x z : Str} : (rd (.gst x z)).e R σ S Q = Q (.str z) S := (rfl)
theorem e_rev : (rd (.rev a)).e R σ S Q = (rd a).e R σ S fun x S1 => (match x with
    | .lst p => (match S1 p with
      | some ws => newL S1 ws.reverse Q
      | none => False)
    | .tup ws => Q (.tup ws.reverse) S1
    | _ => False) := (rfl)
theorem e_cls : (rd (.cls i)).e R σ S Q = Q (.cls i) S := (rfl)
theorem e_ty {n : String} : (rd (.ty n)).e R σ S Q = Q (.ty n) S := (rfl)
theorem e_tup : (rd (.tup l)).e R σ S Q = (rd l).a R σ S fun ws S1 => ws.length ≤ sizeLine ∧ Q (.tup ws) S1 := (rfl)
theorem e_lst : (rd (.lst l)).e R σ S Q = (rd l).a R σ S fun ws S1 => ws.length ≤ sizeLine ∧ newL S1 ws Q := (rfl)
theorem e_bin {o : Operator} : (rd (.bin o a b)).e R σ S Q = (rd a).e R σ S fun x S1 => (rd b).e R σ S1 fun y S2 => opW o x y S2 Q := (rfl)
theorem e_neg : (rd (.neg a)).e R σ S Q = (rd a).e R σ S fun x S1 => (match x with
    | .int i => Q (.int (-i)) S1
    | _ => False) := (rfl)
theorem e_not : (rd (.not a)).e R σ S Q = (rd a).e R σ S fun x S1 => truW x S1 fun b => Q (.bl (!b)) S1 := (rfl)
theorem e_and : (rd (.and a l)).e R σ S Q = (rd a).e R σ S fun x S1 => truW x S1 fun b => if b = true then (rd l).e R σ S1 Q else Q x S1 := (rfl)
theorem e_or : (rd (.or a l)).e R σ S Q = (rd a).e R σ S fun x S1 => truW x S1 fun b => if b = true then Q x S1 else (rd l).e R σ S1 Q := (rfl)
theorem e_cmp {o : CmpOp} : (rd (.cmp o a b)).e R σ S Q = (rd a).e R σ S fun x S1 => (rd b).e R σ S1 fun y S2 => cmpW o x y S2 fun k => Q (.bl k) S2 := (rfl)
theorem e_chn {o p : CmpOp} : (rd (.chn o p a b c)).e R σ S Q = (rd a).e R σ S fun x S1 => (rd b).e R σ S1 fun y S2 => cmpW o x y S2 fun k =>
    if k = true then (rd c).e R σ S2 fun z S3 => cmpW p y z S3 fun k' => Q (.bl k') S3 else Q (.bl false) S2 := (rfl)
theorem e_ite : (rd (.ite c a b)).e R σ S Q = (rd c).t R σ S fun k S1 => if k = true then (rd a).e R σ S1 Q else (rd b).e R σ S1 Q := (rfl)
theorem e_ix : (rd (.ix a b)).e R σ S Q = (rd a).e R σ S fun x S1 => (rd b).e R σ S1 fun y S2 => ixW x y S2 Q := (rfl)
theorem e_slc : (rd (.slc a b c)).e R σ S Q = (rd a).e R σ S fun x S1 => (rd b).o R σ S1 fun l S2 => (rd c).o R σ S2 fun h S3 => slW x l h S3 Q := (rfl)
theorem e_call : (rd (.call i l)).e R σ S Q = (rd l).a R σ S fun ws S1 => R.Γ i ws S1 Q R.E := (rfl)
theorem e_callk : (rd (.callk i l a)).e R σ S Q = (rd l).a R σ S fun ws S1 => (rd a).a R σ S1 fun us S2 => ws.length = l.alen ∧ us.length = a.alen ∧ R.Γ i (ws ++ us) S2 Q R.E := (rfl)
theorem e_blt {b : Bn} : (rd (.blt b l)).e R σ S Q = (rd l).a R σ S fun ws S1 => bltW R.sb b ws S1 Q := (rfl)
theorem e_mth {m : Mn} : (rd (.mth m a l)).e R σ S Q = (rd a).e R σ S fun x S1 => x.isList S1 ∧ (rd l).a R σ S1 fun ws S2 => mthW m x ws S2 Q := (rfl)
theorem e_lrng : (rd (.lrng a)).e R σ S Q = (rd a).e R σ S fun x S1 => (match x with
    | .int n => (-(2 ^ 62) ≤ n ∧ n < 2 ^ 62 ∧ n.toNat ≤ 2 ^ 24) ∧ newL S1 (rangeW 0 n.toNat) Q
    | _ => False) := (rfl)
theorem e_att : (rd (.att a)).e R σ S Q = (rd a).e R σ S fun x S1 => (match x with
    | .exc _ w => Q w S1
    | _ => False) := (rfl)
theorem e_hrd : (rd (.hrd a)).e R σ S Q = (rd a).e { R with E := fun w S' => Q (.tup [w, .non]) S' } σ S fun w S' => Q (.tup [.non, w]) S' := (rfl)
theorem e_comp {g : Pt} {own : List (Str × Nat)} : (rd (.comp e g it c own)).e R σ S Q = (rd it).i R σ S fun items G S1 => ∀ D, S1 D = none →
    lcR G (gP g) ((rd c).c R.no) ((rd e).e R.no) (wipeW σ (own.map (·.2))) D (fun _ S' => Q (.lst D) S') items [] (S1.upd D []) := (rfl)
theorem e_comp2 {g g2 : Pt} {it2 c2 : T} {own : List (Str × Nat)} : (rd (.comp2 e g it c g2 it2 c2 own)).e R σ S Q = (rd it).i R σ S fun items G S1 => ∀ D, S1 D = none →
    lcO G (gP g) ((rd c).c R.no) (fun σ2 S3 K acc => (rd it2).i R.no σ2 S3 fun items2 G2 S4 => lcR G2 (gP g2) ((rd c2).c R.no) ((rd e).e R.no) (wipeW σ2 g2.slots) D K items2 acc S4)
      (wipeW σ (own.map (·.2))) D (fun _ S' => Q (.lst D) S') items [] (S1.upd D []) := (rfl)
/-! ### tests -/
theorem t_var : (rd (.var i)).t R σ S QT = (rd (.var i)).e R σ S fun x S1 => truW x S1 fun b => QT b S1 := (rfl)
theorem t_bl {i : Bool} : (rd (.bl i)).t R σ S QT = QT i S := (rfl)
theorem t_cmp {o : CmpOp} : (rd (.cmp o a b)).t R σ S QT = (rd a).e R σ S fun x S1 => (rd b).e R σ S1 fun y S2 => cmpW o x y S2 fun k => QT k S2 := (rfl)
theorem t_chn {o p : CmpOp} : (rd (.chn o p a b c)).t R σ S QT = (rd a).e R σ S fun x S1 => (rd b).e R σ S1 fun y S2 => cmpW o x y S2 fun k =>
    truW (.bl k) S2 fun k => if k = true then (rd c).e R σ S2 fun z S3 => cmpW p y z S3 fun k' => QT k' S3 else QT false S2 := by
  show ((rd a).e R σ S fun x S1 => (rd b).e R σ S1 fun y S2 => cmpW o x y S2 fun k => if k = true then (rd c).e R σ S2 fun z S3 => cmpW p y z S3 fun k' => QT k' S3 else QT false S2) = _
  rfl
theorem t_not : (rd (.not a)).t R σ S QT = (rd a).t R σ S fun b S1 => QT (!b) S1 := (rfl)
theorem t_and : (rd (.and a l)).t R σ S QT = (rd a).t R σ S fun b S1 => if b = true then (rd l).t R σ S1 QT else QT false S1 := (rfl)
theorem t_or : (rd (.or a l)).t R σ S QT = (rd a).t R σ S fun b S1 => if b = true then QT true S1 else (rd l).t R σ S1 QT := (rfl)
theorem t_ite : (rd (.ite c a b)).t R σ S QT = (rd c).t R σ S fun k S1 => if k = true then (rd a).t R σ S1 QT else (rd b).t R σ S1 QT := (rfl)
theorem t_call : (rd (.call i l)).t R σ S QT = (rd (.call i l)).e R σ S fun x S1 => truW x S1 fun b => QT b S1 := (rfl)
theorem t_callk : (rd (.callk i l a)).t R σ S QT = (rd (.callk i l a)).e R σ S fun x S1 => truW x S1 fun b => QT b S1 := (rfl)
theorem t_blt {b : Bn} : (rd (.blt b l)).t R σ S QT = (rd (.blt b l)).e R σ S fun x S1 => truW x S1 fun b => QT b S1 := (rfl)
theorem t_ix : (rd (.ix a b)).t R σ S QT = (rd (.ix a b)).e R σ S fun x S1 => truW x S1 fun b => QT b S1 := (rfl)
/-! ### arguments, bounds, walks -/
theorem a_nil : (rd .nil).a R σ S QA = QA [] S := (rfl)
theorem a_cons : (rd (.cons a l)).a R σ S QA = (rd a).e R σ S fun x S1 => (rd l).a R σ S1 fun ws S2 => QA (x :: ws) S2 := (rfl)
theorem a_scons : (rd (.scons a l)).a R σ S QA = (rd a).e R σ S fun x S1 => ∃ ws, x.seq S1 = some ws ∧ (rd l).a R σ S1 fun us S2 => QA (ws ++ us) S2 := (rfl)
theorem p_nil : (rd .nil).o R σ S QO = QO none S := (rfl)
theorem p_int {i : Int} : (rd (.int i)).o R σ S QO = QO (some i) S := (rfl)
theorem p_var : (rd (.var i)).o R σ S QO = (rd (.var i)).e R σ S fun x S1 => (match x with
    | .int i => QO (some i) S1
    | _ => False) := (rfl)
theorem p_bin {o : Operator} : (rd (.bin o a b)).o R σ S QO = (rd (.bin o a b)).e R σ S fun x S1 => (match x with
    | .int i => QO (some i) S1
    | _ => False) := (rfl)
theorem p_neg : (rd (.neg a)).o R σ S QO = (rd (.neg a)).e R σ S fun x S1 => (match x with
    | .int i => QO (some i) S1
    | _ => False) := (rfl)
theorem c_cmp {o : CmpOp} : (rd (.cmp o a b)).c R σ S QT = (rd (.cmp o a b)).t R σ S QT := (rfl)
theorem c_chn {o p : CmpOp} : (rd (.chn o p a b c)).c R σ S QT = (rd (.chn o p a b c)).t R σ S QT := (rfl)
theorem c_not : (rd (.not a)).c R σ S QT = (rd (.not a)).t R σ S QT := (rfl)
theorem c_and : (rd (.and a l)).c R σ S QT = (rd (.and a l)).t R σ S QT := (rfl)
theorem c_or : (rd (.or a l)).c R σ S QT = (rd (.or a l)).t R σ S QT := (rfl)
theorem c_call : (rd (.call i l)).c R σ S QT = (rd (.call i l)).t R σ S QT := (rfl)
theorem c_blt {b : Bn} : (rd (.blt b l)).c R σ S QT = (rd (.blt b l)).t R σ S QT := (rfl)
theorem c_var : (rd (.var i)).c R σ S QT = (rd (.var i)).t R σ S QT := (rfl)
theorem t_int {n : Int} : (rd (.int n)).t R σ S QT = QT (n != 0) S := (rfl)
theorem c_nil : (rd .nil).c R σ S QT = QT true S := (rfl)
theorem i_rng : (rd (.rng l)).i R σ S QI = (rd l).a R σ S fun ws S1 => ws.length = l.alen ∧ rngG ws S1 QI := (rfl)
theorem i_enm : (rd (.enm a)).i R σ S QI = (rd a).e R σ S fun x S1 => seqG x S1 fun ws G => QI (enumW ws) G S1 := (rfl)
theorem i_revd : (rd (.revd a)).i R σ S QI = (rd a).e R σ S fun x S1 => seqG x S1 fun ws G => QI ws.reverse G S1 := (rfl)
theorem i_zp : (rd (.zp a b)).i R σ S QI = (rd a).e R σ S fun x S1 => (rd b).e R σ S1 fun y S2 => x.isTup = y.isTup ∧ seqG x S2 fun ws G => seqG y S2 fun us G' => QI (zipW ws us) (fun S' => G S' ∧ G' S') S2 := (rfl)
theorem i_var : (rd (.var i)).i R σ S QI = (rd (.var i)).e R σ S fun x S1 => seqG x S1 fun ws G => QI ws G S1 := (rfl)
theorem i_tup : (rd (.tup l)).i R σ S QI = (rd (.tup l)).e R σ S fun x S1 => seqG x S1 fun ws G => QI ws G S1 := (rfl)
theorem i_rev : (rd (.rev a)).i R σ S QI = (rd (.rev a)).e R σ S fun x S1 => seqG x S1 fun ws G => QI ws G S1 := (rfl)
theorem i_comp {g : Pt} {own : List (Str × Nat)} : (rd (.comp e g it c own)).i R σ S QI = (rd (.comp e g it c own)).e R σ S fun x S1 => seqG x S1 fun ws G => QI ws G S1 := (rfl)
theorem i_ix : (rd (.ix a b)).i R σ S QI = (rd (.ix a b)).e R σ S fun x S1 => seqG x S1 fun ws G => QI ws G S1 := (rfl)
theorem i_gti {x : Str} {ns : List Int} : (rd (.gti x ns)).i R σ S QI = QI (ns.map Vl.int) (fun _ => True) S := (rfl)
theorem i_call : (rd (.call i l)).i R σ S QI = (rd (.call i l)).e R σ S fun x S1 => seqG x S1 fun ws G => QI ws G S1 := (rfl)
theorem i_slc : (rd (.slc a b c)).i R σ S QI = (rd (.slc a b c)).e R σ S fun x S1 => seqG x S1 fun ws G => QI ws G S1 := (rfl)
end
section
variable {S : Sto} {Q : WK} {k : Bool → Prop} {i j : Int} {sb : Subs} {ws us : List Vl} {p q : Addr} {x y w : Vl}
theorem op_add : opW .Add (.int i) (.int j) S Q = Q (.int (i + j)) S := (rfl)
theorem op_sub : opW .Sub (.int i) (.int j) S Q = Q (.int (i - j)) S := (rfl)
theorem op_mul : opW .Mult (.int i) (.int j) S Q = (IntMulOk i j ∧ Q (.int (i * j)) S) := (rfl)
theorem op_fdv : opW .FloorDiv (.int i) (.int j) S Q = (CDv i j ∧ Q (.int (i.fdiv j)) S) := (rfl)
theorem op_mod : opW .Mod (.int i) (.int j) S Q = (j ≠ 0 ∧ Q (.int (i.fmod j)) S) := (rfl)
theorem op_pow : opW .Pow (.int i) (.int j) S Q = (CPw i j ∧ Q (.int (i ^ j.toNat)) S) := (rfl)
theorem op_addS {a b : Str} : opW .Add (.str a) (.str b) S Q = (a.length + b.length ≤ sizeLine ∧ Q (.str (a ++ b)) S) := (rfl)
theorem op_addT : opW .Add (.tup ws) (.tup us) S Q = (ws.length + us.length ≤ sizeLine ∧ Q (.tup (ws ++ us)) S) := (rfl)
theorem op_addL : opW .Add (.lst p) (.lst q) S Q = ∃ xs ys, S p = some xs ∧ S q = some ys ∧ xs.length + ys.length ≤ sizeLine ∧ newL S (xs ++ ys) Q := (rfl)
theorem op_repL : opW .Mult (.lst p) (.int j) S Q = ∃ xs, S p = some xs ∧ -(2 ^ 63) ≤ j ∧ j < 2 ^ 63 ∧ xs.length * j.toNat ≤ sizeLine ∧ newL S (List.replicate j.toNat xs).flatten Q := (rfl)
theorem cm_lt : cmpW .Lt (.int i) (.int j) S k = k (decide (i < j)) := (rfl)
theorem cm_le : cmpW .LtE (.int i) (.int j) S k = k (decide (i ≤ j)) := (rfl)
theorem cm_gt : cmpW .Gt (.int i) (.int j) S k = k (decide (j < i)) := (rfl)
theorem cm_ge : cmpW .GtE (.int i) (.int j) S k = k (decide (j ≤ i)) := (rfl)
theorem cm_eq : cmpW .Eq (.int i) (.int j) S k = k (decide (i = j)) := (rfl)
theorem cm_ne : cmpW .NotEq (.int i) (.int j) S k = k (!decide (i = j)) := (rfl)
theorem cm_eqS {a b : Str} : cmpW .Eq (.str a) (.str b) S k = k (decide (a = b)) := (rfl)
theorem cm_neS {a b : Str} : cmpW .NotEq (.str a) (.str b) S k = k (!decide (a = b)) := (rfl)
theorem cm_eqT : cmpW .Eq (.tup ws) (.tup us) S k = eqD S (.tup ws) (.tup us) k := (rfl)
theorem cm_neT : cmpW .NotEq (.tup ws) (.tup us) S k = eqD S (.tup ws) (.tup us) fun b => k (!b) := (rfl)
theorem cm_eqL : cmpW .Eq (.lst p) (.lst q) S k = eqD S (.lst p) (.lst q) k := (rfl)
theorem cm_neL : cmpW .NotEq (.lst p) (.lst q) S k = eqD S (.lst p) (.lst q) fun b => k (!b) := (rfl)
theorem cm_inT : cmpW .In x (.tup ws) S k = (x.flat = true ∧ ws.all Vl.flat = true ∧ k (inV x.fl (ws.map Vl.fl))) := (rfl)
theorem cm_niT : cmpW .NotIn x (.tup ws) S k = (x.flat = true ∧ ws.all Vl.flat = true ∧ k (!inV x.fl (ws.map Vl.fl))) := (rfl)
theorem cm_eqB {a b : Bool} : cmpW .Eq (.bl a) (.bl b) S k = k (decide (a = b)) := (rfl)
theorem cm_isNN : cmpW .Is .non .non S k = k true := (rfl)
theorem cm_isNE {n : Nat} : cmpW .Is (.exc n x) .non S k = k false := (rfl)
theorem cm_isNT : cmpW .Is (.tup ws) .non S k = k false := (rfl)
theorem cm_isNI : cmpW .Is (.int i) .non S k = k false := (rfl)
theorem cm_noNN : cmpW .IsNot .non .non S k = k false := (rfl)
theorem cm_noNE {n : Nat} : cmpW .IsNot (.exc n x) .non S k = k true := (rfl)
theorem cm_noNT : cmpW .IsNot (.tup ws) .non S k = k true := (rfl)
theorem cm_noNI : cmpW .IsNot (.int i) .non S k = k true := (rfl)
theorem tr_bl {b : Bool} : truW (.bl b) S k = k b := (rfl)
theorem tr_int : truW (.int i) S k = k (i != 0) := (rfl)
theorem tr_non : truW .non S k = k false := (rfl)
theorem tr_lst : truW (.lst p) S k = ∃ ws, S p = some ws ∧ k (!ws.isEmpty) := (rfl)
theorem tr_rol : truW (.rol ws) S k = k (!ws.isEmpty) := (rfl)
theorem tr_tup : truW (.tup ws) S k = k (!ws.isEmpty) := (rfl)
theorem ix_tup : ixW (.tup ws) (.int i) S Q = ∃ w, atI ws i = some w ∧ Q w S := (rfl)
theorem ix_rol : ixW (.rol ws) (.int i) S Q = ∃ w, atI ws i = some w ∧ Q w S := (rfl)
theorem ix_lst : ixW (.lst p) (.int i) S Q = (match S p with
    | some ws => ∃ w, atI ws i = some w ∧ Q w S
    | none => False) := (rfl)
theorem b_abs : bltW sb .abs [.int i] S Q = Q (.int (if i < 0 then -i else i)) S := (rfl)
theorem b_int : bltW sb .int [.int i] S Q = Q (.int i) S := (rfl)
theorem b_boolI : bltW sb .bool [.int i] S Q = Q (.bl (i != 0)) S := (rfl)
theorem b_boolB {b : Bool} : bltW sb .bool [.bl b] S Q = Q (.bl b) S := (rfl)
theorem b_intB {b : Bool} : bltW sb .int [.bl b] S Q = Q (.int (if b then 1 else 0)) S := (rfl)
theorem b_max : bltW sb .max2 [.int i, .int j] S Q = Q (.int (if j > i then j else i)) S := (rfl)
theorem b_min : bltW sb .min2 [.int i, .int j] S Q = Q (.int (if j < i then j else i)) S := (rfl)
theorem b_lenT : bltW sb .len [.tup ws] S Q = Q (.int ws.length) S := by
  show (∃ us, some ws = some us ∧ Q (.int us.length) S) = _
  simp
theorem b_lenR : bltW sb .len [.rol ws] S Q = Q (.int ws.length) S := by
  show (∃ us, some ws = some us ∧ Q (.int us.length) S) = _
  simp
theorem b_lenL : bltW sb .len [.lst p] S Q = ∃ us, S p = some us ∧ Q (.int us.length) S := (rfl)
theorem b_sum : bltW sb .sum [.lst p] S Q = ∃ ns : List Int, S p = some (ns.map Vl.int) ∧ Q (.int ns.sum) S := (rfl)
theorem b_all : bltW sb .all [.lst p] S Q = ∃ bs : List Bool, S p = some (bs.map Vl.bl) ∧ Q (.bl (bs.all id)) S := (rfl)
theorem b_any : bltW sb .any [.lst p] S Q = ∃ bs : List Bool, S p = some (bs.map Vl.bl) ∧ Q (.bl (bs.any id)) S := (rfl)
theorem b_sorted : bltW sb .sorted [.lst p] S Q = ∃ ns : List Int, S p = some (ns.map Vl.int) ∧ ∀ ns' : List Int, ns'.Perm ns → ns'.Pairwise (· ≤ ·) → newL S (ns'.map Vl.int) Q := (rfl)
theorem b_tupT : bltW sb .tuple [.tup ws] S Q = Q (.tup ws) S := (rfl)
theorem b_listT : bltW sb .list [.tup ws] S Q = ∃ us, some ws = some us ∧ newL S us Q := (rfl)
theorem b_listL : bltW sb .list [.lst p] S Q = ∃ us, S p = some us ∧ newL S us Q := (rfl)
theorem b_isN {n : String} : bltW sb .isi [.non, .ty n] S Q = ∃ r, True ∧ kitB "NoneType" n = some r ∧ Q (.bl r) S := (rfl)
theorem b_isB {n : String} {b : Bool} : bltW sb .isi [.bl b, .ty n] S Q = ∃ r, True ∧ kitB "bool" n = some r ∧ Q (.bl r) S := (rfl)
theorem b_isS {n : String} {b : Str} : bltW sb .isi [.str b, .ty n] S Q = ∃ r, True ∧ kitB "str" n = some r ∧ Q (.bl r) S := (rfl)
theorem b_tupL : bltW sb .tuple [.lst p] S Q = ∃ ws, S p = some ws ∧ Q (.tup ws) S := (rfl)
theorem b_repr : bltW sb .repr [x] S Q = ∃ d, DatW S x d ∧ d.showable = true ∧ d.hasDict = false ∧ d.depth ≤ 64 ∧ d.shown.length + 64 ≤ sizeLine ∧ Q (.str d.shown) S := (rfl)
theorem b_isI {n : String} : bltW sb .isi [.int i, .ty n] S Q = ∃ r, True ∧ kitB "int" n = some r ∧ Q (.bl r) S := (rfl)
theorem b_isT {n : String} : bltW sb .isi [.tup ws, .ty n] S Q = ∃ r, True ∧ kitB "tuple" n = some r ∧ Q (.bl r) S := (rfl)
theorem b_isE {m n : Nat} : bltW sb .isi [.exc m w, .cls n] S Q = Q (.bl (sb m n)) S := (rfl)
theorem m_pop : mthW .pop (.lst p) [] S Q = ∃ us w, S p = some us ∧ us[us.length - 1]? = some w ∧ Q w (S.upd p us.dropLast) := (rfl)
theorem m_ext : mthW .extend (.lst p) [.lst q] S Q = ∃ us vs, S p = some us ∧ S q = some vs ∧ us.length + vs.length ≤ sizeLine ∧ Q .non (S.upd p (us ++ vs)) := (rfl)
theorem m_rev : mthW .reverse (.lst p) [] S Q = ∃ us, S p = some us ∧ Q .non (S.upd p us.reverse) := (rfl)
theorem m_app : mthW .append (.lst p) [w] S Q = ∃ us, S p = some us ∧ us.length < sizeLine ∧ Q .non (S.upd p (us ++ [w])) := (rfl)
theorem g_nm {n : Nat} {σ : WSt} {K : WSt → Sto → Prop} : gP (.nm n) w σ S K = K (σ.set n (some w)) S := (rfl)
theorem g_tup {l : Pt} {σ : WSt} {K : WSt → Sto → Prop} : gP (.tup l) (.tup ws) σ S K = gPs l ws σ S K := (rfl)
theorem g_cons {l r : Pt} {σ : WSt} {K : WSt → Sto → Prop} : gPs (.cons l r) (w :: ws) σ S K = gP l w σ S fun σ' S' => gPs r ws σ' S' K := (rfl)
theorem g_nil {σ : WSt} {K : WSt → Sto → Prop} : gPs .nil [] σ S K = K σ S := (rfl)
end
theorem wsub_refl (S : Sto) : wsub S S := fun _ _ h => h
/-- a return that keeps all -/
theorem ret_all {S : Sto} {P : Sto → Prop} (h : P S) : ∃ S2, wsub S2 S ∧ P S2 := ⟨S, wsub_refl S, h⟩
/-- a return that keeps S, where the rest is new -/
theorem ret_to {S S' : Sto} {P : Sto → Prop} (w : wsub S S') (h : P S) : ∃ S2, wsub S2 S' ∧ P S2 := ⟨S, w, h⟩
theorem wsub_upd {S S' : Sto} {p : Addr} {ws : List Vl} (h : wsub S S') (n : S p = none) : wsub S (S'.upd p ws) := fun a us e => by
  rw [Sto.upd_ne (fun z => by rw [z, n] at e; cases e)]; exact h a us e
theorem less_same {P : WSt → Sto → Prop} {σ : WSt} {S : Sto} (h : P σ S) : less P σ S := ⟨σ, S, ⟨rfl, fun _ _ e => e⟩, wsub_refl S, h⟩
end PW

set_option Elab.async false
set_option linter.all false
set_option maxRecDepth 10000
/-! curves as lists of whole numbers: plain law -/
namespace QM
/-- the height at x -/
def ev : List Int → Int → Int
  | [], _ => 0
  | a :: l, x => a + x * ev l x
/-- the slope at x -/
def dv : List Int → Int → Int
  | [], _ => 0
  | _ :: l, x => ev l x + x * dv l x
def co (l : List Int) (k : Nat) : Int := l.getD k 0
def strip (l : List Int) : List Int := (l.reverse.dropWhile (· == 0)).reverse
/-! ### heights -/
theorem ev_append (l m : List Int) (x : Int) : ev (l ++ m) x = ev l x + x ^ l.length * ev m x := by
  induction l with
  | nil => simp [ev]
  | cons a l ih =>
    rw [List.cons_append]
    show a + x * ev (l ++ m) x = a + x * ev l x + x ^ (l.length + 1) * ev m x
    rw [ih, Int.mul_add, Int.pow_succ]
    have : x * (x ^ l.length * ev m x) = x ^ l.length * x * ev m x := by
      rw [← Int.mul_assoc, Int.mul_comm x]
    omega
/-- Horner, from the highest part on -/
theorem ev_horner (l : List Int) (x : Int) : l.reverse.foldl (fun f a => f * x + a) 0 = ev l x := by
  induction l with
  | nil => rfl
  | cons a l ih =>
    rw [List.reverse_cons, List.foldl_append, ih]
    show ev l x * x + a = a + x * ev l x
    rw [Int.mul_comm]; omega
theorem taylor (l : List Int) (x h : Int) : ∃ r, ev l (x + h) = ev l x + h * dv l x + h * h * r := by
  induction l with
  | nil => exact ⟨0, by simp [ev, dv]⟩
  | cons a l ih =>
    obtain ⟨r, e⟩ := ih
    refine ⟨dv l x + (x + h) * r, ?_⟩
    show a + (x + h) * ev l (x + h) = a + x * ev l x + h * (ev l x + x * dv l x) + h * h * (dv l x + (x + h) * r)
    rw [e]
    simp only [Int.mul_add, Int.add_mul]
    have e1 : x * (h * dv l x) = h * (x * dv l x) := by rw [← Int.mul_assoc, Int.mul_comm x h, Int.mul_assoc]
    have e2 : x * (h * h * r) = h * h * (x * r) := by rw [← Int.mul_assoc, Int.mul_comm x, Int.mul_assoc]
    have e3 : h * (h * dv l x) = h * h * dv l x := by rw [Int.mul_assoc]
    have e4 : h * (h * h * r) = h * h * (h * r) := by rw [← Int.mul_assoc, Int.mul_comm h (h * h), Int.mul_assoc]
    omega
/-- heights go by rests -/
theorem ev_mod (l : List Int) (x y n : Int) (h : (x - y) % n = 0) : (ev l x - ev l y) % n = 0 := by
  obtain ⟨k, e⟩ := Int.dvd_of_emod_eq_zero h
  obtain ⟨r, t⟩ := taylor l y (n * k)
  have : x = y + n * k := by omega
  rw [this, t]
  apply Int.emod_eq_zero_of_dvd
  refine ⟨k * dv l y + k * (n * k) * r, ?_⟩
  have e2 : n * (k * dv l y + k * (n * k) * r) = n * k * dv l y + n * k * (n * k) * r := by
    rw [Int.mul_add]
    congr 1 <;> ac_rfl
  omega
theorem dv_mod (l : List Int) (x y n : Int) (h : (x - y) % n = 0) : (dv l x - dv l y) % n = 0 := by
  induction l with
  | nil => simp [dv]
  | cons a l ih =>
    show (ev l x + x * dv l x - (ev l y + y * dv l y)) % n = 0
    obtain ⟨k, e⟩ := Int.dvd_of_emod_eq_zero h
    obtain ⟨i, e1⟩ := Int.dvd_of_emod_eq_zero (ev_mod l x y n h)
    obtain ⟨j, e2⟩ := Int.dvd_of_emod_eq_zero ih
    apply Int.emod_eq_zero_of_dvd
    refine ⟨i + (x * j + k * dv l y), ?_⟩
    have e3 : x * dv l x - y * dv l y = x * (dv l x - dv l y) + (x - y) * dv l y := by
      rw [Int.mul_sub, Int.sub_mul]; omega
    have e4 : n * (i + (x * j + k * dv l y)) = n * i + (x * (n * j) + n * k * dv l y) := by
      rw [Int.mul_add, Int.mul_add, ← Int.mul_assoc n x, Int.mul_comm n x, Int.mul_assoc x n, Int.mul_assoc]
    rw [e4, ← e1, ← e2, ← e]
    omega
/-! ### slopes -/
/-- each part times its place, places from k on -/
def sl : Nat → List Int → List Int
  | _, [] => []
  | k, a :: l => (k : Int) * a :: sl (k + 1) l
theorem ev_sl (l : List Int) (k : Nat) (x : Int) : ev (sl k l) x = k * ev l x + x * dv l x := by
  induction l generalizing k with
  | nil => simp [sl, ev, dv]
  | cons a l ih =>
    show (k : Int) * a + x * ev (sl (k + 1) l) x = k * (a + x * ev l x) + x * (ev l x + x * dv l x)
    rw [ih, Int.mul_add, Int.mul_add, Int.mul_add x]
    have e1 : x * (((k + 1 : Nat) : Int) * ev l x) = (k : Int) * (x * ev l x) + x * ev l x := by
      rw [show ((k + 1 : Nat) : Int) = (k : Int) + 1 by omega, Int.add_mul, Int.mul_add, Int.one_mul, ← Int.mul_assoc, Int.mul_comm x, Int.mul_assoc]
    omega
def der (l : List Int) : List Int := (sl 0 l).drop 1
theorem ev_der (l : List Int) (x : Int) : ev (der l) x = dv l x := by
  cases l with
  | nil => rfl
  | cons a l =>
    show ev (sl 1 l) x = ev l x + x * dv l x
    rw [ev_sl]
    simp
theorem sl_zip (l : List Int) (k : Nat) : (l.zipIdx k).map (fun p => ((p.2 : Nat) : Int) * p.1) = sl k l := by
  induction l generalizing k with
  | nil => rfl
  | cons a l ih =>
    rw [List.zipIdx_cons, List.map_cons, ih]
    rfl
/-! ### noughts at the end left out -/
theorem strip_append_zero (l : List Int) : strip (l ++ [0]) = strip l := by
  unfold strip
  rw [List.reverse_append]
  simp
theorem strip_last (l : List Int) (a : Int) (h : a ≠ 0) : strip (l ++ [a]) = l ++ [a] := by
  unfold strip
  rw [List.reverse_append]
  simp [h]
theorem strip_nil : strip [] = [] := rfl
theorem eq_concat {l : List Int} (h : l ≠ []) : ∃ m a, l = m ++ [a] := ⟨l.dropLast, l.getLast h, (List.dropLast_concat_getLast h).symm⟩
theorem strip_step {l : List Int} (h : l ≠ []) (z : l.getLast h = 0) : strip l.dropLast = strip l := by
  have e := List.dropLast_concat_getLast h
  rw [z] at e
  conv => rhs; rw [← e]
  rw [strip_append_zero]
theorem strip_id {l : List Int} (h : ∀ q : l ≠ [], l.getLast q ≠ 0) : strip l = l := by
  by_cases q : l = []
  · rw [q]; rfl
  · have e := List.dropLast_concat_getLast q
    rw [← e, strip_last _ _ (h q)]
theorem ev_zero (x : Int) : ev [0] x = 0 := by simp [ev]
theorem ev_strip (l : List Int) (x : Int) : ev (strip l) x = ev l x := by
  suffices h : ∀ n, ∀ l : List Int, l.length = n → ev (strip l) x = ev l x from h _ l rfl
  intro n
  induction n with
  | zero =>
    intro l e
    rw [List.eq_nil_of_length_eq_zero e]; rfl
  | succ n ih =>
    intro l e
    have hn : l ≠ [] := fun z => by rw [z] at e; cases e
    by_cases z : l.getLast hn = 0
    · rw [← strip_step hn z, ih _ (by rw [List.length_dropLast, e]; rfl)]
      have e2 := List.dropLast_concat_getLast hn
      rw [z] at e2
      conv => rhs; rw [← e2]
      rw [ev_append, ev_zero]
      simp
    · rw [strip_id fun _ => z]
theorem strip_len (l : List Int) : (strip l).length ≤ l.length := by
  unfold strip
  rw [List.length_reverse]
  have := (List.dropWhile_sublist (l := l.reverse) (· == 0)).length_le
  rw [List.length_reverse] at this
  exact this
theorem strip_mem {l : List Int} {a : Int} (h : a ∈ strip l) : a ∈ l := by
  unfold strip at h
  rw [List.mem_reverse] at h
  have := (List.dropWhile_sublist (l := l.reverse) (· == 0)).subset h
  rwa [List.mem_reverse] at this
/-! ### products -/
def row : List Int → Nat → Int → List Int → List Int
  | f, _, _, [] => f
  | f, k, a, b :: bs => row (f.set k (co f k + a * b)) (k + 1) a bs
def prod : List Int → Nat → List Int → List Int → List Int
  | f, _, [], _ => f
  | f, k, a :: as, bs => prod (row f k a bs) (k + 1) as bs
theorem row_len (bs : List Int) (f : List Int) (k : Nat) (a : Int) : (row f k a bs).length = f.length := by
  induction bs generalizing f k with
  | nil => rfl
  | cons b bs ih => rw [row, ih, List.length_set]
theorem prod_len (as : List Int) (f : List Int) (k : Nat) (bs : List Int) : (prod f k as bs).length = f.length := by
  induction as generalizing f k with
  | nil => rfl
  | cons a as ih => rw [prod, ih, row_len]
theorem co_set (f : List Int) (k j : Nat) (c : Int) (h : k < f.length) : co (f.set k c) j = if k = j then c else co f j := by
  unfold co
  rw [List.getD_eq_getElem?_getD, List.getD_eq_getElem?_getD, List.getElem?_set]
  split
  · rename_i e; subst e; simp [h]
  · rfl
theorem co_row (bs : List Int) (f : List Int) (k : Nat) (a : Int) (h : k + bs.length ≤ f.length) (j : Nat) : co (row f k a bs) j = co f j + if k ≤ j then a * co bs (j - k) else 0 := by
  induction bs generalizing f k with
  | nil =>
    show co f j = _
    have : co [] (j - k) = 0 := by simp [co]
    rw [this]
    split <;> simp
  | cons b bs ih =>
    rw [List.length_cons] at h
    show co (row (f.set k (co f k + a * b)) (k + 1) a bs) j = _
    rw [ih _ _ (by rw [List.length_set]; omega), co_set _ _ _ _ (by omega)]
    by_cases e : k = j
    · subst e
      have : co (b :: bs) 0 = b := rfl
      rw [if_pos rfl, if_neg (by omega), if_pos (Nat.le_refl _), Nat.sub_self, this]
      omega
    · by_cases l : k ≤ j
      · have e1 : co (b :: bs) (j - k) = co bs (j - (k + 1)) := by
          have : j - k = (j - (k + 1)) + 1 := by omega
          rw [this]; rfl
        rw [if_neg e, if_pos l, if_pos (by omega), e1]
      · rw [if_neg e, if_neg l, if_neg (by omega)]
/-- the parts of a product -/
def cm : List Int → List Int → Nat → Int
  | [], _, _ => 0
  | a :: as, bs, j => a * co bs j + if j = 0 then 0 else cm as bs (j - 1)
theorem co_prod (as : List Int) (f : List Int) (k : Nat) (bs : List Int) (h : k + as.length + bs.length ≤ f.length + 1) (hb : 1 ≤ bs.length) (j : Nat) : co (prod f k as bs) j = co f j + if k ≤ j then cm as bs (j - k) else 0 := by
  induction as generalizing f k with
  | nil =>
    show co f j = _
    have : cm [] bs (j - k) = 0 := rfl
    rw [this]; split <;> simp
  | cons a as ih =>
    rw [List.length_cons] at h
    show co (prod (row f k a bs) (k + 1) as bs) j = _
    rw [ih _ _ (by rw [row_len]; omega), co_row _ _ _ _ (by omega)]
    show _ = co f j + if k ≤ j then (a * co bs (j - k) + if j - k = 0 then 0 else cm as bs (j - k - 1)) else 0
    by_cases l : k ≤ j
    · rw [if_pos l, if_pos l]
      by_cases e : k = j
      · subst e
        rw [if_neg (by omega), if_pos (by omega)]
        omega
      · rw [if_pos (by omega), if_neg (by omega), show j - (k + 1) = j - k - 1 by omega]
        omega
    · rw [if_neg l, if_neg l, if_neg (by omega)]
      omega
theorem ev_set (f : List Int) (k : Nat) (c x : Int) (h : k < f.length) : ev (f.set k (co f k + c)) x = ev f x + c * x ^ k := by
  induction f generalizing k with
  | nil => cases h
  | cons a f ih =>
    cases k with
    | zero =>
      show a + c + x * ev f x = a + x * ev f x + c * x ^ 0
      simp; omega
    | succ k =>
      show a + x * ev (f.set k (co f k + c)) x = a + x * ev f x + c * x ^ (k + 1)
      rw [ih k (by simpa using h), Int.mul_add, Int.pow_succ]
      have : x * (c * x ^ k) = c * (x ^ k * x) := by rw [Int.mul_comm x, Int.mul_assoc]
      omega
theorem ev_row (bs : List Int) (f : List Int) (k : Nat) (a x : Int) (h : k + bs.length ≤ f.length) : ev (row f k a bs) x = ev f x + x ^ k * (a * ev bs x) := by
  induction bs generalizing f k with
  | nil => simp [row, ev]
  | cons b bs ih =>
    rw [List.length_cons] at h
    show ev (row (f.set k (co f k + a * b)) (k + 1) a bs) x = ev f x + x ^ k * (a * (b + x * ev bs x))
    rw [ih _ _ (by rw [List.length_set]; omega), ev_set _ _ _ _ (by omega), Int.mul_add, Int.mul_add, Int.pow_succ]
    have e1 : x ^ k * x * (a * ev bs x) = x ^ k * (a * (x * ev bs x)) := by
      rw [Int.mul_assoc, ← Int.mul_assoc x, Int.mul_comm x a, Int.mul_assoc a]
    rw [e1, Int.mul_comm (a * b)]
    omega
theorem ev_prod (as : List Int) (f : List Int) (k : Nat) (bs : List Int) (x : Int) (h : k + as.length + bs.length ≤ f.length + 1) (hb : 1 ≤ bs.length) : ev (prod f k as bs) x = ev f x + x ^ k * (ev as x * ev bs x) := by
  induction as generalizing f k with
  | nil => simp [prod, ev]
  | cons a as ih =>
    rw [List.length_cons] at h
    show ev (prod (row f k a bs) (k + 1) as bs) x = ev f x + x ^ k * ((a + x * ev as x) * ev bs x)
    rw [ih _ _ (by rw [row_len]; omega), ev_row _ _ _ _ _ (by omega), Int.add_mul, Int.mul_add, Int.pow_succ]
    have e1 : x ^ k * x * (ev as x * ev bs x) = x ^ k * (x * ev as x * ev bs x) := by
      rw [Int.mul_assoc (x ^ k), ← Int.mul_assoc x]
    omega
theorem ev_rep (n : Nat) (x : Int) : ev (List.replicate n 0) x = 0 := by
  induction n with
  | zero => rfl
  | succ n ih => rw [List.replicate_succ]; show 0 + x * ev _ x = 0; rw [ih]; simp
theorem co_rep (n j : Nat) : co (List.replicate n 0) j = 0 := by
  unfold co
  rw [List.getD_eq_getElem?_getD, List.getElem?_replicate]
  split <;> rfl
/-- the product of two curves -/
def mul (as bs : List Int) : List Int := prod (List.replicate (as.length + bs.length - 1) 0) 0 as bs
theorem mul_len (as bs : List Int) : (mul as bs).length = as.length + bs.length - 1 := by
  unfold mul; rw [prod_len, List.length_replicate]
theorem co_mul (as bs : List Int) (hb : 1 ≤ bs.length) (j : Nat) : co (mul as bs) j = cm as bs j := by
  unfold mul
  rw [co_prod _ _ _ _ (by rw [List.length_replicate]; omega) hb, co_rep]
  simp
theorem ev_mul (as bs : List Int) (x : Int) (hb : 1 ≤ bs.length) : ev (mul as bs) x = ev as x * ev bs x := by
  unfold mul
  rw [ev_prod _ _ _ _ _ (by rw [List.length_replicate]; omega) hb, ev_rep]
  simp
theorem co_over {l : List Int} {j : Nat} (h : l.length ≤ j) : co l j = 0 := by
  unfold co
  rw [List.getD_eq_getElem?_getD, List.getElem?_eq_none h]; rfl
theorem cm_top (as bs : List Int) (ha : 1 ≤ as.length) (hb : 1 ≤ bs.length) : cm as bs (as.length + bs.length - 2) = co as (as.length - 1) * co bs (bs.length - 1) := by
  induction as with
  | nil => cases ha
  | cons a as ih =>
    cases as with
    | nil =>
      show a * co bs (1 + bs.length - 2) + (if (1 + bs.length - 2) = 0 then 0 else cm [] bs _) = a * co bs (bs.length - 1)
      have : 1 + bs.length - 2 = bs.length - 1 := by omega
      rw [this]
      split <;> simp [cm]
    | cons c as =>
      have i := ih (by simp)
      rw [List.length_cons] at i ⊢
      show a * co bs ((as.length + 1) + 1 + bs.length - 2) + (if (as.length + 1) + 1 + bs.length - 2 = 0 then 0 else cm (c :: as) bs ((as.length + 1) + 1 + bs.length - 2 - 1)) = co (c :: as) (as.length + 1 - 1) * _
      rw [co_over (show bs.length ≤ (as.length + 1) + 1 + bs.length - 2 by omega), if_neg (by omega), show (as.length + 1) + 1 + bs.length - 2 - 1 = as.length + 1 + bs.length - 2 by omega, i]
      simp
theorem co_last {l : List Int} (h : l ≠ []) : co l (l.length - 1) = l.getLast h := by
  have hp : l.length - 1 < l.length := by
    have := List.length_pos_iff.mpr h; omega
  unfold co
  rw [List.getD_eq_getElem?_getD, List.getElem?_eq_getElem hp, List.getLast_eq_getElem]; rfl
/-- the product of curves without noughts at their ends has none -/
theorem mul_last {as bs : List Int} (ha : 1 ≤ as.length) (hb : 1 ≤ bs.length) (za : co as (as.length - 1) ≠ 0) (zb : co bs (bs.length - 1) ≠ 0) : co (mul as bs) ((mul as bs).length - 1) ≠ 0 := by
  rw [co_mul _ _ hb, mul_len, show as.length + bs.length - 1 - 1 = as.length + bs.length - 2 by omega, cm_top _ _ ha hb]
  exact Int.mul_ne_zero za zb
theorem strip_co {l : List Int} (h : 1 ≤ l.length) (z : co l (l.length - 1) ≠ 0) : strip l = l := strip_id fun q => by rw [← co_last q]; exact z
/-! ### how great parts are -/
def Bd (l : List Int) (M : Nat) : Prop := ∀ a ∈ l, a.natAbs ≤ M
theorem Bd.co {l : List Int} {M : Nat} (h : Bd l M) (j : Nat) : (QM.co l j).natAbs ≤ M := by
  unfold QM.co
  rw [List.getD_eq_getElem?_getD]
  by_cases q : j < l.length
  · rw [List.getElem?_eq_getElem q]; exact h _ (List.getElem_mem q)
  · rw [List.getElem?_eq_none (by omega)]; exact Nat.zero_le _
theorem Bd.of {l : List Int} {M : Nat} (h : ∀ j, (QM.co l j).natAbs ≤ M) : Bd l M := fun a m => by
  obtain ⟨j, hj, rfl⟩ := List.getElem_of_mem m
  have := h j
  unfold QM.co at this
  rw [List.getD_eq_getElem?_getD, List.getElem?_eq_getElem hj] at this
  exact this
theorem Bd.mono {l : List Int} {M N : Nat} (h : Bd l M) (q : M ≤ N) : Bd l N := fun a m => Nat.le_trans (h a m) q
theorem Bd.strip {l : List Int} {M : Nat} (h : Bd l M) : Bd (QM.strip l) M := fun a m => h a (strip_mem m)
theorem cm_bd {as bs : List Int} {A B : Nat} (ha : Bd as A) (hb : Bd bs B) (j : Nat) : (cm as bs j).natAbs ≤ as.length * (A * B) := by
  induction as generalizing j with
  | nil => simp [cm]
  | cons a as ih =>
    have h1 : (a * QM.co bs j).natAbs ≤ A * B := by
      rw [Int.natAbs_mul]; exact Nat.mul_le_mul (ha a List.mem_cons_self) (hb.co j)
    have h2 := ih (fun x m => ha x (List.mem_cons_of_mem _ m)) (j - 1)
    show (a * QM.co bs j + if j = 0 then 0 else cm as bs (j - 1)).natAbs ≤ (as.length + 1) * (A * B)
    rw [Nat.add_mul, Nat.one_mul]
    split <;> omega
theorem mul_bd {as bs : List Int} {A B : Nat} (ha : Bd as A) (hb : Bd bs B) (lb : 1 ≤ bs.length) : Bd (mul as bs) (as.length * (A * B)) := Bd.of fun j => by
  rw [co_mul _ _ lb]; exact cm_bd ha hb j
theorem mul_pos1 {a b : Int} (h : 0 < b) (p : 0 < a * b) : 0 < a := by
  rcases Int.lt_or_le 0 a with q | q
  · exact q
  · have := Int.mul_nonpos_of_nonpos_of_nonneg q (Int.le_of_lt h)
    omega
end QM

set_option Elab.async false
set_option linter.all false
set_option maxRecDepth 100000
set_option maxHeartbeats 0
namespace LW
open PySem PySem.Spec PyProof.Rows L2 PW
def top (i : Nat) : Stmt := PySem.Challenge.pw_noughtsbetween_k38_whole_noughts_lifted.main.body.getD i (.Pass ⟨0, 0, 0, 0⟩)
abbrev PG : Program := (PySem.Challenge.rw_noughtsbetween_k38_whole_noughts_lifted).prog
def D0 : He.DefD := ⟨("is_int", none), "is_int", "is_int", defArgs (top 8), defBody (top 8), defScope (top 8), [], []⟩
def D1 : He.DefD := ⟨("is_whole", none), "is_whole", "is_whole", defArgs (top 9), defBody (top 9), defScope (top 9), [], []⟩
def D2 : He.DefD := ⟨("look_at_int", none), "look_at_int", "look_at_int", defArgs (top 10), defBody (top 10), defScope (top 10), [], []⟩
def D3 : He.DefD := ⟨("are_wholes", none), "are_wholes", "are_wholes", defArgs (top 11), defBody (top 11), defScope (top 11), [], []⟩
def D4 : He.DefD := ⟨("is_any_curve", none), "is_any_curve", "is_any_curve", defArgs (top 15), defBody (top 15), defScope (top 15), [], []⟩
def D5 : He.DefD := ⟨("is_curve", none), "is_curve", "is_curve", defArgs (top 16), defBody (top 16), defScope (top 16), [], []⟩
def D6 : He.DefD := ⟨("look_at_curve", none), "look_at_curve", "look_at_curve", defArgs (top 17), defBody (top 17), defScope (top 17), [], []⟩
def D7 : He.DefD := ⟨("look_at_real", none), "look_at_real", "look_at_real", defArgs (top 18), defBody (top 18), defScope (top 18), [], []⟩
def D8 : He.DefD := ⟨("told", none), "told", "told", defArgs (top 19), defBody (top 19), defScope (top 19), [], []⟩
def D9 : He.DefD := ⟨("slope_of", none), "slope_of", "slope_of", defArgs (top 20), defBody (top 20), defScope (top 20), [], []⟩
def D10 : He.DefD := ⟨("look_at_prime", none), "look_at_prime", "look_at_prime", defArgs (top 24), defBody (top 24), defScope (top 24), [], []⟩
def D11 : He.DefD := ⟨("rests", none), "rests", "rests", defArgs (top 25), defBody (top 25), defScope (top 25), [], []⟩
def D12 : He.DefD := ⟨("turned_over", none), "turned_over", "turned_over", defArgs (top 26), defBody (top 26), defScope (top 26), [], []⟩
def D13 : He.DefD := ⟨("look_at_by", none), "look_at_by", "look_at_by", defArgs (top 27), defBody (top 27), defScope (top 27), [], []⟩
def D14 : He.DefD := ⟨("noughts_by", none), "noughts_by", "noughts_by", defArgs (top 28), defBody (top 28), defScope (top 28), [], []⟩
def D15 : He.DefD := ⟨("height_by", none), "height_by", "height_by", defArgs (top 29), defBody (top 29), defScope (top 29), [], []⟩
def D16 : He.DefD := ⟨("lifted", none), "lifted", "lifted", defArgs (top 30), defBody (top 30), defScope (top 30), [], []⟩
def D17 : He.DefD := ⟨("all_lifted", none), "all_lifted", "all_lifted", defArgs (top 31), defBody (top 31), defScope (top 31), [], []⟩
def D18 : He.DefD := ⟨("_law_pot", none), "_law_pot", "_law_pot", defArgs (top 33), defBody (top 33), defScope (top 33), [], []⟩
def D19 : He.DefD := ⟨("_law_take", none), "_law_take", "_law_take", defArgs (top 34), defBody (top 34), defScope (top 34), [], []⟩
def D20 : He.DefD := ⟨("_law_of", none), "_law_of", "_law_of", defArgs (top 35), defBody (top 35), defScope (top 35), [], []⟩
def D21 : He.DefD := ⟨("_law_cells", none), "_law_cells", "_law_cells", defArgs (top 36), defBody (top 36), defScope (top 36), [], []⟩
def D22 : He.DefD := ⟨("_law_is_int", none), "_law_is_int", "_law_is_int", defArgs (top 38), defBody (top 38), defScope (top 38), [], []⟩
def D23 : He.DefD := ⟨("_law_common_int", none), "_law_common_int", "_law_common_int", defArgs (top 39), defBody (top 39), defScope (top 39), [], []⟩
def D24 : He.DefD := ⟨("_law_low", none), "_law_low", "_law_low", defArgs (top 40), defBody (top 40), defScope (top 40), [], []⟩
def D25 : He.DefD := ⟨("_law_told", none), "_law_told", "_law_told", defArgs (top 41), defBody (top 41), defScope (top 41), [], []⟩
def D26 : He.DefD := ⟨("_law_product", none), "_law_product", "_law_product", defArgs (top 42), defBody (top 42), defScope (top 42), [], []⟩
def D27 : He.DefD := ⟨("_law_slopes", none), "_law_slopes", "_law_slopes", defArgs (top 43), defBody (top 43), defScope (top 43), [], []⟩
def D28 : He.DefD := ⟨("_law_curve_drawn", none), "_law_curve_drawn", "_law_curve_drawn", defArgs (top 44), defBody (top 44), defScope (top 44), [], []⟩
def D29 : He.DefD := ⟨("_law_at", none), "_law_at", "_law_at", defArgs (top 45), defBody (top 45), defScope (top 45), [], []⟩
def D30 : He.DefD := ⟨("_law_whole", none), "_law_whole", "_law_whole", defArgs (top 46), defBody (top 46), defScope (top 46), [], []⟩
def D31 : He.DefD := ⟨("_law_is_right", none), "_law_is_right", "_law_is_right", defArgs (top 47), defBody (top 47), defScope (top 47), [], []⟩
def D32 : He.DefD := ⟨("_law_right", none), "_law_right", "_law_right", defArgs (top 48), defBody (top 48), defScope (top 48), [], []⟩
def D33 : He.DefD := ⟨("law", none), "law", "law", defArgs (top 49), defBody (top 49), defScope (top 49), [], []⟩
def Dh : He.DefD := ⟨("_law_heard", none), "_law_heard", "_law_heard", defArgs (top 37), defBody (top 37), defScope (top 37), [], []⟩
def fn : List He.DefD := ([D0, D1, D2, D3, D4, D5, D6, D7, D8, D9, D10, D11, D12, D13, D14, D15, D16, D17, D18, D19, D20, D21, D22, D23, D24, D25, D26, D27, D28, D29] : List He.DefD) ++ ([D30, D31, D32, D33, Dh] : List He.DefD)
def subT : List (List Bool) := [[true, false, false, false, false, false], [true, true, false, false, false, false], [true, false, true, false, false, false], [true, false, false, true, false, false], [true, false, false, false, true, false], [true, false, false, false, false, true]]
def st : Stt where
  fnm := (["is_int", "is_whole", "look_at_int", "are_wholes", "is_any_curve", "is_curve", "look_at_curve", "look_at_real", "told", "slope_of", "look_at_prime", "rests", "turned_over", "look_at_by", "noughts_by", "height_by", "lifted", "all_lifted", "_law_pot", "_law_take", "_law_of", "_law_cells", "_law_is_int", "_law_common_int", "_law_low", "_law_told", "_law_product", "_law_slopes", "_law_curve_drawn", "_law_at"] : List Str) ++ (["_law_whole", "_law_is_right", "_law_right", "law"] : List Str)
  fps := ([["value", "low", "high"], ["value"], ["value", "low", "high"], ["value"], ["value"], ["value"], ["curve"], ["curve"], ["parts"], ["curve"], ["prime"], ["curve", "whole"], ["number", "prime"], ["curve", "prime"], ["curve", "prime"], ["curve", "number", "whole"], ["curve", "prime", "nought", "times"], ["curve", "prime", "times"], ["script", "place"], ["pot", "upto"], ["pot", "some"], ["script", "most"], ["value", "low", "high"], ["one", "other"], ["top", "bottom"], ["parts"], ["one", "other"], ["curve"], ["pot", "degree"], ["curve", "number"]] : List (List Str)) ++ ([["prime", "times"], ["pot", "curve", "prime"], ["pot"], ["script"]] : List (List Str))
  cnm := (["CurveError", "BadInt", "BadCurve", "Nought", "Unlike", "TooMany"] : List Str)
  gis := ([("MOST_DEGREE", 12), ("MOST_PART", 1000000000), ("MOST_TIMES", 100)] : List (Str × Int))
  gti := ([("PRIMES", [2, 3, 5, 7, 11, 13, 17, 19, 23, 29, 31, 37, 41, 43, 47])] : List (Str × List Int))
  gtt := ([] : List (Str × List Str))
  gst := ([] : List (Str × Str))
  blt := (["abs", "all", "bool", "enumerate", "int", "isinstance", "len", "list", "max", "min", "range", "repr", "sorted", "sum", "tuple"] : List Str)
  kws := ([(16, 2), (17, 2)] : List (Nat × Nat))
  sub := fun i j => (subT.getD i []).getD j false
def tf : List He.Defn := [("_law_is_right", none)]
def ex (K : PySem.W.Frag) : Bool := errB st PG.main.file K && tabsNe tf K && tabB st K
def N0 : List Str := ["value", "low", "high"]
def b0 : B := (.seq (.ret (.and (.blt .isi (.cons (.var 0) (.cons (.ty "int") .nil))) (.and (.not (.blt .isi (.cons (.var 0) (.cons (.ty "bool") .nil)))) (.chn .LtE .LtE (.var 1) (.var 0) (.var 2))))) .nil) -- is_int
def N1 : List Str := ["value"]
def b1 : B := (.seq (.ret (.and (.blt .isi (.cons (.var 0) (.cons (.ty "int") .nil))) (.not (.blt .isi (.cons (.var 0) (.cons (.ty "bool") .nil)))))) .nil) -- is_whole
def N2 : List Str := ["value", "low", "high"]
def b2 : B := (.seq (.ifs (.not (.call 0 (.cons (.var 0) (.cons (.var 1) (.cons (.var 2) .nil))))) (.seq (.rais 1 (.var 0)) .nil) .nil) .nil) -- look_at_int
def N3 : List Str := ["value", "one"]
def b3 : B := (.seq (.ret (.and (.blt .isi (.cons (.var 0) (.cons (.ty "tuple") .nil))) (.blt .all (.cons (.comp (.call 1 (.cons (.var 1) .nil)) (.nm 1) (.var 0) .nil [("one", 1)]) .nil)))) .nil) -- are_wholes
def N4 : List Str := ["value"]
def b4 : B := (.seq (.ret (.and (.call 3 (.cons (.var 0) .nil)) (.or (.cmp .Eq (.var 0) (.tup .nil)) (.cmp .NotEq (.ix (.var 0) (.neg (.int 1))) (.int 0))))) .nil) -- is_any_curve
def N5 : List Str := ["value", "part"]
def b5 : B := (.seq (.ifs (.or (.not (.call 4 (.cons (.var 0) .nil))) (.cmp .Gt (.blt .len (.cons (.var 0) .nil)) (.bin .Add (.gint "MOST_DEGREE" 12) (.int 1)))) (.seq (.ret (.bl false)) .nil) .nil) (.seq (.ret (.blt .all (.cons (.comp (.cmp .LtE (.blt .abs (.cons (.var 1) .nil)) (.gint "MOST_PART" 1000000000)) (.nm 1) (.var 0) .nil [("part", 1)]) .nil))) .nil)) -- is_curve
def N6 : List Str := ["curve"]
def b6 : B := (.seq (.ifs (.not (.call 5 (.cons (.var 0) .nil))) (.seq (.rais 2 (.var 0)) .nil) .nil) .nil) -- look_at_curve
def N7 : List Str := ["curve"]
def b7 : B := (.seq (.ex (.call 6 (.cons (.var 0) .nil))) (.seq (.ifs (.cmp .Eq (.var 0) (.tup .nil)) (.seq (.rais 3 (.var 0)) .nil) .nil) .nil)) -- look_at_real
def N8 : List Str := ["parts", "many"]
def b8 : B := (.seq (.asg (.nm 1) (.blt .len (.cons (.var 0) .nil))) (.seq (.whl (.and (.cmp .Gt (.var 1) (.int 0)) (.cmp .Eq (.ix (.var 0) (.bin .Sub (.var 1) (.int 1))) (.int 0))) (.seq (.aug 1 .Sub (.int 1)) .nil)) (.seq (.ret (.blt .tuple (.cons (.slc (.var 0) .nil (.var 1)) .nil))) .nil))) -- told
def N9 : List Str := ["curve", "at", "part"]
def b9 : B := (.seq (.ret (.call 8 (.cons (.slc (.comp (.bin .Mult (.var 1) (.var 2)) (.tup (.cons (.nm 1) (.cons (.nm 2) .nil))) (.enm (.var 0)) .nil [("at", 1), ("part", 2)]) (.int 1) .nil) .nil))) .nil) -- slope_of
def N10 : List Str := ["prime"]
def b10 : B := (.seq (.ifs (.or (.not (.call 1 (.cons (.var 0) .nil))) (.cmp .NotIn (.var 0) (.gti "PRIMES" [2, 3, 5, 7, 11, 13, 17, 19, 23, 29, 31, 37, 41, 43, 47]))) (.seq (.rais 1 (.var 0)) .nil) .nil) .nil) -- look_at_prime
def N11 : List Str := ["curve", "whole", "part"]
def b11 : B := (.seq (.ret (.call 8 (.cons (.comp (.bin .Mod (.var 2) (.var 1)) (.nm 2) (.var 0) .nil [("part", 2)]) .nil))) .nil) -- rests
def N12 : List Str := ["number", "prime", "found", "power", "left"]
def b12 : B := (.seq (.par [2, 3, 4] (.cons (.int 1) (.cons (.bin .Mod (.var 0) (.var 1)) (.cons (.bin .Sub (.var 1) (.int 2)) .nil)))) (.seq (.whl (.cmp .Gt (.var 4) (.int 0)) (.seq (.ifs (.cmp .Eq (.bin .Mod (.var 4) (.int 2)) (.int 1)) (.seq (.asg (.nm 2) (.bin .Mod (.bin .Mult (.var 2) (.var 3)) (.var 1))) .nil) .nil) (.seq (.par [3, 4] (.cons (.bin .Mod (.bin .Mult (.var 3) (.var 3)) (.var 1)) (.cons (.bin .FloorDiv (.var 4) (.int 2)) .nil))) .nil))) (.seq (.ret (.var 2)) .nil))) -- turned_over
def N13 : List Str := ["curve", "prime", "found"]
def b13 : B := (.seq (.ex (.call 7 (.cons (.var 0) .nil))) (.seq (.ex (.call 10 (.cons (.var 1) .nil))) (.seq (.asg (.nm 2) (.call 11 (.cons (.var 0) (.cons (.var 1) .nil)))) (.seq (.ifs (.cmp .Eq (.var 2) (.tup .nil)) (.seq (.rais 3 (.var 0)) .nil) .nil) (.seq (.ret (.var 2)) .nil))))) -- look_at_by
def N14 : List Str := ["curve", "prime", "found", "rest"]
def b14 : B := (.seq (.asg (.nm 2) (.call 13 (.cons (.var 0) (.cons (.var 1) .nil)))) (.seq (.ret (.blt .tuple (.cons (.comp (.var 3) (.nm 3) (.rng (.cons (.var 1) .nil)) (.cmp .Eq (.call 15 (.cons (.var 2) (.cons (.var 3) (.cons (.var 1) .nil)))) (.int 0)) [("rest", 3)]) .nil))) .nil)) -- noughts_by
def N15 : List Str := ["curve", "number", "whole", "found", "part"]
def b15 : B := (.seq (.asg (.nm 3) (.int 0)) (.seq (.for (.nm 4) (.rev (.var 0)) (.seq (.asg (.nm 3) (.bin .Mod (.bin .Add (.bin .Mult (.var 3) (.var 1)) (.var 4)) (.var 2))) .nil)) (.seq (.ret (.var 3)) .nil))) -- height_by
def N16 : List Str := ["curve", "prime", "nought", "times", "slope", "lap", "step", "found", "whole", "later", "less"]
def b16 : B := (.seq (.ex (.call 13 (.cons (.var 0) (.cons (.var 1) .nil)))) (.seq (.ifs (.or (.not (.call 0 (.cons (.var 2) (.cons (.int 0) (.cons (.bin .Sub (.var 1) (.int 1)) .nil))))) (.cmp .NotEq (.call 15 (.cons (.var 0) (.cons (.var 2) (.cons (.var 1) .nil)))) (.int 0))) (.seq (.rais 1 (.var 2)) .nil) .nil) (.seq (.asg (.nm 4) (.call 15 (.cons (.call 9 (.cons (.var 0) .nil)) (.cons (.var 2) (.cons (.var 1) .nil))))) (.seq (.ifs (.cmp .Eq (.var 4) (.int 0)) (.seq (.rais 4 (.var 2)) .nil) .nil) (.seq (.ex (.call 2 (.cons (.var 3) (.cons (.int 1) (.cons (.gint "MOST_TIMES" 100) .nil))))) (.seq (.par [6, 7, 8] (.cons (.call 12 (.cons (.var 4) (.cons (.var 1) .nil))) (.cons (.var 2) (.cons (.var 1) .nil)))) (.seq (.for (.nm 5) (.rng (.cons (.bin .Sub (.var 3) (.int 1)) .nil)) (.seq (.asg (.nm 9) (.bin .Mult (.var 8) (.var 1))) (.seq (.asg (.nm 10) (.bin .FloorDiv (.call 15 (.cons (.var 0) (.cons (.var 7) (.cons (.var 9) .nil)))) (.var 8))) (.seq (.par [7, 8] (.cons (.bin .Mod (.bin .Sub (.var 7) (.bin .Mult (.bin .Mod (.bin .Mult (.var 10) (.var 6)) (.var 1)) (.var 8))) (.var 9)) (.cons (.var 9) .nil))) .nil)))) (.seq (.ret (.var 7)) .nil)))))))) -- lifted
def N17 : List Str := ["curve", "prime", "times", "some", "lap", "found", "whole", "later", "rest", "step"]
def b17 : B := (.seq (.asg (.nm 3) (.call 14 (.cons (.var 0) (.cons (.var 1) .nil)))) (.seq (.ex (.call 2 (.cons (.var 2) (.cons (.int 1) (.cons (.gint "MOST_TIMES" 100) .nil))))) (.seq (.asg (.tup (.cons (.nm 5) (.cons (.nm 6) .nil))) (.tup (.cons (.blt .list (.cons (.var 3) .nil)) (.cons (.var 1) .nil)))) (.seq (.for (.nm 4) (.rng (.cons (.bin .Sub (.var 2) (.int 1)) .nil)) (.seq (.asg (.nm 7) (.bin .Mult (.var 6) (.var 1))) (.seq (.asg (.nm 5) (.comp2 (.bin .Add (.var 8) (.bin .Mult (.var 6) (.var 9))) (.nm 8) (.var 5) .nil (.nm 9) (.rng (.cons (.var 1) .nil)) .nil [("rest", 8), ("step", 9)])) (.seq (.asg (.nm 5) (.comp (.var 8) (.nm 8) (.var 5) (.cmp .Eq (.call 15 (.cons (.var 0) (.cons (.var 8) (.cons (.var 7) .nil)))) (.int 0)) [("rest", 8)])) (.seq (.ifs (.cmp .Gt (.blt .len (.cons (.var 5) .nil)) (.bin .Mult (.gint "MOST_TIMES" 100) (.gint "MOST_TIMES" 100))) (.seq (.rais 5 (.bin .Mult (.gint "MOST_TIMES" 100) (.gint "MOST_TIMES" 100))) .nil) .nil) (.seq (.asg (.nm 6) (.var 7)) .nil)))))) (.seq (.ret (.blt .tuple (.cons (.blt .sorted (.cons (.var 5) .nil)) .nil))) .nil))))) -- all_lifted
def N18 : List Str := ["script", "place", "cell", "own", "small"]
def b18 : B := (.seq (.asg (.nm 2) (.ite (.cmp .Lt (.var 1) (.blt .len (.cons (.var 0) .nil))) (.ix (.var 0) (.var 1)) (.bin .Add (.bin .Add (.bin .Mod (.blt .int (.cons (.blt .sum (.cons (.slc (.var 0) .nil (.int 1)) .nil)) .nil)) (.int 1000187)) (.bin .Mult (.int 5717) (.var 1))) (.int 3163)))) (.seq (.asg (.nm 3) (.bin .Mult (.bin .Mod (.blt .int (.cons (.blt .abs (.cons (.var 2) .nil)) .nil)) (.bin .Pow (.bin .Pow (.int 10) (.int 60)) (.int 5))) (.blt .int (.cons (.cmp .GtE (.blt .abs (.cons (.var 2) .nil)) (.bin .Pow (.int 10) (.int 18))) .nil)))) (.seq (.asg (.nm 4) (.bin .Mod (.blt .int (.cons (.var 2) .nil)) (.int 2305843009213693951))) (.seq (.ret (.lst (.cons (.var 3) (.cons (.bin .Mod (.blt .int (.cons (.bin .Add (.bin .Add (.bin .Mult (.var 4) (.int 85999)) (.bin .Mult (.bin .Mult (.int 11273) (.var 1)) (.var 1))) (.int 2749)) .nil)) (.int 2305843009213693921)) (.cons (.int 0) .nil))))) .nil)))) -- _law_pot
def N19 : List Str := ["pot", "upto", "prime", "blend", "digit"]
def b19 : B := (.seq (.ifs (.cmp .Gt (.ix (.var 0) (.int 0)) (.int 0)) (.seq (.asg (.nm 4) (.bin .Mod (.blt .int (.cons (.ix (.var 0) (.int 0)) .nil)) (.var 1))) (.seq (.asgI (.var 0) (.int 0) (.bin .FloorDiv (.ix (.var 0) (.int 0)) (.var 1))) (.seq (.ret (.var 4)) .nil))) .nil) (.seq (.asgI (.var 0) (.int 2) (.bin .Add (.ix (.var 0) (.int 2)) (.int 1))) (.seq (.asg (.nm 2) (.ix (.lst (.cons (.int 2147483647) (.cons (.int 2147483629) (.cons (.int 2147483587) (.cons (.int 2147483579) (.cons (.int 2147483563) .nil)))))) (.bin .Mod (.blt .int (.cons (.ix (.var 0) (.int 2)) .nil)) (.int 5)))) (.seq (.asg (.nm 3) (.bin .Mod (.blt .int (.cons (.bin .Pow (.blt .int (.cons (.bin .Add (.bin .Add (.ix (.var 0) (.int 1)) (.bin .Mult (.bin .Mult (.int 96443) (.ix (.var 0) (.int 2))) (.ix (.var 0) (.int 2)))) (.int 3163)) .nil)) (.int 3)) .nil)) (.var 2))) (.seq (.asg (.nm 3) (.bin .Mod (.blt .int (.cons (.bin .Mult (.var 3) (.bin .Add (.bin .Mod (.blt .int (.cons (.var 3) .nil)) (.int 12823)) (.bin .Mult (.int 367) (.ix (.var 0) (.int 2))))) .nil)) (.int 2305843009213693907))) (.seq (.ret (.bin .Mod (.blt .int (.cons (.bin .FloorDiv (.var 3) (.int 229)) .nil)) (.var 1))) .nil)))))) -- _law_take
def N20 : List Str := ["pot", "some"]
def b20 : B := (.seq (.ret (.ix (.var 1) (.call 19 (.cons (.var 0) (.cons (.blt .len (.cons (.var 1) .nil)) .nil))))) .nil) -- _law_of
def N21 : List Str := ["script", "most"]
def b21 : B := (.seq (.ret (.lrng (.blt .max2 (.cons (.int 1) (.cons (.blt .min2 (.cons (.var 1) (.cons (.blt .len (.cons (.var 0) .nil)) .nil))) .nil))))) .nil) -- _law_cells
def N22 : List Str := ["value", "low", "high"]
def b22 : B := (.seq (.ret (.and (.blt .isi (.cons (.var 0) (.cons (.ty "int") .nil))) (.and (.not (.blt .isi (.cons (.var 0) (.cons (.ty "bool") .nil)))) (.chn .LtE .LtE (.var 1) (.var 0) (.var 2))))) .nil) -- _law_is_int
def N23 : List Str := ["one", "other"]
def b23 : B := (.seq (.par [0, 1] (.cons (.blt .abs (.cons (.var 0) .nil)) (.cons (.blt .abs (.cons (.var 1) .nil)) .nil))) (.seq (.whl (.cmp .NotEq (.var 1) (.int 0)) (.seq (.par [0, 1] (.cons (.var 1) (.cons (.bin .Mod (.var 0) (.var 1)) .nil))) .nil)) (.seq (.ret (.var 0)) .nil))) -- _law_common_int
def N24 : List Str := ["top", "bottom", "less"]
def b24 : B := (.seq (.asg (.nm 2) (.call 23 (.cons (.var 0) (.cons (.var 1) .nil)))) (.seq (.asg (.nm 2) (.ite (.cmp .Gt (.var 1) (.int 0)) (.var 2) (.neg (.var 2)))) (.seq (.ret (.tup (.cons (.bin .FloorDiv (.var 0) (.var 2)) (.cons (.bin .FloorDiv (.var 1) (.var 2)) .nil)))) .nil))) -- _law_low
def N25 : List Str := ["parts", "found"]
def b25 : B := (.seq (.asg (.nm 1) (.blt .list (.cons (.var 0) .nil))) (.seq (.whl (.and (.cmp .NotEq (.var 1) (.lst .nil)) (.cmp .Eq (.ix (.var 1) (.neg (.int 1))) (.int 0))) (.seq (.ex (.mth .pop (.var 1) .nil)) .nil)) (.seq (.ret (.blt .tuple (.cons (.var 1) .nil))) .nil))) -- _law_told
def N26 : List Str := ["one", "other", "found", "at", "part", "spot", "its"]
def b26 : B := (.seq (.asg (.nm 2) (.bin .Mult (.lst (.cons (.int 0) .nil)) (.blt .max2 (.cons (.int 0) (.cons (.bin .Sub (.bin .Add (.blt .len (.cons (.var 0) .nil)) (.blt .len (.cons (.var 1) .nil))) (.int 1)) .nil))))) (.seq (.for (.tup (.cons (.nm 3) (.cons (.nm 4) .nil))) (.enm (.var 0)) (.seq (.for (.tup (.cons (.nm 5) (.cons (.nm 6) .nil))) (.enm (.var 1)) (.seq (.asgI (.var 2) (.bin .Add (.var 3) (.var 5)) (.bin .Add (.ix (.var 2) (.bin .Add (.var 3) (.var 5))) (.bin .Mult (.var 4) (.var 6)))) .nil)) .nil)) (.seq (.ret (.ite (.and (.cmp .NotEq (.var 0) (.tup .nil)) (.cmp .NotEq (.var 1) (.tup .nil))) (.call 25 (.cons (.var 2) .nil)) (.tup .nil))) .nil))) -- _law_product
def N27 : List Str := ["curve", "at", "part"]
def b27 : B := (.seq (.ret (.call 25 (.cons (.slc (.comp (.bin .Mult (.var 1) (.var 2)) (.tup (.cons (.nm 1) (.cons (.nm 2) .nil))) (.enm (.var 0)) .nil [("at", 1), ("part", 2)]) (.int 1) .nil) .nil))) .nil) -- _law_slopes
def N28 : List Str := ["pot", "degree", "found", "way", "many", "upto", "parts", "number", "step", "lap"]
def b28 : B := (.seq (.par [3, 4] (.cons (.call 19 (.cons (.var 0) (.cons (.int 3) .nil))) (.cons (.bin .Add (.int 1) (.call 19 (.cons (.var 0) (.cons (.var 1) .nil)))) .nil))) (.seq (.ifs (.cmp .Eq (.var 3) (.int 0)) (.seq (.asg (.nm 5) (.call 20 (.cons (.var 0) (.cons (.lst (.cons (.int 2) (.cons (.int 9) (.cons (.int 60) .nil)))) .nil)))) (.seq (.asg (.nm 6) (.bin .Add (.comp (.bin .Sub (.blt .int (.cons (.call 19 (.cons (.var 0) (.cons (.bin .Add (.bin .Mult (.int 2) (.var 5)) (.int 1)) .nil))) .nil)) (.var 5)) (.nm 9) (.rng (.cons (.var 4) .nil)) .nil [("lap", 9)]) (.lst (.cons (.bin .Add (.int 1) (.blt .int (.cons (.call 19 (.cons (.var 0) (.cons (.int 5) .nil))) .nil))) .nil)))) (.seq (.ret (.call 25 (.cons (.var 6) .nil))) .nil))) .nil) (.seq (.asg (.nm 2) (.tup (.cons (.call 20 (.cons (.var 0) (.cons (.lst (.cons (.int 1) (.cons (.int 1) (.cons (.neg (.int 1)) (.cons (.int 2) .nil))))) .nil))) .nil))) (.seq (.whl (.cmp .LtE (.blt .len (.cons (.var 2) .nil)) (.var 4)) (.seq (.asg (.nm 7) (.call 24 (.cons (.bin .Sub (.blt .int (.cons (.call 19 (.cons (.var 0) (.cons (.int 9) .nil))) .nil)) (.int 4)) (.cons (.bin .Add (.int 1) (.blt .int (.cons (.call 19 (.cons (.var 0) (.cons (.int 3) .nil))) .nil))) .nil)))) (.seq (.asg (.nm 8) (.call 20 (.cons (.var 0) (.cons (.lst (.cons (.tup (.cons (.neg (.ix (.var 7) (.int 0))) (.cons (.ix (.var 7) (.int 1)) .nil))) (.cons (.tup (.cons (.int 1) (.cons (.int 0) (.cons (.int 1) .nil)))) (.cons (.tup (.cons (.neg (.int 2)) (.cons (.int 0) (.cons (.int 1) .nil)))) (.cons (.tup (.cons (.int 1) (.cons (.int 1) (.cons (.int 1) .nil)))) (.cons (.tup (.cons (.neg (.int 1)) (.cons (.neg (.int 1)) (.cons (.int 1) .nil)))) .nil)))))) .nil)))) (.seq (.asg (.nm 8) (.ite (.cmp .LtE (.bin .Sub (.bin .Add (.blt .len (.cons (.var 2) .nil)) (.blt .len (.cons (.var 8) .nil))) (.int 2)) (.var 4)) (.var 8) (.tup (.cons (.neg (.ix (.var 7) (.int 0))) (.cons (.ix (.var 7) (.int 1)) .nil))))) (.seq (.asg (.nm 2) (.call 26 (.cons (.var 2) (.cons (.var 8) .nil)))) (.seq (.ifs (.and (.cmp .Eq (.call 19 (.cons (.var 0) (.cons (.int 3) .nil))) (.int 0)) (.cmp .LtE (.bin .Sub (.bin .Add (.blt .len (.cons (.var 2) .nil)) (.blt .len (.cons (.var 8) .nil))) (.int 2)) (.var 4))) (.seq (.asg (.nm 2) (.call 26 (.cons (.var 2) (.cons (.var 8) .nil)))) .nil) .nil) .nil)))))) (.seq (.ret (.var 2)) .nil))))) -- _law_curve_drawn
def N29 : List Str := ["curve", "number", "found", "part"]
def b29 : B := (.seq (.asg (.nm 2) (.int 0)) (.seq (.for (.nm 3) (.rev (.var 0)) (.seq (.asg (.nm 2) (.bin .Add (.bin .Mult (.var 2) (.var 1)) (.var 3))) .nil)) (.seq (.ret (.var 2)) .nil))) -- _law_at
def N30 : List Str := ["prime", "times", "found", "lap"]
def b30 : B := (.seq (.asg (.nm 2) (.int 1)) (.seq (.for (.nm 3) (.rng (.cons (.var 1) .nil)) (.seq (.asg (.nm 2) (.bin .Mult (.var 2) (.var 0))) .nil)) (.seq (.ret (.var 2)) .nil))) -- _law_whole
def N31 : List Str := ["pot", "curve", "prime", "rests_v", "nought", "times", "whole", "odd", "caught", "late", "due", "told_v", "rest"]
def b31 : B := (.seq (.asg (.nm 3) (.call 14 (.cons (.var 1) (.cons (.var 2) .nil)))) (.seq (.for (.nm 4) (.slc (.var 3) .nil (.int 3)) (.seq (.asg (.nm 5) (.blt .int (.cons (.bin .Add (.int 1) (.call 20 (.cons (.var 0) (.cons (.lst (.cons (.int 0) (.cons (.int 1) (.cons (.int 2) (.cons (.int 5) (.cons (.int 20) (.cons (.int 99) .nil))))))) .nil)))) .nil))) (.seq (.asg (.tup (.cons (.nm 8) (.cons (.nm 11) .nil))) (.hrd (.callk 16 (.cons (.var 1) (.cons (.var 2) .nil)) (.cons (.var 4) (.cons (.var 5) .nil))))) (.seq (.ifs (.cmp .Eq (.bin .Mod (.call 29 (.cons (.call 27 (.cons (.var 1) .nil)) (.cons (.var 4) .nil))) (.var 2)) (.int 0)) (.seq (.ifs (.or (.not (.blt .isi (.cons (.var 8) (.cons (.cls 4) .nil)))) (.cmp .NotEq (.blt .repr (.cons (.att (.var 8)) .nil)) (.blt .repr (.cons (.var 4) .nil)))) (.seq (.ret (.bl false)) .nil) .nil) (.seq .cnt .nil)) .nil) (.seq (.asg (.nm 6) (.call 30 (.cons (.var 2) (.cons (.var 5) .nil)))) (.seq (.ifs (.or (.not (.call 22 (.cons (.var 11) (.cons (.int 0) (.cons (.bin .Sub (.var 6) (.int 1)) .nil))))) (.or (.cmp .NotEq (.bin .Mod (.var 11) (.var 2)) (.var 4)) (.cmp .NotEq (.bin .Mod (.call 29 (.cons (.var 1) (.cons (.var 11) .nil))) (.var 6)) (.int 0)))) (.seq (.ret (.bl false)) .nil) .nil) (.seq (.asg (.nm 7) (.call 20 (.cons (.var 0) (.cons (.lst (.cons (.int 0) (.cons (.int 101) (.cons .non (.cons (.bl true) (.cons (.str "1") .nil)))))) .nil)))) (.seq (.asg (.nm 8) (.ix (.hrd (.call 16 (.cons (.var 1) (.cons (.var 2) (.cons (.var 4) (.cons (.var 7) .nil)))))) (.int 0))) (.seq (.ifs (.or (.not (.blt .isi (.cons (.var 8) (.cons (.cls 1) .nil)))) (.cmp .NotEq (.blt .repr (.cons (.att (.var 8)) .nil)) (.blt .repr (.cons (.var 7) .nil)))) (.seq (.ret (.bl false)) .nil) .nil) .nil))))))))) (.seq (.asg (.nm 5) (.blt .int (.cons (.bin .Add (.int 1) (.call 19 (.cons (.var 0) (.cons (.int 4) .nil)))) .nil))) (.seq (.asg (.nm 6) (.call 30 (.cons (.var 2) (.cons (.var 5) .nil)))) (.seq (.ifs (.cmp .LtE (.var 6) (.int 400)) (.seq (.asg (.nm 10) (.blt .tuple (.cons (.comp (.var 12) (.nm 12) (.rng (.cons (.var 6) .nil)) (.cmp .Eq (.bin .Mod (.call 29 (.cons (.var 1) (.cons (.var 12) .nil))) (.var 6)) (.int 0)) [("rest", 12)]) .nil))) (.seq (.ifs (.cmp .NotEq (.blt .repr (.cons (.callk 17 (.cons (.var 1) (.cons (.var 2) .nil)) (.cons (.var 5) .nil)) .nil)) (.blt .repr (.cons (.var 10) .nil))) (.seq (.ret (.bl false)) .nil) .nil) .nil)) .nil) (.seq (.asg (.nm 7) (.call 20 (.cons (.var 0) (.cons (.bin .Add (.lst (.cons (.neg (.int 1)) (.cons (.var 2) (.cons .non (.cons (.bl true) (.cons (.str "0") .nil)))))) (.slc (.comp (.var 12) (.nm 12) (.rng (.cons (.var 2) .nil)) (.cmp .NotIn (.var 12) (.var 3)) [("rest", 12)]) .nil (.int 3))) .nil)))) (.seq (.asg (.nm 8) (.ix (.hrd (.call 16 (.cons (.var 1) (.cons (.var 2) (.cons (.var 7) (.cons .non .nil)))))) (.int 0))) (.seq (.asg (.nm 9) (.ix (.hrd (.call 17 (.cons (.var 1) (.cons (.var 2) (.cons (.int 0) .nil))))) (.int 0))) (.seq (.ifs (.or (.not (.blt .isi (.cons (.var 9) (.cons (.cls 1) .nil)))) (.cmp .NotEq (.blt .repr (.cons (.att (.var 9)) .nil)) (.str "0"))) (.seq (.ret (.bl false)) .nil) .nil) (.seq (.ret (.and (.blt .isi (.cons (.var 8) (.cons (.cls 1) .nil))) (.cmp .Eq (.blt .repr (.cons (.att (.var 8)) .nil)) (.blt .repr (.cons (.var 7) .nil))))) .nil)))))))))) -- _law_is_right
def N32 : List Str := ["pot", "lap", "curve", "prime", "nought", "part"]
def b32 : B := (.seq (.for (.nm 1) (.rng (.cons (.int 4) .nil)) (.seq (.asg (.tup (.cons (.nm 2) (.cons (.nm 3) .nil))) (.tup (.cons (.call 28 (.cons (.var 0) (.cons (.int 4) .nil))) (.cons (.call 20 (.cons (.var 0) (.cons (.lst (.cons (.int 2) (.cons (.int 3) (.cons (.int 3) (.cons (.int 5) (.cons (.int 7) (.cons (.int 13) (.cons (.int 47) .nil)))))))) .nil))) .nil)))) (.seq (.ifs (.and (.not (.blt .all (.cons (.comp (.cmp .Eq (.bin .Mod (.var 5) (.var 3)) (.int 0)) (.nm 5) (.var 2) .nil [("part", 5)]) .nil))) (.not (.call 31 (.cons (.var 0) (.cons (.var 2) (.cons (.var 3) .nil)))))) (.seq (.ret (.bl false)) .nil) .nil) .nil))) (.seq (.ret (.cmp .Eq (.comp (.call 16 (.cons (.tup (.cons (.neg (.int 2)) (.cons (.int 0) (.cons (.int 1) .nil)))) (.cons (.int 7) (.cons (.var 4) (.cons (.int 4) .nil))))) (.nm 4) (.tup (.cons (.int 3) (.cons (.int 4) .nil))) .nil [("nought", 4)]) (.lst (.cons (.int 2166) (.cons (.int 235) .nil))))) .nil)) -- _law_right
def N33 : List Str := ["script", "at"]
def b33 : B := (.seq (.ret (.blt .all (.cons (.comp (.call 32 (.cons (.call 18 (.cons (.var 0) (.cons (.var 1) .nil))) .nil)) (.nm 1) (.call 21 (.cons (.var 0) (.cons (.int 3) .nil))) .nil [("at", 1)]) .nil))) .nil) -- law
theorem ck0 : (chkB st b0).b ⟨N0, defScope (top 8), N0, false⟩ (defBody (top 8)) = true := by kernel_rfl
theorem sc0 : FnScope N0 ["value", "low", "high"] (defScope (top 8)) := ⟨by kernel_rfl, by kernel_rfl, by kernel_rfl, by decide +kernel, by rfl, by decide +kernel, by decide +kernel⟩
theorem ck1 : (chkB st b1).b ⟨N1, defScope (top 9), N1, false⟩ (defBody (top 9)) = true := by kernel_rfl
theorem sc1 : FnScope N1 ["value"] (defScope (top 9)) := ⟨by kernel_rfl, by kernel_rfl, by kernel_rfl, by decide +kernel, by rfl, by decide +kernel, by decide +kernel⟩
theorem ck2 : (chkB st b2).b ⟨N2, defScope (top 10), N2, false⟩ (defBody (top 10)) = true := by kernel_rfl
theorem sc2 : FnScope N2 ["value", "low", "high"] (defScope (top 10)) := ⟨by kernel_rfl, by kernel_rfl, by kernel_rfl, by decide +kernel, by rfl, by decide +kernel, by decide +kernel⟩
theorem ck3 : (chkB st b3).b ⟨N3, defScope (top 11), N3, false⟩ (defBody (top 11)) = true := by kernel_rfl
theorem sc3 : FnScope N3 ["value"] (defScope (top 11)) := ⟨by kernel_rfl, by kernel_rfl, by kernel_rfl, by decide +kernel, by rfl, by decide +kernel, by decide +kernel⟩
theorem ck4 : (chkB st b4).b ⟨N4, defScope (top 15), N4, false⟩ (defBody (top 15)) = true := by kernel_rfl
theorem sc4 : FnScope N4 ["value"] (defScope (top 15)) := ⟨by kernel_rfl, by kernel_rfl, by kernel_rfl, by decide +kernel, by rfl, by decide +kernel, by decide +kernel⟩
theorem ck5 : (chkB st b5).b ⟨N5, defScope (top 16), N5, false⟩ (defBody (top 16)) = true := by kernel_rfl
theorem sc5 : FnScope N5 ["value"] (defScope (top 16)) := ⟨by kernel_rfl, by kernel_rfl, by kernel_rfl, by decide +kernel, by rfl, by decide +kernel, by decide +kernel⟩
theorem ck6 : (chkB st b6).b ⟨N6, defScope (top 17), N6, false⟩ (defBody (top 17)) = true := by kernel_rfl
theorem sc6 : FnScope N6 ["curve"] (defScope (top 17)) := ⟨by kernel_rfl, by kernel_rfl, by kernel_rfl, by decide +kernel, by rfl, by decide +kernel, by decide +kernel⟩
theorem ck7 : (chkB st b7).b ⟨N7, defScope (top 18), N7, false⟩ (defBody (top 18)) = true := by kernel_rfl
theorem sc7 : FnScope N7 ["curve"] (defScope (top 18)) := ⟨by kernel_rfl, by kernel_rfl, by kernel_rfl, by decide +kernel, by rfl, by decide +kernel, by decide +kernel⟩
theorem ck8 : (chkB st b8).b ⟨N8, defScope (top 19), N8, false⟩ (defBody (top 19)) = true := by kernel_rfl
theorem sc8 : FnScope N8 ["parts"] (defScope (top 19)) := ⟨by kernel_rfl, by kernel_rfl, by kernel_rfl, by decide +kernel, by rfl, by decide +kernel, by decide +kernel⟩
theorem ck9 : (chkB st b9).b ⟨N9, defScope (top 20), N9, false⟩ (defBody (top 20)) = true := by kernel_rfl
theorem sc9 : FnScope N9 ["curve"] (defScope (top 20)) := ⟨by kernel_rfl, by kernel_rfl, by kernel_rfl, by decide +kernel, by rfl, by decide +kernel, by decide +kernel⟩
theorem ck10 : (chkB st b10).b ⟨N10, defScope (top 24), N10, false⟩ (defBody (top 24)) = true := by kernel_rfl
theorem sc10 : FnScope N10 ["prime"] (defScope (top 24)) := ⟨by kernel_rfl, by kernel_rfl, by kernel_rfl, by decide +kernel, by rfl, by decide +kernel, by decide +kernel⟩
theorem ck11 : (chkB st b11).b ⟨N11, defScope (top 25), N11, false⟩ (defBody (top 25)) = true := by kernel_rfl
theorem sc11 : FnScope N11 ["curve", "whole"] (defScope (top 25)) := ⟨by kernel_rfl, by kernel_rfl, by kernel_rfl, by decide +kernel, by rfl, by decide +kernel, by decide +kernel⟩
theorem ck12 : (chkB st b12).b ⟨N12, defScope (top 26), N12, false⟩ (defBody (top 26)) = true := by kernel_rfl
theorem sc12 : FnScope N12 ["number", "prime"] (defScope (top 26)) := ⟨by kernel_rfl, by kernel_rfl, by kernel_rfl, by decide +kernel, by rfl, by decide +kernel, by decide +kernel⟩
theorem ck13 : (chkB st b13).b ⟨N13, defScope (top 27), N13, false⟩ (defBody (top 27)) = true := by kernel_rfl
theorem sc13 : FnScope N13 ["curve", "prime"] (defScope (top 27)) := ⟨by kernel_rfl, by kernel_rfl, by kernel_rfl, by decide +kernel, by rfl, by decide +kernel, by decide +kernel⟩
theorem ck14 : (chkB st b14).b ⟨N14, defScope (top 28), N14, false⟩ (defBody (top 28)) = true := by kernel_rfl
theorem sc14 : FnScope N14 ["curve", "prime"] (defScope (top 28)) := ⟨by kernel_rfl, by kernel_rfl, by kernel_rfl, by decide +kernel, by rfl, by decide +kernel, by decide +kernel⟩
theorem ck15 : (chkB st b15).b ⟨N15, defScope (top 29), N15, false⟩ (defBody (top 29)) = true := by kernel_rfl
theorem sc15 : FnScope N15 ["curve", "number", "whole"] (defScope (top 29)) := ⟨by kernel_rfl, by kernel_rfl, by kernel_rfl, by decide +kernel, by rfl, by decide +kernel, by decide +kernel⟩
theorem ck16 : (chkB st b16).b ⟨N16, defScope (top 30), N16, false⟩ (defBody (top 30)) = true := by kernel_rfl
theorem sc16 : FnScope N16 ["curve", "prime", "nought", "times"] (defScope (top 30)) := ⟨by kernel_rfl, by kernel_rfl, by kernel_rfl, by decide +kernel, by rfl, by decide +kernel, by decide +kernel⟩
theorem ck17 : (chkB st b17).b ⟨N17, defScope (top 31), N17, false⟩ (defBody (top 31)) = true := by kernel_rfl
theorem sc17 : FnScope N17 ["curve", "prime", "times"] (defScope (top 31)) := ⟨by kernel_rfl, by kernel_rfl, by kernel_rfl, by decide +kernel, by rfl, by decide +kernel, by decide +kernel⟩
theorem ck18 : (chkB st b18).b ⟨N18, defScope (top 33), N18, false⟩ (defBody (top 33)) = true := by kernel_rfl
theorem sc18 : FnScope N18 ["script", "place"] (defScope (top 33)) := ⟨by kernel_rfl, by kernel_rfl, by kernel_rfl, by decide +kernel, by rfl, by decide +kernel, by decide +kernel⟩
theorem ck19 : (chkB st b19).b ⟨N19, defScope (top 34), N19, false⟩ (defBody (top 34)) = true := by kernel_rfl
theorem sc19 : FnScope N19 ["pot", "upto"] (defScope (top 34)) := ⟨by kernel_rfl, by kernel_rfl, by kernel_rfl, by decide +kernel, by rfl, by decide +kernel, by decide +kernel⟩
theorem ck20 : (chkB st b20).b ⟨N20, defScope (top 35), N20, false⟩ (defBody (top 35)) = true := by kernel_rfl
theorem sc20 : FnScope N20 ["pot", "some"] (defScope (top 35)) := ⟨by kernel_rfl, by kernel_rfl, by kernel_rfl, by decide +kernel, by rfl, by decide +kernel, by decide +kernel⟩
theorem ck21 : (chkB st b21).b ⟨N21, defScope (top 36), N21, false⟩ (defBody (top 36)) = true := by kernel_rfl
theorem sc21 : FnScope N21 ["script", "most"] (defScope (top 36)) := ⟨by kernel_rfl, by kernel_rfl, by kernel_rfl, by decide +kernel, by rfl, by decide +kernel, by decide +kernel⟩
theorem ck22 : (chkB st b22).b ⟨N22, defScope (top 38), N22, false⟩ (defBody (top 38)) = true := by kernel_rfl
theorem sc22 : FnScope N22 ["value", "low", "high"] (defScope (top 38)) := ⟨by kernel_rfl, by kernel_rfl, by kernel_rfl, by decide +kernel, by rfl, by decide +kernel, by decide +kernel⟩
theorem ck23 : (chkB st b23).b ⟨N23, defScope (top 39), N23, false⟩ (defBody (top 39)) = true := by kernel_rfl
theorem sc23 : FnScope N23 ["one", "other"] (defScope (top 39)) := ⟨by kernel_rfl, by kernel_rfl, by kernel_rfl, by decide +kernel, by rfl, by decide +kernel, by decide +kernel⟩
theorem ck24 : (chkB st b24).b ⟨N24, defScope (top 40), N24, false⟩ (defBody (top 40)) = true := by kernel_rfl
theorem sc24 : FnScope N24 ["top", "bottom"] (defScope (top 40)) := ⟨by kernel_rfl, by kernel_rfl, by kernel_rfl, by decide +kernel, by rfl, by decide +kernel, by decide +kernel⟩
theorem ck25 : (chkB st b25).b ⟨N25, defScope (top 41), N25, false⟩ (defBody (top 41)) = true := by kernel_rfl
theorem sc25 : FnScope N25 ["parts"] (defScope (top 41)) := ⟨by kernel_rfl, by kernel_rfl, by kernel_rfl, by decide +kernel, by rfl, by decide +kernel, by decide +kernel⟩
theorem ck26 : (chkB st b26).b ⟨N26, defScope (top 42), N26, false⟩ (defBody (top 42)) = true := by kernel_rfl
theorem sc26 : FnScope N26 ["one", "other"] (defScope (top 42)) := ⟨by kernel_rfl, by kernel_rfl, by kernel_rfl, by decide +kernel, by rfl, by decide +kernel, by decide +kernel⟩
theorem ck27 : (chkB st b27).b ⟨N27, defScope (top 43), N27, false⟩ (defBody (top 43)) = true := by kernel_rfl
theorem sc27 : FnScope N27 ["curve"] (defScope (top 43)) := ⟨by kernel_rfl, by kernel_rfl, by kernel_rfl, by decide +kernel, by rfl, by decide +kernel, by decide +kernel⟩
theorem ck28 : (chkB st b28).b ⟨N28, defScope (top 44), N28, false⟩ (defBody (top 44)) = true := by kernel_rfl
theorem sc28 : FnScope N28 ["pot", "degree"] (defScope (top 44)) := ⟨by kernel_rfl, by kernel_rfl, by kernel_rfl, by decide +kernel, by rfl, by decide +kernel, by decide +kernel⟩
theorem ck29 : (chkB st b29).b ⟨N29, defScope (top 45), N29, false⟩ (defBody (top 45)) = true := by kernel_rfl
theorem sc29 : FnScope N29 ["curve", "number"] (defScope (top 45)) := ⟨by kernel_rfl, by kernel_rfl, by kernel_rfl, by decide +kernel, by rfl, by decide +kernel, by decide +kernel⟩
theorem ck30 : (chkB st b30).b ⟨N30, defScope (top 46), N30, false⟩ (defBody (top 46)) = true := by kernel_rfl
theorem sc30 : FnScope N30 ["prime", "times"] (defScope (top 46)) := ⟨by kernel_rfl, by kernel_rfl, by kernel_rfl, by decide +kernel, by rfl, by decide +kernel, by decide +kernel⟩
theorem ck31 : (chkB st b31).b ⟨N31, defScope (top 47), N31, true⟩ (defBody (top 47)) = true := by kernel_rfl
theorem sc31 : FnScope N31 ["pot", "curve", "prime"] (defScope (top 47)) := ⟨by kernel_rfl, by kernel_rfl, by kernel_rfl, by decide +kernel, by rfl, by decide +kernel, by decide +kernel⟩
theorem ck32 : (chkB st b32).b ⟨N32, defScope (top 48), N32, false⟩ (defBody (top 48)) = true := by kernel_rfl
theorem sc32 : FnScope N32 ["pot"] (defScope (top 48)) := ⟨by kernel_rfl, by kernel_rfl, by kernel_rfl, by decide +kernel, by rfl, by decide +kernel, by decide +kernel⟩
theorem ck33 : (chkB st b33).b ⟨N33, defScope (top 49), N33, false⟩ (defBody (top 49)) = true := by kernel_rfl
theorem sc33 : FnScope N33 ["script"] (defScope (top 49)) := ⟨by kernel_rfl, by kernel_rfl, by kernel_rfl, by decide +kernel, by rfl, by decide +kernel, by decide +kernel⟩
end LW

set_option Elab.async false
set_option linter.all false
set_option maxRecDepth 100000
set_option maxHeartbeats 0
namespace LW
open PySem PySem.Spec PyProof.Rows L2 PW
abbrev R : PySem.W.OpenRow := PySem.W.OpenLaw.row PySem.Challenge.rw_noughtsbetween_k38_whole_noughts_lifted
abbrev hk : PySem.W.Hook := PW.hookY 4 (faAll st) fn tf ex
def ob (s : PySem.W.SharedT) : He.AlX := PW.obsY (faAll st) fn tf ex (HandSHeadRun.getT s) (PW.asY (HandSHeadRun.getT s) 4)
theorem ob_eq (s : PySem.W.SharedT) : ob s = hk.obs s.abs := PW.obsY_eq (HandSHeadRun.getT_eq s)
def loose : List PySem.Str := (["is_int", "is_whole", "look_at_int", "are_wholes", "is_any_curve", "is_curve", "look_at_curve", "look_at_real", "told", "slope_of", "look_at_prime", "rests", "turned_over", "look_at_by", "noughts_by", "height_by", "lifted", "all_lifted", "_law_pot", "_law_take", "_law_of", "_law_cells", "_law_heard", "_law_is_int", "_law_common_int", "_law_low", "_law_told", "_law_product", "_law_slopes", "_law_curve_drawn"] : List PySem.Str) ++ (["_law_at", "_law_whole", "_law_is_right", "_law_right", "CurveError", "BadInt", "BadCurve", "Nought", "Unlike", "TooMany", "MOST_DEGREE", "MOST_PART", "PRIMES", "MOST_TIMES"] : List PySem.Str)
theorem run (w : World) : HandSHeadRun.RunEq R (PySem.W.view R.prog [49]) hk ob 4000 loose w := by
  intro os
  kernel_rfl
end LW

set_option Elab.async false
set_option linter.all false
set_option maxRecDepth 100000
set_option maxHeartbeats 2000000
set_option exponentiation.threshold 4000
/-! what the laws' own helpers do, whatever their numbers -/
namespace LQ
open PySem PySem.Spec PyProof.Rows L2 PW
def bTake : B := (.seq (.ifs (.cmp .Gt (.ix (.var 0) (.int 0)) (.int 0)) (.seq (.asg (.nm 4) (.bin .Mod (.blt .int (.cons (.ix (.var 0) (.int 0)) .nil)) (.var 1))) (.seq (.asgI (.var 0) (.int 0) (.bin .FloorDiv (.ix (.var 0) (.int 0)) (.var 1))) (.seq (.ret (.var 4)) .nil))) .nil) (.seq (.asgI (.var 0) (.int 2) (.bin .Add (.ix (.var 0) (.int 2)) (.int 1))) (.seq (.asg (.nm 2) (.ix (.lst (.cons (.int 2147483647) (.cons (.int 2147483629) (.cons (.int 2147483587) (.cons (.int 2147483579) (.cons (.int 2147483563) .nil)))))) (.bin .Mod (.blt .int (.cons (.ix (.var 0) (.int 2)) .nil)) (.int 5)))) (.seq (.asg (.nm 3) (.bin .Mod (.blt .int (.cons (.bin .Pow (.blt .int (.cons (.bin .Add (.bin .Add (.ix (.var 0) (.int 1)) (.bin .Mult (.bin .Mult (.int 96443) (.ix (.var 0) (.int 2))) (.ix (.var 0) (.int 2)))) (.int 3163)) .nil)) (.int 3)) .nil)) (.var 2))) (.seq (.asg (.nm 3) (.bin .Mod (.blt .int (.cons (.bin .Mult (.var 3) (.bin .Add (.bin .Mod (.blt .int (.cons (.var 3) .nil)) (.int 12823)) (.bin .Mult (.int 367) (.ix (.var 0) (.int 2))))) .nil)) (.int 2305843009213693907))) (.seq (.ret (.bin .Mod (.blt .int (.cons (.bin .FloorDiv (.var 3) (.int 229)) .nil)) (.var 1))) .nil))))))
def bOf (t : Nat) : B := (.seq (.ret (.ix (.var 1) (.call t (.cons (.var 0) (.cons (.blt .len (.cons (.var 1) .nil)) .nil))))) .nil)
def bPot : B := (.seq (.asg (.nm 2) (.ite (.cmp .Lt (.var 1) (.blt .len (.cons (.var 0) .nil))) (.ix (.var 0) (.var 1)) (.bin .Add (.bin .Add (.bin .Mod (.blt .int (.cons (.blt .sum (.cons (.slc (.var 0) .nil (.int 1)) .nil)) .nil)) (.int 1000187)) (.bin .Mult (.int 5717) (.var 1))) (.int 3163)))) (.seq (.asg (.nm 3) (.bin .Mult (.bin .Mod (.blt .int (.cons (.blt .abs (.cons (.var 2) .nil)) .nil)) (.bin .Pow (.bin .Pow (.int 10) (.int 60)) (.int 5))) (.blt .int (.cons (.cmp .GtE (.blt .abs (.cons (.var 2) .nil)) (.bin .Pow (.int 10) (.int 18))) .nil)))) (.seq (.asg (.nm 4) (.bin .Mod (.blt .int (.cons (.var 2) .nil)) (.int 2305843009213693951))) (.seq (.ret (.lst (.cons (.var 3) (.cons (.bin .Mod (.blt .int (.cons (.bin .Add (.bin .Add (.bin .Mult (.var 4) (.int 85999)) (.bin .Mult (.bin .Mult (.int 11273) (.var 1)) (.var 1))) (.int 2749)) .nil)) (.int 2305843009213693921)) (.cons (.int 0) .nil))))) .nil))))
def bCells : B := (.seq (.ret (.lrng (.blt .max2 (.cons (.int 1) (.cons (.blt .min2 (.cons (.var 1) (.cons (.blt .len (.cons (.var 0) .nil)) .nil))) .nil))))) .nil)
def bGcd : B := (.seq (.par [0, 1] (.cons (.blt .abs (.cons (.var 0) .nil)) (.cons (.blt .abs (.cons (.var 1) .nil)) .nil))) (.seq (.whl (.cmp .NotEq (.var 1) (.int 0)) (.seq (.par [0, 1] (.cons (.var 1) (.cons (.bin .Mod (.var 0) (.var 1)) .nil))) .nil)) (.seq (.ret (.var 0)) .nil)))
def bLow (t : Nat) : B := (.seq (.asg (.nm 2) (.call t (.cons (.var 0) (.cons (.var 1) .nil)))) (.seq (.asg (.nm 2) (.ite (.cmp .Gt (.var 1) (.int 0)) (.var 2) (.neg (.var 2)))) (.seq (.ret (.tup (.cons (.bin .FloorDiv (.var 0) (.var 2)) (.cons (.bin .FloorDiv (.var 1) (.var 2)) .nil)))) .nil)))
def bTold : B := (.seq (.asg (.nm 1) (.blt .list (.cons (.var 0) .nil))) (.seq (.whl (.and (.cmp .NotEq (.var 1) (.lst .nil)) (.cmp .Eq (.ix (.var 1) (.neg (.int 1))) (.int 0))) (.seq (.ex (.mth .pop (.var 1) .nil)) .nil)) (.seq (.ret (.blt .tuple (.cons (.var 1) .nil))) .nil)))
def bProd (t : Nat) : B := (.seq (.asg (.nm 2) (.bin .Mult (.lst (.cons (.int 0) .nil)) (.blt .max2 (.cons (.int 0) (.cons (.bin .Sub (.bin .Add (.blt .len (.cons (.var 0) .nil)) (.blt .len (.cons (.var 1) .nil))) (.int 1)) .nil))))) (.seq (.for (.tup (.cons (.nm 3) (.cons (.nm 4) .nil))) (.enm (.var 0)) (.seq (.for (.tup (.cons (.nm 5) (.cons (.nm 6) .nil))) (.enm (.var 1)) (.seq (.asgI (.var 2) (.bin .Add (.var 3) (.var 5)) (.bin .Add (.ix (.var 2) (.bin .Add (.var 3) (.var 5))) (.bin .Mult (.var 4) (.var 6)))) .nil)) .nil)) (.seq (.ret (.ite (.and (.cmp .NotEq (.var 0) (.tup .nil)) (.cmp .NotEq (.var 1) (.tup .nil))) (.call t (.cons (.var 2) .nil)) (.tup .nil))) .nil)))
def bSlopes (t : Nat) : B := (.seq (.ret (.call t (.cons (.slc (.comp (.bin .Mult (.var 1) (.var 2)) (.tup (.cons (.nm 1) (.cons (.nm 2) .nil))) (.enm (.var 0)) .nil [("at", 1), ("part", 2)]) (.int 1) .nil) .nil))) .nil)
def bAt : B := (.seq (.asg (.nm 2) (.int 0)) (.seq (.for (.nm 3) (.rev (.var 0)) (.seq (.asg (.nm 2) (.bin .Add (.bin .Mult (.var 2) (.var 1)) (.var 3))) .nil)) (.seq (.ret (.var 2)) .nil)))

abbrev nu (a b : Int) : Vl := .tup [.int a, .int b]
/-- in lowest terms -/
def lo (t b : Int) : Vl := nu (t / (Int.gcd t b : Int)) (b / (Int.gcd t b : Int))
theorem lo_red {t b : Int} (h : Int.gcd t b = 1) : lo t b = nu t b := by
  unfold lo
  rw [h]
  simp
section
variable {S : Sto} {Q : WK} {a b : Vl} {l : List Vl}
theorem ixT0 : ixW (.tup (a :: l)) (.int 0) S Q = Q a S := by
  show (∃ w, atI (a :: l) 0 = some w ∧ Q w S) = _
  have e : atI (a :: l) 0 = some a := by simp [atI, ixN]
  rw [e]; simp
theorem ixT1 : ixW (.tup (a :: b :: l)) (.int 1) S Q = Q b S := by
  show (∃ w, atI (a :: b :: l) 1 = some w ∧ Q w S) = _
  have e : atI (a :: b :: l) 1 = some b := by
    have h1 : ((1 : Int) < ((l.length : Int) + 1 + 1)) := by omega
    simp [atI, ixN, h1]
  rw [e]; simp
end
theorem bits_small {i : Int} (h : i.natAbs < 2 ^ 1000) : Builtin.Int.intBits i ≤ 2 ^ 20 := by
  unfold Builtin.Int.intBits
  split
  · omega
  · rename_i q
    have h0 : i.natAbs ≠ 0 := by intro z; apply q; simp; omega
    have := (Nat.log2_lt h0).mpr h
    omega
theorem mulS {i j : Int} (h : i.natAbs < 2 ^ 1000) (k : j.natAbs < 2 ^ 1000) : IntMulOk i j := IntMulOk.of_bits (bits_small h) (bits_small k)
theorem cdvS {i j : Int} (h : j ≠ 0) (k : j.natAbs < 2 ^ 1000) : CDv i j := ⟨h, by
  unfold Builtin.divisionGoesByPylong
  have h0 : j.natAbs ≠ 0 := by omega
  have := (Nat.log2_lt h0).mpr k
  have e : (j == 0) = false := by simpa using h
  simp only [e]
  simp
  intro z
  omega⟩

theorem le_sz : (2 : Nat) ≤ sizeLine := by rw [sizeLine_eq]; omega
theorem gcd_pos {t b : Int} (h : 1 ≤ b) : (0 : Int) < (Int.gcd t b : Int) := by
  have : 0 < Int.gcd t b := Nat.pos_of_ne_zero fun z => by
    have := (Int.gcd_eq_zero_iff.mp z).2
    omega
  omega
theorem gcd_le {t b : Int} (h : 1 ≤ b) : Int.gcd t b ≤ b.natAbs := Nat.le_of_dvd (by omega) (Nat.gcd_dvd_right _ _)

/-- the pot at p, its count at most n -/
def Pot (S : Sto) (p : Addr) (n : Int) : Prop := ∃ own x c : Int, S p = some [.int own, .int x, .int c] ∧ 0 ≤ own ∧ own < 2 ^ 1000 ∧ 0 ≤ x ∧ x < 2 ^ 62 ∧ 0 ≤ c ∧ c ≤ n

section
variable {S : Sto} {Q : WK} {p : Addr} {a b c : Vl} {l : List Vl}
theorem ixL0 (h : S p = some (a :: l)) : ixW (.lst p) (.int 0) S Q = Q a S := by
  show (match S p with
    | some ws => ∃ w, atI ws 0 = some w ∧ Q w S
    | none => False) = _
  rw [h]
  have e : atI (a :: l) 0 = some a := by simp [atI, ixN]
  simp only [e]; simp
theorem ixL1 (h : S p = some (a :: b :: l)) : ixW (.lst p) (.int 1) S Q = Q b S := by
  show (match S p with
    | some ws => ∃ w, atI ws 1 = some w ∧ Q w S
    | none => False) = _
  rw [h]
  have h1 : ((1 : Int) < ((l.length : Int) + 1 + 1)) := by omega
  have e : atI (a :: b :: l) 1 = some b := by simp [atI, ixN, h1]
  simp only [e]; simp
theorem ixL2 (h : S p = some (a :: b :: c :: l)) : ixW (.lst p) (.int 2) S Q = Q c S := by
  show (match S p with
    | some ws => ∃ w, atI ws 2 = some w ∧ Q w S
    | none => False) = _
  rw [h]
  have h1 : ((2 : Int) < ((l.length : Int) + 1 + 1 + 1)) := by omega
  have e : atI (a :: b :: c :: l) 2 = some c := by simp [atI, ixN, h1]
  simp only [e]; simp
end
theorem setL0 {S : Sto} {p : Addr} {a w : Vl} {l : List Vl} {K : Sto → Prop} (h : S p = some (a :: l)) (q : K (S.upd p (w :: l))) : setL (.lst p) (.int 0) w S K :=
  ⟨_, 0, h, by simp [ixN], q⟩
theorem setL2 {S : Sto} {p : Addr} {a b c w : Vl} {l : List Vl} {K : Sto → Prop} (h : S p = some (a :: b :: c :: l)) (q : K (S.upd p (a :: b :: w :: l))) : setL (.lst p) (.int 2) w S K :=
  ⟨_, 2, h, by
    have h1 : ((2 : Int) < ((l.length : Int) + 1 + 1 + 1)) := by omega
    simp [ixN, h1], q⟩
theorem ixIn {S : Sto} {p : Addr} {ws : List Vl} {k : Int} {Q : WK} (h : S p = some ws) (k0 : 0 ≤ k) (k1 : k < ws.length) (q : ∀ w ∈ ws, Q w S) : ixW (.lst p) (.int k) S Q := by
  show (match S p with
    | some ws => ∃ w, atI ws k = some w ∧ Q w S
    | none => False)
  rw [h]
  have k2 : k.toNat < ws.length := by omega
  refine ⟨ws[k.toNat], ?_, q _ (List.getElem_mem k2)⟩
  simp [atI, ixN, k0, k1, k2]
theorem nb_mul {a b : Int} {m n : Nat} (h : a.natAbs < 2 ^ m) (k : b.natAbs < 2 ^ n) : (a * b).natAbs < 2 ^ (m + n) := by
  rw [Int.natAbs_mul, Nat.pow_add]
  exact Nat.mul_lt_mul'' h k
theorem nb_add {a b : Int} {m : Nat} (h : a.natAbs < 2 ^ m) (k : b.natAbs < 2 ^ m) : (a + b).natAbs < 2 ^ (m + 1) := by
  have := Int.natAbs_add_le a b
  rw [Nat.pow_succ]
  omega
theorem nb_up {a : Int} {m n : Nat} (h : a.natAbs < 2 ^ m) (k : m ≤ n) : a.natAbs < 2 ^ n := Nat.lt_of_lt_of_le h (Nat.pow_le_pow_right (by decide) k)
theorem fm_range {a u : Int} (h : 0 < u) : 0 ≤ a.fmod u ∧ a.fmod u < u := ⟨Int.fmod_nonneg_of_pos _ h, Int.fmod_lt_of_pos _ h⟩
theorem le5 : (5 : Nat) ≤ sizeLine := by rw [sizeLine_eq]; omega

theorem wsub_up2 {S S' : Sto} {p : Addr} {ws : List Vl} (h : wsub S S') : wsub (S.upd p ws) (S'.upd p ws) := fun a us e => by
  by_cases z : a = p
  · subst z
    rw [Sto.upd_same] at e ⊢
    exact e
  · rw [Sto.upd_ne z] at e ⊢
    exact h a us e
theorem wsub_none {S S' : Sto} {p : Addr} (h : wsub S S') (n : S' p = none) : S p = none := by
  cases e : S p with
  | none => rfl
  | some ws => rw [h p ws e] at n; cases n

/-- X is as S, but for p and for what is new -/
def Cp (S : Sto) (p : Addr) (X : Sto) : Prop := ∀ a ws, a ≠ p → S a = some ws → X a = some ws
theorem Cp.refl {S : Sto} {p : Addr} : Cp S p S := fun _ _ _ h => h
theorem Cp.upd {S X : Sto} {p : Addr} {ws : List Vl} (h : Cp S p X) : Cp S p (X.upd p ws) := fun a us n e => by
  rw [Sto.upd_ne n]; exact h a us n e
theorem Cp.new {S X : Sto} {p q : Addr} {ws : List Vl} (h : Cp S p X) (n : X q = none) : Cp S p (X.upd q ws) := fun a us m e => by
  have := h a us m e
  rw [Sto.upd_ne (fun z => by rw [z, n] at this; cases this)]
  exact this
theorem Cp.ws {S X : Sto} {p : Addr} {ws : List Vl} (h : Cp S p X) (e : X p = some ws) : wsub (S.upd p ws) X := fun a us m => by
  by_cases z : a = p
  · subst z; rw [Sto.upd_same] at m; rw [e, m]
  · rw [Sto.upd_ne z] at m; exact h a us z m
theorem Pot.get {S : Sto} {p : Addr} {n : Int} (h : Pot S p n) : ∃ ws, S p = some ws ∧ ∀ T : Sto, T p = some ws → Pot T p n := by
  obtain ⟨own, x, c, hS, r⟩ := h
  exact ⟨_, hS, fun T e => ⟨own, x, c, e, r⟩⟩
theorem Pot.mono {S : Sto} {p : Addr} {n m : Int} (h : Pot S p n) (l : n ≤ m) : Pot S p m := by
  obtain ⟨own, x, c, hS, a, b, d, e, f, g⟩ := h
  exact ⟨own, x, c, hS, a, b, d, e, f, by omega⟩
theorem Pot.new {S : Sto} {p q : Addr} {n : Int} {l : List Vl} (h : Pot S p n) (m : S q = none) : Pot (S.upd q l) p n ∧ p ≠ q := by
  obtain ⟨ws, e, f⟩ := h.get
  have : p ≠ q := fun z => by rw [z, m] at e; cases e
  exact ⟨f _ (by rw [Sto.upd_ne this]; exact e), this⟩
theorem Pot.fin {S X : Sto} {p : Addr} {n : Int} (c : Cp S p X) (h : Pot X p n) : ∃ ws', wsub (S.upd p ws') X ∧ Pot (S.upd p ws') p n := by
  obtain ⟨ws, e, f⟩ := h.get
  exact ⟨ws, c.ws e, f _ Sto.upd_same⟩
theorem lo_spec {t b : Int} (h : 1 ≤ b) : ∃ x y, lo t b = nu x y ∧ 1 ≤ y ∧ y ≤ b ∧ Int.gcd x y = 1 ∧ x.natAbs ≤ t.natAbs ∧ t * y = x * b := by
  have gp := gcd_pos (t := t) h
  have g1 : ((Int.gcd t b : Nat) : Int) ∣ t := Int.gcd_dvd_left ..
  have g2 : ((Int.gcd t b : Nat) : Int) ∣ b := Int.gcd_dvd_right ..
  have e3 : Int.gcd (t / (Int.gcd t b : Int)) (b / (Int.gcd t b : Int)) = 1 := by
    have := Int.gcd_ediv_gcd_ediv_gcd (i := t) (j := b) (by omega)
    exact this
  unfold lo
  generalize (Int.gcd t b : Int) = g at gp g1 g2 e3
  obtain ⟨x, rfl⟩ := g1
  obtain ⟨y, rfl⟩ := g2
  rw [Int.mul_ediv_cancel_left _ (by omega), Int.mul_ediv_cancel_left _ (by omega)] at e3 ⊢
  have y1 : 0 < y := QM.mul_pos1 gp (by rw [Int.mul_comm] at h; omega)
  refine ⟨x, y, rfl, by omega, ?_, e3, ?_, ?_⟩
  · have := Int.mul_le_mul_of_nonneg_right (show 1 ≤ g by omega) (show 0 ≤ y by omega)
    omega
  · rw [Int.natAbs_mul]
    exact Nat.le_mul_of_pos_left _ (by omega)
  · rw [Int.mul_comm g x, Int.mul_assoc]

def sTake : SpW := fun ws S Q _ => match ws with
  | [.lst p, .int u] => 1 ≤ u ∧ u < 2 ^ 62 ∧ ∃ n, n ≤ 10 ^ 6 ∧ Pot S p n ∧ ∀ d ws', 0 ≤ d → d < u → Pot (S.upd p ws') p (n + 1) → Q (.int d) (S.upd p ws')
  | _ => False

theorem tTake (Γ sb ws S Q E) (h : sTake ws S Q E) : rdB bTake ⟨Γ, E, sb⟩ (endW Q) (startW 5 ws) S := by
  unfold sTake at h
  split at h
  · rename_i p u
    obtain ⟨u1, u2, n, hn, ⟨own, x, c, hS, o1, o2, x1, x2, c1, c2⟩, h⟩ := h
    have ub : u.natAbs < 2 ^ 1000 := by
      have : (2 : Nat) ^ 62 < 2 ^ 1000 := Nat.pow_lt_pow_right (by decide) (by decide)
      omega
    unfold bTake
    simp only [PW.o_nil, PW.o_seq, PW.o_asg, PW.o_par, PW.o_asgI, PW.o_aug, PW.o_augI, PW.o_ex, PW.o_ret, PW.o_retN, PW.o_ifs, PW.o_for, PW.o_whl, PW.o_rais, PW.o_brk, PW.o_cnt, PW.o_pass, PW.e_var, PW.e_int, PW.e_bl, PW.e_non, PW.e_str, PW.e_gint, PW.e_gti, PW.e_gtt, PW.e_gst, PW.e_rev, PW.e_cls, PW.e_ty, PW.e_tup, PW.e_lst, PW.e_bin, PW.e_neg, PW.e_not, PW.e_and, PW.e_or, PW.e_cmp, PW.e_chn, PW.e_ite, PW.e_ix, PW.e_slc, PW.e_call, PW.e_callk, PW.e_blt, PW.e_mth, PW.e_lrng, PW.e_att, PW.e_hrd, PW.e_comp, PW.e_comp2, PW.t_var, PW.t_bl, PW.t_cmp, PW.t_chn, PW.t_not, PW.t_and, PW.t_or, PW.t_ite, PW.t_call, PW.t_callk, PW.t_blt, PW.t_ix, PW.a_nil, PW.a_cons, PW.a_scons, PW.p_nil, PW.p_int, PW.p_var, PW.p_bin, PW.p_neg, PW.c_cmp, PW.c_chn, PW.c_not, PW.c_and, PW.c_or, PW.c_call, PW.c_blt, PW.c_var, PW.t_int, PW.c_nil, PW.i_rng, PW.i_enm, PW.i_revd, PW.i_zp, PW.i_var, PW.i_tup, PW.i_rev, PW.i_comp, PW.i_ix, PW.i_gti, PW.i_call, PW.i_slc, PW.op_add, PW.op_sub, PW.op_mul, PW.op_fdv, PW.op_mod, PW.op_pow, PW.op_addS, PW.op_addT, PW.op_addL, PW.op_repL, PW.cm_lt, PW.cm_le, PW.cm_gt, PW.cm_ge, PW.cm_eq, PW.cm_ne, PW.cm_eqS, PW.cm_neS, PW.cm_eqT, PW.cm_neT, PW.cm_eqL, PW.cm_neL, PW.cm_inT, PW.cm_niT, PW.cm_eqB, PW.cm_isNN, PW.cm_isNE, PW.cm_isNT, PW.cm_isNI, PW.cm_noNN, PW.cm_noNE, PW.cm_noNT, PW.cm_noNI, PW.tr_bl, PW.tr_int, PW.tr_non, PW.tr_lst, PW.tr_rol, PW.tr_tup, PW.ix_rol, PW.b_abs, PW.b_int, PW.b_boolI, PW.b_boolB, PW.b_intB, PW.b_max, PW.b_min, PW.b_lenT, PW.b_lenR, PW.b_lenL, PW.b_sum, PW.b_all, PW.b_any, PW.b_sorted, PW.b_tupT, PW.b_listT, PW.b_listL, PW.b_isN, PW.b_isB, PW.b_isS, PW.b_tupL, PW.b_isI, PW.b_isT, PW.b_isE, PW.m_pop, PW.m_ext, PW.m_rev, PW.m_app, PW.g_nm, PW.g_tup, PW.g_cons, PW.g_nil, endW, startW, List.map_cons, List.map_nil, List.length_cons, List.length_nil, List.replicate, Nat.reduceAdd, Nat.reduceSub, Nat.zero_add, List.cons_append, List.nil_append, List.append_nil, List.getElem?_cons_zero, List.getElem?_cons_succ, List.set_cons_zero, List.set_cons_succ, setS, T.alen, ixL0 hS, ixL1 hS, ixL2 hS]
    by_cases ho : 0 < own
    · simp only [decide_eq_true ho, if_true]
      refine ⟨by omega, cdvS (by omega) ub, setL0 hS ?_⟩
      simp only [PW.o_nil, PW.o_seq, PW.o_asg, PW.o_par, PW.o_asgI, PW.o_aug, PW.o_augI, PW.o_ex, PW.o_ret, PW.o_retN, PW.o_ifs, PW.o_for, PW.o_whl, PW.o_rais, PW.o_brk, PW.o_cnt, PW.o_pass, PW.e_var, PW.e_int, PW.e_bl, PW.e_non, PW.e_str, PW.e_gint, PW.e_gti, PW.e_gtt, PW.e_gst, PW.e_rev, PW.e_cls, PW.e_ty, PW.e_tup, PW.e_lst, PW.e_bin, PW.e_neg, PW.e_not, PW.e_and, PW.e_or, PW.e_cmp, PW.e_chn, PW.e_ite, PW.e_ix, PW.e_slc, PW.e_call, PW.e_callk, PW.e_blt, PW.e_mth, PW.e_lrng, PW.e_att, PW.e_hrd, PW.e_comp, PW.e_comp2, PW.t_var, PW.t_bl, PW.t_cmp, PW.t_chn, PW.t_not, PW.t_and, PW.t_or, PW.t_ite, PW.t_call, PW.t_callk, PW.t_blt, PW.t_ix, PW.a_nil, PW.a_cons, PW.a_scons, PW.p_nil, PW.p_int, PW.p_var, PW.p_bin, PW.p_neg, PW.c_cmp, PW.c_chn, PW.c_not, PW.c_and, PW.c_or, PW.c_call, PW.c_blt, PW.c_var, PW.t_int, PW.c_nil, PW.i_rng, PW.i_enm, PW.i_revd, PW.i_zp, PW.i_var, PW.i_tup, PW.i_rev, PW.i_comp, PW.i_ix, PW.i_gti, PW.i_call, PW.i_slc, PW.op_add, PW.op_sub, PW.op_mul, PW.op_fdv, PW.op_mod, PW.op_pow, PW.op_addS, PW.op_addT, PW.op_addL, PW.op_repL, PW.cm_lt, PW.cm_le, PW.cm_gt, PW.cm_ge, PW.cm_eq, PW.cm_ne, PW.cm_eqS, PW.cm_neS, PW.cm_eqT, PW.cm_neT, PW.cm_eqL, PW.cm_neL, PW.cm_inT, PW.cm_niT, PW.cm_eqB, PW.cm_isNN, PW.cm_isNE, PW.cm_isNT, PW.cm_isNI, PW.cm_noNN, PW.cm_noNE, PW.cm_noNT, PW.cm_noNI, PW.tr_bl, PW.tr_int, PW.tr_non, PW.tr_lst, PW.tr_rol, PW.tr_tup, PW.ix_rol, PW.b_abs, PW.b_int, PW.b_boolI, PW.b_boolB, PW.b_intB, PW.b_max, PW.b_min, PW.b_lenT, PW.b_lenR, PW.b_lenL, PW.b_sum, PW.b_all, PW.b_any, PW.b_sorted, PW.b_tupT, PW.b_listT, PW.b_listL, PW.b_isN, PW.b_isB, PW.b_isS, PW.b_tupL, PW.b_isI, PW.b_isT, PW.b_isE, PW.m_pop, PW.m_ext, PW.m_rev, PW.m_app, PW.g_nm, PW.g_tup, PW.g_cons, PW.g_nil, endW, startW, List.map_cons, List.map_nil, List.length_cons, List.length_nil, List.replicate, Nat.reduceAdd, Nat.reduceSub, Nat.zero_add, List.cons_append, List.nil_append, List.append_nil, List.getElem?_cons_zero, List.getElem?_cons_succ, List.set_cons_zero, List.set_cons_succ, setS, T.alen]
      refine ret_all (h _ _ (fm_range (by omega)).1 (fm_range (by omega)).2 ⟨own.fdiv u, x, c, Sto.upd_same, ?_, ?_, x1, x2, c1, by omega⟩)
      · exact Int.fdiv_nonneg o1 (by omega)
      · refine Int.lt_of_le_of_lt ?_ o2
        rw [Int.fdiv_eq_ediv_of_nonneg _ (by omega)]
        exact Int.ediv_le_self _ o1
    · simp only [decide_eq_false ho, Bool.false_eq_true, if_false]
      refine setL2 hS ?_
      have h1 : (S.upd p [.int own, .int x, .int (c + 1)]) p = some [.int own, .int x, .int (c + 1)] := Sto.upd_same
      generalize hT : S.upd p [.int own, .int x, .int (c + 1)] = S1 at h1
      simp only [PW.o_nil, PW.o_seq, PW.o_asg, PW.o_par, PW.o_asgI, PW.o_aug, PW.o_augI, PW.o_ex, PW.o_ret, PW.o_retN, PW.o_ifs, PW.o_for, PW.o_whl, PW.o_rais, PW.o_brk, PW.o_cnt, PW.o_pass, PW.e_var, PW.e_int, PW.e_bl, PW.e_non, PW.e_str, PW.e_gint, PW.e_gti, PW.e_gtt, PW.e_gst, PW.e_rev, PW.e_cls, PW.e_ty, PW.e_tup, PW.e_lst, PW.e_bin, PW.e_neg, PW.e_not, PW.e_and, PW.e_or, PW.e_cmp, PW.e_chn, PW.e_ite, PW.e_ix, PW.e_slc, PW.e_call, PW.e_callk, PW.e_blt, PW.e_mth, PW.e_lrng, PW.e_att, PW.e_hrd, PW.e_comp, PW.e_comp2, PW.t_var, PW.t_bl, PW.t_cmp, PW.t_chn, PW.t_not, PW.t_and, PW.t_or, PW.t_ite, PW.t_call, PW.t_callk, PW.t_blt, PW.t_ix, PW.a_nil, PW.a_cons, PW.a_scons, PW.p_nil, PW.p_int, PW.p_var, PW.p_bin, PW.p_neg, PW.c_cmp, PW.c_chn, PW.c_not, PW.c_and, PW.c_or, PW.c_call, PW.c_blt, PW.c_var, PW.t_int, PW.c_nil, PW.i_rng, PW.i_enm, PW.i_revd, PW.i_zp, PW.i_var, PW.i_tup, PW.i_rev, PW.i_comp, PW.i_ix, PW.i_gti, PW.i_call, PW.i_slc, PW.op_add, PW.op_sub, PW.op_mul, PW.op_fdv, PW.op_mod, PW.op_pow, PW.op_addS, PW.op_addT, PW.op_addL, PW.op_repL, PW.cm_lt, PW.cm_le, PW.cm_gt, PW.cm_ge, PW.cm_eq, PW.cm_ne, PW.cm_eqS, PW.cm_neS, PW.cm_eqT, PW.cm_neT, PW.cm_eqL, PW.cm_neL, PW.cm_inT, PW.cm_niT, PW.cm_eqB, PW.cm_isNN, PW.cm_isNE, PW.cm_isNT, PW.cm_isNI, PW.cm_noNN, PW.cm_noNE, PW.cm_noNT, PW.cm_noNI, PW.tr_bl, PW.tr_int, PW.tr_non, PW.tr_lst, PW.tr_rol, PW.tr_tup, PW.ix_rol, PW.b_abs, PW.b_int, PW.b_boolI, PW.b_boolB, PW.b_intB, PW.b_max, PW.b_min, PW.b_lenT, PW.b_lenR, PW.b_lenL, PW.b_sum, PW.b_all, PW.b_any, PW.b_sorted, PW.b_tupT, PW.b_listT, PW.b_listL, PW.b_isN, PW.b_isB, PW.b_isS, PW.b_tupL, PW.b_isI, PW.b_isT, PW.b_isE, PW.m_pop, PW.m_ext, PW.m_rev, PW.m_app, PW.g_nm, PW.g_tup, PW.g_cons, PW.g_nil, endW, startW, List.map_cons, List.map_nil, List.length_cons, List.length_nil, List.replicate, Nat.reduceAdd, Nat.reduceSub, Nat.zero_add, List.cons_append, List.nil_append, List.append_nil, List.getElem?_cons_zero, List.getElem?_cons_succ, List.set_cons_zero, List.set_cons_succ, setS, T.alen, ixL0 h1, ixL1 h1, ixL2 h1, newL]
      refine ⟨le5, fun q hq => ?_⟩
      have h2 : (S1.upd q [.int 2147483647, .int 2147483629, .int 2147483587, .int 2147483579, .int 2147483563]) p = some [.int own, .int x, .int (c + 1)] := by
        rw [Sto.upd_ne (fun z => by rw [z, hq] at h1; cases h1)]
        exact h1
      have hw : wsub S1 (S1.upd q [.int 2147483647, .int 2147483629, .int 2147483587, .int 2147483579, .int 2147483563]) := wsub_upd (wsub_refl S1) hq
      have h3 : (S1.upd q [.int 2147483647, .int 2147483629, .int 2147483587, .int 2147483579, .int 2147483563]) q = some [.int 2147483647, .int 2147483629, .int 2147483587, .int 2147483579, .int 2147483563] := Sto.upd_same
      generalize S1.upd q [.int 2147483647, .int 2147483629, .int 2147483587, .int 2147483579, .int 2147483563] = S2 at h2 h3 hw
      simp only [PW.o_nil, PW.o_seq, PW.o_asg, PW.o_par, PW.o_asgI, PW.o_aug, PW.o_augI, PW.o_ex, PW.o_ret, PW.o_retN, PW.o_ifs, PW.o_for, PW.o_whl, PW.o_rais, PW.o_brk, PW.o_cnt, PW.o_pass, PW.e_var, PW.e_int, PW.e_bl, PW.e_non, PW.e_str, PW.e_gint, PW.e_gti, PW.e_gtt, PW.e_gst, PW.e_rev, PW.e_cls, PW.e_ty, PW.e_tup, PW.e_lst, PW.e_bin, PW.e_neg, PW.e_not, PW.e_and, PW.e_or, PW.e_cmp, PW.e_chn, PW.e_ite, PW.e_ix, PW.e_slc, PW.e_call, PW.e_callk, PW.e_blt, PW.e_mth, PW.e_lrng, PW.e_att, PW.e_hrd, PW.e_comp, PW.e_comp2, PW.t_var, PW.t_bl, PW.t_cmp, PW.t_chn, PW.t_not, PW.t_and, PW.t_or, PW.t_ite, PW.t_call, PW.t_callk, PW.t_blt, PW.t_ix, PW.a_nil, PW.a_cons, PW.a_scons, PW.p_nil, PW.p_int, PW.p_var, PW.p_bin, PW.p_neg, PW.c_cmp, PW.c_chn, PW.c_not, PW.c_and, PW.c_or, PW.c_call, PW.c_blt, PW.c_var, PW.t_int, PW.c_nil, PW.i_rng, PW.i_enm, PW.i_revd, PW.i_zp, PW.i_var, PW.i_tup, PW.i_rev, PW.i_comp, PW.i_ix, PW.i_gti, PW.i_call, PW.i_slc, PW.op_add, PW.op_sub, PW.op_mul, PW.op_fdv, PW.op_mod, PW.op_pow, PW.op_addS, PW.op_addT, PW.op_addL, PW.op_repL, PW.cm_lt, PW.cm_le, PW.cm_gt, PW.cm_ge, PW.cm_eq, PW.cm_ne, PW.cm_eqS, PW.cm_neS, PW.cm_eqT, PW.cm_neT, PW.cm_eqL, PW.cm_neL, PW.cm_inT, PW.cm_niT, PW.cm_eqB, PW.cm_isNN, PW.cm_isNE, PW.cm_isNT, PW.cm_isNI, PW.cm_noNN, PW.cm_noNE, PW.cm_noNT, PW.cm_noNI, PW.tr_bl, PW.tr_int, PW.tr_non, PW.tr_lst, PW.tr_rol, PW.tr_tup, PW.ix_rol, PW.b_abs, PW.b_int, PW.b_boolI, PW.b_boolB, PW.b_intB, PW.b_max, PW.b_min, PW.b_lenT, PW.b_lenR, PW.b_lenL, PW.b_sum, PW.b_all, PW.b_any, PW.b_sorted, PW.b_tupT, PW.b_listT, PW.b_listL, PW.b_isN, PW.b_isB, PW.b_isS, PW.b_tupL, PW.b_isI, PW.b_isT, PW.b_isE, PW.m_pop, PW.m_ext, PW.m_rev, PW.m_app, PW.g_nm, PW.g_tup, PW.g_cons, PW.g_nil, endW, startW, List.map_cons, List.map_nil, List.length_cons, List.length_nil, List.replicate, Nat.reduceAdd, Nat.reduceSub, Nat.zero_add, List.cons_append, List.nil_append, List.append_nil, List.getElem?_cons_zero, List.getElem?_cons_succ, List.set_cons_zero, List.set_cons_succ, setS, T.alen, ixL2 h2]
      refine ⟨by decide, ixIn h3 (fm_range (by decide)).1 (fm_range (by decide)).2 ?_⟩
      intro w hm
      obtain ⟨v, rfl, v1, v2⟩ : ∃ v : Int, w = .int v ∧ 0 < v ∧ v < 2 ^ 31 := by
        simp only [List.mem_cons, List.not_mem_nil, or_false] at hm
        rcases hm with rfl | rfl | rfl | rfl | rfl <;> exact ⟨_, rfl, by decide, by decide⟩
      simp only [PW.o_nil, PW.o_seq, PW.o_asg, PW.o_par, PW.o_asgI, PW.o_aug, PW.o_augI, PW.o_ex, PW.o_ret, PW.o_retN, PW.o_ifs, PW.o_for, PW.o_whl, PW.o_rais, PW.o_brk, PW.o_cnt, PW.o_pass, PW.e_var, PW.e_int, PW.e_bl, PW.e_non, PW.e_str, PW.e_gint, PW.e_gti, PW.e_gtt, PW.e_gst, PW.e_rev, PW.e_cls, PW.e_ty, PW.e_tup, PW.e_lst, PW.e_bin, PW.e_neg, PW.e_not, PW.e_and, PW.e_or, PW.e_cmp, PW.e_chn, PW.e_ite, PW.e_ix, PW.e_slc, PW.e_call, PW.e_callk, PW.e_blt, PW.e_mth, PW.e_lrng, PW.e_att, PW.e_hrd, PW.e_comp, PW.e_comp2, PW.t_var, PW.t_bl, PW.t_cmp, PW.t_chn, PW.t_not, PW.t_and, PW.t_or, PW.t_ite, PW.t_call, PW.t_callk, PW.t_blt, PW.t_ix, PW.a_nil, PW.a_cons, PW.a_scons, PW.p_nil, PW.p_int, PW.p_var, PW.p_bin, PW.p_neg, PW.c_cmp, PW.c_chn, PW.c_not, PW.c_and, PW.c_or, PW.c_call, PW.c_blt, PW.c_var, PW.t_int, PW.c_nil, PW.i_rng, PW.i_enm, PW.i_revd, PW.i_zp, PW.i_var, PW.i_tup, PW.i_rev, PW.i_comp, PW.i_ix, PW.i_gti, PW.i_call, PW.i_slc, PW.op_add, PW.op_sub, PW.op_mul, PW.op_fdv, PW.op_mod, PW.op_pow, PW.op_addS, PW.op_addT, PW.op_addL, PW.op_repL, PW.cm_lt, PW.cm_le, PW.cm_gt, PW.cm_ge, PW.cm_eq, PW.cm_ne, PW.cm_eqS, PW.cm_neS, PW.cm_eqT, PW.cm_neT, PW.cm_eqL, PW.cm_neL, PW.cm_inT, PW.cm_niT, PW.cm_eqB, PW.cm_isNN, PW.cm_isNE, PW.cm_isNT, PW.cm_isNI, PW.cm_noNN, PW.cm_noNE, PW.cm_noNT, PW.cm_noNI, PW.tr_bl, PW.tr_int, PW.tr_non, PW.tr_lst, PW.tr_rol, PW.tr_tup, PW.ix_rol, PW.b_abs, PW.b_int, PW.b_boolI, PW.b_boolB, PW.b_intB, PW.b_max, PW.b_min, PW.b_lenT, PW.b_lenR, PW.b_lenL, PW.b_sum, PW.b_all, PW.b_any, PW.b_sorted, PW.b_tupT, PW.b_listT, PW.b_listL, PW.b_isN, PW.b_isB, PW.b_isS, PW.b_tupL, PW.b_isI, PW.b_isT, PW.b_isE, PW.m_pop, PW.m_ext, PW.m_rev, PW.m_app, PW.g_nm, PW.g_tup, PW.g_cons, PW.g_nil, endW, startW, List.map_cons, List.map_nil, List.length_cons, List.length_nil, List.replicate, Nat.reduceAdd, Nat.reduceSub, Nat.zero_add, List.cons_append, List.nil_append, List.append_nil, List.getElem?_cons_zero, List.getElem?_cons_succ, List.set_cons_zero, List.set_cons_succ, setS, T.alen, ixL0 h2, ixL1 h2, ixL2 h2, newL]
      have cb : (c + 1).natAbs < 2 ^ 20 := by omega
      have xb : x.natAbs < 2 ^ 62 := by omega
      have b1 : (96443 * (c + 1) : Int).natAbs < 2 ^ (17 + 20) := nb_mul (by decide) cb
      have b2 : (96443 * (c + 1) * (c + 1) : Int).natAbs < 2 ^ (17 + 20 + 20) := nb_mul b1 cb
      have b3 : (x + 96443 * (c + 1) * (c + 1) : Int).natAbs < 2 ^ (62 + 1) := nb_add xb (nb_up b2 (by decide))
      have b4 : (x + 96443 * (c + 1) * (c + 1) + 3163 : Int).natAbs < 2 ^ (62 + 1 + 1) := nb_add b3 (by decide)
      refine ⟨mulS (by decide) (nb_up cb (by decide)), mulS (nb_up b1 (by decide)) (nb_up cb (by decide)), ⟨by decide, ?_⟩, by omega, ?_⟩
      · have := bits_small (nb_up b4 (by decide))
        omega
      generalize (x + 96443 * (c + 1) * (c + 1) + 3163) ^ Int.toNat 3 = y
      obtain ⟨f1, f2⟩ := @fm_range y v v1
      generalize y.fmod v = z at f1 f2
      have zb : z.natAbs < 2 ^ 31 := by omega
      have g1 : (z.fmod 12823).natAbs < 2 ^ 40 := by
        have := @fm_range z 12823 (by decide)
        omega
      have g2 : (367 * (c + 1) : Int).natAbs < 2 ^ (9 + 20) := nb_mul (by decide) cb
      refine ⟨by decide, mulS (by decide) (nb_up cb (by decide)), mulS (nb_up zb (by decide)) (nb_up (nb_add g1 (nb_up g2 (by decide))) (by decide)), by decide, ?_⟩
      refine ⟨cdvS (by decide) (by decide), by omega, ret_to hw ?_⟩
      rw [← hT]
      exact h _ _ (fm_range (by omega)).1 (fm_range (by omega)).2 ⟨own, x, c + 1, Sto.upd_same, o1, o2, x1, x2, by omega, by omega⟩
  · exact h.elim

def sOf : SpW := fun ws S Q _ => match ws with
  | [.lst p, .lst q] => p ≠ q ∧ ∃ n, n ≤ 10 ^ 6 ∧ Pot S p n ∧ ∃ us, S q = some us ∧ 1 ≤ us.length ∧ us.length ≤ 10 ^ 6 ∧ ∀ w ws', w ∈ us → Pot (S.upd p ws') p (n + 1) → Q w (S.upd p ws')
  | _ => False

theorem tOf (t : Nat) (Γ : Nat → SpW) (sb ws S Q E) (g : Γ t = sTake) (h : sOf ws S Q E) : rdB (bOf t) ⟨Γ, E, sb⟩ (endW Q) (startW 2 ws) S := by
  unfold sOf at h
  split at h
  · rename_i p q
    obtain ⟨hn, n, n1, hp, us, hq, u1, u2, h⟩ := h
    unfold bOf
    simp only [PW.o_nil, PW.o_seq, PW.o_asg, PW.o_par, PW.o_asgI, PW.o_aug, PW.o_augI, PW.o_ex, PW.o_ret, PW.o_retN, PW.o_ifs, PW.o_for, PW.o_whl, PW.o_rais, PW.o_brk, PW.o_cnt, PW.o_pass, PW.e_var, PW.e_int, PW.e_bl, PW.e_non, PW.e_str, PW.e_gint, PW.e_gti, PW.e_gtt, PW.e_gst, PW.e_rev, PW.e_cls, PW.e_ty, PW.e_tup, PW.e_lst, PW.e_bin, PW.e_neg, PW.e_not, PW.e_and, PW.e_or, PW.e_cmp, PW.e_chn, PW.e_ite, PW.e_ix, PW.e_slc, PW.e_call, PW.e_callk, PW.e_blt, PW.e_mth, PW.e_lrng, PW.e_att, PW.e_hrd, PW.e_comp, PW.e_comp2, PW.t_var, PW.t_bl, PW.t_cmp, PW.t_chn, PW.t_not, PW.t_and, PW.t_or, PW.t_ite, PW.t_call, PW.t_callk, PW.t_blt, PW.t_ix, PW.a_nil, PW.a_cons, PW.a_scons, PW.p_nil, PW.p_int, PW.p_var, PW.p_bin, PW.p_neg, PW.c_cmp, PW.c_chn, PW.c_not, PW.c_and, PW.c_or, PW.c_call, PW.c_blt, PW.c_var, PW.t_int, PW.c_nil, PW.i_rng, PW.i_enm, PW.i_revd, PW.i_zp, PW.i_var, PW.i_tup, PW.i_rev, PW.i_comp, PW.i_ix, PW.i_gti, PW.i_call, PW.i_slc, PW.op_add, PW.op_sub, PW.op_mul, PW.op_fdv, PW.op_mod, PW.op_pow, PW.op_addS, PW.op_addT, PW.op_addL, PW.op_repL, PW.cm_lt, PW.cm_le, PW.cm_gt, PW.cm_ge, PW.cm_eq, PW.cm_ne, PW.cm_eqS, PW.cm_neS, PW.cm_eqT, PW.cm_neT, PW.cm_eqL, PW.cm_neL, PW.cm_inT, PW.cm_niT, PW.cm_eqB, PW.cm_isNN, PW.cm_isNE, PW.cm_isNT, PW.cm_isNI, PW.cm_noNN, PW.cm_noNE, PW.cm_noNT, PW.cm_noNI, PW.tr_bl, PW.tr_int, PW.tr_non, PW.tr_lst, PW.tr_rol, PW.tr_tup, PW.ix_rol, PW.b_abs, PW.b_int, PW.b_boolI, PW.b_boolB, PW.b_intB, PW.b_max, PW.b_min, PW.b_lenT, PW.b_lenR, PW.b_lenL, PW.b_sum, PW.b_all, PW.b_any, PW.b_sorted, PW.b_tupT, PW.b_listT, PW.b_listL, PW.b_isN, PW.b_isB, PW.b_isS, PW.b_tupL, PW.b_isI, PW.b_isT, PW.b_isE, PW.m_pop, PW.m_ext, PW.m_rev, PW.m_app, PW.g_nm, PW.g_tup, PW.g_cons, PW.g_nil, endW, startW, List.map_cons, List.map_nil, List.length_cons, List.length_nil, List.replicate, Nat.reduceAdd, Nat.reduceSub, Nat.zero_add, List.cons_append, List.nil_append, List.append_nil, List.getElem?_cons_zero, List.getElem?_cons_succ, List.set_cons_zero, List.set_cons_succ, setS, T.alen, g, sTake]
    refine ⟨us, hq, by omega, by omega, n, n1, hp, fun d ws' d0 d1 hp' => ?_⟩
    have hq' : (S.upd p ws') q = some us := by rw [Sto.upd_ne (fun z => hn z.symm)]; exact hq
    exact ixIn hq' d0 d1 fun w hw => ret_all (h w ws' hw hp')
  · exact h.elim

def sCells : SpW := fun ws S Q _ => match ws with
  | [.rol us, .int m] => 1 ≤ m ∧ m ≤ 10 ^ 6 ∧ ∀ (p : Addr) (k : Nat), S p = none → 1 ≤ k → (k : Int) ≤ m → Q (.lst p) (S.upd p (rangeW 0 k))
  | _ => False

theorem tCells (Γ sb ws S Q E) (h : sCells ws S Q E) : rdB bCells ⟨Γ, E, sb⟩ (endW Q) (startW 2 ws) S := by
  unfold sCells at h
  split at h
  · rename_i us m
    obtain ⟨m1, m2, h⟩ := h
    unfold bCells
    simp only [PW.o_nil, PW.o_seq, PW.o_asg, PW.o_par, PW.o_asgI, PW.o_aug, PW.o_augI, PW.o_ex, PW.o_ret, PW.o_retN, PW.o_ifs, PW.o_for, PW.o_whl, PW.o_rais, PW.o_brk, PW.o_cnt, PW.o_pass, PW.e_var, PW.e_int, PW.e_bl, PW.e_non, PW.e_str, PW.e_gint, PW.e_gti, PW.e_gtt, PW.e_gst, PW.e_rev, PW.e_cls, PW.e_ty, PW.e_tup, PW.e_lst, PW.e_bin, PW.e_neg, PW.e_not, PW.e_and, PW.e_or, PW.e_cmp, PW.e_chn, PW.e_ite, PW.e_ix, PW.e_slc, PW.e_call, PW.e_callk, PW.e_blt, PW.e_mth, PW.e_lrng, PW.e_att, PW.e_hrd, PW.e_comp, PW.e_comp2, PW.t_var, PW.t_bl, PW.t_cmp, PW.t_chn, PW.t_not, PW.t_and, PW.t_or, PW.t_ite, PW.t_call, PW.t_callk, PW.t_blt, PW.t_ix, PW.a_nil, PW.a_cons, PW.a_scons, PW.p_nil, PW.p_int, PW.p_var, PW.p_bin, PW.p_neg, PW.c_cmp, PW.c_chn, PW.c_not, PW.c_and, PW.c_or, PW.c_call, PW.c_blt, PW.c_var, PW.t_int, PW.c_nil, PW.i_rng, PW.i_enm, PW.i_revd, PW.i_zp, PW.i_var, PW.i_tup, PW.i_rev, PW.i_comp, PW.i_ix, PW.i_gti, PW.i_call, PW.i_slc, PW.op_add, PW.op_sub, PW.op_mul, PW.op_fdv, PW.op_mod, PW.op_pow, PW.op_addS, PW.op_addT, PW.op_addL, PW.op_repL, PW.cm_lt, PW.cm_le, PW.cm_gt, PW.cm_ge, PW.cm_eq, PW.cm_ne, PW.cm_eqS, PW.cm_neS, PW.cm_eqT, PW.cm_neT, PW.cm_eqL, PW.cm_neL, PW.cm_inT, PW.cm_niT, PW.cm_eqB, PW.cm_isNN, PW.cm_isNE, PW.cm_isNT, PW.cm_isNI, PW.cm_noNN, PW.cm_noNE, PW.cm_noNT, PW.cm_noNI, PW.tr_bl, PW.tr_int, PW.tr_non, PW.tr_lst, PW.tr_rol, PW.tr_tup, PW.ix_rol, PW.b_abs, PW.b_int, PW.b_boolI, PW.b_boolB, PW.b_intB, PW.b_max, PW.b_min, PW.b_lenT, PW.b_lenR, PW.b_lenL, PW.b_sum, PW.b_all, PW.b_any, PW.b_sorted, PW.b_tupT, PW.b_listT, PW.b_listL, PW.b_isN, PW.b_isB, PW.b_isS, PW.b_tupL, PW.b_isI, PW.b_isT, PW.b_isE, PW.m_pop, PW.m_ext, PW.m_rev, PW.m_app, PW.g_nm, PW.g_tup, PW.g_cons, PW.g_nil, endW, startW, List.map_cons, List.map_nil, List.length_cons, List.length_nil, List.replicate, Nat.reduceAdd, Nat.reduceSub, Nat.zero_add, List.cons_append, List.nil_append, List.append_nil, List.getElem?_cons_zero, List.getElem?_cons_succ, List.set_cons_zero, List.set_cons_succ, setS, T.alen, newL]
    have e : ∃ k : Nat, (if (if (us.length : Int) < m then (us.length : Int) else m) > 1 then (if (us.length : Int) < m then (us.length : Int) else m) else 1) = (k : Int) ∧ 1 ≤ k ∧ (k : Int) ≤ m := by
      refine ⟨(if (if (us.length : Int) < m then (us.length : Int) else m) > 1 then (if (us.length : Int) < m then (us.length : Int) else m) else 1).toNat, ?_, ?_, ?_⟩ <;> (split <;> (try split) <;> omega)
    obtain ⟨k, e, k1, k2⟩ := e
    rw [e]
    simp only [Int.toNat_natCast]
    exact ⟨⟨by omega, by omega, by omega⟩, fun p hp => ret_all (h p k hp k1 k2)⟩
  · exact h.elim

/-- a fresh pot -/
def sPot : SpW := fun ws S Q _ => match ws with
  | [.rol us, .int pl] => (∃ ns : List Int, us = ns.map Vl.int) ∧ 0 ≤ pl ∧ pl ≤ 10 ^ 6 ∧ ∀ p own x, S p = none → 0 ≤ own → own < 2 ^ 1000 → 0 ≤ x → x < 2 ^ 62 → Q (.lst p) (S.upd p [.int own, .int x, .int 0])
  | _ => False

theorem le3 : (3 : Nat) ≤ sizeLine := by rw [sizeLine_eq]; omega
def bPotR : B := (.seq (.asg (.nm 3) (.bin .Mult (.bin .Mod (.blt .int (.cons (.blt .abs (.cons (.var 2) .nil)) .nil)) (.bin .Pow (.bin .Pow (.int 10) (.int 60)) (.int 5))) (.blt .int (.cons (.cmp .GtE (.blt .abs (.cons (.var 2) .nil)) (.bin .Pow (.int 10) (.int 18))) .nil)))) (.seq (.asg (.nm 4) (.bin .Mod (.blt .int (.cons (.var 2) .nil)) (.int 2305843009213693951))) (.seq (.ret (.lst (.cons (.var 3) (.cons (.bin .Mod (.blt .int (.cons (.bin .Add (.bin .Add (.bin .Mult (.var 4) (.int 85999)) (.bin .Mult (.bin .Mult (.int 11273) (.var 1)) (.var 1))) (.int 2749)) .nil)) (.int 2305843009213693921)) (.cons (.int 0) .nil))))) .nil)))
theorem bPot_eq : bPot = .seq (.asg (.nm 2) (.ite (.cmp .Lt (.var 1) (.blt .len (.cons (.var 0) .nil))) (.ix (.var 0) (.var 1)) (.bin .Add (.bin .Add (.bin .Mod (.blt .int (.cons (.blt .sum (.cons (.slc (.var 0) .nil (.int 1)) .nil)) .nil)) (.int 1000187)) (.bin .Mult (.int 5717) (.var 1))) (.int 3163)))) bPotR := rfl
theorem cp1 : CPw 10 60 := ⟨by decide, by decide +kernel⟩
theorem cp2 : CPw (10 ^ Int.toNat 60) 5 := ⟨by decide, by decide +kernel⟩
theorem cp3 : CPw 10 18 := ⟨by decide, by decide +kernel⟩
theorem tPotR {Γ : Nat → SpW} {sb : Subs} {S S' : Sto} {Q E : WK} {v : Vl} {c pl : Int} (hw : wsub S S') (p1 : 0 ≤ pl) (p2 : pl ≤ 10 ^ 6) (h : ∀ p own x, S p = none → 0 ≤ own → own < 2 ^ 1000 → 0 ≤ x → x < 2 ^ 62 → Q (.lst p) (S.upd p [.int own, .int x, .int 0])) :
    rdB bPotR ⟨Γ, E, sb⟩ (endW Q) [some v, some (.int pl), some (.int c), none, none] S' := by
  unfold bPotR
  simp only [PW.o_nil, PW.o_seq, PW.o_asg, PW.o_par, PW.o_asgI, PW.o_aug, PW.o_augI, PW.o_ex, PW.o_ret, PW.o_retN, PW.o_ifs, PW.o_for, PW.o_whl, PW.o_rais, PW.o_brk, PW.o_cnt, PW.o_pass, PW.e_var, PW.e_int, PW.e_bl, PW.e_non, PW.e_str, PW.e_gint, PW.e_gti, PW.e_gtt, PW.e_gst, PW.e_rev, PW.e_cls, PW.e_ty, PW.e_tup, PW.e_lst, PW.e_bin, PW.e_neg, PW.e_not, PW.e_and, PW.e_or, PW.e_cmp, PW.e_chn, PW.e_ite, PW.e_ix, PW.e_slc, PW.e_call, PW.e_callk, PW.e_blt, PW.e_mth, PW.e_lrng, PW.e_att, PW.e_hrd, PW.e_comp, PW.e_comp2, PW.t_var, PW.t_bl, PW.t_cmp, PW.t_chn, PW.t_not, PW.t_and, PW.t_or, PW.t_ite, PW.t_call, PW.t_callk, PW.t_blt, PW.t_ix, PW.a_nil, PW.a_cons, PW.a_scons, PW.p_nil, PW.p_int, PW.p_var, PW.p_bin, PW.p_neg, PW.c_cmp, PW.c_chn, PW.c_not, PW.c_and, PW.c_or, PW.c_call, PW.c_blt, PW.c_var, PW.t_int, PW.c_nil, PW.i_rng, PW.i_enm, PW.i_revd, PW.i_zp, PW.i_var, PW.i_tup, PW.i_rev, PW.i_comp, PW.i_ix, PW.i_gti, PW.i_call, PW.i_slc, PW.op_add, PW.op_sub, PW.op_mul, PW.op_fdv, PW.op_mod, PW.op_pow, PW.op_addS, PW.op_addT, PW.op_addL, PW.op_repL, PW.cm_lt, PW.cm_le, PW.cm_gt, PW.cm_ge, PW.cm_eq, PW.cm_ne, PW.cm_eqS, PW.cm_neS, PW.cm_eqT, PW.cm_neT, PW.cm_eqL, PW.cm_neL, PW.cm_inT, PW.cm_niT, PW.cm_eqB, PW.cm_isNN, PW.cm_isNE, PW.cm_isNT, PW.cm_isNI, PW.cm_noNN, PW.cm_noNE, PW.cm_noNT, PW.cm_noNI, PW.tr_bl, PW.tr_int, PW.tr_non, PW.tr_lst, PW.tr_rol, PW.tr_tup, PW.ix_rol, PW.b_abs, PW.b_int, PW.b_boolI, PW.b_boolB, PW.b_intB, PW.b_max, PW.b_min, PW.b_lenT, PW.b_lenR, PW.b_lenL, PW.b_sum, PW.b_all, PW.b_any, PW.b_sorted, PW.b_tupT, PW.b_listT, PW.b_listL, PW.b_isN, PW.b_isB, PW.b_isS, PW.b_tupL, PW.b_isI, PW.b_isT, PW.b_isE, PW.m_pop, PW.m_ext, PW.m_rev, PW.m_app, PW.g_nm, PW.g_tup, PW.g_cons, PW.g_nil, endW, startW, List.map_cons, List.map_nil, List.length_cons, List.length_nil, List.replicate, Nat.reduceAdd, Nat.reduceSub, Nat.zero_add, List.cons_append, List.nil_append, List.append_nil, List.getElem?_cons_zero, List.getElem?_cons_succ, List.set_cons_zero, List.set_cons_succ, setS, T.alen, newL]
  have t : (0 : Int) < (10 ^ Int.toNat 60) ^ Int.toNat 5 := by decide +kernel
  have t2 : ((10 : Int) ^ Int.toNat 60) ^ Int.toNat 5 < 2 ^ 1000 := by decide +kernel
  obtain ⟨f1, f2⟩ := @fm_range (if c < 0 then -c else c) _ t
  have hk : (if decide (10 ^ Int.toNat 18 ≤ if c < 0 then -c else c) = true then (1 : Int) else 0) = 0 ∨ (if decide (10 ^ Int.toNat 18 ≤ if c < 0 then -c else c) = true then (1 : Int) else 0) = 1 := by
    generalize decide (10 ^ Int.toNat 18 ≤ if c < 0 then -c else c) = k
    cases k
    · exact .inl rfl
    · exact .inr rfl
  generalize (if decide (10 ^ Int.toNat 18 ≤ if c < 0 then -c else c) = true then (1 : Int) else 0) = k at hk
  generalize (if c < 0 then -c else c).fmod ((10 ^ Int.toNat 60) ^ Int.toNat 5) = y at f1 f2
  obtain ⟨g1, g2⟩ := @fm_range c 2305843009213693951 (by decide)
  generalize c.fmod 2305843009213693951 = z at g1 g2
  have zb : z.natAbs < 2 ^ 1000 := by
    have : (2305843009213693951 : Nat) < 2 ^ 1000 := by decide +kernel
    omega
  have yb : y.natAbs < 2 ^ 1000 := by omega
  have pb : pl.natAbs < 2 ^ 20 := by omega
  have pc : pl.natAbs < 2 ^ 1000 := nb_up pb (by decide)
  have pd : (11273 * pl).natAbs < 2 ^ (14 + 20) := nb_mul (by decide) pb
  refine ⟨cp1, cp2, by omega, cp3, mulS yb (by rcases hk with rfl | rfl <;> decide), by decide, mulS zb (by decide), mulS (by decide) pc, mulS (nb_up pd (by decide)) pc, by decide, le3, fun p hp => ?_⟩
  refine ret_to (wsub_up2 hw) (h p _ _ (wsub_none hw hp) ?_ ?_ (fm_range (by decide)).1 ?_)
  · rcases hk with rfl | rfl <;> omega
  · rcases hk with rfl | rfl <;> omega
  · have := (@fm_range (z * 85999 + 11273 * pl * pl + 2749) 2305843009213693921 (by decide)).2
    omega
theorem tPot (Γ sb ws S Q E) (h : sPot ws S Q E) : rdB bPot ⟨Γ, E, sb⟩ (endW Q) (startW 5 ws) S := by
  unfold sPot at h
  split at h
  · rename_i us pl
    obtain ⟨⟨ns, rfl⟩, p1, p2, h⟩ := h
    rw [bPot_eq]
    simp only [PW.o_nil, PW.o_seq, PW.o_asg, PW.o_par, PW.o_asgI, PW.o_aug, PW.o_augI, PW.o_ex, PW.o_ret, PW.o_retN, PW.o_ifs, PW.o_for, PW.o_whl, PW.o_rais, PW.o_brk, PW.o_cnt, PW.o_pass, PW.e_var, PW.e_int, PW.e_bl, PW.e_non, PW.e_str, PW.e_gint, PW.e_gti, PW.e_gtt, PW.e_gst, PW.e_rev, PW.e_cls, PW.e_ty, PW.e_tup, PW.e_lst, PW.e_bin, PW.e_neg, PW.e_not, PW.e_and, PW.e_or, PW.e_cmp, PW.e_chn, PW.e_ite, PW.e_ix, PW.e_slc, PW.e_call, PW.e_callk, PW.e_blt, PW.e_mth, PW.e_lrng, PW.e_att, PW.e_hrd, PW.e_comp, PW.e_comp2, PW.t_var, PW.t_bl, PW.t_cmp, PW.t_chn, PW.t_not, PW.t_and, PW.t_or, PW.t_ite, PW.t_call, PW.t_callk, PW.t_blt, PW.t_ix, PW.a_nil, PW.a_cons, PW.a_scons, PW.p_nil, PW.p_int, PW.p_var, PW.p_bin, PW.p_neg, PW.c_cmp, PW.c_chn, PW.c_not, PW.c_and, PW.c_or, PW.c_call, PW.c_blt, PW.c_var, PW.t_int, PW.c_nil, PW.i_rng, PW.i_enm, PW.i_revd, PW.i_zp, PW.i_var, PW.i_tup, PW.i_rev, PW.i_comp, PW.i_ix, PW.i_gti, PW.i_call, PW.i_slc, PW.op_add, PW.op_sub, PW.op_mul, PW.op_fdv, PW.op_mod, PW.op_pow, PW.op_addS, PW.op_addT, PW.op_addL, PW.op_repL, PW.cm_lt, PW.cm_le, PW.cm_gt, PW.cm_ge, PW.cm_eq, PW.cm_ne, PW.cm_eqS, PW.cm_neS, PW.cm_eqT, PW.cm_neT, PW.cm_eqL, PW.cm_neL, PW.cm_inT, PW.cm_niT, PW.cm_eqB, PW.cm_isNN, PW.cm_isNE, PW.cm_isNT, PW.cm_isNI, PW.cm_noNN, PW.cm_noNE, PW.cm_noNT, PW.cm_noNI, PW.tr_bl, PW.tr_int, PW.tr_non, PW.tr_lst, PW.tr_rol, PW.tr_tup, PW.ix_rol, PW.b_abs, PW.b_int, PW.b_boolI, PW.b_boolB, PW.b_intB, PW.b_max, PW.b_min, PW.b_lenT, PW.b_lenR, PW.b_lenL, PW.b_sum, PW.b_all, PW.b_any, PW.b_sorted, PW.b_tupT, PW.b_listT, PW.b_listL, PW.b_isN, PW.b_isB, PW.b_isS, PW.b_tupL, PW.b_isI, PW.b_isT, PW.b_isE, PW.m_pop, PW.m_ext, PW.m_rev, PW.m_app, PW.g_nm, PW.g_tup, PW.g_cons, PW.g_nil, endW, startW, List.map_cons, List.map_nil, List.length_cons, List.length_nil, List.replicate, Nat.reduceAdd, Nat.reduceSub, Nat.zero_add, List.cons_append, List.nil_append, List.append_nil, List.getElem?_cons_zero, List.getElem?_cons_succ, List.set_cons_zero, List.set_cons_succ, setS, T.alen, newL, slW]
    have pb : pl.natAbs < 2 ^ 20 := by omega
    split
    · rename_i z
      have z' : pl.toNat < ns.length := by
        have := of_decide_eq_true z
        rw [List.length_map] at this
        omega
      refine ⟨.int (ns[pl.toNat]), ?_, tPotR (wsub_refl S) p1 p2 h⟩
      have z2 : pl < (ns.length : Int) := by omega
      simp [atI, ixN, p1, z2, z']
    · intro q hq
      have e : cutW (ns.map Vl.int) none (some 1) = (ns.take 1).map Vl.int := by
        cases ns with
        | nil => rfl
        | cons a l =>
          have e1 : HT.sIx (l.length + 1) 0 none = 0 := rfl
          have e2 : HT.sIx (l.length + 1) (l.length + 1) (some 1) = 1 := by
            have := HT.sIx_nat (l.length + 1) (l.length + 1) 1
            rw [show ((1 : Nat) : Int) = 1 from rfl] at this
            omega
          simp only [cutW, List.map_cons, List.length_cons, List.length_map, e1, e2]
          rfl
      rw [e]
      refine ⟨ns.take 1, Sto.upd_same, ?_⟩
      exact ⟨by decide, mulS (by decide) (nb_up pb (by decide)), tPotR (wsub_upd (wsub_refl S) hq) p1 p2 h⟩
  · exact h.elim

def sGcd : SpW := fun ws S Q _ => match ws with
  | [.int a, .int b] => Q (.int (Int.gcd a b : Nat)) S
  | _ => False
def sLow : SpW := fun ws S Q _ => match ws with
  | [.int t, .int b] => 1 ≤ b ∧ b.natAbs < 2 ^ 1000 ∧ Q (lo t b) S
  | _ => False

theorem tGcd (Γ sb ws S Q E) (h : sGcd ws S Q E) : rdB bGcd ⟨Γ, E, sb⟩ (endW Q) (startW 2 ws) S := by
  unfold sGcd at h
  split at h
  · rename_i a b
    unfold bGcd
    simp only [PW.o_nil, PW.o_seq, PW.o_asg, PW.o_par, PW.o_asgI, PW.o_aug, PW.o_augI, PW.o_ex, PW.o_ret, PW.o_retN, PW.o_ifs, PW.o_for, PW.o_whl, PW.o_rais, PW.o_brk, PW.o_cnt, PW.o_pass, PW.e_var, PW.e_int, PW.e_bl, PW.e_non, PW.e_str, PW.e_gint, PW.e_gti, PW.e_gtt, PW.e_gst, PW.e_rev, PW.e_cls, PW.e_ty, PW.e_tup, PW.e_lst, PW.e_bin, PW.e_neg, PW.e_not, PW.e_and, PW.e_or, PW.e_cmp, PW.e_chn, PW.e_ite, PW.e_ix, PW.e_slc, PW.e_call, PW.e_callk, PW.e_blt, PW.e_mth, PW.e_lrng, PW.e_att, PW.e_hrd, PW.e_comp, PW.e_comp2, PW.t_var, PW.t_bl, PW.t_cmp, PW.t_chn, PW.t_not, PW.t_and, PW.t_or, PW.t_ite, PW.t_call, PW.t_callk, PW.t_blt, PW.t_ix, PW.a_nil, PW.a_cons, PW.a_scons, PW.p_nil, PW.p_int, PW.p_var, PW.p_bin, PW.p_neg, PW.c_cmp, PW.c_chn, PW.c_not, PW.c_and, PW.c_or, PW.c_call, PW.c_blt, PW.c_var, PW.t_int, PW.c_nil, PW.i_rng, PW.i_enm, PW.i_revd, PW.i_zp, PW.i_var, PW.i_tup, PW.i_rev, PW.i_comp, PW.i_ix, PW.i_gti, PW.i_call, PW.i_slc, PW.op_add, PW.op_sub, PW.op_mul, PW.op_fdv, PW.op_mod, PW.op_pow, PW.op_addS, PW.op_addT, PW.op_addL, PW.op_repL, PW.cm_lt, PW.cm_le, PW.cm_gt, PW.cm_ge, PW.cm_eq, PW.cm_ne, PW.cm_eqS, PW.cm_neS, PW.cm_eqT, PW.cm_neT, PW.cm_eqL, PW.cm_neL, PW.cm_inT, PW.cm_niT, PW.cm_eqB, PW.cm_isNN, PW.cm_isNE, PW.cm_isNT, PW.cm_isNI, PW.cm_noNN, PW.cm_noNE, PW.cm_noNT, PW.cm_noNI, PW.tr_bl, PW.tr_int, PW.tr_non, PW.tr_lst, PW.tr_rol, PW.tr_tup, PW.ix_rol, PW.b_abs, PW.b_int, PW.b_boolI, PW.b_boolB, PW.b_intB, PW.b_max, PW.b_min, PW.b_lenT, PW.b_lenR, PW.b_lenL, PW.b_sum, PW.b_all, PW.b_any, PW.b_sorted, PW.b_tupT, PW.b_listT, PW.b_listL, PW.b_isN, PW.b_isB, PW.b_isS, PW.b_tupL, PW.b_isI, PW.b_isT, PW.b_isE, PW.m_pop, PW.m_ext, PW.m_rev, PW.m_app, PW.g_nm, PW.g_tup, PW.g_cons, PW.g_nil, endW, startW, List.map_cons, List.map_nil, List.length_cons, List.length_nil, List.replicate, Nat.reduceAdd, Nat.reduceSub, Nat.zero_add, List.cons_append, List.nil_append, List.append_nil, List.getElem?_cons_zero, List.getElem?_cons_succ, List.set_cons_zero, List.set_cons_succ, setS, T.alen]
    refine ⟨fun σ S' => S' = S ∧ ∃ x y : Nat, σ = [some (.int x), some (.int y)] ∧ Nat.gcd x y = Int.gcd a b, fun σ _ => match σ with
      | [_, some (.int y)] => y.toNat
      | _ => 0, ⟨rfl, a.natAbs, b.natAbs, ?_, rfl⟩, ?_⟩
    · congr 3
      · split <;> omega
      · congr 2
        split <;> omega
    · rintro σ S' ⟨rfl, x, y, rfl, hg⟩
      simp only [PW.o_nil, PW.o_seq, PW.o_asg, PW.o_par, PW.o_asgI, PW.o_aug, PW.o_augI, PW.o_ex, PW.o_ret, PW.o_retN, PW.o_ifs, PW.o_for, PW.o_whl, PW.o_rais, PW.o_brk, PW.o_cnt, PW.o_pass, PW.e_var, PW.e_int, PW.e_bl, PW.e_non, PW.e_str, PW.e_gint, PW.e_gti, PW.e_gtt, PW.e_gst, PW.e_rev, PW.e_cls, PW.e_ty, PW.e_tup, PW.e_lst, PW.e_bin, PW.e_neg, PW.e_not, PW.e_and, PW.e_or, PW.e_cmp, PW.e_chn, PW.e_ite, PW.e_ix, PW.e_slc, PW.e_call, PW.e_callk, PW.e_blt, PW.e_mth, PW.e_lrng, PW.e_att, PW.e_hrd, PW.e_comp, PW.e_comp2, PW.t_var, PW.t_bl, PW.t_cmp, PW.t_chn, PW.t_not, PW.t_and, PW.t_or, PW.t_ite, PW.t_call, PW.t_callk, PW.t_blt, PW.t_ix, PW.a_nil, PW.a_cons, PW.a_scons, PW.p_nil, PW.p_int, PW.p_var, PW.p_bin, PW.p_neg, PW.c_cmp, PW.c_chn, PW.c_not, PW.c_and, PW.c_or, PW.c_call, PW.c_blt, PW.c_var, PW.t_int, PW.c_nil, PW.i_rng, PW.i_enm, PW.i_revd, PW.i_zp, PW.i_var, PW.i_tup, PW.i_rev, PW.i_comp, PW.i_ix, PW.i_gti, PW.i_call, PW.i_slc, PW.op_add, PW.op_sub, PW.op_mul, PW.op_fdv, PW.op_mod, PW.op_pow, PW.op_addS, PW.op_addT, PW.op_addL, PW.op_repL, PW.cm_lt, PW.cm_le, PW.cm_gt, PW.cm_ge, PW.cm_eq, PW.cm_ne, PW.cm_eqS, PW.cm_neS, PW.cm_eqT, PW.cm_neT, PW.cm_eqL, PW.cm_neL, PW.cm_inT, PW.cm_niT, PW.cm_eqB, PW.cm_isNN, PW.cm_isNE, PW.cm_isNT, PW.cm_isNI, PW.cm_noNN, PW.cm_noNE, PW.cm_noNT, PW.cm_noNI, PW.tr_bl, PW.tr_int, PW.tr_non, PW.tr_lst, PW.tr_rol, PW.tr_tup, PW.ix_rol, PW.b_abs, PW.b_int, PW.b_boolI, PW.b_boolB, PW.b_intB, PW.b_max, PW.b_min, PW.b_lenT, PW.b_lenR, PW.b_lenL, PW.b_sum, PW.b_all, PW.b_any, PW.b_sorted, PW.b_tupT, PW.b_listT, PW.b_listL, PW.b_isN, PW.b_isB, PW.b_isS, PW.b_tupL, PW.b_isI, PW.b_isT, PW.b_isE, PW.m_pop, PW.m_ext, PW.m_rev, PW.m_app, PW.g_nm, PW.g_tup, PW.g_cons, PW.g_nil, endW, startW, List.map_cons, List.map_nil, List.length_cons, List.length_nil, List.replicate, Nat.reduceAdd, Nat.reduceSub, Nat.zero_add, List.cons_append, List.nil_append, List.append_nil, List.getElem?_cons_zero, List.getElem?_cons_succ, List.set_cons_zero, List.set_cons_succ, setS, T.alen]
      by_cases hy : y = 0
      · subst hy
        have e : decide (((0 : Nat) : Int) = 0) = true := by decide
        rw [e]
        simp only [Bool.not_true, Bool.false_eq_true, if_false]
        rw [Nat.gcd_zero_right] at hg
        rw [hg]
        exact ret_all h
      · have e : decide ((y : Int) = 0) = false := by simpa using hy
        rw [e]
        simp only [Bool.not_false, if_true]
        have f : ((x : Int).fmod y) = ((x % y : Nat) : Int) := by
          rw [Int.fmod_eq_emod_of_nonneg _ (by omega), Int.natCast_emod]
        rw [f]
        refine ⟨by omega, less_same ⟨⟨rfl, y, x % y, rfl, ?_⟩, ?_⟩⟩
        · rw [Nat.gcd_comm, ← Nat.gcd_rec, Nat.gcd_comm]; exact hg
        · show ((x % y : Nat) : Int).toNat < ((y : Nat) : Int).toNat
          rw [Int.toNat_natCast, Int.toNat_natCast]
          exact Nat.mod_lt _ (by omega)
  · exact h.elim

theorem tLow (t : Nat) (Γ : Nat → SpW) (sb ws S Q E) (g1 : Γ t = sGcd) (h : sLow ws S Q E) : rdB (bLow t) ⟨Γ, E, sb⟩ (endW Q) (startW 3 ws) S := by
  unfold sLow at h
  split at h
  · rename_i x b
    obtain ⟨h1, h2, h⟩ := h
    unfold bLow
    simp only [PW.o_nil, PW.o_seq, PW.o_asg, PW.o_par, PW.o_asgI, PW.o_aug, PW.o_augI, PW.o_ex, PW.o_ret, PW.o_retN, PW.o_ifs, PW.o_for, PW.o_whl, PW.o_rais, PW.o_brk, PW.o_cnt, PW.o_pass, PW.e_var, PW.e_int, PW.e_bl, PW.e_non, PW.e_str, PW.e_gint, PW.e_gti, PW.e_gtt, PW.e_gst, PW.e_rev, PW.e_cls, PW.e_ty, PW.e_tup, PW.e_lst, PW.e_bin, PW.e_neg, PW.e_not, PW.e_and, PW.e_or, PW.e_cmp, PW.e_chn, PW.e_ite, PW.e_ix, PW.e_slc, PW.e_call, PW.e_callk, PW.e_blt, PW.e_mth, PW.e_lrng, PW.e_att, PW.e_hrd, PW.e_comp, PW.e_comp2, PW.t_var, PW.t_bl, PW.t_cmp, PW.t_chn, PW.t_not, PW.t_and, PW.t_or, PW.t_ite, PW.t_call, PW.t_callk, PW.t_blt, PW.t_ix, PW.a_nil, PW.a_cons, PW.a_scons, PW.p_nil, PW.p_int, PW.p_var, PW.p_bin, PW.p_neg, PW.c_cmp, PW.c_chn, PW.c_not, PW.c_and, PW.c_or, PW.c_call, PW.c_blt, PW.c_var, PW.t_int, PW.c_nil, PW.i_rng, PW.i_enm, PW.i_revd, PW.i_zp, PW.i_var, PW.i_tup, PW.i_rev, PW.i_comp, PW.i_ix, PW.i_gti, PW.i_call, PW.i_slc, PW.op_add, PW.op_sub, PW.op_mul, PW.op_fdv, PW.op_mod, PW.op_pow, PW.op_addS, PW.op_addT, PW.op_addL, PW.op_repL, PW.cm_lt, PW.cm_le, PW.cm_gt, PW.cm_ge, PW.cm_eq, PW.cm_ne, PW.cm_eqS, PW.cm_neS, PW.cm_eqT, PW.cm_neT, PW.cm_eqL, PW.cm_neL, PW.cm_inT, PW.cm_niT, PW.cm_eqB, PW.cm_isNN, PW.cm_isNE, PW.cm_isNT, PW.cm_isNI, PW.cm_noNN, PW.cm_noNE, PW.cm_noNT, PW.cm_noNI, PW.tr_bl, PW.tr_int, PW.tr_non, PW.tr_lst, PW.tr_rol, PW.tr_tup, PW.ix_rol, PW.b_abs, PW.b_int, PW.b_boolI, PW.b_boolB, PW.b_intB, PW.b_max, PW.b_min, PW.b_lenT, PW.b_lenR, PW.b_lenL, PW.b_sum, PW.b_all, PW.b_any, PW.b_sorted, PW.b_tupT, PW.b_listT, PW.b_listL, PW.b_isN, PW.b_isB, PW.b_isS, PW.b_tupL, PW.b_isI, PW.b_isT, PW.b_isE, PW.m_pop, PW.m_ext, PW.m_rev, PW.m_app, PW.g_nm, PW.g_tup, PW.g_cons, PW.g_nil, endW, startW, List.map_cons, List.map_nil, List.length_cons, List.length_nil, List.replicate, Nat.reduceAdd, Nat.reduceSub, Nat.zero_add, List.cons_append, List.nil_append, List.append_nil, List.getElem?_cons_zero, List.getElem?_cons_succ, List.set_cons_zero, List.set_cons_succ, setS, T.alen, g1, sGcd]
    have e : decide (0 < b) = true := by rw [decide_eq_true_iff]; omega
    have p := gcd_pos (t := x) h1
    have q := gcd_le (t := x) h1
    have c : ∀ y : Int, CDv y (Int.gcd x b : Int) := fun y => cdvS (by omega) (by omega)
    rw [e]
    simp only [Bool.false_eq_true, if_true]
    refine ⟨c x, c b, le_sz, ret_all ?_⟩
    rw [Int.fdiv_eq_ediv_of_nonneg _ (by omega), Int.fdiv_eq_ediv_of_nonneg _ (by omega)]
    exact h
  · exact h.elim

end LQ

set_option Elab.async false
set_option linter.all false
set_option maxRecDepth 100000
set_option maxHeartbeats 2000000
/-! data: equal, told as text -/
namespace LQ
open PySem PySem.Spec PyProof.Rows L2 PW
abbrev iT (ns : List Int) : Vl := .tup (ns.map Vl.int)
theorem datWs_ints {S : Sto} : ∀ ns : List Int, DatWs S (ns.map Vl.int) (ns.map PyData.int)
  | [] => .nil
  | n :: ns => .cons (.int n) (datWs_ints ns)
theorem datWs_ints_of {S : Sto} : ∀ {ns : List Int} {ds : List PyData}, DatWs S (ns.map Vl.int) ds → ds = ns.map PyData.int
  | [], _, .nil => rfl
  | n :: ns, _, .cons (.int _) t => by rw [datWs_ints_of (ns := ns) t] <;> rfl
theorem canLay_ints : ∀ ns : List Int, PyData.canLayAll0 (ns.map PyData.int) = true
  | [] => by simp [PyData.canLayAll0]
  | n :: ns => by simp [PyData.canLayAll0, PyData.canLay0, canLay_ints ns]
theorem depth_ints : ∀ ns : List Int, PyData.depthAll (ns.map PyData.int) = 0
  | [] => by simp [PyData.depthAll]
  | n :: ns => by simp [PyData.depthAll, PyData.depth, depth_ints ns]
theorem noDict_ints : ∀ ns : List Int, PyData.hasDictAll (ns.map PyData.int) = false
  | [] => by simp [PyData.hasDictAll]
  | n :: ns => by simp [PyData.hasDictAll, PyData.hasDict, noDict_ints ns]
theorem shaped_tup (ns : List Int) : SeqAt.shaped (.tuple (ns.map PyData.int)) = true := by
  unfold SeqAt.shaped
  simp [PyData.canLay0, canLay_ints, PyData.depth, depth_ints]
theorem shaped_lst (ns : List Int) : SeqAt.shaped (.list (ns.map PyData.int)) = true := by
  unfold SeqAt.shaped
  simp [PyData.canLay0, canLay_ints, PyData.depth, depth_ints]
theorem eqv_ints : ∀ ns ms : List Int, PyData.eqvAll (ns.map PyData.int) (ms.map PyData.int) = decide (ns = ms)
  | [], [] => by simp [PyData.eqvAll]
  | [], m :: ms => by simp [PyData.eqvAll]
  | n :: ns, [] => by simp [PyData.eqvAll]
  | n :: ns, m :: ms => by
    rw [List.map_cons, List.map_cons, PyData.eqvAll, eqv_ints ns ms, PyData.eqv, Bool.beq_eq_decide_eq, ← Bool.decide_and, decide_eq_decide]
    simp
section
variable {S : Sto} {k : Bool → Prop} {ns ms : List Int} {p q : Addr}
theorem eqT : eqD S (iT ns) (iT ms) k = k (decide (ns = ms)) := by
  refine propext ⟨fun ⟨d, e, h1, h2, _, _, h⟩ => ?_, fun h => ⟨_, _, .tup (datWs_ints ns), .tup (datWs_ints ms), shaped_tup ns, shaped_tup ms, ?_⟩⟩
  · cases h1 with
    | tup h1 =>
      cases h2 with
      | tup h2 =>
        rw [datWs_ints_of h1, datWs_ints_of h2, PyData.eqv, eqv_ints] at h
        exact h
  · rw [PyData.eqv, eqv_ints]; exact h
/-- .. with () -/
theorem eqT0 : eqD S (iT ns) (.tup []) k = k (decide (ns = [])) := eqT (ms := [])
theorem eqL (h1 : S p = some (ns.map Vl.int)) (h2 : S q = some (ms.map Vl.int)) : eqD S (.lst p) (.lst q) k = k (decide (ns = ms)) := by
  refine propext ⟨fun ⟨d, e, d1, d2, _, _, h⟩ => ?_, fun h => ⟨_, _, .lst h1 (datWs_ints ns), .lst h2 (datWs_ints ms), shaped_lst ns, shaped_lst ms, ?_⟩⟩
  · cases d1 with
    | lst e1 d1 =>
      cases d2 with
      | lst e2 d2 =>
        rw [h1] at e1
        rw [h2] at e2
        cases e1
        cases e2
        rw [datWs_ints_of d1, datWs_ints_of d2, PyData.eqv, eqv_ints] at h
        exact h
  · rw [PyData.eqv, eqv_ints]; exact h
end
/-! ### repr -/
theorem log_small {a : Int} (h : a.natAbs < 10 ^ 200) : a.natAbs.log2 < 1920 := by
  rcases Nat.eq_zero_or_pos a.natAbs with z | z
  · rw [z]; decide
  · rw [Nat.log2_lt (by omega)]
    exact Nat.lt_of_lt_of_le h (by decide +kernel)
theorem showable_ints : ∀ {ns : List Int}, (∀ n ∈ ns, n.natAbs < 10 ^ 200) → PyData.showableAll (ns.map PyData.int) = true
  | [], _ => by simp [PyData.showableAll]
  | n :: ns, h => by
    rw [List.map_cons, PyData.showableAll, PyData.showable, decide_eq_true (log_small (h n List.mem_cons_self)), showable_ints fun m hm => h m (List.mem_cons_of_mem _ hm)]
    rfl
theorem shown_200 {i : Int} (h : i.natAbs < 10 ^ 200) : (PyData.int i).shown.length ≤ 201 := by
  have e := int_text_length_le10 (k := 200) (by decide) h
  show (Str.ofString (toString i)).length ≤ 201
  rw [PySem.ofString_length]; exact e
theorem shown_ints : ∀ {ns : List Int}, (∀ n ∈ ns, n.natAbs < 10 ^ 200) → ((PyData.shownAll (ns.map PyData.int)).map (·.length)).sum ≤ 210 * ns.length ∧ (PyData.shownAll (ns.map PyData.int)).length = ns.length
  | [], _ => by simp [PyData.shownAll]
  | n :: ns, h => by
    obtain ⟨i1, i2⟩ := shown_ints (ns := ns) fun m hm => h m (List.mem_cons_of_mem _ hm)
    have l := shown_200 (h n List.mem_cons_self)
    rw [List.map_cons, PyData.shownAll, List.map_cons, List.sum_cons, List.length_cons, List.length_cons, i2]
    exact ⟨by omega, rfl⟩
/-- the text that repr tells of a value; it hangs on the value alone -/
def Rp (w : Vl) (x : Str) : Prop := ∀ (sb : Subs) (S : Sto) (Q : WK), bltW sb .repr [w] S Q = Q (.str x) S
theorem rp_of {w : Vl} {d : PyData} (hd : ∀ S, DatW S w d) (un : ∀ S d', DatW S w d' → d' = d) (h1 : d.showable = true) (h2 : d.hasDict = false) (h3 : d.depth ≤ 64) (h4 : d.shown.length + 64 ≤ sizeLine) : Rp w d.shown := fun sb S Q =>
  propext ⟨fun ⟨d', e, _, _, _, _, q⟩ => by rw [un S d' e] at q; exact q, fun q => ⟨d, hd S, h1, h2, h3, h4, q⟩⟩
theorem rp_tup {ns : List Int} (h : ∀ n ∈ ns, n.natAbs < 10 ^ 200) (hl : ns.length ≤ 10 ^ 4) : Rp (iT ns) (PyData.tuple (ns.map PyData.int)).shown := by
  refine rp_of (fun S => .tup (datWs_ints ns)) (fun S d' e => ?_) ?_ ?_ ?_ ?_
  · cases e with
    | tup e => rw [datWs_ints_of e]
  · rw [PyData.showable]; exact showable_ints h
  · rw [PyData.hasDict]; exact noDict_ints ns
  · rw [PyData.depth, depth_ints]; decide
  · obtain ⟨i1, i2⟩ := shown_ints h
    have e : (PyData.tuple (ns.map PyData.int)).shown = tupleText (PyData.shownAll (ns.map PyData.int)) := by rw [PyData.shown]
    rw [e]
    have l := tupleText_len_le (PyData.shownAll (ns.map PyData.int))
    rw [sizeLine_eq]
    omega
theorem rp_int {n : Int} (h : n.natAbs < 10 ^ 200) : Rp (.int n) (PyData.int n).shown := by
  refine rp_of (fun S => .int n) (fun S d' e => by cases e; rfl) ?_ ?_ ?_ ?_
  · rw [PyData.showable, decide_eq_true (log_small h)]
  · rw [PyData.hasDict]
  · rw [PyData.depth]; decide
  · have l := shown_200 h
    rw [sizeLine_eq]
    omega
theorem rp_non : Rp .non PyData.none.shown := by
  refine rp_of (fun S => .non) (fun S d' e => by cases e; rfl) ?_ ?_ ?_ ?_
  · rw [PyData.showable]
  · rw [PyData.hasDict]
  · rw [PyData.depth]; decide
  · rw [sizeLine_eq]; decide +kernel
theorem rp_bl (b : Bool) : Rp (.bl b) (PyData.bool b).shown := by
  refine rp_of (fun S => .bl b) (fun S d' e => by cases e; rfl) ?_ ?_ ?_ ?_
  · rw [PyData.showable]
  · rw [PyData.hasDict]
  · rw [PyData.depth]; decide
  · rw [sizeLine_eq]; cases b <;> decide +kernel
theorem rp_str {x : Str} (h : (PyData.str x).shown.length + 64 ≤ sizeLine) : Rp (.str x) (PyData.str x).shown := by
  refine rp_of (fun S => .str x) (fun S d' e => by cases e; rfl) ?_ ?_ ?_ h
  · rw [PyData.showable]
  · rw [PyData.hasDict]
  · rw [PyData.depth]; decide
theorem rp_1 : Rp (.str "1") (PyData.str "1").shown := rp_str (by rw [sizeLine_eq]; decide +kernel)
theorem rp_0 : Rp (.str "0") (PyData.str "0").shown := rp_str (by rw [sizeLine_eq]; decide +kernel)
theorem shown_0 : (PyData.int 0).shown = ("0" : Str) := by decide +kernel
end LQ

set_option Elab.async false
set_option linter.all false
set_option maxRecDepth 100000
set_option maxHeartbeats 2000000
set_option exponentiation.threshold 100000
/-! curves in the laws' own helpers -/
namespace LQ
open PySem PySem.Spec PyProof.Rows L2 PW
theorem no_sb {R : Rc} : R.no.sb = R.sb := rfl
theorem no_ga {R : Rc} : R.no.Γ = R.Γ := rfl
theorem seqL {S : Sto} {q : Addr} {ws : List Vl} {K : List Vl → (Sto → Prop) → Prop} (h : S q = some ws) : seqG (.lst q) S K = K ws fun S' => S' q = some ws := by
  show (match S q with
    | some ws => K ws fun S' => S' q = some ws
    | none => False) = _
  rw [h]
theorem seqT {S : Sto} {ws : List Vl} {K : List Vl → (Sto → Prop) → Prop} : seqG (.tup ws) S K = K ws fun _ => True := rfl
theorem lc_nil {G : Sto → Prop} {g c e} {σ : WSt} {D : Addr} {Q : List Vl → Sto → Prop} {acc : List Vl} {S : Sto} : lcR G g c e σ D Q [] acc S = (G S ∧ S D = some acc ∧ Q acc S) := (rfl)
theorem lc_cons {G : Sto → Prop} {g c e} {σ : WSt} {D : Addr} {Q : List Vl → Sto → Prop} {x : Vl} {xs acc : List Vl} {S : Sto} : lcR G g c e σ D Q (x :: xs) acc S = (G S ∧ g x σ S fun σ2 S2 => c σ2 S2 fun b S3 =>
      if b = true then e σ2 S3 fun y S4 => S4 D = some acc ∧ acc.length < sizeLine ∧ ∃ S5, wsub S5 (S4.upd D (acc ++ [y])) ∧ lcR G g c e σ D Q xs (acc ++ [y]) S5
      else lcR G g c e σ D Q xs acc S3) := (rfl)
theorem for_nil {G : Sto → Prop} {g b} {D : WEn} {σ : WSt} {S : Sto} : forR G g b D [] σ S = (G S ∧ D.nx σ S) := (rfl)
theorem for_cons {G : Sto → Prop} {g b} {D : WEn} {x : Vl} {xs : List Vl} {σ : WSt} {S : Sto} : forR G g b D (x :: xs) σ S = (G S ∧ g x σ S fun σ' S' => b { D with nx := less (forR G g b D xs), ct := less (forR G g b D xs), bk := D.nx } σ' S') := (rfl)
theorem lenL {S : Sto} {q : Addr} {ws : List Vl} {sb : Subs} {Q : WK} (h : S q = some ws) : bltW sb .len [.lst q] S Q = Q (.int ws.length) S := by
  show (∃ us, S q = some us ∧ Q (.int us.length) S) = _
  rw [h]; simp
/-- the item at a place, ints -/
theorem ixI {S : Sto} {q : Addr} {ns : List Int} {k : Nat} {Q : WK} (h : S q = some (ns.map Vl.int)) (l : k < ns.length) (r : Q (.int (QM.co ns k)) S) : ixW (.lst q) (.int (k : Int)) S Q := by
  show (match S q with
    | some ws => ∃ w, atI ws (k : Int) = some w ∧ Q w S
    | none => False)
  rw [h]
  refine ⟨_, ?_, r⟩
  have z : (k : Int) < (ns.length : Int) := by omega
  simp [atI, ixN, z, QM.co, l]
theorem ixIT {S : Sto} {ns : List Int} {k : Nat} {Q : WK} (l : k < ns.length) (r : Q (.int (QM.co ns k)) S) : ixW (iT ns) (.int (k : Int)) S Q := by
  show ∃ w, atI (ns.map Vl.int) (k : Int) = some w ∧ Q w S
  refine ⟨_, ?_, r⟩
  have z : (k : Int) < (ns.length : Int) := by omega
  simp [atI, ixN, z, QM.co, l]
theorem atI_last {ns : List Int} (h : ns ≠ []) : atI (ns.map Vl.int) (-1) = some (.int (ns.getLast h)) := by
  have p : 0 < ns.length := List.length_pos_iff.mpr h
  have z : ns.length - 1 < ns.length := by omega
  have z2 : (1 : Int) ≤ ns.length := by omega
  rw [List.getLast_eq_getElem]
  have e : ((-1 : Int) + (ns.length : Int)).toNat = ns.length - 1 := by omega
  simp [atI, ixN, z, z2, e]
theorem setI {S : Sto} {q : Addr} {ns : List Int} {k : Nat} {c : Int} {K : Sto → Prop} (h : S q = some (ns.map Vl.int)) (l : k < ns.length) (r : K (S.upd q ((ns.set k c).map Vl.int))) : setL (.lst q) (.int (k : Int)) (.int c) S K := by
  refine ⟨_, k, h, ?_, ?_⟩
  · have z : (k : Int) < (ns.length : Int) := by omega
    simp [ixN, z]
  · rw [List.map_set] at r; exact r
/-- without noughts at the end -/
def sTold : SpW := fun ws S Q _ => match ws with
  | [.lst p] => ∃ ns : List Int, S p = some (ns.map Vl.int) ∧ ns.length ≤ sizeLine ∧ Q (iT (QM.strip ns)) S
  | _ => False
theorem map_nil_iff {ns : List Int} : (ns.map Vl.int).isEmpty = decide (ns = []) := by cases ns <;> rfl
theorem tTold (Γ sb ws S Q E) (h : sTold ws S Q E) : rdB bTold ⟨Γ, E, sb⟩ (endW Q) (startW 2 ws) S := by
  unfold sTold at h
  split at h
  · rename_i p
    obtain ⟨ns, hp, hl, h⟩ := h
    unfold bTold
    simp only [PW.o_nil, PW.o_seq, PW.o_asg, PW.o_par, PW.o_asgI, PW.o_aug, PW.o_augI, PW.o_ex, PW.o_ret, PW.o_retN, PW.o_ifs, PW.o_for, PW.o_whl, PW.o_rais, PW.o_brk, PW.o_cnt, PW.o_pass, PW.e_var, PW.e_int, PW.e_bl, PW.e_non, PW.e_str, PW.e_gint, PW.e_gti, PW.e_gtt, PW.e_gst, PW.e_rev, PW.e_cls, PW.e_ty, PW.e_tup, PW.e_lst, PW.e_bin, PW.e_neg, PW.e_not, PW.e_and, PW.e_or, PW.e_cmp, PW.e_chn, PW.e_ite, PW.e_ix, PW.e_slc, PW.e_call, PW.e_callk, PW.e_blt, PW.e_mth, PW.e_lrng, PW.e_att, PW.e_hrd, PW.e_comp, PW.e_comp2, PW.t_var, PW.t_bl, PW.t_cmp, PW.t_chn, PW.t_not, PW.t_and, PW.t_or, PW.t_ite, PW.t_call, PW.t_callk, PW.t_blt, PW.t_ix, PW.a_nil, PW.a_cons, PW.a_scons, PW.p_nil, PW.p_int, PW.p_var, PW.p_bin, PW.p_neg, PW.c_cmp, PW.c_chn, PW.c_not, PW.c_and, PW.c_or, PW.c_call, PW.c_blt, PW.c_var, PW.t_int, PW.c_nil, PW.i_rng, PW.i_enm, PW.i_revd, PW.i_zp, PW.i_var, PW.i_tup, PW.i_rev, PW.i_comp, PW.i_ix, PW.i_gti, PW.i_call, PW.i_slc, PW.op_add, PW.op_sub, PW.op_mul, PW.op_fdv, PW.op_mod, PW.op_pow, PW.op_addS, PW.op_addT, PW.op_addL, PW.op_repL, PW.cm_lt, PW.cm_le, PW.cm_gt, PW.cm_ge, PW.cm_eq, PW.cm_ne, PW.cm_eqS, PW.cm_neS, PW.cm_eqT, PW.cm_neT, PW.cm_eqL, PW.cm_neL, PW.cm_inT, PW.cm_niT, PW.cm_eqB, PW.cm_isNN, PW.cm_isNE, PW.cm_isNT, PW.cm_isNI, PW.cm_noNN, PW.cm_noNE, PW.cm_noNT, PW.cm_noNI, PW.tr_bl, PW.tr_int, PW.tr_non, PW.tr_lst, PW.tr_rol, PW.tr_tup, PW.ix_rol, PW.b_abs, PW.b_int, PW.b_boolI, PW.b_boolB, PW.b_intB, PW.b_max, PW.b_min, PW.b_lenT, PW.b_lenR, PW.b_lenL, PW.b_sum, PW.b_all, PW.b_any, PW.b_sorted, PW.b_tupT, PW.b_listT, PW.b_listL, PW.b_isN, PW.b_isB, PW.b_isS, PW.b_tupL, PW.b_isI, PW.b_isT, PW.b_isE, PW.m_pop, PW.m_ext, PW.m_rev, PW.m_app, PW.g_nm, PW.g_tup, PW.g_cons, PW.g_nil, endW, startW, List.map_cons, List.map_nil, List.length_cons, List.length_nil, List.replicate, Nat.reduceAdd, Nat.reduceSub, Nat.zero_add, List.cons_append, List.nil_append, List.append_nil, List.getElem?_cons_zero, List.getElem?_cons_succ, List.set_cons_zero, List.set_cons_succ, setS, T.alen, newL]
    refine ⟨ns.map Vl.int, hp, fun q hq => ?_⟩
    have npq : p ≠ q := fun z => by rw [z, hq] at hp; cases hp
    refine ⟨fun σ S' => ∃ ms : List Int, S' = S.upd q (ms.map Vl.int) ∧ σ = [some (.lst p), some (.lst q)] ∧ QM.strip ms = QM.strip ns, fun σ S' => match S' q with
      | some ws => ws.length
      | none => 0, ⟨ns, rfl, rfl, rfl⟩, ?_⟩
    rintro σ S' ⟨ms, rfl, rfl, hs⟩
    simp only [PW.o_nil, PW.o_seq, PW.o_asg, PW.o_par, PW.o_asgI, PW.o_aug, PW.o_augI, PW.o_ex, PW.o_ret, PW.o_retN, PW.o_ifs, PW.o_for, PW.o_whl, PW.o_rais, PW.o_brk, PW.o_cnt, PW.o_pass, PW.e_var, PW.e_int, PW.e_bl, PW.e_non, PW.e_str, PW.e_gint, PW.e_gti, PW.e_gtt, PW.e_gst, PW.e_rev, PW.e_cls, PW.e_ty, PW.e_tup, PW.e_lst, PW.e_bin, PW.e_neg, PW.e_not, PW.e_and, PW.e_or, PW.e_cmp, PW.e_chn, PW.e_ite, PW.e_ix, PW.e_slc, PW.e_call, PW.e_callk, PW.e_blt, PW.e_mth, PW.e_lrng, PW.e_att, PW.e_hrd, PW.e_comp, PW.e_comp2, PW.t_var, PW.t_bl, PW.t_cmp, PW.t_chn, PW.t_not, PW.t_and, PW.t_or, PW.t_ite, PW.t_call, PW.t_callk, PW.t_blt, PW.t_ix, PW.a_nil, PW.a_cons, PW.a_scons, PW.p_nil, PW.p_int, PW.p_var, PW.p_bin, PW.p_neg, PW.c_cmp, PW.c_chn, PW.c_not, PW.c_and, PW.c_or, PW.c_call, PW.c_blt, PW.c_var, PW.t_int, PW.c_nil, PW.i_rng, PW.i_enm, PW.i_revd, PW.i_zp, PW.i_var, PW.i_tup, PW.i_rev, PW.i_comp, PW.i_ix, PW.i_gti, PW.i_call, PW.i_slc, PW.op_add, PW.op_sub, PW.op_mul, PW.op_fdv, PW.op_mod, PW.op_pow, PW.op_addS, PW.op_addT, PW.op_addL, PW.op_repL, PW.cm_lt, PW.cm_le, PW.cm_gt, PW.cm_ge, PW.cm_eq, PW.cm_ne, PW.cm_eqS, PW.cm_neS, PW.cm_eqT, PW.cm_neT, PW.cm_eqL, PW.cm_neL, PW.cm_inT, PW.cm_niT, PW.cm_eqB, PW.cm_isNN, PW.cm_isNE, PW.cm_isNT, PW.cm_isNI, PW.cm_noNN, PW.cm_noNE, PW.cm_noNT, PW.cm_noNI, PW.tr_bl, PW.tr_int, PW.tr_non, PW.tr_lst, PW.tr_rol, PW.tr_tup, PW.ix_rol, PW.b_abs, PW.b_int, PW.b_boolI, PW.b_boolB, PW.b_intB, PW.b_max, PW.b_min, PW.b_lenT, PW.b_lenR, PW.b_lenL, PW.b_sum, PW.b_all, PW.b_any, PW.b_sorted, PW.b_tupT, PW.b_listT, PW.b_listL, PW.b_isN, PW.b_isB, PW.b_isS, PW.b_tupL, PW.b_isI, PW.b_isT, PW.b_isE, PW.m_pop, PW.m_ext, PW.m_rev, PW.m_app, PW.g_nm, PW.g_tup, PW.g_cons, PW.g_nil, endW, startW, List.map_cons, List.map_nil, List.length_cons, List.length_nil, List.replicate, Nat.reduceAdd, Nat.reduceSub, Nat.zero_add, List.cons_append, List.nil_append, List.append_nil, List.getElem?_cons_zero, List.getElem?_cons_succ, List.set_cons_zero, List.set_cons_succ, setS, T.alen, newL]
    refine ⟨Nat.zero_le _, fun r hr => ?_⟩
    have nqr : q ≠ r := fun z => by rw [z, Sto.upd_same] at hr; cases hr
    have h1 : ((S.upd q (ms.map Vl.int)).upd r []) q = some (ms.map Vl.int) := by rw [Sto.upd_ne nqr, Sto.upd_same]
    rw [eqL h1 (ms := []) Sto.upd_same]
    have fin : ms = QM.strip ns → ∃ ws, ((S.upd q (ms.map Vl.int)).upd r []) q = some ws ∧ ∃ S2, wsub S2 ((S.upd q (ms.map Vl.int)).upd r []) ∧ Q (.tup ws) S2 := fun e => by
      refine ⟨_, h1, ret_to (wsub_upd (wsub_upd (wsub_refl S) hq) ?_) (by rw [e]; exact h)⟩
      cases z : S r with
      | none => rfl
      | some ws =>
        by_cases w : r = q
        · rw [w, hq] at z; cases z
        · rw [Sto.upd_ne w, z] at hr; cases hr
    by_cases z : ms = []
    · subst z
      have e1 : decide (([] : List Int) = []) = true := rfl
      simp only [e1, Bool.not_true, Bool.false_eq_true, if_false]
      exact fin hs
    · simp only [decide_eq_false z, Bool.not_false, if_true]
      show (match ((S.upd q (ms.map Vl.int)).upd r []) q with
        | some ws => ∃ w, atI ws (-1) = some w ∧ _
        | none => False)
      rw [h1]
      refine ⟨_, atI_last z, ?_⟩
      simp only [PW.o_nil, PW.o_seq, PW.o_asg, PW.o_par, PW.o_asgI, PW.o_aug, PW.o_augI, PW.o_ex, PW.o_ret, PW.o_retN, PW.o_ifs, PW.o_for, PW.o_whl, PW.o_rais, PW.o_brk, PW.o_cnt, PW.o_pass, PW.e_var, PW.e_int, PW.e_bl, PW.e_non, PW.e_str, PW.e_gint, PW.e_gti, PW.e_gtt, PW.e_gst, PW.e_rev, PW.e_cls, PW.e_ty, PW.e_tup, PW.e_lst, PW.e_bin, PW.e_neg, PW.e_not, PW.e_and, PW.e_or, PW.e_cmp, PW.e_chn, PW.e_ite, PW.e_ix, PW.e_slc, PW.e_call, PW.e_callk, PW.e_blt, PW.e_mth, PW.e_lrng, PW.e_att, PW.e_hrd, PW.e_comp, PW.e_comp2, PW.t_var, PW.t_bl, PW.t_cmp, PW.t_chn, PW.t_not, PW.t_and, PW.t_or, PW.t_ite, PW.t_call, PW.t_callk, PW.t_blt, PW.t_ix, PW.a_nil, PW.a_cons, PW.a_scons, PW.p_nil, PW.p_int, PW.p_var, PW.p_bin, PW.p_neg, PW.c_cmp, PW.c_chn, PW.c_not, PW.c_and, PW.c_or, PW.c_call, PW.c_blt, PW.c_var, PW.t_int, PW.c_nil, PW.i_rng, PW.i_enm, PW.i_revd, PW.i_zp, PW.i_var, PW.i_tup, PW.i_rev, PW.i_comp, PW.i_ix, PW.i_gti, PW.i_call, PW.i_slc, PW.op_add, PW.op_sub, PW.op_mul, PW.op_fdv, PW.op_mod, PW.op_pow, PW.op_addS, PW.op_addT, PW.op_addL, PW.op_repL, PW.cm_lt, PW.cm_le, PW.cm_gt, PW.cm_ge, PW.cm_eq, PW.cm_ne, PW.cm_eqS, PW.cm_neS, PW.cm_eqT, PW.cm_neT, PW.cm_eqL, PW.cm_neL, PW.cm_inT, PW.cm_niT, PW.cm_eqB, PW.cm_isNN, PW.cm_isNE, PW.cm_isNT, PW.cm_isNI, PW.cm_noNN, PW.cm_noNE, PW.cm_noNT, PW.cm_noNI, PW.tr_bl, PW.tr_int, PW.tr_non, PW.tr_lst, PW.tr_rol, PW.tr_tup, PW.ix_rol, PW.b_abs, PW.b_int, PW.b_boolI, PW.b_boolB, PW.b_intB, PW.b_max, PW.b_min, PW.b_lenT, PW.b_lenR, PW.b_lenL, PW.b_sum, PW.b_all, PW.b_any, PW.b_sorted, PW.b_tupT, PW.b_listT, PW.b_listL, PW.b_isN, PW.b_isB, PW.b_isS, PW.b_tupL, PW.b_isI, PW.b_isT, PW.b_isE, PW.m_pop, PW.m_ext, PW.m_rev, PW.m_app, PW.g_nm, PW.g_tup, PW.g_cons, PW.g_nil, endW, startW, List.map_cons, List.map_nil, List.length_cons, List.length_nil, List.replicate, Nat.reduceAdd, Nat.reduceSub, Nat.zero_add, List.cons_append, List.nil_append, List.append_nil, List.getElem?_cons_zero, List.getElem?_cons_succ, List.set_cons_zero, List.set_cons_succ, setS, T.alen, newL]
      by_cases y : ms.getLast z = 0
      · simp only [decide_eq_true y, if_true]
        refine ⟨⟨_, h1⟩, ms.map Vl.int, .int (ms.getLast z), h1, ?_, ?_⟩
        · rw [List.length_map, List.getElem?_map, List.getElem?_eq_getElem (by have := List.length_pos_iff.mpr z; omega), List.getLast_eq_getElem]; rfl
        · refine ⟨_, S.upd q (ms.dropLast.map Vl.int), ⟨rfl, fun _ _ e => e⟩, ?_, ⟨ms.dropLast, rfl, rfl, by rw [QM.strip_step z y, hs]⟩, ?_⟩
          · intro a ws e
            by_cases w : a = q
            · subst w
              rw [Sto.upd_same] at e ⊢
              rw [← e, List.map_dropLast]
            · rw [Sto.upd_ne w] at e ⊢
              have w2 : a ≠ r := fun z => by
                rw [z] at e w
                rw [Sto.upd_ne w, e] at hr; cases hr
              rw [Sto.upd_ne w2, Sto.upd_ne w]; exact e
          · rw [Sto.upd_same, Sto.upd_same]
            show (ms.dropLast.map Vl.int).length < (ms.map Vl.int).length
            rw [List.length_map, List.length_map, List.length_dropLast]
            have := List.length_pos_iff.mpr z
            omega
      · simp only [decide_eq_false y, Bool.false_eq_true, if_false]
        refine fin ?_
        rw [← hs, QM.strip_id fun _ => y]
  · exact h.elim
theorem upd_id {S : Sto} {q : Addr} {ws : List Vl} (h : S q = some ws) : S.upd q ws = S := by
  funext b
  by_cases z : b = q
  · rw [z, Sto.upd_same, h]
  · rw [Sto.upd_ne z]
def enK (k : Nat) (ws : List Vl) : List Vl := (ws.zipIdx k).map fun p => Vl.tup [.int (p.2 : Nat), p.1]
theorem enumW_K (ws : List Vl) : enumW ws = enK 0 ws := rfl
theorem enK_cons (k : Nat) (w : Vl) (ws : List Vl) : enK k (w :: ws) = .tup [.int (k : Nat), w] :: enK (k + 1) ws := by
  unfold enK
  rw [List.zipIdx_cons, List.map_cons]
theorem enK_nil (k : Nat) : enK k [] = [] := rfl
def bProdI : B := .seq (.asgI (.var 2) (.bin .Add (.var 3) (.var 5)) (.bin .Add (.ix (.var 2) (.bin .Add (.var 3) (.var 5))) (.bin .Mult (.var 4) (.var 6)))) .nil
def bProdO : B := .seq (.for (.tup (.cons (.nm 5) (.cons (.nm 6) .nil))) (.enm (.var 1)) bProdI) .nil
theorem bProd_eq (t : Nat) : bProd t = .seq (.asg (.nm 2) (.bin .Mult (.lst (.cons (.int 0) .nil)) (.blt .max2 (.cons (.int 0) (.cons (.bin .Sub (.bin .Add (.blt .len (.cons (.var 0) .nil)) (.blt .len (.cons (.var 1) .nil))) (.int 1)) .nil)))))
    (.seq (.for (.tup (.cons (.nm 3) (.cons (.nm 4) .nil))) (.enm (.var 0)) bProdO) (.seq (.ret (.ite (.and (.cmp .NotEq (.var 0) (.tup .nil)) (.cmp .NotEq (.var 1) (.tup .nil))) (.call t (.cons (.var 2) .nil)) (.tup .nil))) .nil)) := rfl
theorem prodI {R : Rc} {q : Addr} {o1 o2 : Option Vl} {a : Int} {k : Nat} {D : WEn} (ha : a.natAbs < 2 ^ 1000) : ∀ (bs : List Int) (j : Nat) (f : List Int) (S : Sto) (x y : Option Vl), (∀ b ∈ bs, b.natAbs < 2 ^ 1000) → S q = some (f.map Vl.int) → k + j + bs.length ≤ f.length →
    (∀ x y, D.nx [o1, o2, some (.lst q), some (.int (k : Nat)), some (.int a), x, y] (S.upd q ((QM.row f (k + j) a bs).map Vl.int))) →
    forR (fun _ => True) (gP (.tup (.cons (.nm 5) (.cons (.nm 6) .nil)))) (rdB bProdI R) D (enK j (bs.map Vl.int)) [o1, o2, some (.lst q), some (.int (k : Nat)), some (.int a), x, y] S := by
  intro bs
  induction bs with
  | nil =>
    intro j f S x y _ hf _ hD
    rw [List.map_nil, enK_nil, for_nil]
    have := hD x y
    rw [QM.row, upd_id hf] at this
    exact ⟨trivial, this⟩
  | cons b bs ih =>
    intro j f S x y hb hf hl hD
    rw [List.length_cons] at hl
    rw [List.map_cons, enK_cons, for_cons]
    refine ⟨trivial, ?_⟩
    unfold bProdI
    simp only [PW.o_nil, PW.o_seq, PW.o_asg, PW.o_par, PW.o_asgI, PW.o_aug, PW.o_augI, PW.o_ex, PW.o_ret, PW.o_retN, PW.o_ifs, PW.o_for, PW.o_whl, PW.o_rais, PW.o_brk, PW.o_cnt, PW.o_pass, PW.e_var, PW.e_int, PW.e_bl, PW.e_non, PW.e_str, PW.e_gint, PW.e_gti, PW.e_gtt, PW.e_gst, PW.e_rev, PW.e_cls, PW.e_ty, PW.e_tup, PW.e_lst, PW.e_bin, PW.e_neg, PW.e_not, PW.e_and, PW.e_or, PW.e_cmp, PW.e_chn, PW.e_ite, PW.e_ix, PW.e_slc, PW.e_call, PW.e_callk, PW.e_blt, PW.e_mth, PW.e_lrng, PW.e_att, PW.e_hrd, PW.e_comp, PW.e_comp2, PW.t_var, PW.t_bl, PW.t_cmp, PW.t_chn, PW.t_not, PW.t_and, PW.t_or, PW.t_ite, PW.t_call, PW.t_callk, PW.t_blt, PW.t_ix, PW.a_nil, PW.a_cons, PW.a_scons, PW.p_nil, PW.p_int, PW.p_var, PW.p_bin, PW.p_neg, PW.c_cmp, PW.c_chn, PW.c_not, PW.c_and, PW.c_or, PW.c_call, PW.c_blt, PW.c_var, PW.t_int, PW.c_nil, PW.i_rng, PW.i_enm, PW.i_revd, PW.i_zp, PW.i_var, PW.i_tup, PW.i_rev, PW.i_comp, PW.i_ix, PW.i_gti, PW.i_call, PW.i_slc, PW.op_add, PW.op_sub, PW.op_mul, PW.op_fdv, PW.op_mod, PW.op_pow, PW.op_addS, PW.op_addT, PW.op_addL, PW.op_repL, PW.cm_lt, PW.cm_le, PW.cm_gt, PW.cm_ge, PW.cm_eq, PW.cm_ne, PW.cm_eqS, PW.cm_neS, PW.cm_eqT, PW.cm_neT, PW.cm_eqL, PW.cm_neL, PW.cm_inT, PW.cm_niT, PW.cm_eqB, PW.cm_isNN, PW.cm_isNE, PW.cm_isNT, PW.cm_isNI, PW.cm_noNN, PW.cm_noNE, PW.cm_noNT, PW.cm_noNI, PW.tr_bl, PW.tr_int, PW.tr_non, PW.tr_lst, PW.tr_rol, PW.tr_tup, PW.ix_rol, PW.b_abs, PW.b_int, PW.b_boolI, PW.b_boolB, PW.b_intB, PW.b_max, PW.b_min, PW.b_lenT, PW.b_lenR, PW.b_lenL, PW.b_sum, PW.b_all, PW.b_any, PW.b_sorted, PW.b_tupT, PW.b_listT, PW.b_listL, PW.b_isN, PW.b_isB, PW.b_isS, PW.b_tupL, PW.b_isI, PW.b_isT, PW.b_isE, PW.m_pop, PW.m_ext, PW.m_rev, PW.m_app, PW.g_nm, PW.g_tup, PW.g_cons, PW.g_nil, endW, startW, List.map_cons, List.map_nil, List.length_cons, List.length_nil, List.replicate, Nat.reduceAdd, Nat.reduceSub, Nat.zero_add, List.cons_append, List.nil_append, List.append_nil, List.getElem?_cons_zero, List.getElem?_cons_succ, List.set_cons_zero, List.set_cons_succ, setS, T.alen]
    rw [show ((k : Nat) : Int) + ((j : Nat) : Int) = ((k + j : Nat) : Int) by omega]
    refine ixI hf (by omega) ?_
    refine ⟨mulS ha (hb b List.mem_cons_self), ?_⟩
    simp only [PW.o_nil, PW.o_seq, PW.o_asg, PW.o_par, PW.o_asgI, PW.o_aug, PW.o_augI, PW.o_ex, PW.o_ret, PW.o_retN, PW.o_ifs, PW.o_for, PW.o_whl, PW.o_rais, PW.o_brk, PW.o_cnt, PW.o_pass, PW.e_var, PW.e_int, PW.e_bl, PW.e_non, PW.e_str, PW.e_gint, PW.e_gti, PW.e_gtt, PW.e_gst, PW.e_rev, PW.e_cls, PW.e_ty, PW.e_tup, PW.e_lst, PW.e_bin, PW.e_neg, PW.e_not, PW.e_and, PW.e_or, PW.e_cmp, PW.e_chn, PW.e_ite, PW.e_ix, PW.e_slc, PW.e_call, PW.e_callk, PW.e_blt, PW.e_mth, PW.e_lrng, PW.e_att, PW.e_hrd, PW.e_comp, PW.e_comp2, PW.t_var, PW.t_bl, PW.t_cmp, PW.t_chn, PW.t_not, PW.t_and, PW.t_or, PW.t_ite, PW.t_call, PW.t_callk, PW.t_blt, PW.t_ix, PW.a_nil, PW.a_cons, PW.a_scons, PW.p_nil, PW.p_int, PW.p_var, PW.p_bin, PW.p_neg, PW.c_cmp, PW.c_chn, PW.c_not, PW.c_and, PW.c_or, PW.c_call, PW.c_blt, PW.c_var, PW.t_int, PW.c_nil, PW.i_rng, PW.i_enm, PW.i_revd, PW.i_zp, PW.i_var, PW.i_tup, PW.i_rev, PW.i_comp, PW.i_ix, PW.i_gti, PW.i_call, PW.i_slc, PW.op_add, PW.op_sub, PW.op_mul, PW.op_fdv, PW.op_mod, PW.op_pow, PW.op_addS, PW.op_addT, PW.op_addL, PW.op_repL, PW.cm_lt, PW.cm_le, PW.cm_gt, PW.cm_ge, PW.cm_eq, PW.cm_ne, PW.cm_eqS, PW.cm_neS, PW.cm_eqT, PW.cm_neT, PW.cm_eqL, PW.cm_neL, PW.cm_inT, PW.cm_niT, PW.cm_eqB, PW.cm_isNN, PW.cm_isNE, PW.cm_isNT, PW.cm_isNI, PW.cm_noNN, PW.cm_noNE, PW.cm_noNT, PW.cm_noNI, PW.tr_bl, PW.tr_int, PW.tr_non, PW.tr_lst, PW.tr_rol, PW.tr_tup, PW.ix_rol, PW.b_abs, PW.b_int, PW.b_boolI, PW.b_boolB, PW.b_intB, PW.b_max, PW.b_min, PW.b_lenT, PW.b_lenR, PW.b_lenL, PW.b_sum, PW.b_all, PW.b_any, PW.b_sorted, PW.b_tupT, PW.b_listT, PW.b_listL, PW.b_isN, PW.b_isB, PW.b_isS, PW.b_tupL, PW.b_isI, PW.b_isT, PW.b_isE, PW.m_pop, PW.m_ext, PW.m_rev, PW.m_app, PW.g_nm, PW.g_tup, PW.g_cons, PW.g_nil, endW, startW, List.map_cons, List.map_nil, List.length_cons, List.length_nil, List.replicate, Nat.reduceAdd, Nat.reduceSub, Nat.zero_add, List.cons_append, List.nil_append, List.append_nil, List.getElem?_cons_zero, List.getElem?_cons_succ, List.set_cons_zero, List.set_cons_succ, setS, T.alen]
    refine setI hf (by omega) ?_
    refine less_same (ih (j + 1) _ _ _ _ (fun c m => hb c (List.mem_cons_of_mem _ m)) Sto.upd_same (by rw [List.length_set]; omega) fun x y => ?_)
    rw [Sto.upd_upd]
    exact hD x y
theorem prodO {R : Rc} {q : Addr} {bs : List Int} {o1 : Option Vl} {D : WEn} (hb : ∀ b ∈ bs, b.natAbs < 2 ^ 1000) : ∀ (as : List Int) (k : Nat) (f : List Int) (S : Sto) (x y u v : Option Vl), (∀ a ∈ as, a.natAbs < 2 ^ 1000) → S q = some (f.map Vl.int) → k + as.length + bs.length ≤ f.length + 1 →
    (∀ x y u v, D.nx [o1, some (iT bs), some (.lst q), x, y, u, v] (S.upd q ((QM.prod f k as bs).map Vl.int))) →
    forR (fun _ => True) (gP (.tup (.cons (.nm 3) (.cons (.nm 4) .nil)))) (rdB bProdO R) D (enK k (as.map Vl.int)) [o1, some (iT bs), some (.lst q), x, y, u, v] S := by
  intro as
  induction as with
  | nil =>
    intro k f S x y u v _ hf _ hD
    rw [List.map_nil, enK_nil, for_nil]
    have := hD x y u v
    rw [QM.prod, upd_id hf] at this
    exact ⟨trivial, this⟩
  | cons a as ih =>
    intro k f S x y u v ha hf hl hD
    rw [List.length_cons] at hl
    rw [List.map_cons, enK_cons, for_cons]
    refine ⟨trivial, ?_⟩
    unfold bProdO
    simp only [PW.o_nil, PW.o_seq, PW.o_asg, PW.o_par, PW.o_asgI, PW.o_aug, PW.o_augI, PW.o_ex, PW.o_ret, PW.o_retN, PW.o_ifs, PW.o_for, PW.o_whl, PW.o_rais, PW.o_brk, PW.o_cnt, PW.o_pass, PW.e_var, PW.e_int, PW.e_bl, PW.e_non, PW.e_str, PW.e_gint, PW.e_gti, PW.e_gtt, PW.e_gst, PW.e_rev, PW.e_cls, PW.e_ty, PW.e_tup, PW.e_lst, PW.e_bin, PW.e_neg, PW.e_not, PW.e_and, PW.e_or, PW.e_cmp, PW.e_chn, PW.e_ite, PW.e_ix, PW.e_slc, PW.e_call, PW.e_callk, PW.e_blt, PW.e_mth, PW.e_lrng, PW.e_att, PW.e_hrd, PW.e_comp, PW.e_comp2, PW.t_var, PW.t_bl, PW.t_cmp, PW.t_chn, PW.t_not, PW.t_and, PW.t_or, PW.t_ite, PW.t_call, PW.t_callk, PW.t_blt, PW.t_ix, PW.a_nil, PW.a_cons, PW.a_scons, PW.p_nil, PW.p_int, PW.p_var, PW.p_bin, PW.p_neg, PW.c_cmp, PW.c_chn, PW.c_not, PW.c_and, PW.c_or, PW.c_call, PW.c_blt, PW.c_var, PW.t_int, PW.c_nil, PW.i_rng, PW.i_enm, PW.i_revd, PW.i_zp, PW.i_var, PW.i_tup, PW.i_rev, PW.i_comp, PW.i_ix, PW.i_gti, PW.i_call, PW.i_slc, PW.op_add, PW.op_sub, PW.op_mul, PW.op_fdv, PW.op_mod, PW.op_pow, PW.op_addS, PW.op_addT, PW.op_addL, PW.op_repL, PW.cm_lt, PW.cm_le, PW.cm_gt, PW.cm_ge, PW.cm_eq, PW.cm_ne, PW.cm_eqS, PW.cm_neS, PW.cm_eqT, PW.cm_neT, PW.cm_eqL, PW.cm_neL, PW.cm_inT, PW.cm_niT, PW.cm_eqB, PW.cm_isNN, PW.cm_isNE, PW.cm_isNT, PW.cm_isNI, PW.cm_noNN, PW.cm_noNE, PW.cm_noNT, PW.cm_noNI, PW.tr_bl, PW.tr_int, PW.tr_non, PW.tr_lst, PW.tr_rol, PW.tr_tup, PW.ix_rol, PW.b_abs, PW.b_int, PW.b_boolI, PW.b_boolB, PW.b_intB, PW.b_max, PW.b_min, PW.b_lenT, PW.b_lenR, PW.b_lenL, PW.b_sum, PW.b_all, PW.b_any, PW.b_sorted, PW.b_tupT, PW.b_listT, PW.b_listL, PW.b_isN, PW.b_isB, PW.b_isS, PW.b_tupL, PW.b_isI, PW.b_isT, PW.b_isE, PW.m_pop, PW.m_ext, PW.m_rev, PW.m_app, PW.g_nm, PW.g_tup, PW.g_cons, PW.g_nil, endW, startW, List.map_cons, List.map_nil, List.length_cons, List.length_nil, List.replicate, Nat.reduceAdd, Nat.reduceSub, Nat.zero_add, List.cons_append, List.nil_append, List.append_nil, List.getElem?_cons_zero, List.getElem?_cons_succ, List.set_cons_zero, List.set_cons_succ, setS, T.alen, seqT, enumW_K]
    refine prodI (ha a List.mem_cons_self) bs 0 f S u v hb hf (by omega) fun x y => ?_
    simp only [PW.o_nil, PW.o_seq, PW.o_asg, PW.o_par, PW.o_asgI, PW.o_aug, PW.o_augI, PW.o_ex, PW.o_ret, PW.o_retN, PW.o_ifs, PW.o_for, PW.o_whl, PW.o_rais, PW.o_brk, PW.o_cnt, PW.o_pass, PW.e_var, PW.e_int, PW.e_bl, PW.e_non, PW.e_str, PW.e_gint, PW.e_gti, PW.e_gtt, PW.e_gst, PW.e_rev, PW.e_cls, PW.e_ty, PW.e_tup, PW.e_lst, PW.e_bin, PW.e_neg, PW.e_not, PW.e_and, PW.e_or, PW.e_cmp, PW.e_chn, PW.e_ite, PW.e_ix, PW.e_slc, PW.e_call, PW.e_callk, PW.e_blt, PW.e_mth, PW.e_lrng, PW.e_att, PW.e_hrd, PW.e_comp, PW.e_comp2, PW.t_var, PW.t_bl, PW.t_cmp, PW.t_chn, PW.t_not, PW.t_and, PW.t_or, PW.t_ite, PW.t_call, PW.t_callk, PW.t_blt, PW.t_ix, PW.a_nil, PW.a_cons, PW.a_scons, PW.p_nil, PW.p_int, PW.p_var, PW.p_bin, PW.p_neg, PW.c_cmp, PW.c_chn, PW.c_not, PW.c_and, PW.c_or, PW.c_call, PW.c_blt, PW.c_var, PW.t_int, PW.c_nil, PW.i_rng, PW.i_enm, PW.i_revd, PW.i_zp, PW.i_var, PW.i_tup, PW.i_rev, PW.i_comp, PW.i_ix, PW.i_gti, PW.i_call, PW.i_slc, PW.op_add, PW.op_sub, PW.op_mul, PW.op_fdv, PW.op_mod, PW.op_pow, PW.op_addS, PW.op_addT, PW.op_addL, PW.op_repL, PW.cm_lt, PW.cm_le, PW.cm_gt, PW.cm_ge, PW.cm_eq, PW.cm_ne, PW.cm_eqS, PW.cm_neS, PW.cm_eqT, PW.cm_neT, PW.cm_eqL, PW.cm_neL, PW.cm_inT, PW.cm_niT, PW.cm_eqB, PW.cm_isNN, PW.cm_isNE, PW.cm_isNT, PW.cm_isNI, PW.cm_noNN, PW.cm_noNE, PW.cm_noNT, PW.cm_noNI, PW.tr_bl, PW.tr_int, PW.tr_non, PW.tr_lst, PW.tr_rol, PW.tr_tup, PW.ix_rol, PW.b_abs, PW.b_int, PW.b_boolI, PW.b_boolB, PW.b_intB, PW.b_max, PW.b_min, PW.b_lenT, PW.b_lenR, PW.b_lenL, PW.b_sum, PW.b_all, PW.b_any, PW.b_sorted, PW.b_tupT, PW.b_listT, PW.b_listL, PW.b_isN, PW.b_isB, PW.b_isS, PW.b_tupL, PW.b_isI, PW.b_isT, PW.b_isE, PW.m_pop, PW.m_ext, PW.m_rev, PW.m_app, PW.g_nm, PW.g_tup, PW.g_cons, PW.g_nil, endW, startW, List.map_cons, List.map_nil, List.length_cons, List.length_nil, List.replicate, Nat.reduceAdd, Nat.reduceSub, Nat.zero_add, List.cons_append, List.nil_append, List.append_nil, List.getElem?_cons_zero, List.getElem?_cons_succ, List.set_cons_zero, List.set_cons_succ, setS, T.alen]
    refine less_same (ih (k + 1) _ _ _ _ _ _ (fun c m => ha c (List.mem_cons_of_mem _ m)) Sto.upd_same (by rw [QM.row_len]; omega) fun x y u v => ?_)
    rw [Sto.upd_upd]
    exact hD x y u v
def sProd : SpW := fun ws S Q _ => match ws with
  | [.tup ws, .tup us] => ∃ as bs : List Int, ws = as.map Vl.int ∧ us = bs.map Vl.int ∧ 1 ≤ as.length ∧ 1 ≤ bs.length ∧ as.length ≤ 1000 ∧ bs.length ≤ 1000 ∧ (∀ a ∈ as, a.natAbs < 2 ^ 1000) ∧ (∀ b ∈ bs, b.natAbs < 2 ^ 1000) ∧ Q (iT (QM.strip (QM.mul as bs))) S
  | _ => False
theorem tProd (t : Nat) (Γ : Nat → SpW) (sb ws S Q E) (g : Γ t = sTold) (h : sProd ws S Q E) : rdB (bProd t) ⟨Γ, E, sb⟩ (endW Q) (startW 7 ws) S := by
  unfold sProd at h
  split at h
  · rename_i ws us
    obtain ⟨as, bs, rfl, rfl, la, lb, la', lb', ha, hb, h⟩ := h
    rw [bProd_eq]
    simp only [PW.o_nil, PW.o_seq, PW.o_asg, PW.o_par, PW.o_asgI, PW.o_aug, PW.o_augI, PW.o_ex, PW.o_ret, PW.o_retN, PW.o_ifs, PW.o_for, PW.o_whl, PW.o_rais, PW.o_brk, PW.o_cnt, PW.o_pass, PW.e_var, PW.e_int, PW.e_bl, PW.e_non, PW.e_str, PW.e_gint, PW.e_gti, PW.e_gtt, PW.e_gst, PW.e_rev, PW.e_cls, PW.e_ty, PW.e_tup, PW.e_lst, PW.e_bin, PW.e_neg, PW.e_not, PW.e_and, PW.e_or, PW.e_cmp, PW.e_chn, PW.e_ite, PW.e_ix, PW.e_slc, PW.e_call, PW.e_callk, PW.e_blt, PW.e_mth, PW.e_lrng, PW.e_att, PW.e_hrd, PW.e_comp, PW.e_comp2, PW.t_var, PW.t_bl, PW.t_cmp, PW.t_chn, PW.t_not, PW.t_and, PW.t_or, PW.t_ite, PW.t_call, PW.t_callk, PW.t_blt, PW.t_ix, PW.a_nil, PW.a_cons, PW.a_scons, PW.p_nil, PW.p_int, PW.p_var, PW.p_bin, PW.p_neg, PW.c_cmp, PW.c_chn, PW.c_not, PW.c_and, PW.c_or, PW.c_call, PW.c_blt, PW.c_var, PW.t_int, PW.c_nil, PW.i_rng, PW.i_enm, PW.i_revd, PW.i_zp, PW.i_var, PW.i_tup, PW.i_rev, PW.i_comp, PW.i_ix, PW.i_gti, PW.i_call, PW.i_slc, PW.op_add, PW.op_sub, PW.op_mul, PW.op_fdv, PW.op_mod, PW.op_pow, PW.op_addS, PW.op_addT, PW.op_addL, PW.op_repL, PW.cm_lt, PW.cm_le, PW.cm_gt, PW.cm_ge, PW.cm_eq, PW.cm_ne, PW.cm_eqS, PW.cm_neS, PW.cm_eqT, PW.cm_neT, PW.cm_eqL, PW.cm_neL, PW.cm_inT, PW.cm_niT, PW.cm_eqB, PW.cm_isNN, PW.cm_isNE, PW.cm_isNT, PW.cm_isNI, PW.cm_noNN, PW.cm_noNE, PW.cm_noNT, PW.cm_noNI, PW.tr_bl, PW.tr_int, PW.tr_non, PW.tr_lst, PW.tr_rol, PW.tr_tup, PW.ix_rol, PW.b_abs, PW.b_int, PW.b_boolI, PW.b_boolB, PW.b_intB, PW.b_max, PW.b_min, PW.b_lenT, PW.b_lenR, PW.b_lenL, PW.b_sum, PW.b_all, PW.b_any, PW.b_sorted, PW.b_tupT, PW.b_listT, PW.b_listL, PW.b_isN, PW.b_isB, PW.b_isS, PW.b_tupL, PW.b_isI, PW.b_isT, PW.b_isE, PW.m_pop, PW.m_ext, PW.m_rev, PW.m_app, PW.g_nm, PW.g_tup, PW.g_cons, PW.g_nil, endW, startW, List.map_cons, List.map_nil, List.length_cons, List.length_nil, List.replicate, Nat.reduceAdd, Nat.reduceSub, Nat.zero_add, List.cons_append, List.nil_append, List.append_nil, List.getElem?_cons_zero, List.getElem?_cons_succ, List.set_cons_zero, List.set_cons_succ, setS, T.alen, newL, List.length_map, seqT, enumW_K]
    refine ⟨by rw [sizeLine_eq]; omega, fun p hp => ?_⟩
    have e0 : (if 0 < (as.length : Int) + bs.length - 1 then (as.length : Int) + bs.length - 1 else 0) = ((as.length + bs.length - 1 : Nat) : Int) := by
      rw [if_pos (by omega)]; omega
    simp only [gt_iff_lt, e0, Int.toNat_natCast]
    refine ⟨_, Sto.upd_same, by omega, by omega, by rw [sizeLine_eq]; show 1 * _ ≤ _; omega, fun q hq => ?_⟩
    have e1 : (List.replicate (as.length + bs.length - 1) [Vl.int 0]).flatten = (List.replicate (as.length + bs.length - 1) (0 : Int)).map Vl.int := by
      rw [List.map_replicate]
      generalize as.length + bs.length - 1 = n
      induction n with
      | zero => rfl
      | succ n ih => rw [List.replicate_succ, List.replicate_succ, List.flatten_cons, ih]; rfl
    rw [e1]
    have hw : wsub S ((S.upd p [.int 0]).upd q ((QM.mul as bs).map Vl.int)) := by
      refine wsub_upd (wsub_upd (wsub_refl S) hp) ?_
      cases z : S q with
      | none => rfl
      | some ws =>
        by_cases w : q = p
        · rw [w, hp] at z; cases z
        · rw [Sto.upd_ne w, z] at hq; cases hq
    refine prodO hb as 0 _ _ none none none none ha Sto.upd_same (by rw [List.length_replicate]; omega) fun x y u v => ?_
    rw [Sto.upd_upd]
    show rdB _ _ _ _ ((S.upd p [Vl.int 0]).upd q ((QM.mul as bs).map Vl.int))
    simp only [PW.o_nil, PW.o_seq, PW.o_asg, PW.o_par, PW.o_asgI, PW.o_aug, PW.o_augI, PW.o_ex, PW.o_ret, PW.o_retN, PW.o_ifs, PW.o_for, PW.o_whl, PW.o_rais, PW.o_brk, PW.o_cnt, PW.o_pass, PW.e_var, PW.e_int, PW.e_bl, PW.e_non, PW.e_str, PW.e_gint, PW.e_gti, PW.e_gtt, PW.e_gst, PW.e_rev, PW.e_cls, PW.e_ty, PW.e_tup, PW.e_lst, PW.e_bin, PW.e_neg, PW.e_not, PW.e_and, PW.e_or, PW.e_cmp, PW.e_chn, PW.e_ite, PW.e_ix, PW.e_slc, PW.e_call, PW.e_callk, PW.e_blt, PW.e_mth, PW.e_lrng, PW.e_att, PW.e_hrd, PW.e_comp, PW.e_comp2, PW.t_var, PW.t_bl, PW.t_cmp, PW.t_chn, PW.t_not, PW.t_and, PW.t_or, PW.t_ite, PW.t_call, PW.t_callk, PW.t_blt, PW.t_ix, PW.a_nil, PW.a_cons, PW.a_scons, PW.p_nil, PW.p_int, PW.p_var, PW.p_bin, PW.p_neg, PW.c_cmp, PW.c_chn, PW.c_not, PW.c_and, PW.c_or, PW.c_call, PW.c_blt, PW.c_var, PW.t_int, PW.c_nil, PW.i_rng, PW.i_enm, PW.i_revd, PW.i_zp, PW.i_var, PW.i_tup, PW.i_rev, PW.i_comp, PW.i_ix, PW.i_gti, PW.i_call, PW.i_slc, PW.op_add, PW.op_sub, PW.op_mul, PW.op_fdv, PW.op_mod, PW.op_pow, PW.op_addS, PW.op_addT, PW.op_addL, PW.op_repL, PW.cm_lt, PW.cm_le, PW.cm_gt, PW.cm_ge, PW.cm_eq, PW.cm_ne, PW.cm_eqS, PW.cm_neS, PW.cm_eqT, PW.cm_neT, PW.cm_eqL, PW.cm_neL, PW.cm_inT, PW.cm_niT, PW.cm_eqB, PW.cm_isNN, PW.cm_isNE, PW.cm_isNT, PW.cm_isNI, PW.cm_noNN, PW.cm_noNE, PW.cm_noNT, PW.cm_noNI, PW.tr_bl, PW.tr_int, PW.tr_non, PW.tr_lst, PW.tr_rol, PW.tr_tup, PW.ix_rol, PW.b_abs, PW.b_int, PW.b_boolI, PW.b_boolB, PW.b_intB, PW.b_max, PW.b_min, PW.b_lenT, PW.b_lenR, PW.b_lenL, PW.b_sum, PW.b_all, PW.b_any, PW.b_sorted, PW.b_tupT, PW.b_listT, PW.b_listL, PW.b_isN, PW.b_isB, PW.b_isS, PW.b_tupL, PW.b_isI, PW.b_isT, PW.b_isE, PW.m_pop, PW.m_ext, PW.m_rev, PW.m_app, PW.g_nm, PW.g_tup, PW.g_cons, PW.g_nil, endW, startW, List.map_cons, List.map_nil, List.length_cons, List.length_nil, List.replicate, Nat.reduceAdd, Nat.reduceSub, Nat.zero_add, List.cons_append, List.nil_append, List.append_nil, List.getElem?_cons_zero, List.getElem?_cons_succ, List.set_cons_zero, List.set_cons_succ, setS, T.alen, eqT0, g, sTold]
    have n1 : as ≠ [] := fun z => by rw [z] at la; cases la
    have n2 : bs ≠ [] := fun z => by rw [z] at lb; cases lb
    simp only [decide_eq_false n1, decide_eq_false n2, Bool.not_false, if_true]
    exact ⟨Nat.zero_le _, Nat.zero_le _, _, Sto.upd_same, by rw [QM.mul_len, sizeLine_eq]; omega, ret_to hw h⟩
  · exact h.elim
end LQ

set_option Elab.async false
set_option linter.all false
set_option maxRecDepth 100000
set_option maxHeartbeats 2000000
set_option exponentiation.threshold 100000
/-! the program's looks at whole numbers and curves; comprehensions -/
namespace LQ
open PySem PySem.Spec PyProof.Rows L2 PW
/-- a comprehension whose elements leave the store -/
theorem lc_fm {α : Type} {G : Sto → Prop} {g c e} {σ : WSt} {D : Addr} {Q : List Vl → Sto → Prop} {ι : α → Vl} {F : α → Option Vl} (J : Sto → Prop) (hJ : ∀ S' l, J S' → J (S'.upd D l)) (hG : ∀ S', J S' → G S') : ∀ (ns : List α) (acc : List Vl) (S : Sto),
    (∀ a ∈ ns, ∀ (S' : Sto) (K : WK) (K2 : Sto → Prop), J S' → (match F a with
      | some y => ∀ S4, wsub S' S4 → K y S4
      | none => K2 S') → g (ι a) σ S' fun σ2 S2 => c σ2 S2 fun b S3 => if b = true then e σ2 S3 K else K2 S3) →
    J S → S D = some acc → acc.length + ns.length ≤ sizeLine → Q (acc ++ ns.filterMap F) (S.upd D (acc ++ ns.filterMap F)) → lcR G g c e σ D Q (ns.map ι) acc S := by
  intro ns
  induction ns with
  | nil =>
    intro acc S _ j h _ q
    rw [List.map_nil, lc_nil]
    rw [List.filterMap_nil, List.append_nil, upd_id h] at q
    exact ⟨hG _ j, h, q⟩
  | cons a ns ih =>
    intro acc S H j h l q
    rw [List.length_cons] at l
    rw [List.map_cons, lc_cons]
    refine ⟨hG _ j, H a List.mem_cons_self S _ _ j ?_⟩
    cases z : F a with
    | none =>
      rw [List.filterMap_cons, z] at q
      exact ih acc S (fun b m => H b (List.mem_cons_of_mem _ m)) j h (by omega) q
    | some y =>
      intro S4 hw
      rw [List.filterMap_cons, z] at q
      refine ⟨hw _ _ h, by omega, S.upd D (acc ++ [y]), wsub_up2 hw, ih _ _ (fun b m => H b (List.mem_cons_of_mem _ m)) (hJ _ _ j) Sto.upd_same (by rw [List.length_append, List.length_singleton]; omega) ?_⟩
      rw [Sto.upd_upd, List.append_assoc]
      exact q
theorem fm_map {α β : Type} {f : α → β} (l : List α) : l.filterMap (fun a => some (f a)) = l.map f := by
  induction l with
  | nil => rfl
  | cons a l ih => rw [List.filterMap_cons, List.map_cons, ih]
theorem isi_flat {v : Vl} {n : String} {sb : Subs} {S : Sto} {Q : WK} (h : v.flat = true) : bltW sb .isi [v, .ty n] S Q = ∃ r, True ∧ kitB (tyName v) n = some r ∧ Q (.bl r) S := by
  cases v <;> first | rfl | cases h
def isI : Vl → Int → Int → Bool
  | .int i, lo, hi => decide (lo ≤ i) && decide (i ≤ hi)
  | _, _, _ => false
def isW : Vl → Bool
  | .int _ => true
  | _ => false

def bIsInt : B := (.seq (.ret (.and (.blt .isi (.cons (.var 0) (.cons (.ty "int") .nil))) (.and (.not (.blt .isi (.cons (.var 0) (.cons (.ty "bool") .nil)))) (.chn .LtE .LtE (.var 1) (.var 0) (.var 2))))) .nil)
def bIsWhole : B := (.seq (.ret (.and (.blt .isi (.cons (.var 0) (.cons (.ty "int") .nil))) (.not (.blt .isi (.cons (.var 0) (.cons (.ty "bool") .nil)))))) .nil)
def bLookInt (t c : Nat) : B := (.seq (.ifs (.not (.call t (.cons (.var 0) (.cons (.var 1) (.cons (.var 2) .nil))))) (.seq (.rais c (.var 0)) .nil) .nil) .nil)
def bAreWholes (t : Nat) : B := (.seq (.ret (.and (.blt .isi (.cons (.var 0) (.cons (.ty "tuple") .nil))) (.blt .all (.cons (.comp (.call t (.cons (.var 1) .nil)) (.nm 1) (.var 0) .nil [("one", 1)]) .nil)))) .nil)
def bAnyCurve (t : Nat) : B := (.seq (.ret (.and (.call t (.cons (.var 0) .nil)) (.or (.cmp .Eq (.var 0) (.tup .nil)) (.cmp .NotEq (.ix (.var 0) (.neg (.int 1))) (.int 0))))) .nil)
def bIsCurve (t : Nat) : B := (.seq (.ifs (.or (.not (.call t (.cons (.var 0) .nil))) (.cmp .Gt (.blt .len (.cons (.var 0) .nil)) (.bin .Add (.gint "MOST_DEGREE" 12) (.int 1)))) (.seq (.ret (.bl false)) .nil) .nil) (.seq (.ret (.blt .all (.cons (.comp (.cmp .LtE (.blt .abs (.cons (.var 1) .nil)) (.gint "MOST_PART" 1000000000)) (.nm 1) (.var 0) .nil [("part", 1)]) .nil))) .nil))
def bLookCurve (t c : Nat) : B := (.seq (.ifs (.not (.call t (.cons (.var 0) .nil))) (.seq (.rais c (.var 0)) .nil) .nil) .nil)
def bLookReal (t c : Nat) : B := (.seq (.ex (.call t (.cons (.var 0) .nil))) (.seq (.ifs (.cmp .Eq (.var 0) (.tup .nil)) (.seq (.rais c (.var 0)) .nil) .nil) .nil))
def bToldP : B := (.seq (.asg (.nm 1) (.blt .len (.cons (.var 0) .nil))) (.seq (.whl (.and (.cmp .Gt (.var 1) (.int 0)) (.cmp .Eq (.ix (.var 0) (.bin .Sub (.var 1) (.int 1))) (.int 0))) (.seq (.aug 1 .Sub (.int 1)) .nil)) (.seq (.ret (.blt .tuple (.cons (.slc (.var 0) .nil (.var 1)) .nil))) .nil)))
def bSlopeOf (t : Nat) : B := (.seq (.ret (.call t (.cons (.slc (.comp (.bin .Mult (.var 1) (.var 2)) (.tup (.cons (.nm 1) (.cons (.nm 2) .nil))) (.enm (.var 0)) .nil [("at", 1), ("part", 2)]) (.int 1) .nil) .nil))) .nil)

def sIsInt : SpW := fun ws S Q _ => match ws with
  | [v, .int lo, .int hi] => v.flat = true ∧ Q (.bl (isI v lo hi)) S
  | _ => False
def sIsWhole : SpW := fun ws S Q _ => match ws with
  | [v] => v.flat = true ∧ Q (.bl (isW v)) S
  | _ => False
theorem kits : kitB "int" "int" = some true ∧ kitB "int" "bool" = some false ∧ kitB "bool" "int" = some true ∧ kitB "bool" "bool" = some true ∧ kitB "NoneType" "int" = some false ∧ kitB "str" "int" = some false ∧ kitB "tuple" "tuple" = some true := by decide +kernel
theorem tIsInt (Γ sb ws S Q E) (h : sIsInt ws S Q E) : rdB bIsInt ⟨Γ, E, sb⟩ (endW Q) (startW 3 ws) S := by
  unfold sIsInt at h
  split at h
  · rename_i v lo hi
    obtain ⟨hv, h⟩ := h
    obtain ⟨k1, k2, k3, k4, k5, k6, _⟩ := kits
    unfold bIsInt
    simp only [PW.o_nil, PW.o_seq, PW.o_asg, PW.o_par, PW.o_asgI, PW.o_aug, PW.o_augI, PW.o_ex, PW.o_ret, PW.o_retN, PW.o_ifs, PW.o_for, PW.o_whl, PW.o_rais, PW.o_brk, PW.o_cnt, PW.o_pass, PW.e_var, PW.e_int, PW.e_bl, PW.e_non, PW.e_str, PW.e_gint, PW.e_gti, PW.e_gtt, PW.e_gst, PW.e_rev, PW.e_cls, PW.e_ty, PW.e_tup, PW.e_lst, PW.e_bin, PW.e_neg, PW.e_not, PW.e_and, PW.e_or, PW.e_cmp, PW.e_chn, PW.e_ite, PW.e_ix, PW.e_slc, PW.e_call, PW.e_callk, PW.e_blt, PW.e_mth, PW.e_lrng, PW.e_att, PW.e_hrd, PW.e_comp, PW.e_comp2, PW.t_var, PW.t_bl, PW.t_cmp, PW.t_chn, PW.t_not, PW.t_and, PW.t_or, PW.t_ite, PW.t_call, PW.t_callk, PW.t_blt, PW.t_ix, PW.a_nil, PW.a_cons, PW.a_scons, PW.p_nil, PW.p_int, PW.p_var, PW.p_bin, PW.p_neg, PW.c_cmp, PW.c_chn, PW.c_not, PW.c_and, PW.c_or, PW.c_call, PW.c_blt, PW.c_var, PW.t_int, PW.c_nil, PW.i_rng, PW.i_enm, PW.i_revd, PW.i_zp, PW.i_var, PW.i_tup, PW.i_rev, PW.i_comp, PW.i_ix, PW.i_gti, PW.i_call, PW.i_slc, PW.op_add, PW.op_sub, PW.op_mul, PW.op_fdv, PW.op_mod, PW.op_pow, PW.op_addS, PW.op_addT, PW.op_addL, PW.op_repL, PW.cm_lt, PW.cm_le, PW.cm_gt, PW.cm_ge, PW.cm_eq, PW.cm_ne, PW.cm_eqS, PW.cm_neS, PW.cm_eqT, PW.cm_neT, PW.cm_eqL, PW.cm_neL, PW.cm_inT, PW.cm_niT, PW.cm_eqB, PW.cm_isNN, PW.cm_isNE, PW.cm_isNT, PW.cm_isNI, PW.cm_noNN, PW.cm_noNE, PW.cm_noNT, PW.cm_noNI, PW.tr_bl, PW.tr_int, PW.tr_non, PW.tr_lst, PW.tr_rol, PW.tr_tup, PW.ix_rol, PW.b_abs, PW.b_int, PW.b_boolI, PW.b_boolB, PW.b_intB, PW.b_max, PW.b_min, PW.b_lenT, PW.b_lenR, PW.b_lenL, PW.b_sum, PW.b_all, PW.b_any, PW.b_sorted, PW.b_tupT, PW.b_listT, PW.b_listL, PW.b_isN, PW.b_isB, PW.b_isS, PW.b_tupL, PW.b_isI, PW.b_isT, PW.b_isE, PW.m_pop, PW.m_ext, PW.m_rev, PW.m_app, PW.g_nm, PW.g_tup, PW.g_cons, PW.g_nil, endW, startW, List.map_cons, List.map_nil, List.length_cons, List.length_nil, List.replicate, Nat.reduceAdd, Nat.reduceSub, Nat.zero_add, List.cons_append, List.nil_append, List.append_nil, List.getElem?_cons_zero, List.getElem?_cons_succ, List.set_cons_zero, List.set_cons_succ, setS, T.alen, isi_flat hv]
    cases v with
    | int i =>
      refine ⟨true, trivial, k1, ?_⟩
      simp only [if_true]
      refine ⟨false, trivial, k2, ?_⟩
      simp only [Bool.not_false, if_true]
      have e : isI (.int i) lo hi = (decide (lo ≤ i) && decide (i ≤ hi)) := rfl
      rw [e] at h
      simp only [PW.o_nil, PW.o_seq, PW.o_asg, PW.o_par, PW.o_asgI, PW.o_aug, PW.o_augI, PW.o_ex, PW.o_ret, PW.o_retN, PW.o_ifs, PW.o_for, PW.o_whl, PW.o_rais, PW.o_brk, PW.o_cnt, PW.o_pass, PW.e_var, PW.e_int, PW.e_bl, PW.e_non, PW.e_str, PW.e_gint, PW.e_gti, PW.e_gtt, PW.e_gst, PW.e_rev, PW.e_cls, PW.e_ty, PW.e_tup, PW.e_lst, PW.e_bin, PW.e_neg, PW.e_not, PW.e_and, PW.e_or, PW.e_cmp, PW.e_chn, PW.e_ite, PW.e_ix, PW.e_slc, PW.e_call, PW.e_callk, PW.e_blt, PW.e_mth, PW.e_lrng, PW.e_att, PW.e_hrd, PW.e_comp, PW.e_comp2, PW.t_var, PW.t_bl, PW.t_cmp, PW.t_chn, PW.t_not, PW.t_and, PW.t_or, PW.t_ite, PW.t_call, PW.t_callk, PW.t_blt, PW.t_ix, PW.a_nil, PW.a_cons, PW.a_scons, PW.p_nil, PW.p_int, PW.p_var, PW.p_bin, PW.p_neg, PW.c_cmp, PW.c_chn, PW.c_not, PW.c_and, PW.c_or, PW.c_call, PW.c_blt, PW.c_var, PW.t_int, PW.c_nil, PW.i_rng, PW.i_enm, PW.i_revd, PW.i_zp, PW.i_var, PW.i_tup, PW.i_rev, PW.i_comp, PW.i_ix, PW.i_gti, PW.i_call, PW.i_slc, PW.op_add, PW.op_sub, PW.op_mul, PW.op_fdv, PW.op_mod, PW.op_pow, PW.op_addS, PW.op_addT, PW.op_addL, PW.op_repL, PW.cm_lt, PW.cm_le, PW.cm_gt, PW.cm_ge, PW.cm_eq, PW.cm_ne, PW.cm_eqS, PW.cm_neS, PW.cm_eqT, PW.cm_neT, PW.cm_eqL, PW.cm_neL, PW.cm_inT, PW.cm_niT, PW.cm_eqB, PW.cm_isNN, PW.cm_isNE, PW.cm_isNT, PW.cm_isNI, PW.cm_noNN, PW.cm_noNE, PW.cm_noNT, PW.cm_noNI, PW.tr_bl, PW.tr_int, PW.tr_non, PW.tr_lst, PW.tr_rol, PW.tr_tup, PW.ix_rol, PW.b_abs, PW.b_int, PW.b_boolI, PW.b_boolB, PW.b_intB, PW.b_max, PW.b_min, PW.b_lenT, PW.b_lenR, PW.b_lenL, PW.b_sum, PW.b_all, PW.b_any, PW.b_sorted, PW.b_tupT, PW.b_listT, PW.b_listL, PW.b_isN, PW.b_isB, PW.b_isS, PW.b_tupL, PW.b_isI, PW.b_isT, PW.b_isE, PW.m_pop, PW.m_ext, PW.m_rev, PW.m_app, PW.g_nm, PW.g_tup, PW.g_cons, PW.g_nil, endW, startW, List.map_cons, List.map_nil, List.length_cons, List.length_nil, List.replicate, Nat.reduceAdd, Nat.reduceSub, Nat.zero_add, List.cons_append, List.nil_append, List.append_nil, List.getElem?_cons_zero, List.getElem?_cons_succ, List.set_cons_zero, List.set_cons_succ, setS, T.alen]
      cases z : decide (lo ≤ i) with
      | true =>
        rw [z, Bool.true_and] at h
        simp only [if_true]
        exact ret_all h
      | false =>
        rw [z, Bool.false_and] at h
        simp only [Bool.false_eq_true, if_false]
        exact ret_all h
    | bl b =>
      refine ⟨true, trivial, k3, ?_⟩
      simp only [if_true]
      refine ⟨true, trivial, k4, ?_⟩
      simp only [Bool.not_true, Bool.false_eq_true, if_false]
      exact ret_all h
    | non =>
      refine ⟨false, trivial, k5, ?_⟩
      simp only [Bool.false_eq_true, if_false]
      exact ret_all h
    | str x =>
      refine ⟨false, trivial, k6, ?_⟩
      simp only [Bool.false_eq_true, if_false]
      exact ret_all h
    | _ => cases hv
  · exact h.elim
theorem tIsWhole (Γ sb ws S Q E) (h : sIsWhole ws S Q E) : rdB bIsWhole ⟨Γ, E, sb⟩ (endW Q) (startW 1 ws) S := by
  unfold sIsWhole at h
  split at h
  · rename_i v
    obtain ⟨hv, h⟩ := h
    obtain ⟨k1, k2, k3, k4, k5, k6, _⟩ := kits
    unfold bIsWhole
    simp only [PW.o_nil, PW.o_seq, PW.o_asg, PW.o_par, PW.o_asgI, PW.o_aug, PW.o_augI, PW.o_ex, PW.o_ret, PW.o_retN, PW.o_ifs, PW.o_for, PW.o_whl, PW.o_rais, PW.o_brk, PW.o_cnt, PW.o_pass, PW.e_var, PW.e_int, PW.e_bl, PW.e_non, PW.e_str, PW.e_gint, PW.e_gti, PW.e_gtt, PW.e_gst, PW.e_rev, PW.e_cls, PW.e_ty, PW.e_tup, PW.e_lst, PW.e_bin, PW.e_neg, PW.e_not, PW.e_and, PW.e_or, PW.e_cmp, PW.e_chn, PW.e_ite, PW.e_ix, PW.e_slc, PW.e_call, PW.e_callk, PW.e_blt, PW.e_mth, PW.e_lrng, PW.e_att, PW.e_hrd, PW.e_comp, PW.e_comp2, PW.t_var, PW.t_bl, PW.t_cmp, PW.t_chn, PW.t_not, PW.t_and, PW.t_or, PW.t_ite, PW.t_call, PW.t_callk, PW.t_blt, PW.t_ix, PW.a_nil, PW.a_cons, PW.a_scons, PW.p_nil, PW.p_int, PW.p_var, PW.p_bin, PW.p_neg, PW.c_cmp, PW.c_chn, PW.c_not, PW.c_and, PW.c_or, PW.c_call, PW.c_blt, PW.c_var, PW.t_int, PW.c_nil, PW.i_rng, PW.i_enm, PW.i_revd, PW.i_zp, PW.i_var, PW.i_tup, PW.i_rev, PW.i_comp, PW.i_ix, PW.i_gti, PW.i_call, PW.i_slc, PW.op_add, PW.op_sub, PW.op_mul, PW.op_fdv, PW.op_mod, PW.op_pow, PW.op_addS, PW.op_addT, PW.op_addL, PW.op_repL, PW.cm_lt, PW.cm_le, PW.cm_gt, PW.cm_ge, PW.cm_eq, PW.cm_ne, PW.cm_eqS, PW.cm_neS, PW.cm_eqT, PW.cm_neT, PW.cm_eqL, PW.cm_neL, PW.cm_inT, PW.cm_niT, PW.cm_eqB, PW.cm_isNN, PW.cm_isNE, PW.cm_isNT, PW.cm_isNI, PW.cm_noNN, PW.cm_noNE, PW.cm_noNT, PW.cm_noNI, PW.tr_bl, PW.tr_int, PW.tr_non, PW.tr_lst, PW.tr_rol, PW.tr_tup, PW.ix_rol, PW.b_abs, PW.b_int, PW.b_boolI, PW.b_boolB, PW.b_intB, PW.b_max, PW.b_min, PW.b_lenT, PW.b_lenR, PW.b_lenL, PW.b_sum, PW.b_all, PW.b_any, PW.b_sorted, PW.b_tupT, PW.b_listT, PW.b_listL, PW.b_isN, PW.b_isB, PW.b_isS, PW.b_tupL, PW.b_isI, PW.b_isT, PW.b_isE, PW.m_pop, PW.m_ext, PW.m_rev, PW.m_app, PW.g_nm, PW.g_tup, PW.g_cons, PW.g_nil, endW, startW, List.map_cons, List.map_nil, List.length_cons, List.length_nil, List.replicate, Nat.reduceAdd, Nat.reduceSub, Nat.zero_add, List.cons_append, List.nil_append, List.append_nil, List.getElem?_cons_zero, List.getElem?_cons_succ, List.set_cons_zero, List.set_cons_succ, setS, T.alen, isi_flat hv]
    cases v with
    | int i =>
      refine ⟨true, trivial, k1, ?_⟩
      simp only [if_true]
      exact ⟨false, trivial, k2, ret_all h⟩
    | bl b =>
      refine ⟨true, trivial, k3, ?_⟩
      simp only [if_true]
      exact ⟨true, trivial, k4, ret_all h⟩
    | non =>
      refine ⟨false, trivial, k5, ?_⟩
      simp only [Bool.false_eq_true, if_false]
      exact ret_all h
    | str x =>
      refine ⟨false, trivial, k6, ?_⟩
      simp only [Bool.false_eq_true, if_false]
      exact ret_all h
    | _ => cases hv
  · exact h.elim
/-- .. BadInt is the class c -/
def sLookInt (c : Nat) : SpW := fun ws S Q E => match ws with
  | [v, .int lo, .int hi] => v.flat = true ∧ (isI v lo hi = true → Q .non S) ∧ (isI v lo hi = false → E (.exc c v) S)
  | _ => False
theorem tLookInt (t c : Nat) (Γ : Nat → SpW) (sb ws S Q E) (g : Γ t = sIsInt) (h : sLookInt c ws S Q E) : rdB (bLookInt t c) ⟨Γ, E, sb⟩ (endW Q) (startW 3 ws) S := by
  unfold sLookInt at h
  split at h
  · rename_i v lo hi
    obtain ⟨hv, h1, h2⟩ := h
    unfold bLookInt
    simp only [PW.o_nil, PW.o_seq, PW.o_asg, PW.o_par, PW.o_asgI, PW.o_aug, PW.o_augI, PW.o_ex, PW.o_ret, PW.o_retN, PW.o_ifs, PW.o_for, PW.o_whl, PW.o_rais, PW.o_brk, PW.o_cnt, PW.o_pass, PW.e_var, PW.e_int, PW.e_bl, PW.e_non, PW.e_str, PW.e_gint, PW.e_gti, PW.e_gtt, PW.e_gst, PW.e_rev, PW.e_cls, PW.e_ty, PW.e_tup, PW.e_lst, PW.e_bin, PW.e_neg, PW.e_not, PW.e_and, PW.e_or, PW.e_cmp, PW.e_chn, PW.e_ite, PW.e_ix, PW.e_slc, PW.e_call, PW.e_callk, PW.e_blt, PW.e_mth, PW.e_lrng, PW.e_att, PW.e_hrd, PW.e_comp, PW.e_comp2, PW.t_var, PW.t_bl, PW.t_cmp, PW.t_chn, PW.t_not, PW.t_and, PW.t_or, PW.t_ite, PW.t_call, PW.t_callk, PW.t_blt, PW.t_ix, PW.a_nil, PW.a_cons, PW.a_scons, PW.p_nil, PW.p_int, PW.p_var, PW.p_bin, PW.p_neg, PW.c_cmp, PW.c_chn, PW.c_not, PW.c_and, PW.c_or, PW.c_call, PW.c_blt, PW.c_var, PW.t_int, PW.c_nil, PW.i_rng, PW.i_enm, PW.i_revd, PW.i_zp, PW.i_var, PW.i_tup, PW.i_rev, PW.i_comp, PW.i_ix, PW.i_gti, PW.i_call, PW.i_slc, PW.op_add, PW.op_sub, PW.op_mul, PW.op_fdv, PW.op_mod, PW.op_pow, PW.op_addS, PW.op_addT, PW.op_addL, PW.op_repL, PW.cm_lt, PW.cm_le, PW.cm_gt, PW.cm_ge, PW.cm_eq, PW.cm_ne, PW.cm_eqS, PW.cm_neS, PW.cm_eqT, PW.cm_neT, PW.cm_eqL, PW.cm_neL, PW.cm_inT, PW.cm_niT, PW.cm_eqB, PW.cm_isNN, PW.cm_isNE, PW.cm_isNT, PW.cm_isNI, PW.cm_noNN, PW.cm_noNE, PW.cm_noNT, PW.cm_noNI, PW.tr_bl, PW.tr_int, PW.tr_non, PW.tr_lst, PW.tr_rol, PW.tr_tup, PW.ix_rol, PW.b_abs, PW.b_int, PW.b_boolI, PW.b_boolB, PW.b_intB, PW.b_max, PW.b_min, PW.b_lenT, PW.b_lenR, PW.b_lenL, PW.b_sum, PW.b_all, PW.b_any, PW.b_sorted, PW.b_tupT, PW.b_listT, PW.b_listL, PW.b_isN, PW.b_isB, PW.b_isS, PW.b_tupL, PW.b_isI, PW.b_isT, PW.b_isE, PW.m_pop, PW.m_ext, PW.m_rev, PW.m_app, PW.g_nm, PW.g_tup, PW.g_cons, PW.g_nil, endW, startW, List.map_cons, List.map_nil, List.length_cons, List.length_nil, List.replicate, Nat.reduceAdd, Nat.reduceSub, Nat.zero_add, List.cons_append, List.nil_append, List.append_nil, List.getElem?_cons_zero, List.getElem?_cons_succ, List.set_cons_zero, List.set_cons_succ, setS, T.alen, g, sIsInt]
    refine ⟨hv, ?_⟩
    cases z : isI v lo hi with
    | true => simp only [Bool.not_true, Bool.false_eq_true, if_false]; exact ret_all (h1 z)
    | false => simp only [Bool.not_false, if_true]; exact ret_all (h2 z)
  · exact h.elim
/-- a curve that may be handed in -/
structure Crv (ns : List Int) : Prop where
  last : ∀ q : ns ≠ [], ns.getLast q ≠ 0
  len : ns.length ≤ 13
  bd : ∀ a ∈ ns, a.natAbs ≤ 10 ^ 9
def sAreWholes : SpW := fun ws S Q _ => match ws with
  | [.tup ws] => ∃ ns : List Int, ws = ns.map Vl.int ∧ ns.length ≤ sizeLine ∧ Q (.bl true) S
  | _ => False
theorem all_true (n : Nat) : ((List.replicate n true).all id) = true := by induction n with
  | zero => rfl
  | succ n ih => rw [List.replicate_succ, List.all_cons, ih]; rfl
theorem map_const {α : Type} (l : List α) (v : Vl) : l.map (fun _ => v) = List.replicate l.length v := by
  induction l with
  | nil => rfl
  | cons a l ih => rw [List.map_cons, ih, List.length_cons, List.replicate_succ]
theorem tAreWholes (t : Nat) (Γ : Nat → SpW) (sb ws S Q E) (g : Γ t = sIsWhole) (h : sAreWholes ws S Q E) : rdB (bAreWholes t) ⟨Γ, E, sb⟩ (endW Q) (startW 2 ws) S := by
  unfold sAreWholes at h
  split at h
  · rename_i ws
    obtain ⟨ns, rfl, hl, h⟩ := h
    obtain ⟨k1, k2, k3, k4, k5, k6, k7⟩ := kits
    unfold bAreWholes
    simp only [PW.o_nil, PW.o_seq, PW.o_asg, PW.o_par, PW.o_asgI, PW.o_aug, PW.o_augI, PW.o_ex, PW.o_ret, PW.o_retN, PW.o_ifs, PW.o_for, PW.o_whl, PW.o_rais, PW.o_brk, PW.o_cnt, PW.o_pass, PW.e_var, PW.e_int, PW.e_bl, PW.e_non, PW.e_str, PW.e_gint, PW.e_gti, PW.e_gtt, PW.e_gst, PW.e_rev, PW.e_cls, PW.e_ty, PW.e_tup, PW.e_lst, PW.e_bin, PW.e_neg, PW.e_not, PW.e_and, PW.e_or, PW.e_cmp, PW.e_chn, PW.e_ite, PW.e_ix, PW.e_slc, PW.e_call, PW.e_callk, PW.e_blt, PW.e_mth, PW.e_lrng, PW.e_att, PW.e_hrd, PW.e_comp, PW.e_comp2, PW.t_var, PW.t_bl, PW.t_cmp, PW.t_chn, PW.t_not, PW.t_and, PW.t_or, PW.t_ite, PW.t_call, PW.t_callk, PW.t_blt, PW.t_ix, PW.a_nil, PW.a_cons, PW.a_scons, PW.p_nil, PW.p_int, PW.p_var, PW.p_bin, PW.p_neg, PW.c_cmp, PW.c_chn, PW.c_not, PW.c_and, PW.c_or, PW.c_call, PW.c_blt, PW.c_var, PW.t_int, PW.c_nil, PW.i_rng, PW.i_enm, PW.i_revd, PW.i_zp, PW.i_var, PW.i_tup, PW.i_rev, PW.i_comp, PW.i_ix, PW.i_gti, PW.i_call, PW.i_slc, PW.op_add, PW.op_sub, PW.op_mul, PW.op_fdv, PW.op_mod, PW.op_pow, PW.op_addS, PW.op_addT, PW.op_addL, PW.op_repL, PW.cm_lt, PW.cm_le, PW.cm_gt, PW.cm_ge, PW.cm_eq, PW.cm_ne, PW.cm_eqS, PW.cm_neS, PW.cm_eqT, PW.cm_neT, PW.cm_eqL, PW.cm_neL, PW.cm_inT, PW.cm_niT, PW.cm_eqB, PW.cm_isNN, PW.cm_isNE, PW.cm_isNT, PW.cm_isNI, PW.cm_noNN, PW.cm_noNE, PW.cm_noNT, PW.cm_noNI, PW.tr_bl, PW.tr_int, PW.tr_non, PW.tr_lst, PW.tr_rol, PW.tr_tup, PW.ix_rol, PW.b_abs, PW.b_int, PW.b_boolI, PW.b_boolB, PW.b_intB, PW.b_max, PW.b_min, PW.b_lenT, PW.b_lenR, PW.b_lenL, PW.b_sum, PW.b_all, PW.b_any, PW.b_sorted, PW.b_tupT, PW.b_listT, PW.b_listL, PW.b_isN, PW.b_isB, PW.b_isS, PW.b_tupL, PW.b_isI, PW.b_isT, PW.b_isE, PW.m_pop, PW.m_ext, PW.m_rev, PW.m_app, PW.g_nm, PW.g_tup, PW.g_cons, PW.g_nil, endW, startW, List.map_cons, List.map_nil, List.length_cons, List.length_nil, List.replicate, Nat.reduceAdd, Nat.reduceSub, Nat.zero_add, List.cons_append, List.nil_append, List.append_nil, List.getElem?_cons_zero, List.getElem?_cons_succ, List.set_cons_zero, List.set_cons_succ, setS, T.alen, seqT]
    refine ⟨true, trivial, k7, ?_⟩
    simp only [if_true]
    intro D hD
    refine lc_fm (ι := Vl.int) (F := fun _ => some (.bl true)) (fun _ => True) (fun _ _ _ => trivial) (fun _ _ => trivial) ns [] _ (fun a m S' K K2 _ hk => ?_) trivial Sto.upd_same (by rw [List.length_nil]; omega) ?_
    · simp only [PW.o_nil, PW.o_seq, PW.o_asg, PW.o_par, PW.o_asgI, PW.o_aug, PW.o_augI, PW.o_ex, PW.o_ret, PW.o_retN, PW.o_ifs, PW.o_for, PW.o_whl, PW.o_rais, PW.o_brk, PW.o_cnt, PW.o_pass, PW.e_var, PW.e_int, PW.e_bl, PW.e_non, PW.e_str, PW.e_gint, PW.e_gti, PW.e_gtt, PW.e_gst, PW.e_rev, PW.e_cls, PW.e_ty, PW.e_tup, PW.e_lst, PW.e_bin, PW.e_neg, PW.e_not, PW.e_and, PW.e_or, PW.e_cmp, PW.e_chn, PW.e_ite, PW.e_ix, PW.e_slc, PW.e_call, PW.e_callk, PW.e_blt, PW.e_mth, PW.e_lrng, PW.e_att, PW.e_hrd, PW.e_comp, PW.e_comp2, PW.t_var, PW.t_bl, PW.t_cmp, PW.t_chn, PW.t_not, PW.t_and, PW.t_or, PW.t_ite, PW.t_call, PW.t_callk, PW.t_blt, PW.t_ix, PW.a_nil, PW.a_cons, PW.a_scons, PW.p_nil, PW.p_int, PW.p_var, PW.p_bin, PW.p_neg, PW.c_cmp, PW.c_chn, PW.c_not, PW.c_and, PW.c_or, PW.c_call, PW.c_blt, PW.c_var, PW.t_int, PW.c_nil, PW.i_rng, PW.i_enm, PW.i_revd, PW.i_zp, PW.i_var, PW.i_tup, PW.i_rev, PW.i_comp, PW.i_ix, PW.i_gti, PW.i_call, PW.i_slc, PW.op_add, PW.op_sub, PW.op_mul, PW.op_fdv, PW.op_mod, PW.op_pow, PW.op_addS, PW.op_addT, PW.op_addL, PW.op_repL, PW.cm_lt, PW.cm_le, PW.cm_gt, PW.cm_ge, PW.cm_eq, PW.cm_ne, PW.cm_eqS, PW.cm_neS, PW.cm_eqT, PW.cm_neT, PW.cm_eqL, PW.cm_neL, PW.cm_inT, PW.cm_niT, PW.cm_eqB, PW.cm_isNN, PW.cm_isNE, PW.cm_isNT, PW.cm_isNI, PW.cm_noNN, PW.cm_noNE, PW.cm_noNT, PW.cm_noNI, PW.tr_bl, PW.tr_int, PW.tr_non, PW.tr_lst, PW.tr_rol, PW.tr_tup, PW.ix_rol, PW.b_abs, PW.b_int, PW.b_boolI, PW.b_boolB, PW.b_intB, PW.b_max, PW.b_min, PW.b_lenT, PW.b_lenR, PW.b_lenL, PW.b_sum, PW.b_all, PW.b_any, PW.b_sorted, PW.b_tupT, PW.b_listT, PW.b_listL, PW.b_isN, PW.b_isB, PW.b_isS, PW.b_tupL, PW.b_isI, PW.b_isT, PW.b_isE, PW.m_pop, PW.m_ext, PW.m_rev, PW.m_app, PW.g_nm, PW.g_tup, PW.g_cons, PW.g_nil, endW, startW, List.map_cons, List.map_nil, List.length_cons, List.length_nil, List.replicate, Nat.reduceAdd, Nat.reduceSub, Nat.zero_add, List.cons_append, List.nil_append, List.append_nil, List.getElem?_cons_zero, List.getElem?_cons_succ, List.set_cons_zero, List.set_cons_succ, setS, T.alen, no_ga, g, sIsWhole, wipeW, if_true]
      exact ⟨rfl, hk S' (wsub_refl _)⟩
    · rw [List.nil_append, fm_map, map_const, Sto.upd_upd]
      refine ⟨List.replicate ns.length true, ?_, ?_⟩
      · rw [List.map_replicate]; exact Sto.upd_same
      · rw [all_true]
        exact ret_to (wsub_upd (wsub_refl S) hD) h
  · exact h.elim
/-- () or without noughts at the end -/
def sAnyCurve : SpW := fun ws S Q _ => match ws with
  | [.tup ws] => ∃ ns : List Int, ws = ns.map Vl.int ∧ ns.length ≤ sizeLine ∧ (∀ q : ns ≠ [], ns.getLast q ≠ 0) ∧ Q (.bl true) S
  | _ => False
theorem tAnyCurve (t : Nat) (Γ : Nat → SpW) (sb ws S Q E) (g : Γ t = sAreWholes) (h : sAnyCurve ws S Q E) : rdB (bAnyCurve t) ⟨Γ, E, sb⟩ (endW Q) (startW 1 ws) S := by
  unfold sAnyCurve at h
  split at h
  · rename_i ws
    obtain ⟨ns, rfl, hl, hn, h⟩ := h
    unfold bAnyCurve
    simp only [PW.o_nil, PW.o_seq, PW.o_asg, PW.o_par, PW.o_asgI, PW.o_aug, PW.o_augI, PW.o_ex, PW.o_ret, PW.o_retN, PW.o_ifs, PW.o_for, PW.o_whl, PW.o_rais, PW.o_brk, PW.o_cnt, PW.o_pass, PW.e_var, PW.e_int, PW.e_bl, PW.e_non, PW.e_str, PW.e_gint, PW.e_gti, PW.e_gtt, PW.e_gst, PW.e_rev, PW.e_cls, PW.e_ty, PW.e_tup, PW.e_lst, PW.e_bin, PW.e_neg, PW.e_not, PW.e_and, PW.e_or, PW.e_cmp, PW.e_chn, PW.e_ite, PW.e_ix, PW.e_slc, PW.e_call, PW.e_callk, PW.e_blt, PW.e_mth, PW.e_lrng, PW.e_att, PW.e_hrd, PW.e_comp, PW.e_comp2, PW.t_var, PW.t_bl, PW.t_cmp, PW.t_chn, PW.t_not, PW.t_and, PW.t_or, PW.t_ite, PW.t_call, PW.t_callk, PW.t_blt, PW.t_ix, PW.a_nil, PW.a_cons, PW.a_scons, PW.p_nil, PW.p_int, PW.p_var, PW.p_bin, PW.p_neg, PW.c_cmp, PW.c_chn, PW.c_not, PW.c_and, PW.c_or, PW.c_call, PW.c_blt, PW.c_var, PW.t_int, PW.c_nil, PW.i_rng, PW.i_enm, PW.i_revd, PW.i_zp, PW.i_var, PW.i_tup, PW.i_rev, PW.i_comp, PW.i_ix, PW.i_gti, PW.i_call, PW.i_slc, PW.op_add, PW.op_sub, PW.op_mul, PW.op_fdv, PW.op_mod, PW.op_pow, PW.op_addS, PW.op_addT, PW.op_addL, PW.op_repL, PW.cm_lt, PW.cm_le, PW.cm_gt, PW.cm_ge, PW.cm_eq, PW.cm_ne, PW.cm_eqS, PW.cm_neS, PW.cm_eqT, PW.cm_neT, PW.cm_eqL, PW.cm_neL, PW.cm_inT, PW.cm_niT, PW.cm_eqB, PW.cm_isNN, PW.cm_isNE, PW.cm_isNT, PW.cm_isNI, PW.cm_noNN, PW.cm_noNE, PW.cm_noNT, PW.cm_noNI, PW.tr_bl, PW.tr_int, PW.tr_non, PW.tr_lst, PW.tr_rol, PW.tr_tup, PW.ix_rol, PW.b_abs, PW.b_int, PW.b_boolI, PW.b_boolB, PW.b_intB, PW.b_max, PW.b_min, PW.b_lenT, PW.b_lenR, PW.b_lenL, PW.b_sum, PW.b_all, PW.b_any, PW.b_sorted, PW.b_tupT, PW.b_listT, PW.b_listL, PW.b_isN, PW.b_isB, PW.b_isS, PW.b_tupL, PW.b_isI, PW.b_isT, PW.b_isE, PW.m_pop, PW.m_ext, PW.m_rev, PW.m_app, PW.g_nm, PW.g_tup, PW.g_cons, PW.g_nil, endW, startW, List.map_cons, List.map_nil, List.length_cons, List.length_nil, List.replicate, Nat.reduceAdd, Nat.reduceSub, Nat.zero_add, List.cons_append, List.nil_append, List.append_nil, List.getElem?_cons_zero, List.getElem?_cons_succ, List.set_cons_zero, List.set_cons_succ, setS, T.alen, g, sAreWholes, eqT0]
    refine ⟨ns, rfl, hl, ?_⟩
    simp only [if_true]
    refine ⟨Nat.zero_le _, ?_⟩
    by_cases z : ns = []
    · simp only [decide_eq_true z, if_true]
      exact ret_all h
    · simp only [decide_eq_false z, Bool.false_eq_true, if_false]
      refine ⟨_, atI_last z, ?_⟩
      simp only [PW.o_nil, PW.o_seq, PW.o_asg, PW.o_par, PW.o_asgI, PW.o_aug, PW.o_augI, PW.o_ex, PW.o_ret, PW.o_retN, PW.o_ifs, PW.o_for, PW.o_whl, PW.o_rais, PW.o_brk, PW.o_cnt, PW.o_pass, PW.e_var, PW.e_int, PW.e_bl, PW.e_non, PW.e_str, PW.e_gint, PW.e_gti, PW.e_gtt, PW.e_gst, PW.e_rev, PW.e_cls, PW.e_ty, PW.e_tup, PW.e_lst, PW.e_bin, PW.e_neg, PW.e_not, PW.e_and, PW.e_or, PW.e_cmp, PW.e_chn, PW.e_ite, PW.e_ix, PW.e_slc, PW.e_call, PW.e_callk, PW.e_blt, PW.e_mth, PW.e_lrng, PW.e_att, PW.e_hrd, PW.e_comp, PW.e_comp2, PW.t_var, PW.t_bl, PW.t_cmp, PW.t_chn, PW.t_not, PW.t_and, PW.t_or, PW.t_ite, PW.t_call, PW.t_callk, PW.t_blt, PW.t_ix, PW.a_nil, PW.a_cons, PW.a_scons, PW.p_nil, PW.p_int, PW.p_var, PW.p_bin, PW.p_neg, PW.c_cmp, PW.c_chn, PW.c_not, PW.c_and, PW.c_or, PW.c_call, PW.c_blt, PW.c_var, PW.t_int, PW.c_nil, PW.i_rng, PW.i_enm, PW.i_revd, PW.i_zp, PW.i_var, PW.i_tup, PW.i_rev, PW.i_comp, PW.i_ix, PW.i_gti, PW.i_call, PW.i_slc, PW.op_add, PW.op_sub, PW.op_mul, PW.op_fdv, PW.op_mod, PW.op_pow, PW.op_addS, PW.op_addT, PW.op_addL, PW.op_repL, PW.cm_lt, PW.cm_le, PW.cm_gt, PW.cm_ge, PW.cm_eq, PW.cm_ne, PW.cm_eqS, PW.cm_neS, PW.cm_eqT, PW.cm_neT, PW.cm_eqL, PW.cm_neL, PW.cm_inT, PW.cm_niT, PW.cm_eqB, PW.cm_isNN, PW.cm_isNE, PW.cm_isNT, PW.cm_isNI, PW.cm_noNN, PW.cm_noNE, PW.cm_noNT, PW.cm_noNI, PW.tr_bl, PW.tr_int, PW.tr_non, PW.tr_lst, PW.tr_rol, PW.tr_tup, PW.ix_rol, PW.b_abs, PW.b_int, PW.b_boolI, PW.b_boolB, PW.b_intB, PW.b_max, PW.b_min, PW.b_lenT, PW.b_lenR, PW.b_lenL, PW.b_sum, PW.b_all, PW.b_any, PW.b_sorted, PW.b_tupT, PW.b_listT, PW.b_listL, PW.b_isN, PW.b_isB, PW.b_isS, PW.b_tupL, PW.b_isI, PW.b_isT, PW.b_isE, PW.m_pop, PW.m_ext, PW.m_rev, PW.m_app, PW.g_nm, PW.g_tup, PW.g_cons, PW.g_nil, endW, startW, List.map_cons, List.map_nil, List.length_cons, List.length_nil, List.replicate, Nat.reduceAdd, Nat.reduceSub, Nat.zero_add, List.cons_append, List.nil_append, List.append_nil, List.getElem?_cons_zero, List.getElem?_cons_succ, List.set_cons_zero, List.set_cons_succ, setS, T.alen]
      simp only [decide_eq_false (hn z), Bool.not_false]
      exact ret_all h
  · exact h.elim
def sIsCurve : SpW := fun ws S Q _ => match ws with
  | [.tup ws] => ∃ ns : List Int, ws = ns.map Vl.int ∧ Crv ns ∧ Q (.bl true) S
  | _ => False
theorem tIsCurve (t : Nat) (Γ : Nat → SpW) (sb ws S Q E) (g : Γ t = sAnyCurve) (h : sIsCurve ws S Q E) : rdB (bIsCurve t) ⟨Γ, E, sb⟩ (endW Q) (startW 2 ws) S := by
  unfold sIsCurve at h
  split at h
  · rename_i ws
    obtain ⟨ns, rfl, ⟨c1, c2, c3⟩, h⟩ := h
    unfold bIsCurve
    simp only [PW.o_nil, PW.o_seq, PW.o_asg, PW.o_par, PW.o_asgI, PW.o_aug, PW.o_augI, PW.o_ex, PW.o_ret, PW.o_retN, PW.o_ifs, PW.o_for, PW.o_whl, PW.o_rais, PW.o_brk, PW.o_cnt, PW.o_pass, PW.e_var, PW.e_int, PW.e_bl, PW.e_non, PW.e_str, PW.e_gint, PW.e_gti, PW.e_gtt, PW.e_gst, PW.e_rev, PW.e_cls, PW.e_ty, PW.e_tup, PW.e_lst, PW.e_bin, PW.e_neg, PW.e_not, PW.e_and, PW.e_or, PW.e_cmp, PW.e_chn, PW.e_ite, PW.e_ix, PW.e_slc, PW.e_call, PW.e_callk, PW.e_blt, PW.e_mth, PW.e_lrng, PW.e_att, PW.e_hrd, PW.e_comp, PW.e_comp2, PW.t_var, PW.t_bl, PW.t_cmp, PW.t_chn, PW.t_not, PW.t_and, PW.t_or, PW.t_ite, PW.t_call, PW.t_callk, PW.t_blt, PW.t_ix, PW.a_nil, PW.a_cons, PW.a_scons, PW.p_nil, PW.p_int, PW.p_var, PW.p_bin, PW.p_neg, PW.c_cmp, PW.c_chn, PW.c_not, PW.c_and, PW.c_or, PW.c_call, PW.c_blt, PW.c_var, PW.t_int, PW.c_nil, PW.i_rng, PW.i_enm, PW.i_revd, PW.i_zp, PW.i_var, PW.i_tup, PW.i_rev, PW.i_comp, PW.i_ix, PW.i_gti, PW.i_call, PW.i_slc, PW.op_add, PW.op_sub, PW.op_mul, PW.op_fdv, PW.op_mod, PW.op_pow, PW.op_addS, PW.op_addT, PW.op_addL, PW.op_repL, PW.cm_lt, PW.cm_le, PW.cm_gt, PW.cm_ge, PW.cm_eq, PW.cm_ne, PW.cm_eqS, PW.cm_neS, PW.cm_eqT, PW.cm_neT, PW.cm_eqL, PW.cm_neL, PW.cm_inT, PW.cm_niT, PW.cm_eqB, PW.cm_isNN, PW.cm_isNE, PW.cm_isNT, PW.cm_isNI, PW.cm_noNN, PW.cm_noNE, PW.cm_noNT, PW.cm_noNI, PW.tr_bl, PW.tr_int, PW.tr_non, PW.tr_lst, PW.tr_rol, PW.tr_tup, PW.ix_rol, PW.b_abs, PW.b_int, PW.b_boolI, PW.b_boolB, PW.b_intB, PW.b_max, PW.b_min, PW.b_lenT, PW.b_lenR, PW.b_lenL, PW.b_sum, PW.b_all, PW.b_any, PW.b_sorted, PW.b_tupT, PW.b_listT, PW.b_listL, PW.b_isN, PW.b_isB, PW.b_isS, PW.b_tupL, PW.b_isI, PW.b_isT, PW.b_isE, PW.m_pop, PW.m_ext, PW.m_rev, PW.m_app, PW.g_nm, PW.g_tup, PW.g_cons, PW.g_nil, endW, startW, List.map_cons, List.map_nil, List.length_cons, List.length_nil, List.replicate, Nat.reduceAdd, Nat.reduceSub, Nat.zero_add, List.cons_append, List.nil_append, List.append_nil, List.getElem?_cons_zero, List.getElem?_cons_succ, List.set_cons_zero, List.set_cons_succ, setS, T.alen, g, sAnyCurve, seqT, List.length_map]
    have l0 : ns.length ≤ sizeLine := by rw [sizeLine_eq]; omega
    refine ⟨ns, rfl, l0, c1, ?_⟩
    have e : decide ((12 : Int) + 1 < (ns.length : Int)) = false := decide_eq_false (by omega)
    simp only [Bool.not_true, Bool.false_eq_true, if_false, e]
    intro D hD
    refine lc_fm (ι := Vl.int) (F := fun _ => some (.bl true)) (fun _ => True) (fun _ _ _ => trivial) (fun _ _ => trivial) ns [] _ (fun a m S' K K2 _ hk => ?_) trivial Sto.upd_same (by rw [List.length_nil]; omega) ?_
    · simp only [PW.o_nil, PW.o_seq, PW.o_asg, PW.o_par, PW.o_asgI, PW.o_aug, PW.o_augI, PW.o_ex, PW.o_ret, PW.o_retN, PW.o_ifs, PW.o_for, PW.o_whl, PW.o_rais, PW.o_brk, PW.o_cnt, PW.o_pass, PW.e_var, PW.e_int, PW.e_bl, PW.e_non, PW.e_str, PW.e_gint, PW.e_gti, PW.e_gtt, PW.e_gst, PW.e_rev, PW.e_cls, PW.e_ty, PW.e_tup, PW.e_lst, PW.e_bin, PW.e_neg, PW.e_not, PW.e_and, PW.e_or, PW.e_cmp, PW.e_chn, PW.e_ite, PW.e_ix, PW.e_slc, PW.e_call, PW.e_callk, PW.e_blt, PW.e_mth, PW.e_lrng, PW.e_att, PW.e_hrd, PW.e_comp, PW.e_comp2, PW.t_var, PW.t_bl, PW.t_cmp, PW.t_chn, PW.t_not, PW.t_and, PW.t_or, PW.t_ite, PW.t_call, PW.t_callk, PW.t_blt, PW.t_ix, PW.a_nil, PW.a_cons, PW.a_scons, PW.p_nil, PW.p_int, PW.p_var, PW.p_bin, PW.p_neg, PW.c_cmp, PW.c_chn, PW.c_not, PW.c_and, PW.c_or, PW.c_call, PW.c_blt, PW.c_var, PW.t_int, PW.c_nil, PW.i_rng, PW.i_enm, PW.i_revd, PW.i_zp, PW.i_var, PW.i_tup, PW.i_rev, PW.i_comp, PW.i_ix, PW.i_gti, PW.i_call, PW.i_slc, PW.op_add, PW.op_sub, PW.op_mul, PW.op_fdv, PW.op_mod, PW.op_pow, PW.op_addS, PW.op_addT, PW.op_addL, PW.op_repL, PW.cm_lt, PW.cm_le, PW.cm_gt, PW.cm_ge, PW.cm_eq, PW.cm_ne, PW.cm_eqS, PW.cm_neS, PW.cm_eqT, PW.cm_neT, PW.cm_eqL, PW.cm_neL, PW.cm_inT, PW.cm_niT, PW.cm_eqB, PW.cm_isNN, PW.cm_isNE, PW.cm_isNT, PW.cm_isNI, PW.cm_noNN, PW.cm_noNE, PW.cm_noNT, PW.cm_noNI, PW.tr_bl, PW.tr_int, PW.tr_non, PW.tr_lst, PW.tr_rol, PW.tr_tup, PW.ix_rol, PW.b_abs, PW.b_int, PW.b_boolI, PW.b_boolB, PW.b_intB, PW.b_max, PW.b_min, PW.b_lenT, PW.b_lenR, PW.b_lenL, PW.b_sum, PW.b_all, PW.b_any, PW.b_sorted, PW.b_tupT, PW.b_listT, PW.b_listL, PW.b_isN, PW.b_isB, PW.b_isS, PW.b_tupL, PW.b_isI, PW.b_isT, PW.b_isE, PW.m_pop, PW.m_ext, PW.m_rev, PW.m_app, PW.g_nm, PW.g_tup, PW.g_cons, PW.g_nil, endW, startW, List.map_cons, List.map_nil, List.length_cons, List.length_nil, List.replicate, Nat.reduceAdd, Nat.reduceSub, Nat.zero_add, List.cons_append, List.nil_append, List.append_nil, List.getElem?_cons_zero, List.getElem?_cons_succ, List.set_cons_zero, List.set_cons_succ, setS, T.alen, no_ga, wipeW, if_true]
      have := c3 a m
      have e : decide ((if a < 0 then -a else a) ≤ 1000000000) = true := decide_eq_true (by split <;> omega)
      rw [e]
      exact hk S' (wsub_refl _)
    · rw [List.nil_append, fm_map, map_const, Sto.upd_upd]
      refine ⟨List.replicate ns.length true, ?_, ?_⟩
      · rw [List.map_replicate]; exact Sto.upd_same
      · rw [all_true]
        exact ret_to (wsub_upd (wsub_refl S) hD) h
  · exact h.elim
def sLookCurve : SpW := fun ws S Q _ => match ws with
  | [.tup ws] => ∃ ns : List Int, ws = ns.map Vl.int ∧ Crv ns ∧ Q .non S
  | _ => False
theorem tLookCurve (t c : Nat) (Γ : Nat → SpW) (sb ws S Q E) (g : Γ t = sIsCurve) (h : sLookCurve ws S Q E) : rdB (bLookCurve t c) ⟨Γ, E, sb⟩ (endW Q) (startW 1 ws) S := by
  unfold sLookCurve at h
  split at h
  · rename_i ws
    obtain ⟨ns, rfl, hc, h⟩ := h
    unfold bLookCurve
    simp only [PW.o_nil, PW.o_seq, PW.o_asg, PW.o_par, PW.o_asgI, PW.o_aug, PW.o_augI, PW.o_ex, PW.o_ret, PW.o_retN, PW.o_ifs, PW.o_for, PW.o_whl, PW.o_rais, PW.o_brk, PW.o_cnt, PW.o_pass, PW.e_var, PW.e_int, PW.e_bl, PW.e_non, PW.e_str, PW.e_gint, PW.e_gti, PW.e_gtt, PW.e_gst, PW.e_rev, PW.e_cls, PW.e_ty, PW.e_tup, PW.e_lst, PW.e_bin, PW.e_neg, PW.e_not, PW.e_and, PW.e_or, PW.e_cmp, PW.e_chn, PW.e_ite, PW.e_ix, PW.e_slc, PW.e_call, PW.e_callk, PW.e_blt, PW.e_mth, PW.e_lrng, PW.e_att, PW.e_hrd, PW.e_comp, PW.e_comp2, PW.t_var, PW.t_bl, PW.t_cmp, PW.t_chn, PW.t_not, PW.t_and, PW.t_or, PW.t_ite, PW.t_call, PW.t_callk, PW.t_blt, PW.t_ix, PW.a_nil, PW.a_cons, PW.a_scons, PW.p_nil, PW.p_int, PW.p_var, PW.p_bin, PW.p_neg, PW.c_cmp, PW.c_chn, PW.c_not, PW.c_and, PW.c_or, PW.c_call, PW.c_blt, PW.c_var, PW.t_int, PW.c_nil, PW.i_rng, PW.i_enm, PW.i_revd, PW.i_zp, PW.i_var, PW.i_tup, PW.i_rev, PW.i_comp, PW.i_ix, PW.i_gti, PW.i_call, PW.i_slc, PW.op_add, PW.op_sub, PW.op_mul, PW.op_fdv, PW.op_mod, PW.op_pow, PW.op_addS, PW.op_addT, PW.op_addL, PW.op_repL, PW.cm_lt, PW.cm_le, PW.cm_gt, PW.cm_ge, PW.cm_eq, PW.cm_ne, PW.cm_eqS, PW.cm_neS, PW.cm_eqT, PW.cm_neT, PW.cm_eqL, PW.cm_neL, PW.cm_inT, PW.cm_niT, PW.cm_eqB, PW.cm_isNN, PW.cm_isNE, PW.cm_isNT, PW.cm_isNI, PW.cm_noNN, PW.cm_noNE, PW.cm_noNT, PW.cm_noNI, PW.tr_bl, PW.tr_int, PW.tr_non, PW.tr_lst, PW.tr_rol, PW.tr_tup, PW.ix_rol, PW.b_abs, PW.b_int, PW.b_boolI, PW.b_boolB, PW.b_intB, PW.b_max, PW.b_min, PW.b_lenT, PW.b_lenR, PW.b_lenL, PW.b_sum, PW.b_all, PW.b_any, PW.b_sorted, PW.b_tupT, PW.b_listT, PW.b_listL, PW.b_isN, PW.b_isB, PW.b_isS, PW.b_tupL, PW.b_isI, PW.b_isT, PW.b_isE, PW.m_pop, PW.m_ext, PW.m_rev, PW.m_app, PW.g_nm, PW.g_tup, PW.g_cons, PW.g_nil, endW, startW, List.map_cons, List.map_nil, List.length_cons, List.length_nil, List.replicate, Nat.reduceAdd, Nat.reduceSub, Nat.zero_add, List.cons_append, List.nil_append, List.append_nil, List.getElem?_cons_zero, List.getElem?_cons_succ, List.set_cons_zero, List.set_cons_succ, setS, T.alen, g, sIsCurve]
    exact ⟨ns, rfl, hc, by simp only [Bool.not_true, Bool.false_eq_true, if_false]; exact ret_all h⟩
  · exact h.elim
def sLookReal : SpW := fun ws S Q _ => match ws with
  | [.tup ws] => ∃ ns : List Int, ws = ns.map Vl.int ∧ Crv ns ∧ ns ≠ [] ∧ Q .non S
  | _ => False
theorem tLookReal (t c : Nat) (Γ : Nat → SpW) (sb ws S Q E) (g : Γ t = sLookCurve) (h : sLookReal ws S Q E) : rdB (bLookReal t c) ⟨Γ, E, sb⟩ (endW Q) (startW 1 ws) S := by
  unfold sLookReal at h
  split at h
  · rename_i ws
    obtain ⟨ns, rfl, hc, hn, h⟩ := h
    unfold bLookReal
    simp only [PW.o_nil, PW.o_seq, PW.o_asg, PW.o_par, PW.o_asgI, PW.o_aug, PW.o_augI, PW.o_ex, PW.o_ret, PW.o_retN, PW.o_ifs, PW.o_for, PW.o_whl, PW.o_rais, PW.o_brk, PW.o_cnt, PW.o_pass, PW.e_var, PW.e_int, PW.e_bl, PW.e_non, PW.e_str, PW.e_gint, PW.e_gti, PW.e_gtt, PW.e_gst, PW.e_rev, PW.e_cls, PW.e_ty, PW.e_tup, PW.e_lst, PW.e_bin, PW.e_neg, PW.e_not, PW.e_and, PW.e_or, PW.e_cmp, PW.e_chn, PW.e_ite, PW.e_ix, PW.e_slc, PW.e_call, PW.e_callk, PW.e_blt, PW.e_mth, PW.e_lrng, PW.e_att, PW.e_hrd, PW.e_comp, PW.e_comp2, PW.t_var, PW.t_bl, PW.t_cmp, PW.t_chn, PW.t_not, PW.t_and, PW.t_or, PW.t_ite, PW.t_call, PW.t_callk, PW.t_blt, PW.t_ix, PW.a_nil, PW.a_cons, PW.a_scons, PW.p_nil, PW.p_int, PW.p_var, PW.p_bin, PW.p_neg, PW.c_cmp, PW.c_chn, PW.c_not, PW.c_and, PW.c_or, PW.c_call, PW.c_blt, PW.c_var, PW.t_int, PW.c_nil, PW.i_rng, PW.i_enm, PW.i_revd, PW.i_zp, PW.i_var, PW.i_tup, PW.i_rev, PW.i_comp, PW.i_ix, PW.i_gti, PW.i_call, PW.i_slc, PW.op_add, PW.op_sub, PW.op_mul, PW.op_fdv, PW.op_mod, PW.op_pow, PW.op_addS, PW.op_addT, PW.op_addL, PW.op_repL, PW.cm_lt, PW.cm_le, PW.cm_gt, PW.cm_ge, PW.cm_eq, PW.cm_ne, PW.cm_eqS, PW.cm_neS, PW.cm_eqT, PW.cm_neT, PW.cm_eqL, PW.cm_neL, PW.cm_inT, PW.cm_niT, PW.cm_eqB, PW.cm_isNN, PW.cm_isNE, PW.cm_isNT, PW.cm_isNI, PW.cm_noNN, PW.cm_noNE, PW.cm_noNT, PW.cm_noNI, PW.tr_bl, PW.tr_int, PW.tr_non, PW.tr_lst, PW.tr_rol, PW.tr_tup, PW.ix_rol, PW.b_abs, PW.b_int, PW.b_boolI, PW.b_boolB, PW.b_intB, PW.b_max, PW.b_min, PW.b_lenT, PW.b_lenR, PW.b_lenL, PW.b_sum, PW.b_all, PW.b_any, PW.b_sorted, PW.b_tupT, PW.b_listT, PW.b_listL, PW.b_isN, PW.b_isB, PW.b_isS, PW.b_tupL, PW.b_isI, PW.b_isT, PW.b_isE, PW.m_pop, PW.m_ext, PW.m_rev, PW.m_app, PW.g_nm, PW.g_tup, PW.g_cons, PW.g_nil, endW, startW, List.map_cons, List.map_nil, List.length_cons, List.length_nil, List.replicate, Nat.reduceAdd, Nat.reduceSub, Nat.zero_add, List.cons_append, List.nil_append, List.append_nil, List.getElem?_cons_zero, List.getElem?_cons_succ, List.set_cons_zero, List.set_cons_succ, setS, T.alen, g, sLookCurve, eqT0]
    refine ⟨ns, rfl, hc, Nat.zero_le _, ?_⟩
    simp only [decide_eq_false hn, Bool.false_eq_true, if_false]
    exact ret_all h
  · exact h.elim
end LQ

set_option Elab.async false
set_option linter.all false
set_option maxRecDepth 100000
set_option maxHeartbeats 2000000
set_option exponentiation.threshold 100000
/-! curves: told, slopes, heights -/
namespace LQ
open PySem PySem.Spec PyProof.Rows L2 PW
theorem cut_take {ws : List Vl} {m : Nat} : cutW ws none (some (m : Int)) = ws.take m := by
  unfold cutW
  rw [HT.sIx_nat, HT.sIx_none, List.drop_zero, Nat.sub_zero]
  rcases Nat.le_total m ws.length with h | h
  · rw [Nat.min_eq_left h]
  · rw [Nat.min_eq_right h, List.take_length, List.take_of_length_le h]
theorem cut_drop1 {ws : List Vl} : cutW ws (some 1) none = ws.drop 1 := by
  unfold cutW
  have e : HT.sIx ws.length 0 (some 1) = min 1 ws.length := HT.sIx_nat ws.length 0 1
  rw [e, HT.sIx_none]
  cases ws with
  | nil => rfl
  | cons a l =>
    have : min 1 (a :: l).length = 1 := by rw [List.length_cons]; omega
    rw [this, List.take_of_length_le]
    rw [List.length_drop]
    exact Nat.le_refl _
theorem take_last {ns : List Int} {m : Nat} (h : m < ns.length) : ns.take (m + 1) = ns.take m ++ [QM.co ns m] := by
  rw [List.take_succ, List.getElem?_eq_getElem h]
  simp [QM.co, h]
theorem strip_take {ns : List Int} {m : Nat} (h : m < ns.length) (z : QM.co ns m = 0) : QM.strip (ns.take m) = QM.strip (ns.take (m + 1)) := by
  rw [take_last h, z, QM.strip_append_zero]
theorem strip_take_id {ns : List Int} {m : Nat} (h : m < ns.length) (z : QM.co ns m ≠ 0) : QM.strip (ns.take (m + 1)) = ns.take (m + 1) := by
  rw [take_last h, QM.strip_last _ _ z]
def bToldL : B := (.seq (.aug 1 .Sub (.int 1)) .nil)
def sToldP : SpW := fun ws S Q _ => match ws with
  | [x] => ∃ ns : List Int, ((∃ p, x = .lst p ∧ S p = some (ns.map Vl.int)) ∨ x = iT ns) ∧ ns.length ≤ sizeLine ∧ Q (iT (QM.strip ns)) S
  | _ => False
theorem tToldP (Γ sb ws S Q E) (h : sToldP ws S Q E) : rdB bToldP ⟨Γ, E, sb⟩ (endW Q) (startW 2 ws) S := by
  unfold sToldP at h
  split at h
  · rename_i x
    obtain ⟨ns, hx, hl, h⟩ := h
    have len : ∀ K : WK, bltW sb .len [x] S K = K (.int ns.length) S := fun K => by
      rcases hx with ⟨p, rfl, hp⟩ | rfl
      · rw [lenL hp, List.length_map]
      · rw [b_lenT, List.length_map]
    have ix : ∀ (m : Nat) (K : WK), m < ns.length → K (.int (QM.co ns m)) S → ixW x (.int (m : Int)) S K := fun m K l q => by
      rcases hx with ⟨p, rfl, hp⟩ | rfl
      · exact ixI hp l q
      · exact ixIT l q
    have fin : ∀ (m : Nat), m ≤ ns.length → ns.take m = QM.strip ns → slW x none (some (m : Int)) S fun y S1 => bltW sb .tuple [y] S1 fun w S2 => ∃ S3, wsub S3 S2 ∧ Q w S3 := fun m l e => by
      rcases hx with ⟨p, rfl, hp⟩ | rfl
      · refine ⟨_, hp, fun q hq => ⟨_, Sto.upd_same, ?_⟩⟩
        rw [cut_take, ← List.map_take, e]
        exact ret_to (wsub_upd (wsub_refl S) hq) h
      · show ∃ S3, wsub S3 S ∧ Q (.tup (cutW (ns.map Vl.int) none (some (m : Int)))) S3
        rw [cut_take, ← List.map_take, e]
        exact ret_all h
    unfold bToldP
    simp only [PW.o_nil, PW.o_seq, PW.o_asg, PW.o_par, PW.o_asgI, PW.o_aug, PW.o_augI, PW.o_ex, PW.o_ret, PW.o_retN, PW.o_ifs, PW.o_for, PW.o_whl, PW.o_rais, PW.o_brk, PW.o_cnt, PW.o_pass, PW.e_var, PW.e_int, PW.e_bl, PW.e_non, PW.e_str, PW.e_gint, PW.e_gti, PW.e_gtt, PW.e_gst, PW.e_rev, PW.e_cls, PW.e_ty, PW.e_tup, PW.e_lst, PW.e_bin, PW.e_neg, PW.e_not, PW.e_and, PW.e_or, PW.e_cmp, PW.e_chn, PW.e_ite, PW.e_ix, PW.e_slc, PW.e_call, PW.e_callk, PW.e_blt, PW.e_mth, PW.e_lrng, PW.e_att, PW.e_hrd, PW.e_comp, PW.e_comp2, PW.t_var, PW.t_bl, PW.t_cmp, PW.t_chn, PW.t_not, PW.t_and, PW.t_or, PW.t_ite, PW.t_call, PW.t_callk, PW.t_blt, PW.t_ix, PW.a_nil, PW.a_cons, PW.a_scons, PW.p_nil, PW.p_int, PW.p_var, PW.p_bin, PW.p_neg, PW.c_cmp, PW.c_chn, PW.c_not, PW.c_and, PW.c_or, PW.c_call, PW.c_blt, PW.c_var, PW.t_int, PW.c_nil, PW.i_rng, PW.i_enm, PW.i_revd, PW.i_zp, PW.i_var, PW.i_tup, PW.i_rev, PW.i_comp, PW.i_ix, PW.i_gti, PW.i_call, PW.i_slc, PW.op_add, PW.op_sub, PW.op_mul, PW.op_fdv, PW.op_mod, PW.op_pow, PW.op_addS, PW.op_addT, PW.op_addL, PW.op_repL, PW.cm_lt, PW.cm_le, PW.cm_gt, PW.cm_ge, PW.cm_eq, PW.cm_ne, PW.cm_eqS, PW.cm_neS, PW.cm_eqT, PW.cm_neT, PW.cm_eqL, PW.cm_neL, PW.cm_inT, PW.cm_niT, PW.cm_eqB, PW.cm_isNN, PW.cm_isNE, PW.cm_isNT, PW.cm_isNI, PW.cm_noNN, PW.cm_noNE, PW.cm_noNT, PW.cm_noNI, PW.tr_bl, PW.tr_int, PW.tr_non, PW.tr_lst, PW.tr_rol, PW.tr_tup, PW.ix_rol, PW.b_abs, PW.b_int, PW.b_boolI, PW.b_boolB, PW.b_intB, PW.b_max, PW.b_min, PW.b_lenT, PW.b_lenR, PW.b_lenL, PW.b_sum, PW.b_all, PW.b_any, PW.b_sorted, PW.b_tupT, PW.b_listT, PW.b_listL, PW.b_isN, PW.b_isB, PW.b_isS, PW.b_tupL, PW.b_isI, PW.b_isT, PW.b_isE, PW.m_pop, PW.m_ext, PW.m_rev, PW.m_app, PW.g_nm, PW.g_tup, PW.g_cons, PW.g_nil, endW, startW, List.map_cons, List.map_nil, List.length_cons, List.length_nil, List.replicate, Nat.reduceAdd, Nat.reduceSub, Nat.zero_add, List.cons_append, List.nil_append, List.append_nil, List.getElem?_cons_zero, List.getElem?_cons_succ, List.set_cons_zero, List.set_cons_succ, setS, T.alen, len]
    refine ⟨fun σ S' => S' = S ∧ ∃ m : Nat, m ≤ ns.length ∧ σ = [some x, some (.int (m : Nat))] ∧ QM.strip (ns.take m) = QM.strip ns, fun σ _ => match σ with
      | [_, some (.int m)] => m.toNat
      | _ => 0, ⟨rfl, ns.length, Nat.le_refl _, rfl, by rw [List.take_length]⟩, ?_⟩
    rintro σ S' ⟨rfl, m, hm, rfl, hs⟩
    simp only [PW.o_nil, PW.o_seq, PW.o_asg, PW.o_par, PW.o_asgI, PW.o_aug, PW.o_augI, PW.o_ex, PW.o_ret, PW.o_retN, PW.o_ifs, PW.o_for, PW.o_whl, PW.o_rais, PW.o_brk, PW.o_cnt, PW.o_pass, PW.e_var, PW.e_int, PW.e_bl, PW.e_non, PW.e_str, PW.e_gint, PW.e_gti, PW.e_gtt, PW.e_gst, PW.e_rev, PW.e_cls, PW.e_ty, PW.e_tup, PW.e_lst, PW.e_bin, PW.e_neg, PW.e_not, PW.e_and, PW.e_or, PW.e_cmp, PW.e_chn, PW.e_ite, PW.e_ix, PW.e_slc, PW.e_call, PW.e_callk, PW.e_blt, PW.e_mth, PW.e_lrng, PW.e_att, PW.e_hrd, PW.e_comp, PW.e_comp2, PW.t_var, PW.t_bl, PW.t_cmp, PW.t_chn, PW.t_not, PW.t_and, PW.t_or, PW.t_ite, PW.t_call, PW.t_callk, PW.t_blt, PW.t_ix, PW.a_nil, PW.a_cons, PW.a_scons, PW.p_nil, PW.p_int, PW.p_var, PW.p_bin, PW.p_neg, PW.c_cmp, PW.c_chn, PW.c_not, PW.c_and, PW.c_or, PW.c_call, PW.c_blt, PW.c_var, PW.t_int, PW.c_nil, PW.i_rng, PW.i_enm, PW.i_revd, PW.i_zp, PW.i_var, PW.i_tup, PW.i_rev, PW.i_comp, PW.i_ix, PW.i_gti, PW.i_call, PW.i_slc, PW.op_add, PW.op_sub, PW.op_mul, PW.op_fdv, PW.op_mod, PW.op_pow, PW.op_addS, PW.op_addT, PW.op_addL, PW.op_repL, PW.cm_lt, PW.cm_le, PW.cm_gt, PW.cm_ge, PW.cm_eq, PW.cm_ne, PW.cm_eqS, PW.cm_neS, PW.cm_eqT, PW.cm_neT, PW.cm_eqL, PW.cm_neL, PW.cm_inT, PW.cm_niT, PW.cm_eqB, PW.cm_isNN, PW.cm_isNE, PW.cm_isNT, PW.cm_isNI, PW.cm_noNN, PW.cm_noNE, PW.cm_noNT, PW.cm_noNI, PW.tr_bl, PW.tr_int, PW.tr_non, PW.tr_lst, PW.tr_rol, PW.tr_tup, PW.ix_rol, PW.b_abs, PW.b_int, PW.b_boolI, PW.b_boolB, PW.b_intB, PW.b_max, PW.b_min, PW.b_lenT, PW.b_lenR, PW.b_lenL, PW.b_sum, PW.b_all, PW.b_any, PW.b_sorted, PW.b_tupT, PW.b_listT, PW.b_listL, PW.b_isN, PW.b_isB, PW.b_isS, PW.b_tupL, PW.b_isI, PW.b_isT, PW.b_isE, PW.m_pop, PW.m_ext, PW.m_rev, PW.m_app, PW.g_nm, PW.g_tup, PW.g_cons, PW.g_nil, endW, startW, List.map_cons, List.map_nil, List.length_cons, List.length_nil, List.replicate, Nat.reduceAdd, Nat.reduceSub, Nat.zero_add, List.cons_append, List.nil_append, List.append_nil, List.getElem?_cons_zero, List.getElem?_cons_succ, List.set_cons_zero, List.set_cons_succ, setS, T.alen]
    by_cases z : m = 0
    · subst z
      have e : decide ((0 : Int) < ((0 : Nat) : Int)) = false := by decide
      simp only [e, Bool.false_eq_true, if_false]
      refine fin 0 hm ?_
      rw [← hs, List.take_zero]; rfl
    · have e : decide ((0 : Int) < (m : Int)) = true := decide_eq_true (by omega)
      simp only [e, if_true]
      have e1 : (m : Int) - 1 = ((m - 1 : Nat) : Int) := by omega
      rw [e1]
      refine ix (m - 1) _ (by omega) ?_
      simp only [PW.o_nil, PW.o_seq, PW.o_asg, PW.o_par, PW.o_asgI, PW.o_aug, PW.o_augI, PW.o_ex, PW.o_ret, PW.o_retN, PW.o_ifs, PW.o_for, PW.o_whl, PW.o_rais, PW.o_brk, PW.o_cnt, PW.o_pass, PW.e_var, PW.e_int, PW.e_bl, PW.e_non, PW.e_str, PW.e_gint, PW.e_gti, PW.e_gtt, PW.e_gst, PW.e_rev, PW.e_cls, PW.e_ty, PW.e_tup, PW.e_lst, PW.e_bin, PW.e_neg, PW.e_not, PW.e_and, PW.e_or, PW.e_cmp, PW.e_chn, PW.e_ite, PW.e_ix, PW.e_slc, PW.e_call, PW.e_callk, PW.e_blt, PW.e_mth, PW.e_lrng, PW.e_att, PW.e_hrd, PW.e_comp, PW.e_comp2, PW.t_var, PW.t_bl, PW.t_cmp, PW.t_chn, PW.t_not, PW.t_and, PW.t_or, PW.t_ite, PW.t_call, PW.t_callk, PW.t_blt, PW.t_ix, PW.a_nil, PW.a_cons, PW.a_scons, PW.p_nil, PW.p_int, PW.p_var, PW.p_bin, PW.p_neg, PW.c_cmp, PW.c_chn, PW.c_not, PW.c_and, PW.c_or, PW.c_call, PW.c_blt, PW.c_var, PW.t_int, PW.c_nil, PW.i_rng, PW.i_enm, PW.i_revd, PW.i_zp, PW.i_var, PW.i_tup, PW.i_rev, PW.i_comp, PW.i_ix, PW.i_gti, PW.i_call, PW.i_slc, PW.op_add, PW.op_sub, PW.op_mul, PW.op_fdv, PW.op_mod, PW.op_pow, PW.op_addS, PW.op_addT, PW.op_addL, PW.op_repL, PW.cm_lt, PW.cm_le, PW.cm_gt, PW.cm_ge, PW.cm_eq, PW.cm_ne, PW.cm_eqS, PW.cm_neS, PW.cm_eqT, PW.cm_neT, PW.cm_eqL, PW.cm_neL, PW.cm_inT, PW.cm_niT, PW.cm_eqB, PW.cm_isNN, PW.cm_isNE, PW.cm_isNT, PW.cm_isNI, PW.cm_noNN, PW.cm_noNE, PW.cm_noNT, PW.cm_noNI, PW.tr_bl, PW.tr_int, PW.tr_non, PW.tr_lst, PW.tr_rol, PW.tr_tup, PW.ix_rol, PW.b_abs, PW.b_int, PW.b_boolI, PW.b_boolB, PW.b_intB, PW.b_max, PW.b_min, PW.b_lenT, PW.b_lenR, PW.b_lenL, PW.b_sum, PW.b_all, PW.b_any, PW.b_sorted, PW.b_tupT, PW.b_listT, PW.b_listL, PW.b_isN, PW.b_isB, PW.b_isS, PW.b_tupL, PW.b_isI, PW.b_isT, PW.b_isE, PW.m_pop, PW.m_ext, PW.m_rev, PW.m_app, PW.g_nm, PW.g_tup, PW.g_cons, PW.g_nil, endW, startW, List.map_cons, List.map_nil, List.length_cons, List.length_nil, List.replicate, Nat.reduceAdd, Nat.reduceSub, Nat.zero_add, List.cons_append, List.nil_append, List.append_nil, List.getElem?_cons_zero, List.getElem?_cons_succ, List.set_cons_zero, List.set_cons_succ, setS, T.alen]
      have e2 : m - 1 + 1 = m := by omega
      by_cases y : QM.co ns (m - 1) = 0
      · simp only [decide_eq_true y, if_true]
        refine less_same ⟨⟨rfl, m - 1, by omega, ?_, ?_⟩, ?_⟩
        · rw [← e1]
        · rw [strip_take (by omega) y, e2, hs]
        · show ((m : Int) - 1).toNat < (m : Int).toNat
          omega
      · simp only [decide_eq_false y, Bool.false_eq_true, if_false]
        refine fin m hm ?_
        have := strip_take_id (ns := ns) (m := m - 1) (by omega) y
        rw [e2] at this
        rw [← hs, this]
  · exact h.elim
/-- the curve of slopes -/
def sSlope : SpW := fun ws S Q _ => match ws with
  | [.tup ws] => ∃ ns : List Int, ws = ns.map Vl.int ∧ ns.length ≤ 1000 ∧ (∀ a ∈ ns, a.natAbs < 2 ^ 900) ∧ Q (iT (QM.strip (QM.der ns))) S
  | _ => False
theorem enumW_ints (ns : List Int) (k : Nat) : enK k (ns.map Vl.int) = (ns.zipIdx k).map (fun p : Int × Nat => Vl.tup [.int (p.2 : Nat), .int p.1]) := by
  induction ns generalizing k with
  | nil => rfl
  | cons n ns ih => rw [List.map_cons, enK_cons, ih, List.zipIdx_cons, List.map_cons]
theorem tSlope (t : Nat) (Γ : Nat → SpW) (sb ws S Q E) (g : ∀ ws S Q E, sTold ws S Q E → Γ t ws S Q E) (h : sSlope ws S Q E) : rdB (bSlopes t) ⟨Γ, E, sb⟩ (endW Q) (startW 3 ws) S := by
  unfold sSlope at h
  split at h
  · rename_i ws
    obtain ⟨ns, rfl, hl, hb, h⟩ := h
    unfold bSlopes
    simp only [PW.o_nil, PW.o_seq, PW.o_asg, PW.o_par, PW.o_asgI, PW.o_aug, PW.o_augI, PW.o_ex, PW.o_ret, PW.o_retN, PW.o_ifs, PW.o_for, PW.o_whl, PW.o_rais, PW.o_brk, PW.o_cnt, PW.o_pass, PW.e_var, PW.e_int, PW.e_bl, PW.e_non, PW.e_str, PW.e_gint, PW.e_gti, PW.e_gtt, PW.e_gst, PW.e_rev, PW.e_cls, PW.e_ty, PW.e_tup, PW.e_lst, PW.e_bin, PW.e_neg, PW.e_not, PW.e_and, PW.e_or, PW.e_cmp, PW.e_chn, PW.e_ite, PW.e_ix, PW.e_slc, PW.e_call, PW.e_callk, PW.e_blt, PW.e_mth, PW.e_lrng, PW.e_att, PW.e_hrd, PW.e_comp, PW.e_comp2, PW.t_var, PW.t_bl, PW.t_cmp, PW.t_chn, PW.t_not, PW.t_and, PW.t_or, PW.t_ite, PW.t_call, PW.t_callk, PW.t_blt, PW.t_ix, PW.a_nil, PW.a_cons, PW.a_scons, PW.p_nil, PW.p_int, PW.p_var, PW.p_bin, PW.p_neg, PW.c_cmp, PW.c_chn, PW.c_not, PW.c_and, PW.c_or, PW.c_call, PW.c_blt, PW.c_var, PW.t_int, PW.c_nil, PW.i_rng, PW.i_enm, PW.i_revd, PW.i_zp, PW.i_var, PW.i_tup, PW.i_rev, PW.i_comp, PW.i_ix, PW.i_gti, PW.i_call, PW.i_slc, PW.op_add, PW.op_sub, PW.op_mul, PW.op_fdv, PW.op_mod, PW.op_pow, PW.op_addS, PW.op_addT, PW.op_addL, PW.op_repL, PW.cm_lt, PW.cm_le, PW.cm_gt, PW.cm_ge, PW.cm_eq, PW.cm_ne, PW.cm_eqS, PW.cm_neS, PW.cm_eqT, PW.cm_neT, PW.cm_eqL, PW.cm_neL, PW.cm_inT, PW.cm_niT, PW.cm_eqB, PW.cm_isNN, PW.cm_isNE, PW.cm_isNT, PW.cm_isNI, PW.cm_noNN, PW.cm_noNE, PW.cm_noNT, PW.cm_noNI, PW.tr_bl, PW.tr_int, PW.tr_non, PW.tr_lst, PW.tr_rol, PW.tr_tup, PW.ix_rol, PW.b_abs, PW.b_int, PW.b_boolI, PW.b_boolB, PW.b_intB, PW.b_max, PW.b_min, PW.b_lenT, PW.b_lenR, PW.b_lenL, PW.b_sum, PW.b_all, PW.b_any, PW.b_sorted, PW.b_tupT, PW.b_listT, PW.b_listL, PW.b_isN, PW.b_isB, PW.b_isS, PW.b_tupL, PW.b_isI, PW.b_isT, PW.b_isE, PW.m_pop, PW.m_ext, PW.m_rev, PW.m_app, PW.g_nm, PW.g_tup, PW.g_cons, PW.g_nil, endW, startW, List.map_cons, List.map_nil, List.length_cons, List.length_nil, List.replicate, Nat.reduceAdd, Nat.reduceSub, Nat.zero_add, List.cons_append, List.nil_append, List.append_nil, List.getElem?_cons_zero, List.getElem?_cons_succ, List.set_cons_zero, List.set_cons_succ, setS, T.alen, seqT, enumW_K]
    intro D hD
    rw [enumW_ints]
    refine lc_fm (ι := fun p : Int × Nat => Vl.tup [.int (p.2 : Nat), .int p.1]) (F := fun p => some (.int (((p.2 : Nat) : Int) * p.1))) (fun _ => True) (fun _ _ _ => trivial) (fun _ _ => trivial) (ns.zipIdx 0) [] _ (fun a m S' K K2 _ hk => ?_) trivial Sto.upd_same (by rw [List.length_nil, List.length_zipIdx, sizeLine_eq]; omega) ?_
    · simp only [PW.o_nil, PW.o_seq, PW.o_asg, PW.o_par, PW.o_asgI, PW.o_aug, PW.o_augI, PW.o_ex, PW.o_ret, PW.o_retN, PW.o_ifs, PW.o_for, PW.o_whl, PW.o_rais, PW.o_brk, PW.o_cnt, PW.o_pass, PW.e_var, PW.e_int, PW.e_bl, PW.e_non, PW.e_str, PW.e_gint, PW.e_gti, PW.e_gtt, PW.e_gst, PW.e_rev, PW.e_cls, PW.e_ty, PW.e_tup, PW.e_lst, PW.e_bin, PW.e_neg, PW.e_not, PW.e_and, PW.e_or, PW.e_cmp, PW.e_chn, PW.e_ite, PW.e_ix, PW.e_slc, PW.e_call, PW.e_callk, PW.e_blt, PW.e_mth, PW.e_lrng, PW.e_att, PW.e_hrd, PW.e_comp, PW.e_comp2, PW.t_var, PW.t_bl, PW.t_cmp, PW.t_chn, PW.t_not, PW.t_and, PW.t_or, PW.t_ite, PW.t_call, PW.t_callk, PW.t_blt, PW.t_ix, PW.a_nil, PW.a_cons, PW.a_scons, PW.p_nil, PW.p_int, PW.p_var, PW.p_bin, PW.p_neg, PW.c_cmp, PW.c_chn, PW.c_not, PW.c_and, PW.c_or, PW.c_call, PW.c_blt, PW.c_var, PW.t_int, PW.c_nil, PW.i_rng, PW.i_enm, PW.i_revd, PW.i_zp, PW.i_var, PW.i_tup, PW.i_rev, PW.i_comp, PW.i_ix, PW.i_gti, PW.i_call, PW.i_slc, PW.op_add, PW.op_sub, PW.op_mul, PW.op_fdv, PW.op_mod, PW.op_pow, PW.op_addS, PW.op_addT, PW.op_addL, PW.op_repL, PW.cm_lt, PW.cm_le, PW.cm_gt, PW.cm_ge, PW.cm_eq, PW.cm_ne, PW.cm_eqS, PW.cm_neS, PW.cm_eqT, PW.cm_neT, PW.cm_eqL, PW.cm_neL, PW.cm_inT, PW.cm_niT, PW.cm_eqB, PW.cm_isNN, PW.cm_isNE, PW.cm_isNT, PW.cm_isNI, PW.cm_noNN, PW.cm_noNE, PW.cm_noNT, PW.cm_noNI, PW.tr_bl, PW.tr_int, PW.tr_non, PW.tr_lst, PW.tr_rol, PW.tr_tup, PW.ix_rol, PW.b_abs, PW.b_int, PW.b_boolI, PW.b_boolB, PW.b_intB, PW.b_max, PW.b_min, PW.b_lenT, PW.b_lenR, PW.b_lenL, PW.b_sum, PW.b_all, PW.b_any, PW.b_sorted, PW.b_tupT, PW.b_listT, PW.b_listL, PW.b_isN, PW.b_isB, PW.b_isS, PW.b_tupL, PW.b_isI, PW.b_isT, PW.b_isE, PW.m_pop, PW.m_ext, PW.m_rev, PW.m_app, PW.g_nm, PW.g_tup, PW.g_cons, PW.g_nil, endW, startW, List.map_cons, List.map_nil, List.length_cons, List.length_nil, List.replicate, Nat.reduceAdd, Nat.reduceSub, Nat.zero_add, List.cons_append, List.nil_append, List.append_nil, List.getElem?_cons_zero, List.getElem?_cons_succ, List.set_cons_zero, List.set_cons_succ, setS, T.alen, wipeW, if_true]
      have hm := List.mem_zipIdx m
      refine ⟨mulS ?_ ?_, hk S' (wsub_refl _)⟩
      · have : (2 : Nat) ^ 10 ≤ 2 ^ 1000 := Nat.pow_le_pow_right (by decide) (by decide)
        omega
      · have h1 : a.1 ∈ ns := by
          have := hm.2.2
          rw [this]; exact List.getElem_mem _
        exact Nat.lt_of_lt_of_le (hb _ h1) (Nat.pow_le_pow_right (by decide) (by decide))
    · rw [List.nil_append, fm_map, Sto.upd_upd]
      have e : (ns.zipIdx 0).map (fun a => Vl.int (((a.2 : Nat) : Int) * a.1)) = (QM.sl 0 ns).map Vl.int := by
        rw [← QM.sl_zip, List.map_map]; rfl
      rw [e]
      refine ⟨_, Sto.upd_same, fun q hq => ?_⟩
      rw [cut_drop1, ← List.map_drop]
      refine g _ _ _ _ ⟨QM.der ns, Sto.upd_same, ?_, ?_⟩
      · unfold QM.der
        rw [List.length_drop, ← QM.sl_zip, List.length_map, List.length_zipIdx, sizeLine_eq]; omega
      · refine ret_to (wsub_upd (wsub_upd (wsub_refl S) hD) ?_) h
        exact wsub_none (wsub_upd (ws := (QM.sl 0 ns).map Vl.int) (wsub_refl S) hD) hq
  · exact h.elim
theorem bits_le {i : Int} {m : Nat} (h : i.natAbs < 2 ^ m) (hm : m ≤ 2 ^ 20) : Builtin.Int.intBits i ≤ 2 ^ 20 := by
  unfold Builtin.Int.intBits
  split
  · omega
  · rename_i q
    have h0 : i.natAbs ≠ 0 := by intro z; apply q; simp; omega
    have := (Nat.log2_lt h0).mpr h
    omega
/-! ### heights -/
def bAtI : B := (.seq (.asg (.nm 2) (.bin .Add (.bin .Mult (.var 2) (.var 1)) (.var 3))) .nil)
theorem bAt_eq : bAt = .seq (.asg (.nm 2) (.int 0)) (.seq (.for (.nm 3) (.rev (.var 0)) bAtI) (.seq (.ret (.var 2)) .nil)) := rfl
theorem atI_run {R : Rc} {o1 : Option Vl} {x : Int} {M : Nat} {D : WEn} {S : Sto} (hx : x.natAbs < 2 ^ M) (hM : M ≤ 2 ^ 14) : ∀ (ms : List Int) (j : Nat) (f : Int) (y : Option Vl), (∀ a ∈ ms, a.natAbs < 2 ^ M) → f.natAbs < 2 ^ ((M + 1) * j) → j + ms.length ≤ 40 →
    (∀ y, D.nx [o1, some (.int x), some (.int (ms.foldl (fun f a => f * x + a) f)), y] S) → forR (fun _ => True) (gP (.nm 3)) (rdB bAtI R) D (ms.map Vl.int) [o1, some (.int x), some (.int f), y] S := by
  intro ms
  induction ms with
  | nil =>
    intro j f y _ _ _ hD
    rw [List.map_nil, for_nil]
    exact ⟨trivial, hD y⟩
  | cons a ms ih =>
    intro j f y ha hf hj hD
    rw [List.length_cons] at hj
    rw [List.map_cons, for_cons]
    refine ⟨trivial, ?_⟩
    unfold bAtI
    simp only [PW.o_nil, PW.o_seq, PW.o_asg, PW.o_par, PW.o_asgI, PW.o_aug, PW.o_augI, PW.o_ex, PW.o_ret, PW.o_retN, PW.o_ifs, PW.o_for, PW.o_whl, PW.o_rais, PW.o_brk, PW.o_cnt, PW.o_pass, PW.e_var, PW.e_int, PW.e_bl, PW.e_non, PW.e_str, PW.e_gint, PW.e_gti, PW.e_gtt, PW.e_gst, PW.e_rev, PW.e_cls, PW.e_ty, PW.e_tup, PW.e_lst, PW.e_bin, PW.e_neg, PW.e_not, PW.e_and, PW.e_or, PW.e_cmp, PW.e_chn, PW.e_ite, PW.e_ix, PW.e_slc, PW.e_call, PW.e_callk, PW.e_blt, PW.e_mth, PW.e_lrng, PW.e_att, PW.e_hrd, PW.e_comp, PW.e_comp2, PW.t_var, PW.t_bl, PW.t_cmp, PW.t_chn, PW.t_not, PW.t_and, PW.t_or, PW.t_ite, PW.t_call, PW.t_callk, PW.t_blt, PW.t_ix, PW.a_nil, PW.a_cons, PW.a_scons, PW.p_nil, PW.p_int, PW.p_var, PW.p_bin, PW.p_neg, PW.c_cmp, PW.c_chn, PW.c_not, PW.c_and, PW.c_or, PW.c_call, PW.c_blt, PW.c_var, PW.t_int, PW.c_nil, PW.i_rng, PW.i_enm, PW.i_revd, PW.i_zp, PW.i_var, PW.i_tup, PW.i_rev, PW.i_comp, PW.i_ix, PW.i_gti, PW.i_call, PW.i_slc, PW.op_add, PW.op_sub, PW.op_mul, PW.op_fdv, PW.op_mod, PW.op_pow, PW.op_addS, PW.op_addT, PW.op_addL, PW.op_repL, PW.cm_lt, PW.cm_le, PW.cm_gt, PW.cm_ge, PW.cm_eq, PW.cm_ne, PW.cm_eqS, PW.cm_neS, PW.cm_eqT, PW.cm_neT, PW.cm_eqL, PW.cm_neL, PW.cm_inT, PW.cm_niT, PW.cm_eqB, PW.cm_isNN, PW.cm_isNE, PW.cm_isNT, PW.cm_isNI, PW.cm_noNN, PW.cm_noNE, PW.cm_noNT, PW.cm_noNI, PW.tr_bl, PW.tr_int, PW.tr_non, PW.tr_lst, PW.tr_rol, PW.tr_tup, PW.ix_rol, PW.b_abs, PW.b_int, PW.b_boolI, PW.b_boolB, PW.b_intB, PW.b_max, PW.b_min, PW.b_lenT, PW.b_lenR, PW.b_lenL, PW.b_sum, PW.b_all, PW.b_any, PW.b_sorted, PW.b_tupT, PW.b_listT, PW.b_listL, PW.b_isN, PW.b_isB, PW.b_isS, PW.b_tupL, PW.b_isI, PW.b_isT, PW.b_isE, PW.m_pop, PW.m_ext, PW.m_rev, PW.m_app, PW.g_nm, PW.g_tup, PW.g_cons, PW.g_nil, endW, startW, List.map_cons, List.map_nil, List.length_cons, List.length_nil, List.replicate, Nat.reduceAdd, Nat.reduceSub, Nat.zero_add, List.cons_append, List.nil_append, List.append_nil, List.getElem?_cons_zero, List.getElem?_cons_succ, List.set_cons_zero, List.set_cons_succ, setS, T.alen]
    have b1 : (M + 1) * j ≤ 2 ^ 20 := by
      have : (M + 1) * j ≤ (2 ^ 14 + 1) * 40 := Nat.mul_le_mul (by omega) (by omega)
      omega
    refine ⟨IntMulOk.of_bits (bits_le hf b1) (bits_le hx (by omega)), less_same (ih (j + 1) (f * x + a) _ (fun c m => ha c (List.mem_cons_of_mem _ m)) ?_ (by omega) hD)⟩
    have h1 := nb_mul hf hx
    have h2 := nb_up (ha a List.mem_cons_self) (show M ≤ (M + 1) * j + M by omega)
    have h3 := nb_add h1 h2
    rw [show (M + 1) * (j + 1) = (M + 1) * j + M + 1 by rw [Nat.mul_add, Nat.mul_one]; omega]
    exact h3
/-- the height at a whole number -/
def sAt : SpW := fun ws S Q _ => match ws with
  | [.tup ws, .int x] => ∃ ns : List Int, ws = ns.map Vl.int ∧ ns.length ≤ 39 ∧ (∃ M : Nat, M ≤ 2 ^ 14 ∧ (∀ a ∈ ns, a.natAbs < 2 ^ M) ∧ x.natAbs < 2 ^ M) ∧ Q (.int (QM.ev ns x)) S
  | _ => False
theorem tAt (Γ sb ws S Q E) (h : sAt ws S Q E) : rdB bAt ⟨Γ, E, sb⟩ (endW Q) (startW 4 ws) S := by
  unfold sAt at h
  split at h
  · rename_i ws x
    obtain ⟨ns, rfl, hl, ⟨M, hM, hb, hx⟩, h⟩ := h
    rw [bAt_eq]
    simp only [PW.o_nil, PW.o_seq, PW.o_asg, PW.o_par, PW.o_asgI, PW.o_aug, PW.o_augI, PW.o_ex, PW.o_ret, PW.o_retN, PW.o_ifs, PW.o_for, PW.o_whl, PW.o_rais, PW.o_brk, PW.o_cnt, PW.o_pass, PW.e_var, PW.e_int, PW.e_bl, PW.e_non, PW.e_str, PW.e_gint, PW.e_gti, PW.e_gtt, PW.e_gst, PW.e_rev, PW.e_cls, PW.e_ty, PW.e_tup, PW.e_lst, PW.e_bin, PW.e_neg, PW.e_not, PW.e_and, PW.e_or, PW.e_cmp, PW.e_chn, PW.e_ite, PW.e_ix, PW.e_slc, PW.e_call, PW.e_callk, PW.e_blt, PW.e_mth, PW.e_lrng, PW.e_att, PW.e_hrd, PW.e_comp, PW.e_comp2, PW.t_var, PW.t_bl, PW.t_cmp, PW.t_chn, PW.t_not, PW.t_and, PW.t_or, PW.t_ite, PW.t_call, PW.t_callk, PW.t_blt, PW.t_ix, PW.a_nil, PW.a_cons, PW.a_scons, PW.p_nil, PW.p_int, PW.p_var, PW.p_bin, PW.p_neg, PW.c_cmp, PW.c_chn, PW.c_not, PW.c_and, PW.c_or, PW.c_call, PW.c_blt, PW.c_var, PW.t_int, PW.c_nil, PW.i_rng, PW.i_enm, PW.i_revd, PW.i_zp, PW.i_var, PW.i_tup, PW.i_rev, PW.i_comp, PW.i_ix, PW.i_gti, PW.i_call, PW.i_slc, PW.op_add, PW.op_sub, PW.op_mul, PW.op_fdv, PW.op_mod, PW.op_pow, PW.op_addS, PW.op_addT, PW.op_addL, PW.op_repL, PW.cm_lt, PW.cm_le, PW.cm_gt, PW.cm_ge, PW.cm_eq, PW.cm_ne, PW.cm_eqS, PW.cm_neS, PW.cm_eqT, PW.cm_neT, PW.cm_eqL, PW.cm_neL, PW.cm_inT, PW.cm_niT, PW.cm_eqB, PW.cm_isNN, PW.cm_isNE, PW.cm_isNT, PW.cm_isNI, PW.cm_noNN, PW.cm_noNE, PW.cm_noNT, PW.cm_noNI, PW.tr_bl, PW.tr_int, PW.tr_non, PW.tr_lst, PW.tr_rol, PW.tr_tup, PW.ix_rol, PW.b_abs, PW.b_int, PW.b_boolI, PW.b_boolB, PW.b_intB, PW.b_max, PW.b_min, PW.b_lenT, PW.b_lenR, PW.b_lenL, PW.b_sum, PW.b_all, PW.b_any, PW.b_sorted, PW.b_tupT, PW.b_listT, PW.b_listL, PW.b_isN, PW.b_isB, PW.b_isS, PW.b_tupL, PW.b_isI, PW.b_isT, PW.b_isE, PW.m_pop, PW.m_ext, PW.m_rev, PW.m_app, PW.g_nm, PW.g_tup, PW.g_cons, PW.g_nil, endW, startW, List.map_cons, List.map_nil, List.length_cons, List.length_nil, List.replicate, Nat.reduceAdd, Nat.reduceSub, Nat.zero_add, List.cons_append, List.nil_append, List.append_nil, List.getElem?_cons_zero, List.getElem?_cons_succ, List.set_cons_zero, List.set_cons_succ, setS, T.alen, seqT]
    rw [← List.map_reverse]
    refine atI_run hx hM ns.reverse 1 0 none (fun a m => hb a (List.mem_reverse.mp m)) (Nat.pow_pos (by decide)) (by rw [List.length_reverse]; omega) fun y => ?_
    rw [QM.ev_horner]
    simp only [PW.o_nil, PW.o_seq, PW.o_asg, PW.o_par, PW.o_asgI, PW.o_aug, PW.o_augI, PW.o_ex, PW.o_ret, PW.o_retN, PW.o_ifs, PW.o_for, PW.o_whl, PW.o_rais, PW.o_brk, PW.o_cnt, PW.o_pass, PW.e_var, PW.e_int, PW.e_bl, PW.e_non, PW.e_str, PW.e_gint, PW.e_gti, PW.e_gtt, PW.e_gst, PW.e_rev, PW.e_cls, PW.e_ty, PW.e_tup, PW.e_lst, PW.e_bin, PW.e_neg, PW.e_not, PW.e_and, PW.e_or, PW.e_cmp, PW.e_chn, PW.e_ite, PW.e_ix, PW.e_slc, PW.e_call, PW.e_callk, PW.e_blt, PW.e_mth, PW.e_lrng, PW.e_att, PW.e_hrd, PW.e_comp, PW.e_comp2, PW.t_var, PW.t_bl, PW.t_cmp, PW.t_chn, PW.t_not, PW.t_and, PW.t_or, PW.t_ite, PW.t_call, PW.t_callk, PW.t_blt, PW.t_ix, PW.a_nil, PW.a_cons, PW.a_scons, PW.p_nil, PW.p_int, PW.p_var, PW.p_bin, PW.p_neg, PW.c_cmp, PW.c_chn, PW.c_not, PW.c_and, PW.c_or, PW.c_call, PW.c_blt, PW.c_var, PW.t_int, PW.c_nil, PW.i_rng, PW.i_enm, PW.i_revd, PW.i_zp, PW.i_var, PW.i_tup, PW.i_rev, PW.i_comp, PW.i_ix, PW.i_gti, PW.i_call, PW.i_slc, PW.op_add, PW.op_sub, PW.op_mul, PW.op_fdv, PW.op_mod, PW.op_pow, PW.op_addS, PW.op_addT, PW.op_addL, PW.op_repL, PW.cm_lt, PW.cm_le, PW.cm_gt, PW.cm_ge, PW.cm_eq, PW.cm_ne, PW.cm_eqS, PW.cm_neS, PW.cm_eqT, PW.cm_neT, PW.cm_eqL, PW.cm_neL, PW.cm_inT, PW.cm_niT, PW.cm_eqB, PW.cm_isNN, PW.cm_isNE, PW.cm_isNT, PW.cm_isNI, PW.cm_noNN, PW.cm_noNE, PW.cm_noNT, PW.cm_noNI, PW.tr_bl, PW.tr_int, PW.tr_non, PW.tr_lst, PW.tr_rol, PW.tr_tup, PW.ix_rol, PW.b_abs, PW.b_int, PW.b_boolI, PW.b_boolB, PW.b_intB, PW.b_max, PW.b_min, PW.b_lenT, PW.b_lenR, PW.b_lenL, PW.b_sum, PW.b_all, PW.b_any, PW.b_sorted, PW.b_tupT, PW.b_listT, PW.b_listL, PW.b_isN, PW.b_isB, PW.b_isS, PW.b_tupL, PW.b_isI, PW.b_isT, PW.b_isE, PW.m_pop, PW.m_ext, PW.m_rev, PW.m_app, PW.g_nm, PW.g_tup, PW.g_cons, PW.g_nil, endW, startW, List.map_cons, List.map_nil, List.length_cons, List.length_nil, List.replicate, Nat.reduceAdd, Nat.reduceSub, Nat.zero_add, List.cons_append, List.nil_append, List.append_nil, List.getElem?_cons_zero, List.getElem?_cons_succ, List.set_cons_zero, List.set_cons_succ, setS, T.alen]
    exact ret_all h
  · exact h.elim
def bHby : B := (.seq (.asg (.nm 3) (.int 0)) (.seq (.for (.nm 4) (.rev (.var 0)) (.seq (.asg (.nm 3) (.bin .Mod (.bin .Add (.bin .Mult (.var 3) (.var 1)) (.var 4)) (.var 2))) .nil)) (.seq (.ret (.var 3)) .nil)))
def bHbyI : B := (.seq (.asg (.nm 3) (.bin .Mod (.bin .Add (.bin .Mult (.var 3) (.var 1)) (.var 4)) (.var 2))) .nil)
theorem bHby_eq : bHby = .seq (.asg (.nm 3) (.int 0)) (.seq (.for (.nm 4) (.rev (.var 0)) bHbyI) (.seq (.ret (.var 3)) .nil)) := rfl
theorem hbyI_run {R : Rc} {o1 : Option Vl} {x w : Int} {D : WEn} {S : Sto} (hx : x.natAbs < 2 ^ 1000) (w0 : 0 < w) (w1 : w.natAbs < 2 ^ 1000) : ∀ (ms : List Int) (f : Int) (y : Option Vl), 0 ≤ f → f < w →
    (∀ y, D.nx [o1, some (.int x), some (.int w), some (.int ((ms.foldl (fun f a => f * x + a) f) % w)), y] S) → forR (fun _ => True) (gP (.nm 4)) (rdB bHbyI R) D (ms.map Vl.int) [o1, some (.int x), some (.int w), some (.int f), y] S := by
  intro ms
  induction ms with
  | nil =>
    intro f y f0 f1 hD
    rw [List.map_nil, for_nil]
    have := hD y
    rw [List.foldl_nil, Int.emod_eq_of_lt f0 f1] at this
    exact ⟨trivial, this⟩
  | cons a ms ih =>
    intro f y f0 f1 hD
    rw [List.map_cons, for_cons]
    refine ⟨trivial, ?_⟩
    unfold bHbyI
    simp only [PW.o_nil, PW.o_seq, PW.o_asg, PW.o_par, PW.o_asgI, PW.o_aug, PW.o_augI, PW.o_ex, PW.o_ret, PW.o_retN, PW.o_ifs, PW.o_for, PW.o_whl, PW.o_rais, PW.o_brk, PW.o_cnt, PW.o_pass, PW.e_var, PW.e_int, PW.e_bl, PW.e_non, PW.e_str, PW.e_gint, PW.e_gti, PW.e_gtt, PW.e_gst, PW.e_rev, PW.e_cls, PW.e_ty, PW.e_tup, PW.e_lst, PW.e_bin, PW.e_neg, PW.e_not, PW.e_and, PW.e_or, PW.e_cmp, PW.e_chn, PW.e_ite, PW.e_ix, PW.e_slc, PW.e_call, PW.e_callk, PW.e_blt, PW.e_mth, PW.e_lrng, PW.e_att, PW.e_hrd, PW.e_comp, PW.e_comp2, PW.t_var, PW.t_bl, PW.t_cmp, PW.t_chn, PW.t_not, PW.t_and, PW.t_or, PW.t_ite, PW.t_call, PW.t_callk, PW.t_blt, PW.t_ix, PW.a_nil, PW.a_cons, PW.a_scons, PW.p_nil, PW.p_int, PW.p_var, PW.p_bin, PW.p_neg, PW.c_cmp, PW.c_chn, PW.c_not, PW.c_and, PW.c_or, PW.c_call, PW.c_blt, PW.c_var, PW.t_int, PW.c_nil, PW.i_rng, PW.i_enm, PW.i_revd, PW.i_zp, PW.i_var, PW.i_tup, PW.i_rev, PW.i_comp, PW.i_ix, PW.i_gti, PW.i_call, PW.i_slc, PW.op_add, PW.op_sub, PW.op_mul, PW.op_fdv, PW.op_mod, PW.op_pow, PW.op_addS, PW.op_addT, PW.op_addL, PW.op_repL, PW.cm_lt, PW.cm_le, PW.cm_gt, PW.cm_ge, PW.cm_eq, PW.cm_ne, PW.cm_eqS, PW.cm_neS, PW.cm_eqT, PW.cm_neT, PW.cm_eqL, PW.cm_neL, PW.cm_inT, PW.cm_niT, PW.cm_eqB, PW.cm_isNN, PW.cm_isNE, PW.cm_isNT, PW.cm_isNI, PW.cm_noNN, PW.cm_noNE, PW.cm_noNT, PW.cm_noNI, PW.tr_bl, PW.tr_int, PW.tr_non, PW.tr_lst, PW.tr_rol, PW.tr_tup, PW.ix_rol, PW.b_abs, PW.b_int, PW.b_boolI, PW.b_boolB, PW.b_intB, PW.b_max, PW.b_min, PW.b_lenT, PW.b_lenR, PW.b_lenL, PW.b_sum, PW.b_all, PW.b_any, PW.b_sorted, PW.b_tupT, PW.b_listT, PW.b_listL, PW.b_isN, PW.b_isB, PW.b_isS, PW.b_tupL, PW.b_isI, PW.b_isT, PW.b_isE, PW.m_pop, PW.m_ext, PW.m_rev, PW.m_app, PW.g_nm, PW.g_tup, PW.g_cons, PW.g_nil, endW, startW, List.map_cons, List.map_nil, List.length_cons, List.length_nil, List.replicate, Nat.reduceAdd, Nat.reduceSub, Nat.zero_add, List.cons_append, List.nil_append, List.append_nil, List.getElem?_cons_zero, List.getElem?_cons_succ, List.set_cons_zero, List.set_cons_succ, setS, T.alen]
    rw [Int.fmod_eq_emod_of_nonneg _ (by omega)]
    refine ⟨mulS (by omega) hx, by omega, less_same (ih _ _ (Int.emod_nonneg _ (by omega)) (Int.emod_lt_of_pos _ w0) fun y => ?_)⟩
    have e : ∀ (ms : List Int) (f g : Int), (f - g) % w = 0 → (ms.foldl (fun f a => f * x + a) f) % w = (ms.foldl (fun f a => f * x + a) g) % w := by
      intro ms
      induction ms with
      | nil => intro f g e; exact Int.emod_eq_emod_iff_emod_sub_eq_zero.mpr e
      | cons a ms ih =>
        intro f g e
        rw [List.foldl_cons, List.foldl_cons]
        refine ih _ _ ?_
        obtain ⟨k, e⟩ := Int.dvd_of_emod_eq_zero e
        apply Int.emod_eq_zero_of_dvd
        refine ⟨k * x, ?_⟩
        rw [← Int.mul_assoc, ← e, Int.sub_mul]
        omega
    rw [e ms _ (f * x + a) (by
      rw [Int.emod_eq_zero_of_dvd]
      have := Int.emod_add_mul_ediv (f * x + a) w
      exact ⟨-((f * x + a) / w), by rw [Int.mul_neg]; omega⟩)]
    exact hD y
/-- its rest -/
def sHby : SpW := fun ws S Q _ => match ws with
  | [.tup ws, .int x, .int w] => ∃ ns : List Int, ws = ns.map Vl.int ∧ 0 < w ∧ w.natAbs < 2 ^ 1000 ∧ x.natAbs < 2 ^ 1000 ∧ Q (.int (QM.ev ns x % w)) S
  | _ => False
theorem tHby (Γ sb ws S Q E) (h : sHby ws S Q E) : rdB bHby ⟨Γ, E, sb⟩ (endW Q) (startW 5 ws) S := by
  unfold sHby at h
  split at h
  · rename_i ws x w
    obtain ⟨ns, rfl, w0, w1, hx, h⟩ := h
    rw [bHby_eq]
    simp only [PW.o_nil, PW.o_seq, PW.o_asg, PW.o_par, PW.o_asgI, PW.o_aug, PW.o_augI, PW.o_ex, PW.o_ret, PW.o_retN, PW.o_ifs, PW.o_for, PW.o_whl, PW.o_rais, PW.o_brk, PW.o_cnt, PW.o_pass, PW.e_var, PW.e_int, PW.e_bl, PW.e_non, PW.e_str, PW.e_gint, PW.e_gti, PW.e_gtt, PW.e_gst, PW.e_rev, PW.e_cls, PW.e_ty, PW.e_tup, PW.e_lst, PW.e_bin, PW.e_neg, PW.e_not, PW.e_and, PW.e_or, PW.e_cmp, PW.e_chn, PW.e_ite, PW.e_ix, PW.e_slc, PW.e_call, PW.e_callk, PW.e_blt, PW.e_mth, PW.e_lrng, PW.e_att, PW.e_hrd, PW.e_comp, PW.e_comp2, PW.t_var, PW.t_bl, PW.t_cmp, PW.t_chn, PW.t_not, PW.t_and, PW.t_or, PW.t_ite, PW.t_call, PW.t_callk, PW.t_blt, PW.t_ix, PW.a_nil, PW.a_cons, PW.a_scons, PW.p_nil, PW.p_int, PW.p_var, PW.p_bin, PW.p_neg, PW.c_cmp, PW.c_chn, PW.c_not, PW.c_and, PW.c_or, PW.c_call, PW.c_blt, PW.c_var, PW.t_int, PW.c_nil, PW.i_rng, PW.i_enm, PW.i_revd, PW.i_zp, PW.i_var, PW.i_tup, PW.i_rev, PW.i_comp, PW.i_ix, PW.i_gti, PW.i_call, PW.i_slc, PW.op_add, PW.op_sub, PW.op_mul, PW.op_fdv, PW.op_mod, PW.op_pow, PW.op_addS, PW.op_addT, PW.op_addL, PW.op_repL, PW.cm_lt, PW.cm_le, PW.cm_gt, PW.cm_ge, PW.cm_eq, PW.cm_ne, PW.cm_eqS, PW.cm_neS, PW.cm_eqT, PW.cm_neT, PW.cm_eqL, PW.cm_neL, PW.cm_inT, PW.cm_niT, PW.cm_eqB, PW.cm_isNN, PW.cm_isNE, PW.cm_isNT, PW.cm_isNI, PW.cm_noNN, PW.cm_noNE, PW.cm_noNT, PW.cm_noNI, PW.tr_bl, PW.tr_int, PW.tr_non, PW.tr_lst, PW.tr_rol, PW.tr_tup, PW.ix_rol, PW.b_abs, PW.b_int, PW.b_boolI, PW.b_boolB, PW.b_intB, PW.b_max, PW.b_min, PW.b_lenT, PW.b_lenR, PW.b_lenL, PW.b_sum, PW.b_all, PW.b_any, PW.b_sorted, PW.b_tupT, PW.b_listT, PW.b_listL, PW.b_isN, PW.b_isB, PW.b_isS, PW.b_tupL, PW.b_isI, PW.b_isT, PW.b_isE, PW.m_pop, PW.m_ext, PW.m_rev, PW.m_app, PW.g_nm, PW.g_tup, PW.g_cons, PW.g_nil, endW, startW, List.map_cons, List.map_nil, List.length_cons, List.length_nil, List.replicate, Nat.reduceAdd, Nat.reduceSub, Nat.zero_add, List.cons_append, List.nil_append, List.append_nil, List.getElem?_cons_zero, List.getElem?_cons_succ, List.set_cons_zero, List.set_cons_succ, setS, T.alen, seqT]
    rw [← List.map_reverse]
    refine hbyI_run hx w0 w1 ns.reverse 0 none (Int.le_refl _) w0 fun y => ?_
    rw [QM.ev_horner]
    simp only [PW.o_nil, PW.o_seq, PW.o_asg, PW.o_par, PW.o_asgI, PW.o_aug, PW.o_augI, PW.o_ex, PW.o_ret, PW.o_retN, PW.o_ifs, PW.o_for, PW.o_whl, PW.o_rais, PW.o_brk, PW.o_cnt, PW.o_pass, PW.e_var, PW.e_int, PW.e_bl, PW.e_non, PW.e_str, PW.e_gint, PW.e_gti, PW.e_gtt, PW.e_gst, PW.e_rev, PW.e_cls, PW.e_ty, PW.e_tup, PW.e_lst, PW.e_bin, PW.e_neg, PW.e_not, PW.e_and, PW.e_or, PW.e_cmp, PW.e_chn, PW.e_ite, PW.e_ix, PW.e_slc, PW.e_call, PW.e_callk, PW.e_blt, PW.e_mth, PW.e_lrng, PW.e_att, PW.e_hrd, PW.e_comp, PW.e_comp2, PW.t_var, PW.t_bl, PW.t_cmp, PW.t_chn, PW.t_not, PW.t_and, PW.t_or, PW.t_ite, PW.t_call, PW.t_callk, PW.t_blt, PW.t_ix, PW.a_nil, PW.a_cons, PW.a_scons, PW.p_nil, PW.p_int, PW.p_var, PW.p_bin, PW.p_neg, PW.c_cmp, PW.c_chn, PW.c_not, PW.c_and, PW.c_or, PW.c_call, PW.c_blt, PW.c_var, PW.t_int, PW.c_nil, PW.i_rng, PW.i_enm, PW.i_revd, PW.i_zp, PW.i_var, PW.i_tup, PW.i_rev, PW.i_comp, PW.i_ix, PW.i_gti, PW.i_call, PW.i_slc, PW.op_add, PW.op_sub, PW.op_mul, PW.op_fdv, PW.op_mod, PW.op_pow, PW.op_addS, PW.op_addT, PW.op_addL, PW.op_repL, PW.cm_lt, PW.cm_le, PW.cm_gt, PW.cm_ge, PW.cm_eq, PW.cm_ne, PW.cm_eqS, PW.cm_neS, PW.cm_eqT, PW.cm_neT, PW.cm_eqL, PW.cm_neL, PW.cm_inT, PW.cm_niT, PW.cm_eqB, PW.cm_isNN, PW.cm_isNE, PW.cm_isNT, PW.cm_isNI, PW.cm_noNN, PW.cm_noNE, PW.cm_noNT, PW.cm_noNI, PW.tr_bl, PW.tr_int, PW.tr_non, PW.tr_lst, PW.tr_rol, PW.tr_tup, PW.ix_rol, PW.b_abs, PW.b_int, PW.b_boolI, PW.b_boolB, PW.b_intB, PW.b_max, PW.b_min, PW.b_lenT, PW.b_lenR, PW.b_lenL, PW.b_sum, PW.b_all, PW.b_any, PW.b_sorted, PW.b_tupT, PW.b_listT, PW.b_listL, PW.b_isN, PW.b_isB, PW.b_isS, PW.b_tupL, PW.b_isI, PW.b_isT, PW.b_isE, PW.m_pop, PW.m_ext, PW.m_rev, PW.m_app, PW.g_nm, PW.g_tup, PW.g_cons, PW.g_nil, endW, startW, List.map_cons, List.map_nil, List.length_cons, List.length_nil, List.replicate, Nat.reduceAdd, Nat.reduceSub, Nat.zero_add, List.cons_append, List.nil_append, List.append_nil, List.getElem?_cons_zero, List.getElem?_cons_succ, List.set_cons_zero, List.set_cons_succ, setS, T.alen]
    exact ret_all h
  · exact h.elim
end LQ

set_option Elab.async false
set_option linter.all false
set_option maxRecDepth 100000
set_option maxHeartbeats 2000000
set_option exponentiation.threshold 100000
/-! the drawn curve -/
namespace LQ
open PySem PySem.Spec PyProof.Rows L2 PW
def bDrW3 (k m : Nat) : B := (.seq (.asg (.nm 2) (.call m (.cons (.var 2) (.cons (.var 8) .nil)))) (.seq (.ifs (.and (.cmp .Eq (.call k (.cons (.var 0) (.cons (.int 3) .nil))) (.int 0)) (.cmp .LtE (.bin .Sub (.bin .Add (.blt .len (.cons (.var 2) .nil)) (.blt .len (.cons (.var 8) .nil))) (.int 2)) (.var 4))) (.seq (.asg (.nm 2) (.call m (.cons (.var 2) (.cons (.var 8) .nil)))) .nil) .nil) .nil))
def bDrW2 (k m : Nat) : B := (.seq (.asg (.nm 8) (.ite (.cmp .LtE (.bin .Sub (.bin .Add (.blt .len (.cons (.var 2) .nil)) (.blt .len (.cons (.var 8) .nil))) (.int 2)) (.var 4)) (.var 8) (.tup (.cons (.neg (.ix (.var 7) (.int 0))) (.cons (.ix (.var 7) (.int 1)) .nil))))) (bDrW3 k m))
def bDrW1 (k o l m : Nat) : B := (.seq (.asg (.nm 7) (.call l (.cons (.bin .Sub (.blt .int (.cons (.call k (.cons (.var 0) (.cons (.int 9) .nil))) .nil)) (.int 4)) (.cons (.bin .Add (.int 1) (.blt .int (.cons (.call k (.cons (.var 0) (.cons (.int 3) .nil))) .nil))) .nil)))) (.seq (.asg (.nm 8) (.call o (.cons (.var 0) (.cons (.lst (.cons (.tup (.cons (.neg (.ix (.var 7) (.int 0))) (.cons (.ix (.var 7) (.int 1)) .nil))) (.cons (.tup (.cons (.int 1) (.cons (.int 0) (.cons (.int 1) .nil)))) (.cons (.tup (.cons (.neg (.int 2)) (.cons (.int 0) (.cons (.int 1) .nil)))) (.cons (.tup (.cons (.int 1) (.cons (.int 1) (.cons (.int 1) .nil)))) (.cons (.tup (.cons (.neg (.int 1)) (.cons (.neg (.int 1)) (.cons (.int 1) .nil)))) .nil)))))) .nil)))) (bDrW2 k m)))
def bDr0 (k o d : Nat) : B := (.seq (.asg (.nm 5) (.call o (.cons (.var 0) (.cons (.lst (.cons (.int 2) (.cons (.int 9) (.cons (.int 60) .nil)))) .nil)))) (.seq (.asg (.nm 6) (.bin .Add (.comp (.bin .Sub (.blt .int (.cons (.call k (.cons (.var 0) (.cons (.bin .Add (.bin .Mult (.int 2) (.var 5)) (.int 1)) .nil))) .nil)) (.var 5)) (.nm 9) (.rng (.cons (.var 4) .nil)) .nil [("lap", 9)]) (.lst (.cons (.bin .Add (.int 1) (.blt .int (.cons (.call k (.cons (.var 0) (.cons (.int 5) .nil))) .nil))) .nil)))) (.seq (.ret (.call d (.cons (.var 6) .nil))) .nil)))
def bDr1 (k o l m : Nat) : B := (.seq (.asg (.nm 2) (.tup (.cons (.call o (.cons (.var 0) (.cons (.lst (.cons (.int 1) (.cons (.int 1) (.cons (.neg (.int 1)) (.cons (.int 2) .nil))))) .nil))) .nil))) (.seq (.whl (.cmp .LtE (.blt .len (.cons (.var 2) .nil)) (.var 4)) (bDrW1 k o l m)) (.seq (.ret (.var 2)) .nil)))
def bDrawn (k o d l m : Nat) : B := (.seq (.par [3, 4] (.cons (.call k (.cons (.var 0) (.cons (.int 3) .nil))) (.cons (.bin .Add (.int 1) (.call k (.cons (.var 0) (.cons (.var 1) .nil)))) .nil))) (.seq (.ifs (.cmp .Eq (.var 3) (.int 0)) (.seq (.asg (.nm 5) (.call o (.cons (.var 0) (.cons (.lst (.cons (.int 2) (.cons (.int 9) (.cons (.int 60) .nil)))) .nil)))) (.seq (.asg (.nm 6) (.bin .Add (.comp (.bin .Sub (.blt .int (.cons (.call k (.cons (.var 0) (.cons (.bin .Add (.bin .Mult (.int 2) (.var 5)) (.int 1)) .nil))) .nil)) (.var 5)) (.nm 9) (.rng (.cons (.var 4) .nil)) .nil [("lap", 9)]) (.lst (.cons (.bin .Add (.int 1) (.blt .int (.cons (.call k (.cons (.var 0) (.cons (.int 5) .nil))) .nil))) .nil)))) (.seq (.ret (.call d (.cons (.var 6) .nil))) .nil))) .nil) (.seq (.asg (.nm 2) (.tup (.cons (.call o (.cons (.var 0) (.cons (.lst (.cons (.int 1) (.cons (.int 1) (.cons (.neg (.int 1)) (.cons (.int 2) .nil))))) .nil))) .nil))) (.seq (.whl (.cmp .LtE (.blt .len (.cons (.var 2) .nil)) (.var 4)) (.seq (.asg (.nm 7) (.call l (.cons (.bin .Sub (.blt .int (.cons (.call k (.cons (.var 0) (.cons (.int 9) .nil))) .nil)) (.int 4)) (.cons (.bin .Add (.int 1) (.blt .int (.cons (.call k (.cons (.var 0) (.cons (.int 3) .nil))) .nil))) .nil)))) (.seq (.asg (.nm 8) (.call o (.cons (.var 0) (.cons (.lst (.cons (.tup (.cons (.neg (.ix (.var 7) (.int 0))) (.cons (.ix (.var 7) (.int 1)) .nil))) (.cons (.tup (.cons (.int 1) (.cons (.int 0) (.cons (.int 1) .nil)))) (.cons (.tup (.cons (.neg (.int 2)) (.cons (.int 0) (.cons (.int 1) .nil)))) (.cons (.tup (.cons (.int 1) (.cons (.int 1) (.cons (.int 1) .nil)))) (.cons (.tup (.cons (.neg (.int 1)) (.cons (.neg (.int 1)) (.cons (.int 1) .nil)))) .nil)))))) .nil)))) (.seq (.asg (.nm 8) (.ite (.cmp .LtE (.bin .Sub (.bin .Add (.blt .len (.cons (.var 2) .nil)) (.blt .len (.cons (.var 8) .nil))) (.int 2)) (.var 4)) (.var 8) (.tup (.cons (.neg (.ix (.var 7) (.int 0))) (.cons (.ix (.var 7) (.int 1)) .nil))))) (.seq (.asg (.nm 2) (.call m (.cons (.var 2) (.cons (.var 8) .nil)))) (.seq (.ifs (.and (.cmp .Eq (.call k (.cons (.var 0) (.cons (.int 3) .nil))) (.int 0)) (.cmp .LtE (.bin .Sub (.bin .Add (.blt .len (.cons (.var 2) .nil)) (.blt .len (.cons (.var 8) .nil))) (.int 2)) (.var 4))) (.seq (.asg (.nm 2) (.call m (.cons (.var 2) (.cons (.var 8) .nil)))) .nil) .nil) .nil)))))) (.seq (.ret (.var 2)) .nil)))))
theorem bDrawn_eq (k o d l m : Nat) : bDrawn k o d l m = (.seq (.par [3, 4] (.cons (.call k (.cons (.var 0) (.cons (.int 3) .nil))) (.cons (.bin .Add (.int 1) (.call k (.cons (.var 0) (.cons (.var 1) .nil)))) .nil))) (.seq (.ifs (.cmp .Eq (.var 3) (.int 0)) (bDr0 k o d) .nil) (bDr1 k o l m))) := rfl
/-- a drawn curve of at most the degree d -/
structure Drawn (d : Nat) (cs : List Int) : Prop where
  l1 : 2 ≤ cs.length
  l2 : cs.length ≤ d + 1
  last : QM.co cs (cs.length - 1) ≠ 0
  bd : QM.Bd cs (2 * (4 * (d + 1)) ^ d + 60)
def sDrawn : SpW := fun ws S Q _ => match ws with
  | [.lst p, .int dg] => ∃ d : Nat, dg = (d : Int) ∧ 1 ≤ d ∧ d ≤ 10 ∧ ∃ n, n ≤ 10 ^ 5 ∧ Pot S p n ∧ ∀ ws' cs, Drawn d cs → Pot (S.upd p ws') p (n + 80) → Q (iT cs) (S.upd p ws')
  | _ => False
theorem le_sz3 : (3 : Nat) ≤ sizeLine := by rw [sizeLine_eq]; omega
theorem le_sz1 : (1 : Nat) ≤ sizeLine := by rw [sizeLine_eq]; omega
theorem le_sz4 : (4 : Nat) ≤ sizeLine := by rw [sizeLine_eq]; omega
theorem le_sz5 : (5 : Nat) ≤ sizeLine := by rw [sizeLine_eq]; omega
/-- the parts one by one, drawn -/
theorem dr_parts {Γ : Nat → SpW} {sb : Subs} {E : WK} {k : Nat} {p D : Addr} {u : Int} {o1 o2 o3 o4 o5 : Option Vl} {Q : List Vl → Sto → Prop} (gk : Γ k = sTake) (u1 : 1 ≤ u) (u2 : u ≤ 60) (npD : p ≠ D) : ∀ (l : List Nat) (acc : List Int) (S X : Sto) (c : Int) (o6 : Option Vl), (∀ a ∈ acc, a.natAbs ≤ 60) → Cp S p X → (∀ l, Cp S p (X.upd D l)) → Pot X p c → c + l.length ≤ 10 ^ 6 → X D = some (acc.map Vl.int) → acc.length + l.length ≤ 1000 →
    (∀ (xs : List Int) (X' : Sto), xs.length = acc.length + l.length → (∀ a ∈ xs, a.natAbs ≤ 60) → Cp S p X' → Pot X' p (c + l.length) → X' D = some (xs.map Vl.int) → Q (xs.map Vl.int) X') →
    lcR (fun _ => True) (gP (.nm 9)) ((rd T.nil).c (Rc.no ⟨Γ, E, sb⟩)) ((rd (.bin .Sub (.blt .int (.cons (.call k (.cons (.var 0) (.cons (.bin .Add (.bin .Mult (.int 2) (.var 5)) (.int 1)) .nil))) .nil)) (.var 5))).e (Rc.no ⟨Γ, E, sb⟩))
      [some (.lst p), o1, o2, o3, o4, some (.int u), o5, o6, o6, none] D Q (l.map fun i => Vl.int (0 + (i : Nat))) (acc.map Vl.int) X := by
  intro l
  induction l with
  | nil =>
    intro acc S X c o6 ha hc hc2 hp _ hD _ hQ
    rw [List.map_nil, lc_nil]
    exact ⟨trivial, hD, hQ acc X (by simp) ha hc (hp.mono (by simp)) hD⟩
  | cons i l ih =>
    intro acc S X c o6 ha hc hc2 hp hn hD hl hQ
    rw [List.length_cons] at hn hl
    rw [List.map_cons, lc_cons]
    refine ⟨trivial, ?_⟩
    simp only [PW.o_nil, PW.o_seq, PW.o_asg, PW.o_par, PW.o_asgI, PW.o_aug, PW.o_augI, PW.o_ex, PW.o_ret, PW.o_retN, PW.o_ifs, PW.o_for, PW.o_whl, PW.o_rais, PW.o_brk, PW.o_cnt, PW.o_pass, PW.e_var, PW.e_int, PW.e_bl, PW.e_non, PW.e_str, PW.e_gint, PW.e_gti, PW.e_gtt, PW.e_gst, PW.e_rev, PW.e_cls, PW.e_ty, PW.e_tup, PW.e_lst, PW.e_bin, PW.e_neg, PW.e_not, PW.e_and, PW.e_or, PW.e_cmp, PW.e_chn, PW.e_ite, PW.e_ix, PW.e_slc, PW.e_call, PW.e_callk, PW.e_blt, PW.e_mth, PW.e_lrng, PW.e_att, PW.e_hrd, PW.e_comp, PW.e_comp2, PW.t_var, PW.t_bl, PW.t_cmp, PW.t_chn, PW.t_not, PW.t_and, PW.t_or, PW.t_ite, PW.t_call, PW.t_callk, PW.t_blt, PW.t_ix, PW.a_nil, PW.a_cons, PW.a_scons, PW.p_nil, PW.p_int, PW.p_var, PW.p_bin, PW.p_neg, PW.c_cmp, PW.c_chn, PW.c_not, PW.c_and, PW.c_or, PW.c_call, PW.c_blt, PW.c_var, PW.t_int, PW.c_nil, PW.i_rng, PW.i_enm, PW.i_revd, PW.i_zp, PW.i_var, PW.i_tup, PW.i_rev, PW.i_comp, PW.i_ix, PW.i_gti, PW.i_call, PW.i_slc, PW.op_add, PW.op_sub, PW.op_mul, PW.op_fdv, PW.op_mod, PW.op_pow, PW.op_addS, PW.op_addT, PW.op_addL, PW.op_repL, PW.cm_lt, PW.cm_le, PW.cm_gt, PW.cm_ge, PW.cm_eq, PW.cm_ne, PW.cm_eqS, PW.cm_neS, PW.cm_eqT, PW.cm_neT, PW.cm_eqL, PW.cm_neL, PW.cm_inT, PW.cm_niT, PW.cm_eqB, PW.cm_isNN, PW.cm_isNE, PW.cm_isNT, PW.cm_isNI, PW.cm_noNN, PW.cm_noNE, PW.cm_noNT, PW.cm_noNI, PW.tr_bl, PW.tr_int, PW.tr_non, PW.tr_lst, PW.tr_rol, PW.tr_tup, PW.ix_rol, PW.b_abs, PW.b_int, PW.b_boolI, PW.b_boolB, PW.b_intB, PW.b_max, PW.b_min, PW.b_lenT, PW.b_lenR, PW.b_lenL, PW.b_sum, PW.b_all, PW.b_any, PW.b_sorted, PW.b_tupT, PW.b_listT, PW.b_listL, PW.b_isN, PW.b_isB, PW.b_isS, PW.b_tupL, PW.b_isI, PW.b_isT, PW.b_isE, PW.m_pop, PW.m_ext, PW.m_rev, PW.m_app, PW.g_nm, PW.g_tup, PW.g_cons, PW.g_nil, endW, startW, List.map_cons, List.map_nil, List.length_cons, List.length_nil, List.replicate, Nat.reduceAdd, Nat.reduceSub, Nat.zero_add, List.cons_append, List.nil_append, List.append_nil, List.getElem?_cons_zero, List.getElem?_cons_succ, List.set_cons_zero, List.set_cons_succ, setS, T.alen, no_ga, gk, sTake, if_true]
    refine ⟨mulS (by decide) (nb_up (m := 62) (by omega) (by decide)), by omega, by omega, c, by omega, hp, fun e w1 e0 e1 hp1 => ?_⟩
    have hD1 : (X.upd p w1) D = some (acc.map Vl.int) := by rw [Sto.upd_ne npD.symm]; exact hD
    refine ⟨hD1, by rw [List.length_map, sizeLine_eq]; omega, (X.upd p w1).upd D ((acc ++ [e - u]).map Vl.int), ?_, ?_⟩
    · rw [List.map_append]; exact wsub_refl _
    · have e2 : acc.map Vl.int ++ [Vl.int (e - u)] = (acc ++ [e - u]).map Vl.int := by rw [List.map_append]; rfl
      rw [e2]
      have cX : ∀ l, Cp S p ((X.upd p w1).upd D l) := fun l a us n h => by
        have := hc2 l a us n h
        by_cases z : a = D
        · rw [z, Sto.upd_same] at this ⊢; exact this
        · rw [Sto.upd_ne z, Sto.upd_ne n]; rw [Sto.upd_ne z] at this; exact this
      refine ih (acc ++ [e - u]) S _ (c + 1) o6 (fun a m => ?_) (cX _) (fun l => ?_) ?_ (by omega) Sto.upd_same (by rw [List.length_append, List.length_singleton]; omega) fun xs X' h1 h2 h3 h4 h5 => ?_
      · rcases List.mem_append.mp m with m | m
        · exact ha a m
        · rw [List.mem_singleton.mp m]; omega
      · rw [Sto.upd_upd]; exact cX l
      · obtain ⟨ws, e5, f⟩ := hp1.get
        exact f _ (by rw [Sto.upd_ne npD]; exact e5)
      · refine hQ xs X' ?_ h2 h3 (h4.mono ?_) h5
        · rw [h1, List.length_append, List.length_singleton, List.length_cons]; omega
        · rw [List.length_cons]; omega
theorem wipe9 {o0 o1 o2 o3 o4 o5 o6 o7 o8 o9 : Option Vl} : wipeW [o0, o1, o2, o3, o4, o5, o6, o7, o8, o9] [9] = [o0, o1, o2, o3, o4, o5, o6, o7, o8, none] := rfl
theorem dr0 {Γ : Nat → SpW} {sb : Subs} {Q E : WK} {k o d p} {dg : Option Vl} {many : Nat} {S X : Sto} {n : Int} {DD : WEn} {o2 o3 o9 : Option Vl} {dd : Nat} (gk : Γ k = sTake) (go : Γ o = sOf) (gd : Γ d = sTold) (hm : 1 ≤ many) (hm2 : many ≤ dd) (hd : dd ≤ 10) (hn : n ≤ 10 ^ 5) (hc : Cp S p X) (hp : Pot X p (n + 2))
    (h : ∀ ws' cs, Drawn dd cs → Pot (S.upd p ws') p (n + 80) → Q (iT cs) (S.upd p ws')) (hQ : DD.rt = Q) :
    rdB (bDr0 k o d) ⟨Γ, E, sb⟩ DD [some (.lst p), dg, o2, o3, some (.int (many : Nat)), none, none, none, none, o9] X := by
  unfold bDr0
  simp only [PW.o_nil, PW.o_seq, PW.o_asg, PW.o_par, PW.o_asgI, PW.o_aug, PW.o_augI, PW.o_ex, PW.o_ret, PW.o_retN, PW.o_ifs, PW.o_for, PW.o_whl, PW.o_rais, PW.o_brk, PW.o_cnt, PW.o_pass, PW.e_var, PW.e_int, PW.e_bl, PW.e_non, PW.e_str, PW.e_gint, PW.e_gti, PW.e_gtt, PW.e_gst, PW.e_rev, PW.e_cls, PW.e_ty, PW.e_tup, PW.e_lst, PW.e_bin, PW.e_neg, PW.e_not, PW.e_and, PW.e_or, PW.e_cmp, PW.e_chn, PW.e_ite, PW.e_ix, PW.e_slc, PW.e_call, PW.e_callk, PW.e_blt, PW.e_mth, PW.e_lrng, PW.e_att, PW.e_hrd, PW.e_comp, PW.e_comp2, PW.t_var, PW.t_bl, PW.t_cmp, PW.t_chn, PW.t_not, PW.t_and, PW.t_or, PW.t_ite, PW.t_call, PW.t_callk, PW.t_blt, PW.t_ix, PW.a_nil, PW.a_cons, PW.a_scons, PW.p_nil, PW.p_int, PW.p_var, PW.p_bin, PW.p_neg, PW.c_cmp, PW.c_chn, PW.c_not, PW.c_and, PW.c_or, PW.c_call, PW.c_blt, PW.c_var, PW.t_int, PW.c_nil, PW.i_rng, PW.i_enm, PW.i_revd, PW.i_zp, PW.i_var, PW.i_tup, PW.i_rev, PW.i_comp, PW.i_ix, PW.i_gti, PW.i_call, PW.i_slc, PW.op_add, PW.op_sub, PW.op_mul, PW.op_fdv, PW.op_mod, PW.op_pow, PW.op_addS, PW.op_addT, PW.op_addL, PW.op_repL, PW.cm_lt, PW.cm_le, PW.cm_gt, PW.cm_ge, PW.cm_eq, PW.cm_ne, PW.cm_eqS, PW.cm_neS, PW.cm_eqT, PW.cm_neT, PW.cm_eqL, PW.cm_neL, PW.cm_inT, PW.cm_niT, PW.cm_eqB, PW.cm_isNN, PW.cm_isNE, PW.cm_isNT, PW.cm_isNI, PW.cm_noNN, PW.cm_noNE, PW.cm_noNT, PW.cm_noNI, PW.tr_bl, PW.tr_int, PW.tr_non, PW.tr_lst, PW.tr_rol, PW.tr_tup, PW.ix_rol, PW.b_abs, PW.b_int, PW.b_boolI, PW.b_boolB, PW.b_intB, PW.b_max, PW.b_min, PW.b_lenT, PW.b_lenR, PW.b_lenL, PW.b_sum, PW.b_all, PW.b_any, PW.b_sorted, PW.b_tupT, PW.b_listT, PW.b_listL, PW.b_isN, PW.b_isB, PW.b_isS, PW.b_tupL, PW.b_isI, PW.b_isT, PW.b_isE, PW.m_pop, PW.m_ext, PW.m_rev, PW.m_app, PW.g_nm, PW.g_tup, PW.g_cons, PW.g_nil, endW, startW, List.map_cons, List.map_nil, List.length_cons, List.length_nil, List.replicate, Nat.reduceAdd, Nat.reduceSub, Nat.zero_add, List.cons_append, List.nil_append, List.append_nil, List.getElem?_cons_zero, List.getElem?_cons_succ, List.set_cons_zero, List.set_cons_succ, setS, T.alen, newL, go, sOf, wipe9, rngG]
  refine ⟨le_sz3, fun q hq => ⟨(hp.new (l := []) hq).2, n + 2, by omega, (hp.new hq).1, _, Sto.upd_same, by decide, by decide, fun w w1 hw hp1 => ?_⟩⟩
  obtain ⟨u, rfl, u1, u2⟩ : ∃ u : Int, w = .int u ∧ 1 ≤ u ∧ u ≤ 60 := by
    simp only [List.mem_cons, List.not_mem_nil, or_false] at hw
    rcases hw with rfl | rfl | rfl <;> exact ⟨_, rfl, by decide, by decide⟩
  have c1 : Cp S p ((X.upd q [.int 2, .int 9, .int 60]).upd p w1) := (hc.new hq).upd
  generalize (X.upd q [.int 2, .int 9, .int 60]).upd p w1 = X1 at c1 hp1
  simp only [PW.o_nil, PW.o_seq, PW.o_asg, PW.o_par, PW.o_asgI, PW.o_aug, PW.o_augI, PW.o_ex, PW.o_ret, PW.o_retN, PW.o_ifs, PW.o_for, PW.o_whl, PW.o_rais, PW.o_brk, PW.o_cnt, PW.o_pass, PW.e_var, PW.e_int, PW.e_bl, PW.e_non, PW.e_str, PW.e_gint, PW.e_gti, PW.e_gtt, PW.e_gst, PW.e_rev, PW.e_cls, PW.e_ty, PW.e_tup, PW.e_lst, PW.e_bin, PW.e_neg, PW.e_not, PW.e_and, PW.e_or, PW.e_cmp, PW.e_chn, PW.e_ite, PW.e_ix, PW.e_slc, PW.e_call, PW.e_callk, PW.e_blt, PW.e_mth, PW.e_lrng, PW.e_att, PW.e_hrd, PW.e_comp, PW.e_comp2, PW.t_var, PW.t_bl, PW.t_cmp, PW.t_chn, PW.t_not, PW.t_and, PW.t_or, PW.t_ite, PW.t_call, PW.t_callk, PW.t_blt, PW.t_ix, PW.a_nil, PW.a_cons, PW.a_scons, PW.p_nil, PW.p_int, PW.p_var, PW.p_bin, PW.p_neg, PW.c_cmp, PW.c_chn, PW.c_not, PW.c_and, PW.c_or, PW.c_call, PW.c_blt, PW.c_var, PW.t_int, PW.c_nil, PW.i_rng, PW.i_enm, PW.i_revd, PW.i_zp, PW.i_var, PW.i_tup, PW.i_rev, PW.i_comp, PW.i_ix, PW.i_gti, PW.i_call, PW.i_slc, PW.op_add, PW.op_sub, PW.op_mul, PW.op_fdv, PW.op_mod, PW.op_pow, PW.op_addS, PW.op_addT, PW.op_addL, PW.op_repL, PW.cm_lt, PW.cm_le, PW.cm_gt, PW.cm_ge, PW.cm_eq, PW.cm_ne, PW.cm_eqS, PW.cm_neS, PW.cm_eqT, PW.cm_neT, PW.cm_eqL, PW.cm_neL, PW.cm_inT, PW.cm_niT, PW.cm_eqB, PW.cm_isNN, PW.cm_isNE, PW.cm_isNT, PW.cm_isNI, PW.cm_noNN, PW.cm_noNE, PW.cm_noNT, PW.cm_noNI, PW.tr_bl, PW.tr_int, PW.tr_non, PW.tr_lst, PW.tr_rol, PW.tr_tup, PW.ix_rol, PW.b_abs, PW.b_int, PW.b_boolI, PW.b_boolB, PW.b_intB, PW.b_max, PW.b_min, PW.b_lenT, PW.b_lenR, PW.b_lenL, PW.b_sum, PW.b_all, PW.b_any, PW.b_sorted, PW.b_tupT, PW.b_listT, PW.b_listL, PW.b_isN, PW.b_isB, PW.b_isS, PW.b_tupL, PW.b_isI, PW.b_isT, PW.b_isE, PW.m_pop, PW.m_ext, PW.m_rev, PW.m_app, PW.g_nm, PW.g_tup, PW.g_cons, PW.g_nil, endW, startW, List.map_cons, List.map_nil, List.length_cons, List.length_nil, List.replicate, Nat.reduceAdd, Nat.reduceSub, Nat.zero_add, List.cons_append, List.nil_append, List.append_nil, List.getElem?_cons_zero, List.getElem?_cons_succ, List.set_cons_zero, List.set_cons_succ, setS, T.alen, newL, gk, sTake, gd, sTold, wipe9]
  refine ⟨trivial, ⟨by omega, by omega⟩, fun D hD => ?_⟩
  have npD : p ≠ D := (hp1.new (l := []) hD).2
  have eR : rangeW 0 (many : Int).toNat = (List.range many).map fun i => Vl.int (0 + (i : Nat)) := rfl
  rw [eR]
  refine dr_parts (S := S) (p := p) (u := u) gk u1 u2 npD (List.range many) [] (X1.upd D []) (n + 2 + 1) none (fun a m => by cases m) (c1.new hD) (fun l => by rw [Sto.upd_upd]; exact c1.new hD) (hp1.new hD).1 (by rw [List.length_range]; omega) Sto.upd_same (by rw [List.length_range]; simp; omega) fun xs X2 l2 b2 c2 p2 e2 => ?_
  rw [List.length_range, List.length_nil] at l2
  rw [List.length_range] at p2
  refine ⟨by decide, by decide, n + 2 + 1 + many, by omega, p2, fun e w2 e0 e1 p3 => ?_⟩
  have c3 : Cp S p (X2.upd p w2) := c2.upd
  have e3 : (X2.upd p w2) D = some (xs.map Vl.int) := by rw [Sto.upd_ne npD.symm]; exact e2
  generalize X2.upd p w2 = X3 at c3 p3 e3
  refine ⟨le_sz1, fun r hr => ?_⟩
  have nDr : D ≠ r := fun z => by rw [z, hr] at e3; cases e3
  have e4 : (X3.upd r [.int (1 + e)]) D = some (xs.map Vl.int) := by rw [Sto.upd_ne nDr]; exact e3
  have c4 := c3.new (ws := [.int (1 + e)]) hr
  have p4 := (p3.new (l := [.int (1 + e)]) hr).1
  have e5 : (X3.upd r [.int (1 + e)]) r = some [.int (1 + e)] := Sto.upd_same
  generalize X3.upd r [.int (1 + e)] = X4 at c4 p4 e4 e5
  refine ⟨_, _, e4, e5, by rw [List.length_map, l2, sizeLine_eq]; show _ + 1 ≤ _; omega, fun s hs => ?_⟩
  have c5 := c4.new (ws := xs.map Vl.int ++ [.int (1 + e)]) hs
  have p5 := (p4.new (l := xs.map Vl.int ++ [.int (1 + e)]) hs).1
  have e6 : (X4.upd s (xs.map Vl.int ++ [.int (1 + e)])) s = some ((xs ++ [1 + e]).map Vl.int) := by rw [Sto.upd_same, List.map_append]; rfl
  generalize X4.upd s (xs.map Vl.int ++ [.int (1 + e)]) = X5 at c5 p5 e6
  refine ⟨xs ++ [1 + e], e6, by rw [List.length_append, List.length_singleton, sizeLine_eq]; omega, ?_⟩
  rw [QM.strip_last _ _ (by omega)]
  obtain ⟨wf, k1, k2⟩ := Pot.fin c5 p5
  rw [hQ]
  have lx : (xs ++ [1 + e]).length = many + 1 := by rw [List.length_append, List.length_singleton, l2]; omega
  refine ret_to k1 (h wf _ ⟨by omega, by omega, ?_, fun a m => ?_⟩ (k2.mono (by omega)))
  · rw [QM.co_last (by simp), List.getLast_append]
    simp; omega
  · rcases List.mem_append.mp m with m | m
    · have := b2 a m; omega
    · rw [List.mem_singleton.mp m]; omega
structure DrI (many d : Nat) (cs : List Int) : Prop where
  l1 : 1 ≤ cs.length
  l2 : cs.length ≤ many + 1
  last : QM.co cs (cs.length - 1) ≠ 0
  bd : QM.Bd cs (2 * (4 * (d + 1)) ^ (cs.length - 1))
structure Stp (ss : List Int) : Prop where
  l : ss.length = 2 ∨ ss.length = 3
  last : QM.co ss (ss.length - 1) ≠ 0
  bd : QM.Bd ss 4
theorem DrI.small {many d : Nat} {cs : List Int} (h : DrI many d cs) (hm : many ≤ d) (hd : d ≤ 10) : ∀ a ∈ cs, a.natAbs < 2 ^ 1000 := fun a m => by
  have h1 := h.bd a m
  have h2 : (4 * (d + 1)) ^ (cs.length - 1) ≤ (4 * (10 + 1)) ^ 10 := Nat.le_trans (Nat.pow_le_pow_left (by omega) _) (Nat.pow_le_pow_right (by decide) (by have := h.l2; omega))
  have h3 : 2 * (4 * (10 + 1)) ^ 10 < 2 ^ 62 := by decide
  exact nb_up (m := 62) (by omega) (by decide)
theorem Stp.small {ss : List Int} (h : Stp ss) : ∀ a ∈ ss, a.natAbs < 2 ^ 1000 := fun a m => by
  have := h.bd a m
  exact nb_up (m := 62) (by omega) (by decide)
theorem DrI.mul {many d : Nat} {cs ss : List Int} (h : DrI many d cs) (s : Stp ss) (hm : many ≤ d) (l : cs.length + ss.length ≤ many + 2) : DrI many d (QM.mul cs ss) ∧ QM.strip (QM.mul cs ss) = QM.mul cs ss ∧ cs.length < (QM.mul cs ss).length := by
  have h1 := h.l1
  have s1 : 1 ≤ ss.length := by rcases s.l with e | e <;> omega
  have s2 : 2 ≤ ss.length := by rcases s.l with e | e <;> omega
  have ml := QM.mul_len cs ss
  have z := QM.mul_last h1 s1 h.last s.last
  refine ⟨⟨by omega, by omega, z, ?_⟩, QM.strip_co (by omega) z, by omega⟩
  refine (QM.mul_bd h.bd s.bd s1).mono ?_
  have e1 : cs.length * (2 * (4 * (d + 1)) ^ (cs.length - 1) * 4) ≤ (d + 1) * (2 * (4 * (d + 1)) ^ (cs.length - 1) * 4) := Nat.mul_le_mul_right _ (by omega)
  refine Nat.le_trans e1 ?_
  have e2 : (d + 1) * (2 * (4 * (d + 1)) ^ (cs.length - 1) * 4) = 2 * (4 * (d + 1)) ^ (cs.length - 1 + 1) := by
    rw [Nat.pow_succ]
    generalize (4 * (d + 1)) ^ (cs.length - 1) = x
    ac_rfl
  rw [e2]
  exact Nat.mul_le_mul_left _ (Nat.pow_le_pow_right (by omega) (by omega))
theorem drW3 {Γ : Nat → SpW} {sb : Subs} {E : WK} {k m p} {dg : Option Vl} {many d : Nat} {S X : Sto} {c : Int} {D : WEn} {o3 o5 o6 o7 o9 : Option Vl} {cs ss : List Int} (gk : Γ k = sTake) (gm : Γ m = sProd) (I : DrI many d cs) (s : Stp ss) (hm : many ≤ d) (hd : d ≤ 10) (l : cs.length + ss.length ≤ many + 2)
    (hn : c ≤ 10 ^ 6) (hc : Cp S p X) (hp : Pot X p c) (h : ∀ X' cs', DrI many d cs' → cs.length < cs'.length → Cp S p X' → Pot X' p (c + 1) → D.nx [some (.lst p), dg, some (iT cs'), o3, some (.int (many : Nat)), o5, o6, o7, some (iT ss), o9] X') :
    rdB (bDrW3 k m) ⟨Γ, E, sb⟩ D [some (.lst p), dg, some (iT cs), o3, some (.int (many : Nat)), o5, o6, o7, some (iT ss), o9] X := by
  unfold bDrW3
  simp only [PW.o_nil, PW.o_seq, PW.o_asg, PW.o_par, PW.o_asgI, PW.o_aug, PW.o_augI, PW.o_ex, PW.o_ret, PW.o_retN, PW.o_ifs, PW.o_for, PW.o_whl, PW.o_rais, PW.o_brk, PW.o_cnt, PW.o_pass, PW.e_var, PW.e_int, PW.e_bl, PW.e_non, PW.e_str, PW.e_gint, PW.e_gti, PW.e_gtt, PW.e_gst, PW.e_rev, PW.e_cls, PW.e_ty, PW.e_tup, PW.e_lst, PW.e_bin, PW.e_neg, PW.e_not, PW.e_and, PW.e_or, PW.e_cmp, PW.e_chn, PW.e_ite, PW.e_ix, PW.e_slc, PW.e_call, PW.e_callk, PW.e_blt, PW.e_mth, PW.e_lrng, PW.e_att, PW.e_hrd, PW.e_comp, PW.e_comp2, PW.t_var, PW.t_bl, PW.t_cmp, PW.t_chn, PW.t_not, PW.t_and, PW.t_or, PW.t_ite, PW.t_call, PW.t_callk, PW.t_blt, PW.t_ix, PW.a_nil, PW.a_cons, PW.a_scons, PW.p_nil, PW.p_int, PW.p_var, PW.p_bin, PW.p_neg, PW.c_cmp, PW.c_chn, PW.c_not, PW.c_and, PW.c_or, PW.c_call, PW.c_blt, PW.c_var, PW.t_int, PW.c_nil, PW.i_rng, PW.i_enm, PW.i_revd, PW.i_zp, PW.i_var, PW.i_tup, PW.i_rev, PW.i_comp, PW.i_ix, PW.i_gti, PW.i_call, PW.i_slc, PW.op_add, PW.op_sub, PW.op_mul, PW.op_fdv, PW.op_mod, PW.op_pow, PW.op_addS, PW.op_addT, PW.op_addL, PW.op_repL, PW.cm_lt, PW.cm_le, PW.cm_gt, PW.cm_ge, PW.cm_eq, PW.cm_ne, PW.cm_eqS, PW.cm_neS, PW.cm_eqT, PW.cm_neT, PW.cm_eqL, PW.cm_neL, PW.cm_inT, PW.cm_niT, PW.cm_eqB, PW.cm_isNN, PW.cm_isNE, PW.cm_isNT, PW.cm_isNI, PW.cm_noNN, PW.cm_noNE, PW.cm_noNT, PW.cm_noNI, PW.tr_bl, PW.tr_int, PW.tr_non, PW.tr_lst, PW.tr_rol, PW.tr_tup, PW.ix_rol, PW.b_abs, PW.b_int, PW.b_boolI, PW.b_boolB, PW.b_intB, PW.b_max, PW.b_min, PW.b_lenT, PW.b_lenR, PW.b_lenL, PW.b_sum, PW.b_all, PW.b_any, PW.b_sorted, PW.b_tupT, PW.b_listT, PW.b_listL, PW.b_isN, PW.b_isB, PW.b_isS, PW.b_tupL, PW.b_isI, PW.b_isT, PW.b_isE, PW.m_pop, PW.m_ext, PW.m_rev, PW.m_app, PW.g_nm, PW.g_tup, PW.g_cons, PW.g_nil, endW, startW, List.map_cons, List.map_nil, List.length_cons, List.length_nil, List.replicate, Nat.reduceAdd, Nat.reduceSub, Nat.zero_add, List.cons_append, List.nil_append, List.append_nil, List.getElem?_cons_zero, List.getElem?_cons_succ, List.set_cons_zero, List.set_cons_succ, setS, T.alen, gm, sProd]
  obtain ⟨I2, e2, g2⟩ := I.mul s hm l
  have i1 := I.l1
  have i2 := I.l2
  have s1 : 1 ≤ ss.length ∧ ss.length ≤ 3 := by rcases s.l with e | e <;> omega
  refine ⟨cs, ss, rfl, rfl, i1, s1.1, by omega, by omega, I.small hm hd, s.small, ?_⟩
  rw [e2]
  simp only [PW.o_nil, PW.o_seq, PW.o_asg, PW.o_par, PW.o_asgI, PW.o_aug, PW.o_augI, PW.o_ex, PW.o_ret, PW.o_retN, PW.o_ifs, PW.o_for, PW.o_whl, PW.o_rais, PW.o_brk, PW.o_cnt, PW.o_pass, PW.e_var, PW.e_int, PW.e_bl, PW.e_non, PW.e_str, PW.e_gint, PW.e_gti, PW.e_gtt, PW.e_gst, PW.e_rev, PW.e_cls, PW.e_ty, PW.e_tup, PW.e_lst, PW.e_bin, PW.e_neg, PW.e_not, PW.e_and, PW.e_or, PW.e_cmp, PW.e_chn, PW.e_ite, PW.e_ix, PW.e_slc, PW.e_call, PW.e_callk, PW.e_blt, PW.e_mth, PW.e_lrng, PW.e_att, PW.e_hrd, PW.e_comp, PW.e_comp2, PW.t_var, PW.t_bl, PW.t_cmp, PW.t_chn, PW.t_not, PW.t_and, PW.t_or, PW.t_ite, PW.t_call, PW.t_callk, PW.t_blt, PW.t_ix, PW.a_nil, PW.a_cons, PW.a_scons, PW.p_nil, PW.p_int, PW.p_var, PW.p_bin, PW.p_neg, PW.c_cmp, PW.c_chn, PW.c_not, PW.c_and, PW.c_or, PW.c_call, PW.c_blt, PW.c_var, PW.t_int, PW.c_nil, PW.i_rng, PW.i_enm, PW.i_revd, PW.i_zp, PW.i_var, PW.i_tup, PW.i_rev, PW.i_comp, PW.i_ix, PW.i_gti, PW.i_call, PW.i_slc, PW.op_add, PW.op_sub, PW.op_mul, PW.op_fdv, PW.op_mod, PW.op_pow, PW.op_addS, PW.op_addT, PW.op_addL, PW.op_repL, PW.cm_lt, PW.cm_le, PW.cm_gt, PW.cm_ge, PW.cm_eq, PW.cm_ne, PW.cm_eqS, PW.cm_neS, PW.cm_eqT, PW.cm_neT, PW.cm_eqL, PW.cm_neL, PW.cm_inT, PW.cm_niT, PW.cm_eqB, PW.cm_isNN, PW.cm_isNE, PW.cm_isNT, PW.cm_isNI, PW.cm_noNN, PW.cm_noNE, PW.cm_noNT, PW.cm_noNI, PW.tr_bl, PW.tr_int, PW.tr_non, PW.tr_lst, PW.tr_rol, PW.tr_tup, PW.ix_rol, PW.b_abs, PW.b_int, PW.b_boolI, PW.b_boolB, PW.b_intB, PW.b_max, PW.b_min, PW.b_lenT, PW.b_lenR, PW.b_lenL, PW.b_sum, PW.b_all, PW.b_any, PW.b_sorted, PW.b_tupT, PW.b_listT, PW.b_listL, PW.b_isN, PW.b_isB, PW.b_isS, PW.b_tupL, PW.b_isI, PW.b_isT, PW.b_isE, PW.m_pop, PW.m_ext, PW.m_rev, PW.m_app, PW.g_nm, PW.g_tup, PW.g_cons, PW.g_nil, endW, startW, List.map_cons, List.map_nil, List.length_cons, List.length_nil, List.replicate, Nat.reduceAdd, Nat.reduceSub, Nat.zero_add, List.cons_append, List.nil_append, List.append_nil, List.getElem?_cons_zero, List.getElem?_cons_succ, List.set_cons_zero, List.set_cons_succ, setS, T.alen, gm, gk, sTake, sProd, List.length_map]
  refine ⟨by decide, by decide, c, hn, hp, fun e w1 e0 e1 hp1 => ?_⟩
  have c1 : Cp S p (X.upd p w1) := hc.upd
  generalize X.upd p w1 = X1 at c1 hp1
  by_cases z : e = 0
  · simp only [decide_eq_true z, if_true]
    by_cases y : ((QM.mul cs ss).length : Int) + (ss.length : Int) - 2 ≤ (many : Int)
    · simp only [decide_eq_true y, if_true]
      obtain ⟨I3, e3, g3⟩ := I2.mul s hm (by omega)
      have j2 := I2.l2
      refine ⟨QM.mul cs ss, ss, rfl, rfl, I2.l1, s1.1, by omega, by omega, I2.small hm hd, s.small, ?_⟩
      rw [e3]
      exact h X1 _ I3 (by omega) c1 hp1
    · simp only [decide_eq_false y, Bool.false_eq_true, if_false]
      exact h X1 _ I2 g2 c1 hp1
  · simp only [decide_eq_false z, Bool.false_eq_true, if_false]
    exact h X1 _ I2 g2 c1 hp1
theorem drW2 {Γ : Nat → SpW} {sb : Subs} {E : WK} {k m p} {dg : Option Vl} {many d : Nat} {S X : Sto} {c : Int} {D : WEn} {o3 o5 o6 o9 : Option Vl} {cs ss : List Int} {x y : Int} (gk : Γ k = sTake) (gm : Γ m = sProd) (I : DrI many d cs) (s : Stp ss) (sl : Stp [-x, y]) (hm : many ≤ d) (hd : d ≤ 10) (l : cs.length ≤ many)
    (hn : c ≤ 10 ^ 6) (hc : Cp S p X) (hp : Pot X p c) (h : ∀ X' cs' o8, DrI many d cs' → cs.length < cs'.length → Cp S p X' → Pot X' p (c + 1) → D.nx [some (.lst p), dg, some (iT cs'), o3, some (.int (many : Nat)), o5, o6, some (nu x y), o8, o9] X') :
    rdB (bDrW2 k m) ⟨Γ, E, sb⟩ D [some (.lst p), dg, some (iT cs), o3, some (.int (many : Nat)), o5, o6, some (nu x y), some (iT ss), o9] X := by
  unfold bDrW2
  simp only [PW.o_nil, PW.o_seq, PW.o_asg, PW.o_par, PW.o_asgI, PW.o_aug, PW.o_augI, PW.o_ex, PW.o_ret, PW.o_retN, PW.o_ifs, PW.o_for, PW.o_whl, PW.o_rais, PW.o_brk, PW.o_cnt, PW.o_pass, PW.e_var, PW.e_int, PW.e_bl, PW.e_non, PW.e_str, PW.e_gint, PW.e_gti, PW.e_gtt, PW.e_gst, PW.e_rev, PW.e_cls, PW.e_ty, PW.e_tup, PW.e_lst, PW.e_bin, PW.e_neg, PW.e_not, PW.e_and, PW.e_or, PW.e_cmp, PW.e_chn, PW.e_ite, PW.e_ix, PW.e_slc, PW.e_call, PW.e_callk, PW.e_blt, PW.e_mth, PW.e_lrng, PW.e_att, PW.e_hrd, PW.e_comp, PW.e_comp2, PW.t_var, PW.t_bl, PW.t_cmp, PW.t_chn, PW.t_not, PW.t_and, PW.t_or, PW.t_ite, PW.t_call, PW.t_callk, PW.t_blt, PW.t_ix, PW.a_nil, PW.a_cons, PW.a_scons, PW.p_nil, PW.p_int, PW.p_var, PW.p_bin, PW.p_neg, PW.c_cmp, PW.c_chn, PW.c_not, PW.c_and, PW.c_or, PW.c_call, PW.c_blt, PW.c_var, PW.t_int, PW.c_nil, PW.i_rng, PW.i_enm, PW.i_revd, PW.i_zp, PW.i_var, PW.i_tup, PW.i_rev, PW.i_comp, PW.i_ix, PW.i_gti, PW.i_call, PW.i_slc, PW.op_add, PW.op_sub, PW.op_mul, PW.op_fdv, PW.op_mod, PW.op_pow, PW.op_addS, PW.op_addT, PW.op_addL, PW.op_repL, PW.cm_lt, PW.cm_le, PW.cm_gt, PW.cm_ge, PW.cm_eq, PW.cm_ne, PW.cm_eqS, PW.cm_neS, PW.cm_eqT, PW.cm_neT, PW.cm_eqL, PW.cm_neL, PW.cm_inT, PW.cm_niT, PW.cm_eqB, PW.cm_isNN, PW.cm_isNE, PW.cm_isNT, PW.cm_isNI, PW.cm_noNN, PW.cm_noNE, PW.cm_noNT, PW.cm_noNI, PW.tr_bl, PW.tr_int, PW.tr_non, PW.tr_lst, PW.tr_rol, PW.tr_tup, PW.ix_rol, PW.b_abs, PW.b_int, PW.b_boolI, PW.b_boolB, PW.b_intB, PW.b_max, PW.b_min, PW.b_lenT, PW.b_lenR, PW.b_lenL, PW.b_sum, PW.b_all, PW.b_any, PW.b_sorted, PW.b_tupT, PW.b_listT, PW.b_listL, PW.b_isN, PW.b_isB, PW.b_isS, PW.b_tupL, PW.b_isI, PW.b_isT, PW.b_isE, PW.m_pop, PW.m_ext, PW.m_rev, PW.m_app, PW.g_nm, PW.g_tup, PW.g_cons, PW.g_nil, endW, startW, List.map_cons, List.map_nil, List.length_cons, List.length_nil, List.replicate, Nat.reduceAdd, Nat.reduceSub, Nat.zero_add, List.cons_append, List.nil_append, List.append_nil, List.getElem?_cons_zero, List.getElem?_cons_succ, List.set_cons_zero, List.set_cons_succ, setS, T.alen, List.length_map, ixT0, ixT1]
  by_cases y : (cs.length : Int) + (ss.length : Int) - 2 ≤ (many : Int)
  · simp only [decide_eq_true y, if_true]
    exact drW3 gk gm I s hm hd (by omega) hn hc hp fun X' cs' => h X' cs' _
  · simp only [decide_eq_false y, Bool.false_eq_true, if_false]
    refine ⟨le_sz, ?_⟩
    exact drW3 (ss := [-x, _]) gk gm I sl hm hd (by show cs.length + 2 ≤ _; omega) hn hc hp fun X' cs' => h X' cs' _
theorem drW1 {Γ : Nat → SpW} {sb : Subs} {E : WK} {k o l m p} {dg : Option Vl} {many d : Nat} {S X : Sto} {c : Int} {D : WEn} {o3 o5 o6 o7 o8 o9 : Option Vl} {cs : List Int} (gk : Γ k = sTake) (go : Γ o = sOf) (gl : Γ l = sLow) (gm : Γ m = sProd) (I : DrI many d cs) (hm : many ≤ d) (hd : d ≤ 10) (ll : cs.length ≤ many)
    (hn : c + 4 ≤ 10 ^ 6) (hc : Cp S p X) (hp : Pot X p c) (h : ∀ X' cs' o7 o8, DrI many d cs' → cs.length < cs'.length → Cp S p X' → Pot X' p (c + 4) → D.nx [some (.lst p), dg, some (iT cs'), o3, some (.int (many : Nat)), o5, o6, o7, o8, o9] X') :
    rdB (bDrW1 k o l m) ⟨Γ, E, sb⟩ D [some (.lst p), dg, some (iT cs), o3, some (.int (many : Nat)), o5, o6, o7, o8, o9] X := by
  unfold bDrW1
  simp only [PW.o_nil, PW.o_seq, PW.o_asg, PW.o_par, PW.o_asgI, PW.o_aug, PW.o_augI, PW.o_ex, PW.o_ret, PW.o_retN, PW.o_ifs, PW.o_for, PW.o_whl, PW.o_rais, PW.o_brk, PW.o_cnt, PW.o_pass, PW.e_var, PW.e_int, PW.e_bl, PW.e_non, PW.e_str, PW.e_gint, PW.e_gti, PW.e_gtt, PW.e_gst, PW.e_rev, PW.e_cls, PW.e_ty, PW.e_tup, PW.e_lst, PW.e_bin, PW.e_neg, PW.e_not, PW.e_and, PW.e_or, PW.e_cmp, PW.e_chn, PW.e_ite, PW.e_ix, PW.e_slc, PW.e_call, PW.e_callk, PW.e_blt, PW.e_mth, PW.e_lrng, PW.e_att, PW.e_hrd, PW.e_comp, PW.e_comp2, PW.t_var, PW.t_bl, PW.t_cmp, PW.t_chn, PW.t_not, PW.t_and, PW.t_or, PW.t_ite, PW.t_call, PW.t_callk, PW.t_blt, PW.t_ix, PW.a_nil, PW.a_cons, PW.a_scons, PW.p_nil, PW.p_int, PW.p_var, PW.p_bin, PW.p_neg, PW.c_cmp, PW.c_chn, PW.c_not, PW.c_and, PW.c_or, PW.c_call, PW.c_blt, PW.c_var, PW.t_int, PW.c_nil, PW.i_rng, PW.i_enm, PW.i_revd, PW.i_zp, PW.i_var, PW.i_tup, PW.i_rev, PW.i_comp, PW.i_ix, PW.i_gti, PW.i_call, PW.i_slc, PW.op_add, PW.op_sub, PW.op_mul, PW.op_fdv, PW.op_mod, PW.op_pow, PW.op_addS, PW.op_addT, PW.op_addL, PW.op_repL, PW.cm_lt, PW.cm_le, PW.cm_gt, PW.cm_ge, PW.cm_eq, PW.cm_ne, PW.cm_eqS, PW.cm_neS, PW.cm_eqT, PW.cm_neT, PW.cm_eqL, PW.cm_neL, PW.cm_inT, PW.cm_niT, PW.cm_eqB, PW.cm_isNN, PW.cm_isNE, PW.cm_isNT, PW.cm_isNI, PW.cm_noNN, PW.cm_noNE, PW.cm_noNT, PW.cm_noNI, PW.tr_bl, PW.tr_int, PW.tr_non, PW.tr_lst, PW.tr_rol, PW.tr_tup, PW.ix_rol, PW.b_abs, PW.b_int, PW.b_boolI, PW.b_boolB, PW.b_intB, PW.b_max, PW.b_min, PW.b_lenT, PW.b_lenR, PW.b_lenL, PW.b_sum, PW.b_all, PW.b_any, PW.b_sorted, PW.b_tupT, PW.b_listT, PW.b_listL, PW.b_isN, PW.b_isB, PW.b_isS, PW.b_tupL, PW.b_isI, PW.b_isT, PW.b_isE, PW.m_pop, PW.m_ext, PW.m_rev, PW.m_app, PW.g_nm, PW.g_tup, PW.g_cons, PW.g_nil, endW, startW, List.map_cons, List.map_nil, List.length_cons, List.length_nil, List.replicate, Nat.reduceAdd, Nat.reduceSub, Nat.zero_add, List.cons_append, List.nil_append, List.append_nil, List.getElem?_cons_zero, List.getElem?_cons_succ, List.set_cons_zero, List.set_cons_succ, setS, T.alen, gk, go, gl, sTake, sLow]
  refine ⟨by decide, by decide, c, by omega, hp, fun e w1 e0 e1 hp1 => ?_⟩
  have c1 : Cp S p (X.upd p w1) := hc.upd
  generalize X.upd p w1 = X1 at c1 hp1
  refine ⟨by decide, by decide, c + 1, by omega, hp1, fun f w2 f0 f1 hp2 => ?_⟩
  have c2 : Cp S p (X1.upd p w2) := c1.upd
  generalize X1.upd p w2 = X2 at c2 hp2
  refine ⟨by omega, nb_up (m := 62) (by omega) (by decide), ?_⟩
  obtain ⟨x, y, el, y1, y2, gx, x2, _⟩ := lo_spec (t := e - 4) (show 1 ≤ 1 + f by omega)
  rw [el]
  have sl : Stp [-x, y] := ⟨.inl rfl, by show y ≠ 0; omega, fun a m => by
    simp only [List.mem_cons, List.not_mem_nil, or_false] at m
    rcases m with rfl | rfl <;> omega⟩
  simp only [PW.o_nil, PW.o_seq, PW.o_asg, PW.o_par, PW.o_asgI, PW.o_aug, PW.o_augI, PW.o_ex, PW.o_ret, PW.o_retN, PW.o_ifs, PW.o_for, PW.o_whl, PW.o_rais, PW.o_brk, PW.o_cnt, PW.o_pass, PW.e_var, PW.e_int, PW.e_bl, PW.e_non, PW.e_str, PW.e_gint, PW.e_gti, PW.e_gtt, PW.e_gst, PW.e_rev, PW.e_cls, PW.e_ty, PW.e_tup, PW.e_lst, PW.e_bin, PW.e_neg, PW.e_not, PW.e_and, PW.e_or, PW.e_cmp, PW.e_chn, PW.e_ite, PW.e_ix, PW.e_slc, PW.e_call, PW.e_callk, PW.e_blt, PW.e_mth, PW.e_lrng, PW.e_att, PW.e_hrd, PW.e_comp, PW.e_comp2, PW.t_var, PW.t_bl, PW.t_cmp, PW.t_chn, PW.t_not, PW.t_and, PW.t_or, PW.t_ite, PW.t_call, PW.t_callk, PW.t_blt, PW.t_ix, PW.a_nil, PW.a_cons, PW.a_scons, PW.p_nil, PW.p_int, PW.p_var, PW.p_bin, PW.p_neg, PW.c_cmp, PW.c_chn, PW.c_not, PW.c_and, PW.c_or, PW.c_call, PW.c_blt, PW.c_var, PW.t_int, PW.c_nil, PW.i_rng, PW.i_enm, PW.i_revd, PW.i_zp, PW.i_var, PW.i_tup, PW.i_rev, PW.i_comp, PW.i_ix, PW.i_gti, PW.i_call, PW.i_slc, PW.op_add, PW.op_sub, PW.op_mul, PW.op_fdv, PW.op_mod, PW.op_pow, PW.op_addS, PW.op_addT, PW.op_addL, PW.op_repL, PW.cm_lt, PW.cm_le, PW.cm_gt, PW.cm_ge, PW.cm_eq, PW.cm_ne, PW.cm_eqS, PW.cm_neS, PW.cm_eqT, PW.cm_neT, PW.cm_eqL, PW.cm_neL, PW.cm_inT, PW.cm_niT, PW.cm_eqB, PW.cm_isNN, PW.cm_isNE, PW.cm_isNT, PW.cm_isNI, PW.cm_noNN, PW.cm_noNE, PW.cm_noNT, PW.cm_noNI, PW.tr_bl, PW.tr_int, PW.tr_non, PW.tr_lst, PW.tr_rol, PW.tr_tup, PW.ix_rol, PW.b_abs, PW.b_int, PW.b_boolI, PW.b_boolB, PW.b_intB, PW.b_max, PW.b_min, PW.b_lenT, PW.b_lenR, PW.b_lenL, PW.b_sum, PW.b_all, PW.b_any, PW.b_sorted, PW.b_tupT, PW.b_listT, PW.b_listL, PW.b_isN, PW.b_isB, PW.b_isS, PW.b_tupL, PW.b_isI, PW.b_isT, PW.b_isE, PW.m_pop, PW.m_ext, PW.m_rev, PW.m_app, PW.g_nm, PW.g_tup, PW.g_cons, PW.g_nil, endW, startW, List.map_cons, List.map_nil, List.length_cons, List.length_nil, List.replicate, Nat.reduceAdd, Nat.reduceSub, Nat.zero_add, List.cons_append, List.nil_append, List.append_nil, List.getElem?_cons_zero, List.getElem?_cons_succ, List.set_cons_zero, List.set_cons_succ, setS, T.alen, gk, go, gl, sTake, sLow, sOf, ixT0, ixT1, newL]
  refine ⟨le_sz, le_sz3, le_sz3, le_sz3, le_sz3, le_sz5, fun q hq => ⟨(hp2.new (l := []) hq).2, c + 1 + 1, by omega, (hp2.new hq).1, _, Sto.upd_same, by show 1 ≤ 5; decide, by show 5 ≤ 10 ^ 6; decide, fun w w3 hw hp3 => ?_⟩⟩
  have c3 := (c2.new (ws := [nu (-x) y, iT [1, 0, 1], iT [-2, 0, 1], iT [1, 1, 1], iT [-1, -1, 1]]) hq).upd (ws := w3)
  obtain ⟨ss, rfl, hs⟩ : ∃ ss : List Int, w = iT ss ∧ Stp ss := by
    simp only [List.mem_cons, List.not_mem_nil, or_false] at hw
    rcases hw with rfl | rfl | rfl | rfl | rfl
    · exact ⟨[-x, y], rfl, sl⟩
    · exact ⟨[1, 0, 1], rfl, .inr rfl, by decide, fun a m => by
        simp only [List.mem_cons, List.not_mem_nil, or_false] at m
        rcases m with rfl | rfl | rfl <;> decide⟩
    · exact ⟨[-2, 0, 1], rfl, .inr rfl, by decide, fun a m => by
        simp only [List.mem_cons, List.not_mem_nil, or_false] at m
        rcases m with rfl | rfl | rfl <;> decide⟩
    · exact ⟨[1, 1, 1], rfl, .inr rfl, by decide, fun a m => by
        simp only [List.mem_cons, List.not_mem_nil, or_false] at m
        rcases m with rfl | rfl | rfl <;> decide⟩
    · exact ⟨[-1, -1, 1], rfl, .inr rfl, by decide, fun a m => by
        simp only [List.mem_cons, List.not_mem_nil, or_false] at m
        rcases m with rfl | rfl | rfl <;> decide⟩
  refine drW2 gk gm I hs sl hm hd ll (c := c + 1 + 1 + 1) (by omega) c3 hp3 fun X' cs' o8 a1 a2 a3 a4 => h X' cs' _ _ a1 a2 a3 (a4.mono (by omega))
theorem dr1 {Γ : Nat → SpW} {sb : Subs} {Q E : WK} {k o l m p} {dg : Option Vl} {many d : Nat} {S X : Sto} {n : Int} {DD : WEn} {o2 o3 o5 o6 o7 o8 o9 : Option Vl} (gk : Γ k = sTake) (go : Γ o = sOf) (gl : Γ l = sLow) (gm : Γ m = sProd) (hm : 1 ≤ many) (hm2 : many ≤ d) (hd : d ≤ 10) (hn : n ≤ 10 ^ 5) (hc : Cp S p X) (hp : Pot X p (n + 2))
    (h : ∀ ws' cs, Drawn d cs → Pot (S.upd p ws') p (n + 80) → Q (iT cs) (S.upd p ws')) (hQ : DD.rt = Q) :
    rdB (bDr1 k o l m) ⟨Γ, E, sb⟩ DD [some (.lst p), dg, o2, o3, some (.int (many : Nat)), o5, o6, o7, o8, o9] X := by
  unfold bDr1
  simp only [PW.o_nil, PW.o_seq, PW.o_asg, PW.o_par, PW.o_asgI, PW.o_aug, PW.o_augI, PW.o_ex, PW.o_ret, PW.o_retN, PW.o_ifs, PW.o_for, PW.o_whl, PW.o_rais, PW.o_brk, PW.o_cnt, PW.o_pass, PW.e_var, PW.e_int, PW.e_bl, PW.e_non, PW.e_str, PW.e_gint, PW.e_gti, PW.e_gtt, PW.e_gst, PW.e_rev, PW.e_cls, PW.e_ty, PW.e_tup, PW.e_lst, PW.e_bin, PW.e_neg, PW.e_not, PW.e_and, PW.e_or, PW.e_cmp, PW.e_chn, PW.e_ite, PW.e_ix, PW.e_slc, PW.e_call, PW.e_callk, PW.e_blt, PW.e_mth, PW.e_lrng, PW.e_att, PW.e_hrd, PW.e_comp, PW.e_comp2, PW.t_var, PW.t_bl, PW.t_cmp, PW.t_chn, PW.t_not, PW.t_and, PW.t_or, PW.t_ite, PW.t_call, PW.t_callk, PW.t_blt, PW.t_ix, PW.a_nil, PW.a_cons, PW.a_scons, PW.p_nil, PW.p_int, PW.p_var, PW.p_bin, PW.p_neg, PW.c_cmp, PW.c_chn, PW.c_not, PW.c_and, PW.c_or, PW.c_call, PW.c_blt, PW.c_var, PW.t_int, PW.c_nil, PW.i_rng, PW.i_enm, PW.i_revd, PW.i_zp, PW.i_var, PW.i_tup, PW.i_rev, PW.i_comp, PW.i_ix, PW.i_gti, PW.i_call, PW.i_slc, PW.op_add, PW.op_sub, PW.op_mul, PW.op_fdv, PW.op_mod, PW.op_pow, PW.op_addS, PW.op_addT, PW.op_addL, PW.op_repL, PW.cm_lt, PW.cm_le, PW.cm_gt, PW.cm_ge, PW.cm_eq, PW.cm_ne, PW.cm_eqS, PW.cm_neS, PW.cm_eqT, PW.cm_neT, PW.cm_eqL, PW.cm_neL, PW.cm_inT, PW.cm_niT, PW.cm_eqB, PW.cm_isNN, PW.cm_isNE, PW.cm_isNT, PW.cm_isNI, PW.cm_noNN, PW.cm_noNE, PW.cm_noNT, PW.cm_noNI, PW.tr_bl, PW.tr_int, PW.tr_non, PW.tr_lst, PW.tr_rol, PW.tr_tup, PW.ix_rol, PW.b_abs, PW.b_int, PW.b_boolI, PW.b_boolB, PW.b_intB, PW.b_max, PW.b_min, PW.b_lenT, PW.b_lenR, PW.b_lenL, PW.b_sum, PW.b_all, PW.b_any, PW.b_sorted, PW.b_tupT, PW.b_listT, PW.b_listL, PW.b_isN, PW.b_isB, PW.b_isS, PW.b_tupL, PW.b_isI, PW.b_isT, PW.b_isE, PW.m_pop, PW.m_ext, PW.m_rev, PW.m_app, PW.g_nm, PW.g_tup, PW.g_cons, PW.g_nil, endW, startW, List.map_cons, List.map_nil, List.length_cons, List.length_nil, List.replicate, Nat.reduceAdd, Nat.reduceSub, Nat.zero_add, List.cons_append, List.nil_append, List.append_nil, List.getElem?_cons_zero, List.getElem?_cons_succ, List.set_cons_zero, List.set_cons_succ, setS, T.alen, newL, go, sOf]
  refine ⟨le_sz4, fun q hq => ⟨(hp.new (l := []) hq).2, n + 2, by omega, (hp.new hq).1, _, Sto.upd_same, by decide, by decide, fun w w1 hw hp1 => ?_⟩⟩
  obtain ⟨u, rfl, u1, u2⟩ : ∃ u : Int, w = .int u ∧ u ≠ 0 ∧ u.natAbs ≤ 2 := by
    simp only [List.mem_cons, List.not_mem_nil, or_false] at hw
    rcases hw with rfl | rfl | rfl | rfl <;> exact ⟨_, rfl, by decide, by decide⟩
  have c1 := (hc.new (ws := [.int 1, .int 1, .int (-1), .int 2]) hq).upd (ws := w1)
  generalize (X.upd q [.int 1, .int 1, .int (-1), .int 2]).upd p w1 = X1 at c1 hp1
  refine ⟨le_sz1, fun σ X' => ∃ cs o7 o8, σ = [some (.lst p), dg, some (iT cs), o3, some (.int (many : Nat)), o5, o6, o7, o8, o9] ∧ DrI many d cs ∧ Cp S p X' ∧ Pot X' p (n + 3 + 4 * (cs.length - 1 : Nat)), fun σ _ => match σ with
    | [_, _, some (.tup ws), _, _, _, _, _, _, _] => many + 1 - ws.length
    | _ => 0, ⟨[u], _, _, rfl, ⟨Nat.le_refl _, by show 1 ≤ many + 1; omega, u1, fun a m => ?_⟩, c1, hp1.mono (by show _ ≤ n + 3 + 4 * 0; omega)⟩, ?_⟩
  · rw [List.mem_singleton.mp m]
    show u.natAbs ≤ 2 * (4 * (d + 1)) ^ 0
    rw [Nat.pow_zero]; omega
  rintro σ X' ⟨cs, o7, o8, rfl, I, c2, p2⟩
  simp only [PW.o_nil, PW.o_seq, PW.o_asg, PW.o_par, PW.o_asgI, PW.o_aug, PW.o_augI, PW.o_ex, PW.o_ret, PW.o_retN, PW.o_ifs, PW.o_for, PW.o_whl, PW.o_rais, PW.o_brk, PW.o_cnt, PW.o_pass, PW.e_var, PW.e_int, PW.e_bl, PW.e_non, PW.e_str, PW.e_gint, PW.e_gti, PW.e_gtt, PW.e_gst, PW.e_rev, PW.e_cls, PW.e_ty, PW.e_tup, PW.e_lst, PW.e_bin, PW.e_neg, PW.e_not, PW.e_and, PW.e_or, PW.e_cmp, PW.e_chn, PW.e_ite, PW.e_ix, PW.e_slc, PW.e_call, PW.e_callk, PW.e_blt, PW.e_mth, PW.e_lrng, PW.e_att, PW.e_hrd, PW.e_comp, PW.e_comp2, PW.t_var, PW.t_bl, PW.t_cmp, PW.t_chn, PW.t_not, PW.t_and, PW.t_or, PW.t_ite, PW.t_call, PW.t_callk, PW.t_blt, PW.t_ix, PW.a_nil, PW.a_cons, PW.a_scons, PW.p_nil, PW.p_int, PW.p_var, PW.p_bin, PW.p_neg, PW.c_cmp, PW.c_chn, PW.c_not, PW.c_and, PW.c_or, PW.c_call, PW.c_blt, PW.c_var, PW.t_int, PW.c_nil, PW.i_rng, PW.i_enm, PW.i_revd, PW.i_zp, PW.i_var, PW.i_tup, PW.i_rev, PW.i_comp, PW.i_ix, PW.i_gti, PW.i_call, PW.i_slc, PW.op_add, PW.op_sub, PW.op_mul, PW.op_fdv, PW.op_mod, PW.op_pow, PW.op_addS, PW.op_addT, PW.op_addL, PW.op_repL, PW.cm_lt, PW.cm_le, PW.cm_gt, PW.cm_ge, PW.cm_eq, PW.cm_ne, PW.cm_eqS, PW.cm_neS, PW.cm_eqT, PW.cm_neT, PW.cm_eqL, PW.cm_neL, PW.cm_inT, PW.cm_niT, PW.cm_eqB, PW.cm_isNN, PW.cm_isNE, PW.cm_isNT, PW.cm_isNI, PW.cm_noNN, PW.cm_noNE, PW.cm_noNT, PW.cm_noNI, PW.tr_bl, PW.tr_int, PW.tr_non, PW.tr_lst, PW.tr_rol, PW.tr_tup, PW.ix_rol, PW.b_abs, PW.b_int, PW.b_boolI, PW.b_boolB, PW.b_intB, PW.b_max, PW.b_min, PW.b_lenT, PW.b_lenR, PW.b_lenL, PW.b_sum, PW.b_all, PW.b_any, PW.b_sorted, PW.b_tupT, PW.b_listT, PW.b_listL, PW.b_isN, PW.b_isB, PW.b_isS, PW.b_tupL, PW.b_isI, PW.b_isT, PW.b_isE, PW.m_pop, PW.m_ext, PW.m_rev, PW.m_app, PW.g_nm, PW.g_tup, PW.g_cons, PW.g_nil, endW, startW, List.map_cons, List.map_nil, List.length_cons, List.length_nil, List.replicate, Nat.reduceAdd, Nat.reduceSub, Nat.zero_add, List.cons_append, List.nil_append, List.append_nil, List.getElem?_cons_zero, List.getElem?_cons_succ, List.set_cons_zero, List.set_cons_succ, setS, T.alen, List.length_map]
  have i1 := I.l1
  have i2 := I.l2
  by_cases z : (cs.length : Int) ≤ (many : Int)
  · simp only [decide_eq_true z, if_true]
    refine drW1 gk go gl gm I hm2 hd (by omega) (by omega) c2 p2 fun X2 cs' o7 o8 a1 a2 a3 a4 => less_same ⟨⟨cs', o7, o8, rfl, a1, a3, a4.mono (by omega)⟩, ?_⟩
    show many + 1 - (cs'.map Vl.int).length < many + 1 - cs.length
    rw [List.length_map]
    have := a1.l2
    omega
  · simp only [decide_eq_false z, Bool.false_eq_true, if_false]
    obtain ⟨wf, k1, k2⟩ := Pot.fin c2 p2
    rw [hQ]
    refine ret_to k1 (h wf cs ⟨by omega, by omega, I.last, I.bd.mono ?_⟩ (k2.mono (by omega)))
    have : (4 * (d + 1)) ^ (cs.length - 1) ≤ (4 * (d + 1)) ^ d := Nat.pow_le_pow_right (by omega) (by omega)
    omega
theorem tDrawn (k o d l m : Nat) (Γ : Nat → SpW) (sb ws S Q E) (gk : Γ k = sTake) (go : Γ o = sOf) (gd : Γ d = sTold) (gl : Γ l = sLow) (gm : Γ m = sProd) (h : sDrawn ws S Q E) : rdB (bDrawn k o d l m) ⟨Γ, E, sb⟩ (endW Q) (startW 10 ws) S := by
  unfold sDrawn at h
  split at h
  · rename_i p dg
    obtain ⟨dd, rfl, d1, d2, n, hn, hp, h⟩ := h
    rw [bDrawn_eq]
    simp only [PW.o_nil, PW.o_seq, PW.o_asg, PW.o_par, PW.o_asgI, PW.o_aug, PW.o_augI, PW.o_ex, PW.o_ret, PW.o_retN, PW.o_ifs, PW.o_for, PW.o_whl, PW.o_rais, PW.o_brk, PW.o_cnt, PW.o_pass, PW.e_var, PW.e_int, PW.e_bl, PW.e_non, PW.e_str, PW.e_gint, PW.e_gti, PW.e_gtt, PW.e_gst, PW.e_rev, PW.e_cls, PW.e_ty, PW.e_tup, PW.e_lst, PW.e_bin, PW.e_neg, PW.e_not, PW.e_and, PW.e_or, PW.e_cmp, PW.e_chn, PW.e_ite, PW.e_ix, PW.e_slc, PW.e_call, PW.e_callk, PW.e_blt, PW.e_mth, PW.e_lrng, PW.e_att, PW.e_hrd, PW.e_comp, PW.e_comp2, PW.t_var, PW.t_bl, PW.t_cmp, PW.t_chn, PW.t_not, PW.t_and, PW.t_or, PW.t_ite, PW.t_call, PW.t_callk, PW.t_blt, PW.t_ix, PW.a_nil, PW.a_cons, PW.a_scons, PW.p_nil, PW.p_int, PW.p_var, PW.p_bin, PW.p_neg, PW.c_cmp, PW.c_chn, PW.c_not, PW.c_and, PW.c_or, PW.c_call, PW.c_blt, PW.c_var, PW.t_int, PW.c_nil, PW.i_rng, PW.i_enm, PW.i_revd, PW.i_zp, PW.i_var, PW.i_tup, PW.i_rev, PW.i_comp, PW.i_ix, PW.i_gti, PW.i_call, PW.i_slc, PW.op_add, PW.op_sub, PW.op_mul, PW.op_fdv, PW.op_mod, PW.op_pow, PW.op_addS, PW.op_addT, PW.op_addL, PW.op_repL, PW.cm_lt, PW.cm_le, PW.cm_gt, PW.cm_ge, PW.cm_eq, PW.cm_ne, PW.cm_eqS, PW.cm_neS, PW.cm_eqT, PW.cm_neT, PW.cm_eqL, PW.cm_neL, PW.cm_inT, PW.cm_niT, PW.cm_eqB, PW.cm_isNN, PW.cm_isNE, PW.cm_isNT, PW.cm_isNI, PW.cm_noNN, PW.cm_noNE, PW.cm_noNT, PW.cm_noNI, PW.tr_bl, PW.tr_int, PW.tr_non, PW.tr_lst, PW.tr_rol, PW.tr_tup, PW.ix_rol, PW.b_abs, PW.b_int, PW.b_boolI, PW.b_boolB, PW.b_intB, PW.b_max, PW.b_min, PW.b_lenT, PW.b_lenR, PW.b_lenL, PW.b_sum, PW.b_all, PW.b_any, PW.b_sorted, PW.b_tupT, PW.b_listT, PW.b_listL, PW.b_isN, PW.b_isB, PW.b_isS, PW.b_tupL, PW.b_isI, PW.b_isT, PW.b_isE, PW.m_pop, PW.m_ext, PW.m_rev, PW.m_app, PW.g_nm, PW.g_tup, PW.g_cons, PW.g_nil, endW, startW, List.map_cons, List.map_nil, List.length_cons, List.length_nil, List.replicate, Nat.reduceAdd, Nat.reduceSub, Nat.zero_add, List.cons_append, List.nil_append, List.append_nil, List.getElem?_cons_zero, List.getElem?_cons_succ, List.set_cons_zero, List.set_cons_succ, setS, T.alen, gk, sTake]
    refine ⟨by decide, by decide, n, by omega, hp, fun way w1 e0 e1 hp1 => ?_⟩
    have c1 : Cp S p (S.upd p w1) := Cp.refl.upd
    generalize S.upd p w1 = X1 at c1 hp1
    refine ⟨by omega, by omega, n + 1, by omega, hp1, fun f w2 f0 f1 hp2 => ?_⟩
    have c2 : Cp S p (X1.upd p w2) := c1.upd
    generalize X1.upd p w2 = X2 at c2 hp2
    obtain ⟨mm, em, m1⟩ : ∃ mm : Nat, 1 + f = (mm : Int) ∧ 1 ≤ mm := ⟨(1 + f).toNat, by omega, by omega⟩
    rw [em]
    by_cases z : way = 0
    · simp only [decide_eq_true z, if_true]
      exact dr0 gk go gd m1 (by omega) d2 hn c2 (hp2.mono (by omega)) h rfl
    · simp only [decide_eq_false z, Bool.false_eq_true, if_false]
      exact dr1 gk go gl gm m1 (by omega) d2 hn c2 (hp2.mono (by omega)) h rfl
  · exact h.elim
end LQ

set_option Elab.async false
set_option linter.all false
set_option maxRecDepth 10000
/-! noughts lifted: plain law -/
namespace KM
open QM
def Pr (p : Int) : Prop := p = 2 ∨ p = 3 ∨ p = 5 ∨ p = 7 ∨ p = 13 ∨ p = 47
theorem Pr.le {p : Int} (h : Pr p) : 2 ≤ p ∧ p ≤ 47 := by rcases h with rfl | rfl | rfl | rfl | rfl | rfl <;> decide
theorem pow_mod (a p : Int) (n : Nat) : (a % p) ^ n % p = a ^ n % p := by
  induction n with
  | zero => rw [Int.pow_zero, Int.pow_zero]
  | succ n ih => rw [Int.pow_succ, Int.pow_succ, Int.mul_emod, ih, Int.emod_emod, ← Int.mul_emod]
theorem inv_all : ∀ p ∈ [2, 3, 5, 7, 13, 47], ∀ s ∈ List.range p, 1 ≤ s → s * (s ^ (p - 2) % p) % p = 1 := by decide +kernel
/-- what, times s, is 1 -/
def inv (s p : Int) : Int := s ^ (p - 2).toNat % p
theorem inv_ok {s p : Int} (h : Pr p) (s1 : 1 ≤ s) (s2 : s < p) : (inv s p * s) % p = 1 := by
  have hp := h.le
  obtain ⟨a, rfl⟩ : ∃ a : Nat, s = (a : Int) := ⟨s.toNat, by omega⟩
  obtain ⟨q, rfl⟩ : ∃ q : Nat, p = (q : Int) := ⟨p.toNat, by omega⟩
  have hq : q ∈ [2, 3, 5, 7, 13, 47] := by
    unfold Pr at h
    simp only [List.mem_cons, List.not_mem_nil, or_false]
    omega
  have := inv_all q hq a (List.mem_range.mpr (by omega)) (by omega)
  unfold inv
  have e : ((q : Int) - 2).toNat = q - 2 := by omega
  rw [e, Int.mul_comm]
  have : ((a * (a ^ (q - 2) % q) % q : Nat) : Int) = 1 := by rw [this]; rfl
  rw [Int.natCast_emod, Int.natCast_mul, Int.natCast_emod, Int.natCast_pow] at this
  exact this
theorem inv_rng {s p : Int} (h : Pr p) : 0 ≤ inv s p ∧ inv s p < p := ⟨Int.emod_nonneg _ (by have := h.le; omega), Int.emod_lt_of_pos _ (by have := h.le; omega)⟩
theorem hensel {l : List Int} {p w f n st : Int} (hp : 2 ≤ p) (w0 : 0 < w) (pw : p ∣ w) (hf : ev l f % w = 0) (hn : f % p = n % p) (hs : (st * dv l n) % p = 1) :
    ev l ((f - (((ev l f % (w * p)) / w * st) % p) * w) % (w * p)) % (w * p) = 0 ∧ ((f - (((ev l f % (w * p)) / w * st) % p) * w) % (w * p)) % p = n % p := by
  obtain ⟨c, hc⟩ := Int.dvd_of_emod_eq_zero hf
  have e1 : ev l f % (w * p) / w = c % p := by
    rw [hc, Int.mul_emod_mul_of_pos _ _ w0, Int.mul_ediv_cancel_left _ (by omega)]
  rw [e1]
  generalize ht : (c % p * st) % p = t
  have dvd2 : w * p ∣ (f - t * w) - ((f - t * w) % (w * p)) := by
    have := Int.emod_add_mul_ediv (f - t * w) (w * p)
    exact ⟨(f - t * w) / (w * p), by omega⟩
  have key : (c - t * dv l f) % p = 0 := by
    rw [← Int.emod_eq_emod_iff_emod_sub_eq_zero]
    have d1 : dv l f % p = dv l n % p := Int.emod_eq_emod_iff_emod_sub_eq_zero.mpr (dv_mod l f n p (Int.emod_eq_emod_iff_emod_sub_eq_zero.mp hn))
    have d2 : (st * dv l f) % p = 1 := by rw [Int.mul_emod, d1, ← Int.mul_emod]; exact hs
    have d3 : (t * dv l f) % p = (c % p * st * dv l f) % p := by rw [← ht, Int.mul_emod, Int.emod_emod, ← Int.mul_emod]
    rw [d3, Int.mul_assoc, Int.mul_emod, d2, Int.emod_emod, Int.mul_one, Int.emod_emod]
  obtain ⟨k, hk⟩ := Int.dvd_of_emod_eq_zero key
  obtain ⟨u, hu⟩ := pw
  have z : ev l (f - t * w) % (w * p) = 0 := by
    obtain ⟨r, tr⟩ := taylor l f (-(t * w))
    have e2 : f - t * w = f + -(t * w) := by omega
    rw [e2, tr, hc]
    apply Int.emod_eq_zero_of_dvd
    refine ⟨k + t * t * u * r, ?_⟩
    have e3 : w * p * (k + t * t * u * r) = w * (p * k) + w * (t * t * (p * u) * r) := by
      rw [Int.mul_add]
      congr 1 <;> ac_rfl
    rw [e3, ← hk, ← hu, Int.mul_sub]
    have e4 : -(t * w) * dv l f = -(w * (t * dv l f)) := by
      rw [Int.neg_mul]
      congr 1
      ac_rfl
    have e5 : -(t * w) * -(t * w) * r = w * (t * t * w * r) := by
      rw [Int.neg_mul_neg]
      ac_rfl
    omega
  constructor
  · have m := ev_mod l (f - t * w) ((f - t * w) % (w * p)) (w * p) (Int.emod_eq_zero_of_dvd dvd2)
    have := Int.emod_eq_emod_iff_emod_sub_eq_zero.mpr m
    omega
  · have d : p ∣ w * p := ⟨w, by rw [Int.mul_comm]⟩
    rw [Int.emod_emod_of_dvd _ d, hu, ← hn]
    apply Int.emod_eq_emod_iff_emod_sub_eq_zero.mpr
    apply Int.emod_eq_zero_of_dvd
    refine ⟨-(t * u), ?_⟩
    have : t * (p * u) = p * (t * u) := by ac_rfl
    rw [Int.mul_neg]
    omega
/-! ### all noughts by w -/
def nb (ns : List Int) (w : Int) : List Int := ((List.range w.toNat).filter fun k => decide (ev ns ((k : Nat) : Int) % w = 0)).map fun k => ((k : Nat) : Int)
theorem mem_nb {ns : List Int} {w r : Int} : r ∈ nb ns w ↔ 0 ≤ r ∧ r < w ∧ ev ns r % w = 0 := by
  unfold nb
  rw [List.mem_map]
  constructor
  · rintro ⟨k, hk, rfl⟩
    rw [List.mem_filter, List.mem_range, decide_eq_true_iff] at hk
    exact ⟨by omega, by omega, hk.2⟩
  · rintro ⟨h1, h2, h3⟩
    refine ⟨r.toNat, ?_, by omega⟩
    rw [List.mem_filter, List.mem_range, decide_eq_true_iff, Int.toNat_of_nonneg h1]
    exact ⟨by omega, h3⟩
theorem lt_nb (ns : List Int) (w : Int) : (nb ns w).Pairwise (· < ·) := by
  unfold nb
  rw [List.pairwise_map]
  refine List.Pairwise.imp ?_ ((List.pairwise_lt_range (n := w.toNat)).filter _)
  intro a b h
  omega
theorem le_nb (ns : List Int) (w : Int) : (nb ns w).Pairwise (· ≤ ·) := (lt_nb ns w).imp fun h => Int.le_of_lt h
theorem nodup_nb (ns : List Int) (w : Int) : (nb ns w).Nodup := (lt_nb ns w).imp fun h => Int.ne_of_lt h
theorem len_nb (ns : List Int) (w : Int) : (nb ns w).length ≤ w.toNat := by
  unfold nb
  rw [List.length_map]
  have := List.length_filter_le (fun k => decide (ev ns ((k : Nat) : Int) % w = 0)) (List.range w.toNat)
  rw [List.length_range] at this
  exact this
/-- found so far: all noughts by w, each once -/
structure Fd (ns L : List Int) (w : Int) : Prop where
  nd : L.Nodup
  mem : ∀ r, r ∈ L ↔ 0 ≤ r ∧ r < w ∧ ev ns r % w = 0
theorem Fd.nb (ns : List Int) (w : Int) : Fd ns (nb ns w) w := ⟨nodup_nb ns w, fun r => mem_nb⟩
theorem Fd.perm {ns L : List Int} {w : Int} (h : Fd ns L w) : L.Perm (KM.nb ns w) := (List.perm_ext_iff_of_nodup h.nd (nodup_nb ns w)).mpr fun r => by rw [h.mem, mem_nb]
theorem Fd.len {ns L : List Int} {w : Int} (h : Fd ns L w) : L.length ≤ w.toNat := by rw [h.perm.length_eq]; exact len_nb ns w
theorem Fd.sorted {ns L M : List Int} {w : Int} (h : Fd ns L w) (p : M.Perm L) (s : M.Pairwise (· ≤ ·)) : M = KM.nb ns w :=
  List.Perm.eq_of_pairwise (le := (· ≤ ·)) (fun a b _ _ h1 h2 => by omega) s (le_nb ns w) (p.trans h.perm)
/-- one turn -/
def nxt (L : List Int) (w p : Int) : List Int := L.flatMap fun r => (List.range p.toNat).map fun k => r + w * ((k : Nat) : Int)
theorem nxt_len (L : List Int) (w p : Int) : (nxt L w p).length = L.length * p.toNat := by
  unfold nxt
  induction L with
  | nil => simp
  | cons a L ih => rw [List.flatMap_cons, List.length_append, ih, List.length_map, List.length_range, List.length_cons, Nat.add_mul]; omega
theorem uniq {w r r' k k' : Int} (h1 : 0 ≤ r) (h2 : r < w) (h3 : 0 ≤ r') (h4 : r' < w) (e : r + w * k = r' + w * k') : r = r' := by
  have a : (r + w * k) % w = r := by rw [Int.add_mul_emod_self_left, Int.emod_eq_of_lt h1 h2]
  have b : (r' + w * k') % w = r' := by rw [Int.add_mul_emod_self_left, Int.emod_eq_of_lt h3 h4]
  rw [← a, ← b, e]
theorem Fd.next {ns L : List Int} {w p : Int} (h : Fd ns L w) (w0 : 0 < w) (p0 : 0 < p) : Fd ns ((nxt L w p).filter fun r => decide (ev ns r % (w * p) = 0)) (w * p) := by
  have rng : ∀ r ∈ L, 0 ≤ r ∧ r < w := fun r m => ⟨((h.mem r).mp m).1, ((h.mem r).mp m).2.1⟩
  constructor
  · refine List.Pairwise.filter _ ?_
    unfold nxt
    rw [List.pairwise_flatMap]
    refine ⟨fun r _ => ?_, ?_⟩
    · rw [List.pairwise_map]
      refine List.Pairwise.imp ?_ (List.nodup_range (n := p.toNat))
      intro a b n e
      have : w * (a : Int) = w * (b : Int) := by omega
      have := Int.eq_of_mul_eq_mul_left (by omega) this
      exact n (by omega)
    · refine List.Pairwise.imp_of_mem ?_ h.nd
      intro a b ma mb n x hx y hy e
      obtain ⟨i, _, rfl⟩ := List.mem_map.mp hx
      obtain ⟨j, _, rfl⟩ := List.mem_map.mp hy
      exact n (uniq (rng a ma).1 (rng a ma).2 (rng b mb).1 (rng b mb).2 e)
  · intro r
    rw [List.mem_filter, decide_eq_true_iff]
    constructor
    · rintro ⟨m, z⟩
      unfold nxt at m
      obtain ⟨a, ma, m⟩ := List.mem_flatMap.mp m
      obtain ⟨k, mk, rfl⟩ := List.mem_map.mp m
      have hk := List.mem_range.mp mk
      obtain ⟨a0, a1⟩ := rng a ma
      refine ⟨?_, ?_, z⟩
      · have := Int.mul_nonneg (Int.le_of_lt w0) (show 0 ≤ (k : Int) by omega)
        omega
      · have : w * (k : Int) ≤ w * (p - 1) := Int.mul_le_mul_of_nonneg_left (by omega) (by omega)
        rw [Int.mul_sub, Int.mul_one] at this
        omega
    · rintro ⟨r0, r1, z⟩
      refine ⟨?_, z⟩
      unfold nxt
      refine List.mem_flatMap.mpr ⟨r % w, (h.mem _).mpr ⟨Int.emod_nonneg _ (by omega), Int.emod_lt_of_pos _ w0, ?_⟩, ?_⟩
      · have d : w ∣ ev ns r := Int.dvd_trans ⟨p, rfl⟩ (Int.dvd_of_emod_eq_zero z)
        have m := ev_mod ns r (r % w) w (by
          apply Int.emod_eq_zero_of_dvd
          have := Int.emod_add_mul_ediv r w
          exact ⟨r / w, by omega⟩)
        have e := Int.emod_eq_emod_iff_emod_sub_eq_zero.mpr m
        rw [← e]
        exact Int.emod_eq_zero_of_dvd d
      · refine List.mem_map.mpr ⟨(r / w).toNat, List.mem_range.mpr ?_, ?_⟩
        · have h1 : 0 ≤ r / w := Int.ediv_nonneg r0 (by omega)
          have h2 : r / w < p := Int.ediv_lt_of_lt_mul w0 (by rw [Int.mul_comm]; exact r1)
          omega
        · have h1 : 0 ≤ r / w := Int.ediv_nonneg r0 (by omega)
          rw [Int.toNat_of_nonneg h1]
          exact Int.emod_add_mul_ediv r w
/-! ### by the parts' rests -/
theorem ev_rests (ns : List Int) (p x : Int) : (ev (ns.map (· % p)) x) % p = ev ns x % p := by
  induction ns with
  | nil => rfl
  | cons a ns ih =>
    show (a % p + x * ev (ns.map (· % p)) x) % p = (a + x * ev ns x) % p
    rw [Int.add_emod, Int.emod_emod, Int.mul_emod, ih, ← Int.mul_emod, ← Int.add_emod]
end KM

set_option Elab.async false
set_option linter.all false
set_option maxRecDepth 100000
set_option maxHeartbeats 2000000
set_option exponentiation.threshold 100000
namespace LW
open PySem PySem.Spec PyProof.Rows L2 PW LQ KM
/-! look_at_prime, rests, turned_over, look_at_by, noughts_by -/
def sPrime : SpW := fun ws S Q _ => match ws with
  | [.int p] => Pr p ∧ Q .non S
  | _ => False
theorem r10 (Γ : Nat → SpW) (ws S Q E) (g : Γ 1 = sIsWhole) (h : sPrime ws S Q E) : rdB b10 ⟨Γ, E, st.sub⟩ (endW Q) (startW N10.length ws) S := by
  unfold sPrime at h
  split at h
  · rename_i p
    obtain ⟨hp, h⟩ := h
    unfold b10 N10
    simp only [PW.o_nil, PW.o_seq, PW.o_asg, PW.o_par, PW.o_asgI, PW.o_aug, PW.o_augI, PW.o_ex, PW.o_ret, PW.o_retN, PW.o_ifs, PW.o_for, PW.o_whl, PW.o_rais, PW.o_brk, PW.o_cnt, PW.o_pass, PW.e_var, PW.e_int, PW.e_bl, PW.e_non, PW.e_str, PW.e_gint, PW.e_gti, PW.e_gtt, PW.e_gst, PW.e_rev, PW.e_cls, PW.e_ty, PW.e_tup, PW.e_lst, PW.e_bin, PW.e_neg, PW.e_not, PW.e_and, PW.e_or, PW.e_cmp, PW.e_chn, PW.e_ite, PW.e_ix, PW.e_slc, PW.e_call, PW.e_callk, PW.e_blt, PW.e_mth, PW.e_lrng, PW.e_att, PW.e_hrd, PW.e_comp, PW.e_comp2, PW.t_var, PW.t_bl, PW.t_cmp, PW.t_chn, PW.t_not, PW.t_and, PW.t_or, PW.t_ite, PW.t_call, PW.t_callk, PW.t_blt, PW.t_ix, PW.a_nil, PW.a_cons, PW.a_scons, PW.p_nil, PW.p_int, PW.p_var, PW.p_bin, PW.p_neg, PW.c_cmp, PW.c_chn, PW.c_not, PW.c_and, PW.c_or, PW.c_call, PW.c_blt, PW.c_var, PW.t_int, PW.c_nil, PW.i_rng, PW.i_enm, PW.i_revd, PW.i_zp, PW.i_var, PW.i_tup, PW.i_rev, PW.i_comp, PW.i_ix, PW.i_gti, PW.i_call, PW.i_slc, PW.op_add, PW.op_sub, PW.op_mul, PW.op_fdv, PW.op_mod, PW.op_pow, PW.op_addS, PW.op_addT, PW.op_addL, PW.op_repL, PW.cm_lt, PW.cm_le, PW.cm_gt, PW.cm_ge, PW.cm_eq, PW.cm_ne, PW.cm_eqS, PW.cm_neS, PW.cm_eqT, PW.cm_neT, PW.cm_eqL, PW.cm_neL, PW.cm_inT, PW.cm_niT, PW.cm_eqB, PW.cm_isNN, PW.cm_isNE, PW.cm_isNT, PW.cm_isNI, PW.cm_noNN, PW.cm_noNE, PW.cm_noNT, PW.cm_noNI, PW.tr_bl, PW.tr_int, PW.tr_non, PW.tr_lst, PW.tr_rol, PW.tr_tup, PW.ix_rol, PW.b_abs, PW.b_int, PW.b_boolI, PW.b_boolB, PW.b_intB, PW.b_max, PW.b_min, PW.b_lenT, PW.b_lenR, PW.b_lenL, PW.b_sum, PW.b_all, PW.b_any, PW.b_sorted, PW.b_tupT, PW.b_listT, PW.b_listL, PW.b_isN, PW.b_isB, PW.b_isS, PW.b_tupL, PW.b_isI, PW.b_isT, PW.b_isE, PW.m_pop, PW.m_ext, PW.m_rev, PW.m_app, PW.g_nm, PW.g_tup, PW.g_cons, PW.g_nil, endW, startW, List.map_cons, List.map_nil, List.length_cons, List.length_nil, List.replicate, Nat.reduceAdd, Nat.reduceSub, Nat.zero_add, List.cons_append, List.nil_append, List.append_nil, List.getElem?_cons_zero, List.getElem?_cons_succ, List.set_cons_zero, List.set_cons_succ, setS, T.alen, g, sIsWhole, isW]
    refine ⟨rfl, ?_⟩
    simp only [Bool.not_true, Bool.false_eq_true, if_false]
    refine ⟨rfl, rfl, ?_⟩
    have e : inV (Vl.int p).fl (([2, 3, 5, 7, 11, 13, 17, 19, 23, 29, 31, 37, 41, 43, 47] : List Int).map Vl.int |>.map Vl.fl) = true := by
      rcases hp with rfl | rfl | rfl | rfl | rfl | rfl <;> decide +kernel
    have e' : inV (Vl.int p).fl [(Vl.int 2).fl, (Vl.int 3).fl, (Vl.int 5).fl, (Vl.int 7).fl, (Vl.int 11).fl, (Vl.int 13).fl, (Vl.int 17).fl, (Vl.int 19).fl, (Vl.int 23).fl, (Vl.int 29).fl, (Vl.int 31).fl, (Vl.int 37).fl, (Vl.int 41).fl, (Vl.int 43).fl, (Vl.int 47).fl] = true := e
    rw [e']
    simp only [Bool.not_true, Bool.false_eq_true, if_false]
    exact ret_all h
  · exact h.elim
def sRests : SpW := fun ws S Q _ => match ws with
  | [.tup ws, .int p] => ∃ ns : List Int, ws = ns.map Vl.int ∧ ns.length ≤ 1000 ∧ 0 < p ∧ Q (iT (QM.strip (ns.map (· % p)))) S
  | _ => False
theorem r11 (Γ : Nat → SpW) (ws S Q E) (g : Γ 8 = sToldP) (h : sRests ws S Q E) : rdB b11 ⟨Γ, E, st.sub⟩ (endW Q) (startW N11.length ws) S := by
  unfold sRests at h
  split at h
  · rename_i ws p
    obtain ⟨ns, rfl, hl, hp, h⟩ := h
    unfold b11 N11
    simp only [PW.o_nil, PW.o_seq, PW.o_asg, PW.o_par, PW.o_asgI, PW.o_aug, PW.o_augI, PW.o_ex, PW.o_ret, PW.o_retN, PW.o_ifs, PW.o_for, PW.o_whl, PW.o_rais, PW.o_brk, PW.o_cnt, PW.o_pass, PW.e_var, PW.e_int, PW.e_bl, PW.e_non, PW.e_str, PW.e_gint, PW.e_gti, PW.e_gtt, PW.e_gst, PW.e_rev, PW.e_cls, PW.e_ty, PW.e_tup, PW.e_lst, PW.e_bin, PW.e_neg, PW.e_not, PW.e_and, PW.e_or, PW.e_cmp, PW.e_chn, PW.e_ite, PW.e_ix, PW.e_slc, PW.e_call, PW.e_callk, PW.e_blt, PW.e_mth, PW.e_lrng, PW.e_att, PW.e_hrd, PW.e_comp, PW.e_comp2, PW.t_var, PW.t_bl, PW.t_cmp, PW.t_chn, PW.t_not, PW.t_and, PW.t_or, PW.t_ite, PW.t_call, PW.t_callk, PW.t_blt, PW.t_ix, PW.a_nil, PW.a_cons, PW.a_scons, PW.p_nil, PW.p_int, PW.p_var, PW.p_bin, PW.p_neg, PW.c_cmp, PW.c_chn, PW.c_not, PW.c_and, PW.c_or, PW.c_call, PW.c_blt, PW.c_var, PW.t_int, PW.c_nil, PW.i_rng, PW.i_enm, PW.i_revd, PW.i_zp, PW.i_var, PW.i_tup, PW.i_rev, PW.i_comp, PW.i_ix, PW.i_gti, PW.i_call, PW.i_slc, PW.op_add, PW.op_sub, PW.op_mul, PW.op_fdv, PW.op_mod, PW.op_pow, PW.op_addS, PW.op_addT, PW.op_addL, PW.op_repL, PW.cm_lt, PW.cm_le, PW.cm_gt, PW.cm_ge, PW.cm_eq, PW.cm_ne, PW.cm_eqS, PW.cm_neS, PW.cm_eqT, PW.cm_neT, PW.cm_eqL, PW.cm_neL, PW.cm_inT, PW.cm_niT, PW.cm_eqB, PW.cm_isNN, PW.cm_isNE, PW.cm_isNT, PW.cm_isNI, PW.cm_noNN, PW.cm_noNE, PW.cm_noNT, PW.cm_noNI, PW.tr_bl, PW.tr_int, PW.tr_non, PW.tr_lst, PW.tr_rol, PW.tr_tup, PW.ix_rol, PW.b_abs, PW.b_int, PW.b_boolI, PW.b_boolB, PW.b_intB, PW.b_max, PW.b_min, PW.b_lenT, PW.b_lenR, PW.b_lenL, PW.b_sum, PW.b_all, PW.b_any, PW.b_sorted, PW.b_tupT, PW.b_listT, PW.b_listL, PW.b_isN, PW.b_isB, PW.b_isS, PW.b_tupL, PW.b_isI, PW.b_isT, PW.b_isE, PW.m_pop, PW.m_ext, PW.m_rev, PW.m_app, PW.g_nm, PW.g_tup, PW.g_cons, PW.g_nil, endW, startW, List.map_cons, List.map_nil, List.length_cons, List.length_nil, List.replicate, Nat.reduceAdd, Nat.reduceSub, Nat.zero_add, List.cons_append, List.nil_append, List.append_nil, List.getElem?_cons_zero, List.getElem?_cons_succ, List.set_cons_zero, List.set_cons_succ, setS, T.alen, seqT, g]
    intro D hD
    refine lc_fm (ι := Vl.int) (F := fun a => some (.int (a % p))) (fun _ => True) (fun _ _ _ => trivial) (fun _ _ => trivial) ns [] _ (fun a m S' K K2 _ hk => ?_) trivial Sto.upd_same (by rw [List.length_nil, sizeLine_eq]; omega) ?_
    · simp only [PW.o_nil, PW.o_seq, PW.o_asg, PW.o_par, PW.o_asgI, PW.o_aug, PW.o_augI, PW.o_ex, PW.o_ret, PW.o_retN, PW.o_ifs, PW.o_for, PW.o_whl, PW.o_rais, PW.o_brk, PW.o_cnt, PW.o_pass, PW.e_var, PW.e_int, PW.e_bl, PW.e_non, PW.e_str, PW.e_gint, PW.e_gti, PW.e_gtt, PW.e_gst, PW.e_rev, PW.e_cls, PW.e_ty, PW.e_tup, PW.e_lst, PW.e_bin, PW.e_neg, PW.e_not, PW.e_and, PW.e_or, PW.e_cmp, PW.e_chn, PW.e_ite, PW.e_ix, PW.e_slc, PW.e_call, PW.e_callk, PW.e_blt, PW.e_mth, PW.e_lrng, PW.e_att, PW.e_hrd, PW.e_comp, PW.e_comp2, PW.t_var, PW.t_bl, PW.t_cmp, PW.t_chn, PW.t_not, PW.t_and, PW.t_or, PW.t_ite, PW.t_call, PW.t_callk, PW.t_blt, PW.t_ix, PW.a_nil, PW.a_cons, PW.a_scons, PW.p_nil, PW.p_int, PW.p_var, PW.p_bin, PW.p_neg, PW.c_cmp, PW.c_chn, PW.c_not, PW.c_and, PW.c_or, PW.c_call, PW.c_blt, PW.c_var, PW.t_int, PW.c_nil, PW.i_rng, PW.i_enm, PW.i_revd, PW.i_zp, PW.i_var, PW.i_tup, PW.i_rev, PW.i_comp, PW.i_ix, PW.i_gti, PW.i_call, PW.i_slc, PW.op_add, PW.op_sub, PW.op_mul, PW.op_fdv, PW.op_mod, PW.op_pow, PW.op_addS, PW.op_addT, PW.op_addL, PW.op_repL, PW.cm_lt, PW.cm_le, PW.cm_gt, PW.cm_ge, PW.cm_eq, PW.cm_ne, PW.cm_eqS, PW.cm_neS, PW.cm_eqT, PW.cm_neT, PW.cm_eqL, PW.cm_neL, PW.cm_inT, PW.cm_niT, PW.cm_eqB, PW.cm_isNN, PW.cm_isNE, PW.cm_isNT, PW.cm_isNI, PW.cm_noNN, PW.cm_noNE, PW.cm_noNT, PW.cm_noNI, PW.tr_bl, PW.tr_int, PW.tr_non, PW.tr_lst, PW.tr_rol, PW.tr_tup, PW.ix_rol, PW.b_abs, PW.b_int, PW.b_boolI, PW.b_boolB, PW.b_intB, PW.b_max, PW.b_min, PW.b_lenT, PW.b_lenR, PW.b_lenL, PW.b_sum, PW.b_all, PW.b_any, PW.b_sorted, PW.b_tupT, PW.b_listT, PW.b_listL, PW.b_isN, PW.b_isB, PW.b_isS, PW.b_tupL, PW.b_isI, PW.b_isT, PW.b_isE, PW.m_pop, PW.m_ext, PW.m_rev, PW.m_app, PW.g_nm, PW.g_tup, PW.g_cons, PW.g_nil, endW, startW, List.map_cons, List.map_nil, List.length_cons, List.length_nil, List.replicate, Nat.reduceAdd, Nat.reduceSub, Nat.zero_add, List.cons_append, List.nil_append, List.append_nil, List.getElem?_cons_zero, List.getElem?_cons_succ, List.set_cons_zero, List.set_cons_succ, setS, T.alen, wipeW, if_true]
      rw [Int.fmod_eq_emod_of_nonneg _ (by omega)]
      exact ⟨by omega, hk S' (wsub_refl _)⟩
    · rw [List.nil_append, fm_map, Sto.upd_upd]
      have e : ns.map (fun a => Vl.int (a % p)) = (ns.map (· % p)).map Vl.int := by rw [List.map_map]; rfl
      rw [e]
      exact ⟨_, .inl ⟨D, rfl, Sto.upd_same⟩, by rw [List.length_map, sizeLine_eq]; omega, ret_to (wsub_upd (wsub_refl S) hD) h⟩
  · exact h.elim
def sTurned : SpW := fun ws S Q _ => match ws with
  | [.int s, .int p] => Pr p ∧ 0 ≤ s ∧ s < p ∧ Q (.int (KM.inv s p)) S
  | _ => False
theorem r12 (Γ : Nat → SpW) (ws S Q E) (h : sTurned ws S Q E) : rdB b12 ⟨Γ, E, st.sub⟩ (endW Q) (startW N12.length ws) S := by
  unfold sTurned at h
  split at h
  · rename_i s p
    obtain ⟨hp, s0, s1, h⟩ := h
    obtain ⟨p2, p47⟩ := hp.le
    unfold b12 N12
    simp only [PW.o_nil, PW.o_seq, PW.o_asg, PW.o_par, PW.o_asgI, PW.o_aug, PW.o_augI, PW.o_ex, PW.o_ret, PW.o_retN, PW.o_ifs, PW.o_for, PW.o_whl, PW.o_rais, PW.o_brk, PW.o_cnt, PW.o_pass, PW.e_var, PW.e_int, PW.e_bl, PW.e_non, PW.e_str, PW.e_gint, PW.e_gti, PW.e_gtt, PW.e_gst, PW.e_rev, PW.e_cls, PW.e_ty, PW.e_tup, PW.e_lst, PW.e_bin, PW.e_neg, PW.e_not, PW.e_and, PW.e_or, PW.e_cmp, PW.e_chn, PW.e_ite, PW.e_ix, PW.e_slc, PW.e_call, PW.e_callk, PW.e_blt, PW.e_mth, PW.e_lrng, PW.e_att, PW.e_hrd, PW.e_comp, PW.e_comp2, PW.t_var, PW.t_bl, PW.t_cmp, PW.t_chn, PW.t_not, PW.t_and, PW.t_or, PW.t_ite, PW.t_call, PW.t_callk, PW.t_blt, PW.t_ix, PW.a_nil, PW.a_cons, PW.a_scons, PW.p_nil, PW.p_int, PW.p_var, PW.p_bin, PW.p_neg, PW.c_cmp, PW.c_chn, PW.c_not, PW.c_and, PW.c_or, PW.c_call, PW.c_blt, PW.c_var, PW.t_int, PW.c_nil, PW.i_rng, PW.i_enm, PW.i_revd, PW.i_zp, PW.i_var, PW.i_tup, PW.i_rev, PW.i_comp, PW.i_ix, PW.i_gti, PW.i_call, PW.i_slc, PW.op_add, PW.op_sub, PW.op_mul, PW.op_fdv, PW.op_mod, PW.op_pow, PW.op_addS, PW.op_addT, PW.op_addL, PW.op_repL, PW.cm_lt, PW.cm_le, PW.cm_gt, PW.cm_ge, PW.cm_eq, PW.cm_ne, PW.cm_eqS, PW.cm_neS, PW.cm_eqT, PW.cm_neT, PW.cm_eqL, PW.cm_neL, PW.cm_inT, PW.cm_niT, PW.cm_eqB, PW.cm_isNN, PW.cm_isNE, PW.cm_isNT, PW.cm_isNI, PW.cm_noNN, PW.cm_noNE, PW.cm_noNT, PW.cm_noNI, PW.tr_bl, PW.tr_int, PW.tr_non, PW.tr_lst, PW.tr_rol, PW.tr_tup, PW.ix_rol, PW.b_abs, PW.b_int, PW.b_boolI, PW.b_boolB, PW.b_intB, PW.b_max, PW.b_min, PW.b_lenT, PW.b_lenR, PW.b_lenL, PW.b_sum, PW.b_all, PW.b_any, PW.b_sorted, PW.b_tupT, PW.b_listT, PW.b_listL, PW.b_isN, PW.b_isB, PW.b_isS, PW.b_tupL, PW.b_isI, PW.b_isT, PW.b_isE, PW.m_pop, PW.m_ext, PW.m_rev, PW.m_app, PW.g_nm, PW.g_tup, PW.g_cons, PW.g_nil, endW, startW, List.map_cons, List.map_nil, List.length_cons, List.length_nil, List.replicate, Nat.reduceAdd, Nat.reduceSub, Nat.zero_add, List.cons_append, List.nil_append, List.append_nil, List.getElem?_cons_zero, List.getElem?_cons_succ, List.set_cons_zero, List.set_cons_succ, setS, T.alen]
    rw [Int.fmod_eq_emod_of_nonneg _ (by omega), Int.emod_eq_of_lt s0 s1]
    refine ⟨by omega, fun σ S' => S' = S ∧ ∃ (f w : Int) (l : Nat), σ = [some (.int s), some (.int p), some (.int f), some (.int w), some (.int (l : Nat))] ∧ 0 ≤ f ∧ f < p ∧ 0 ≤ w ∧ w < p ∧ (f * w ^ l) % p = KM.inv s p, fun σ _ => match σ with
      | [_, _, _, _, some (.int l)] => l.toNat
      | _ => 0, ⟨rfl, 1, s, (p - 2).toNat, ?_, by omega, by omega, s0, s1, ?_⟩, ?_⟩
    · rw [Int.toNat_of_nonneg (by omega)]
    · rw [Int.one_mul]; rfl
    rintro σ S' ⟨rfl, f, w, l, rfl, f0, f1, w0, w1, hi⟩
    simp only [PW.o_nil, PW.o_seq, PW.o_asg, PW.o_par, PW.o_asgI, PW.o_aug, PW.o_augI, PW.o_ex, PW.o_ret, PW.o_retN, PW.o_ifs, PW.o_for, PW.o_whl, PW.o_rais, PW.o_brk, PW.o_cnt, PW.o_pass, PW.e_var, PW.e_int, PW.e_bl, PW.e_non, PW.e_str, PW.e_gint, PW.e_gti, PW.e_gtt, PW.e_gst, PW.e_rev, PW.e_cls, PW.e_ty, PW.e_tup, PW.e_lst, PW.e_bin, PW.e_neg, PW.e_not, PW.e_and, PW.e_or, PW.e_cmp, PW.e_chn, PW.e_ite, PW.e_ix, PW.e_slc, PW.e_call, PW.e_callk, PW.e_blt, PW.e_mth, PW.e_lrng, PW.e_att, PW.e_hrd, PW.e_comp, PW.e_comp2, PW.t_var, PW.t_bl, PW.t_cmp, PW.t_chn, PW.t_not, PW.t_and, PW.t_or, PW.t_ite, PW.t_call, PW.t_callk, PW.t_blt, PW.t_ix, PW.a_nil, PW.a_cons, PW.a_scons, PW.p_nil, PW.p_int, PW.p_var, PW.p_bin, PW.p_neg, PW.c_cmp, PW.c_chn, PW.c_not, PW.c_and, PW.c_or, PW.c_call, PW.c_blt, PW.c_var, PW.t_int, PW.c_nil, PW.i_rng, PW.i_enm, PW.i_revd, PW.i_zp, PW.i_var, PW.i_tup, PW.i_rev, PW.i_comp, PW.i_ix, PW.i_gti, PW.i_call, PW.i_slc, PW.op_add, PW.op_sub, PW.op_mul, PW.op_fdv, PW.op_mod, PW.op_pow, PW.op_addS, PW.op_addT, PW.op_addL, PW.op_repL, PW.cm_lt, PW.cm_le, PW.cm_gt, PW.cm_ge, PW.cm_eq, PW.cm_ne, PW.cm_eqS, PW.cm_neS, PW.cm_eqT, PW.cm_neT, PW.cm_eqL, PW.cm_neL, PW.cm_inT, PW.cm_niT, PW.cm_eqB, PW.cm_isNN, PW.cm_isNE, PW.cm_isNT, PW.cm_isNI, PW.cm_noNN, PW.cm_noNE, PW.cm_noNT, PW.cm_noNI, PW.tr_bl, PW.tr_int, PW.tr_non, PW.tr_lst, PW.tr_rol, PW.tr_tup, PW.ix_rol, PW.b_abs, PW.b_int, PW.b_boolI, PW.b_boolB, PW.b_intB, PW.b_max, PW.b_min, PW.b_lenT, PW.b_lenR, PW.b_lenL, PW.b_sum, PW.b_all, PW.b_any, PW.b_sorted, PW.b_tupT, PW.b_listT, PW.b_listL, PW.b_isN, PW.b_isB, PW.b_isS, PW.b_tupL, PW.b_isI, PW.b_isT, PW.b_isE, PW.m_pop, PW.m_ext, PW.m_rev, PW.m_app, PW.g_nm, PW.g_tup, PW.g_cons, PW.g_nil, endW, startW, List.map_cons, List.map_nil, List.length_cons, List.length_nil, List.replicate, Nat.reduceAdd, Nat.reduceSub, Nat.zero_add, List.cons_append, List.nil_append, List.append_nil, List.getElem?_cons_zero, List.getElem?_cons_succ, List.set_cons_zero, List.set_cons_succ, setS, T.alen]
    by_cases z : l = 0
    · subst z
      have e : decide ((0 : Int) < ((0 : Nat) : Int)) = false := by decide
      simp only [e, Bool.false_eq_true, if_false]
      rw [Int.pow_zero, Int.mul_one, Int.emod_eq_of_lt f0 f1] at hi
      rw [hi]
      exact ret_all h
    · have e : decide ((0 : Int) < (l : Int)) = true := decide_eq_true (by omega)
      simp only [e, if_true]
      have sm : ∀ {x : Int}, 0 ≤ x → x < p → x.natAbs < 2 ^ 1000 := fun {x} h1 h2 => nb_up (m := 62) (by omega) (by decide)
      have em : ((l : Int).fmod 2) = ((l % 2 : Nat) : Int) := by rw [Int.fmod_eq_emod_of_nonneg _ (by decide)]; omega
      have ed : ((l : Int).fdiv 2) = ((l / 2 : Nat) : Int) := by rw [Int.fdiv_eq_ediv_of_nonneg _ (by decide)]; omega
      have w2 : 0 ≤ (w * w) % p ∧ (w * w) % p < p := ⟨Int.emod_nonneg _ (by omega), Int.emod_lt_of_pos _ (by omega)⟩
      have lt : ((l / 2 : Nat) : Int).toNat < (l : Int).toNat := by omega
      rw [em, ed]
      refine ⟨by decide, ?_⟩
      have step : ∀ (x : Int), (x * (w * w) ^ (l / 2)) % p = KM.inv s p → (x * ((w * w) % p) ^ (l / 2)) % p = KM.inv s p := fun x hx => by
        rw [Int.mul_emod, pow_mod, ← Int.mul_emod]; exact hx
      have sq : (w * w) ^ (l / 2) = w ^ (2 * (l / 2)) := by rw [Int.pow_mul, Int.pow_succ, Int.pow_succ, Int.pow_zero, Int.one_mul]
      by_cases y : ((l % 2 : Nat) : Int) = 1
      · simp only [decide_eq_true y, if_true]
        rw [Int.fmod_eq_emod_of_nonneg _ (by omega), Int.fmod_eq_emod_of_nonneg _ (by omega)]
        refine ⟨mulS (sm f0 f1) (sm w0 w1), by omega, mulS (sm w0 w1) (sm w0 w1), by omega, cdvS (by decide) (by decide), less_same ⟨⟨rfl, (f * w) % p, (w * w) % p, l / 2, rfl, Int.emod_nonneg _ (by omega), Int.emod_lt_of_pos _ (by omega), w2.1, w2.2, ?_⟩, lt⟩⟩
        refine step _ ?_
        have e3 : (f * w) % p * (w * w) ^ (l / 2) % p = (f * w * (w * w) ^ (l / 2)) % p := by rw [Int.mul_emod, Int.emod_emod, ← Int.mul_emod]
        rw [e3, sq, Int.mul_assoc, ← hi]
        congr 2
        have : w ^ l = w ^ (2 * (l / 2) + 1) := by congr 1; omega
        rw [this, Int.pow_succ, Int.mul_comm]
      · simp only [decide_eq_false y, Bool.false_eq_true, if_false]
        rw [Int.fmod_eq_emod_of_nonneg _ (by omega)]
        refine ⟨mulS (sm w0 w1) (sm w0 w1), by omega, cdvS (by decide) (by decide), less_same ⟨⟨rfl, f, (w * w) % p, l / 2, rfl, f0, f1, w2.1, w2.2, ?_⟩, lt⟩⟩
        refine step _ ?_
        rw [sq, ← hi]
        congr 2
        congr 1; omega
  · exact h.elim
/-- what look_at_by asks -/
structure By (ns : List Int) (p : Int) : Prop where
  c : Crv ns
  n : ns ≠ []
  pr : Pr p
  some : ∃ a ∈ ns, a % p ≠ 0
theorem drop_nil : ∀ {l : List Int}, l.dropWhile (· == 0) = [] → ∀ b ∈ l, b = 0
  | [], _, b, m => by cases m
  | a :: l, e, b, m => by
    rw [List.dropWhile_cons] at e
    by_cases z : a = 0
    · rw [if_pos (by simpa using z)] at e
      rcases List.mem_cons.mp m with rfl | m
      · exact z
      · exact drop_nil e b m
    · rw [if_neg (by simpa using z)] at e
      cases e
theorem strip_ne {ns : List Int} (h : ∃ a ∈ ns, a ≠ 0) : QM.strip ns ≠ [] := by
  obtain ⟨a, m, z⟩ := h
  intro e
  have h1 : ∀ x, QM.ev ns x = 0 := fun x => by rw [← QM.ev_strip, e]; rfl
  have h2 : ∀ b ∈ ns.reverse, b = 0 := by
    unfold QM.strip at e
    exact drop_nil (List.reverse_eq_nil_iff.mp e)
  exact z (h2 a (List.mem_reverse.mpr m))
def sBy : SpW := fun ws S Q _ => match ws with
  | [.tup ws, .int p] => ∃ ns : List Int, ws = ns.map Vl.int ∧ By ns p ∧ Q (iT (QM.strip (ns.map (· % p)))) S
  | _ => False
theorem r13 (Γ : Nat → SpW) (ws S Q E) (g7 : Γ 7 = sLookReal) (g10 : Γ 10 = sPrime) (g11 : Γ 11 = sRests) (h : sBy ws S Q E) : rdB b13 ⟨Γ, E, st.sub⟩ (endW Q) (startW N13.length ws) S := by
  unfold sBy at h
  split at h
  · rename_i ws p
    obtain ⟨ns, rfl, ⟨hc, hn, hp, hs⟩, h⟩ := h
    unfold b13 N13
    simp only [PW.o_nil, PW.o_seq, PW.o_asg, PW.o_par, PW.o_asgI, PW.o_aug, PW.o_augI, PW.o_ex, PW.o_ret, PW.o_retN, PW.o_ifs, PW.o_for, PW.o_whl, PW.o_rais, PW.o_brk, PW.o_cnt, PW.o_pass, PW.e_var, PW.e_int, PW.e_bl, PW.e_non, PW.e_str, PW.e_gint, PW.e_gti, PW.e_gtt, PW.e_gst, PW.e_rev, PW.e_cls, PW.e_ty, PW.e_tup, PW.e_lst, PW.e_bin, PW.e_neg, PW.e_not, PW.e_and, PW.e_or, PW.e_cmp, PW.e_chn, PW.e_ite, PW.e_ix, PW.e_slc, PW.e_call, PW.e_callk, PW.e_blt, PW.e_mth, PW.e_lrng, PW.e_att, PW.e_hrd, PW.e_comp, PW.e_comp2, PW.t_var, PW.t_bl, PW.t_cmp, PW.t_chn, PW.t_not, PW.t_and, PW.t_or, PW.t_ite, PW.t_call, PW.t_callk, PW.t_blt, PW.t_ix, PW.a_nil, PW.a_cons, PW.a_scons, PW.p_nil, PW.p_int, PW.p_var, PW.p_bin, PW.p_neg, PW.c_cmp, PW.c_chn, PW.c_not, PW.c_and, PW.c_or, PW.c_call, PW.c_blt, PW.c_var, PW.t_int, PW.c_nil, PW.i_rng, PW.i_enm, PW.i_revd, PW.i_zp, PW.i_var, PW.i_tup, PW.i_rev, PW.i_comp, PW.i_ix, PW.i_gti, PW.i_call, PW.i_slc, PW.op_add, PW.op_sub, PW.op_mul, PW.op_fdv, PW.op_mod, PW.op_pow, PW.op_addS, PW.op_addT, PW.op_addL, PW.op_repL, PW.cm_lt, PW.cm_le, PW.cm_gt, PW.cm_ge, PW.cm_eq, PW.cm_ne, PW.cm_eqS, PW.cm_neS, PW.cm_eqT, PW.cm_neT, PW.cm_eqL, PW.cm_neL, PW.cm_inT, PW.cm_niT, PW.cm_eqB, PW.cm_isNN, PW.cm_isNE, PW.cm_isNT, PW.cm_isNI, PW.cm_noNN, PW.cm_noNE, PW.cm_noNT, PW.cm_noNI, PW.tr_bl, PW.tr_int, PW.tr_non, PW.tr_lst, PW.tr_rol, PW.tr_tup, PW.ix_rol, PW.b_abs, PW.b_int, PW.b_boolI, PW.b_boolB, PW.b_intB, PW.b_max, PW.b_min, PW.b_lenT, PW.b_lenR, PW.b_lenL, PW.b_sum, PW.b_all, PW.b_any, PW.b_sorted, PW.b_tupT, PW.b_listT, PW.b_listL, PW.b_isN, PW.b_isB, PW.b_isS, PW.b_tupL, PW.b_isI, PW.b_isT, PW.b_isE, PW.m_pop, PW.m_ext, PW.m_rev, PW.m_app, PW.g_nm, PW.g_tup, PW.g_cons, PW.g_nil, endW, startW, List.map_cons, List.map_nil, List.length_cons, List.length_nil, List.replicate, Nat.reduceAdd, Nat.reduceSub, Nat.zero_add, List.cons_append, List.nil_append, List.append_nil, List.getElem?_cons_zero, List.getElem?_cons_succ, List.set_cons_zero, List.set_cons_succ, setS, T.alen, g7, g10, g11, sLookReal, sPrime, sRests, eqT0]
    have := hp.le
    have := hc.len
    refine ⟨ns, rfl, hc, hn, hp, ns, rfl, by omega, by omega, Nat.zero_le _, ?_⟩
    have z : QM.strip (ns.map (· % p)) ≠ [] := strip_ne (by
      obtain ⟨a, m, z⟩ := hs
      exact ⟨a % p, List.mem_map.mpr ⟨a, m, rfl⟩, z⟩)
    simp only [decide_eq_false z, Bool.false_eq_true, if_false]
    exact ret_all h
  · exact h.elim
def sNoughts : SpW := fun ws S Q _ => match ws with
  | [.tup ws, .int p] => ∃ ns : List Int, ws = ns.map Vl.int ∧ By ns p ∧ Q (iT (nb ns p)) S
  | _ => False
/-- the rests of a range at which something is nought -/
theorem fm_nb {ns : List Int} {w : Int} : (List.range w.toNat).filterMap (fun k => if QM.ev ns (0 + ((k : Nat) : Int)) % w = 0 then some (Vl.int (0 + ((k : Nat) : Int))) else none) = (nb ns w).map Vl.int := by
  unfold nb
  generalize List.range w.toNat = l
  induction l with
  | nil => rfl
  | cons k l ih =>
    rw [List.filterMap_cons, List.filter_cons]
    by_cases z : QM.ev ns ((k : Nat) : Int) % w = 0
    · rw [Int.zero_add, if_pos z, ih, if_pos (decide_eq_true z), List.map_cons, List.map_cons]
    · rw [Int.zero_add, if_neg z, ih, if_neg (by simpa using z)]
theorem r14 (Γ : Nat → SpW) (ws S Q E) (g13 : Γ 13 = sBy) (g15 : Γ 15 = sHby) (h : sNoughts ws S Q E) : rdB b14 ⟨Γ, E, st.sub⟩ (endW Q) (startW N14.length ws) S := by
  unfold sNoughts at h
  split at h
  · rename_i ws p
    obtain ⟨ns, rfl, hb, h⟩ := h
    unfold b14 N14
    simp only [PW.o_nil, PW.o_seq, PW.o_asg, PW.o_par, PW.o_asgI, PW.o_aug, PW.o_augI, PW.o_ex, PW.o_ret, PW.o_retN, PW.o_ifs, PW.o_for, PW.o_whl, PW.o_rais, PW.o_brk, PW.o_cnt, PW.o_pass, PW.e_var, PW.e_int, PW.e_bl, PW.e_non, PW.e_str, PW.e_gint, PW.e_gti, PW.e_gtt, PW.e_gst, PW.e_rev, PW.e_cls, PW.e_ty, PW.e_tup, PW.e_lst, PW.e_bin, PW.e_neg, PW.e_not, PW.e_and, PW.e_or, PW.e_cmp, PW.e_chn, PW.e_ite, PW.e_ix, PW.e_slc, PW.e_call, PW.e_callk, PW.e_blt, PW.e_mth, PW.e_lrng, PW.e_att, PW.e_hrd, PW.e_comp, PW.e_comp2, PW.t_var, PW.t_bl, PW.t_cmp, PW.t_chn, PW.t_not, PW.t_and, PW.t_or, PW.t_ite, PW.t_call, PW.t_callk, PW.t_blt, PW.t_ix, PW.a_nil, PW.a_cons, PW.a_scons, PW.p_nil, PW.p_int, PW.p_var, PW.p_bin, PW.p_neg, PW.c_cmp, PW.c_chn, PW.c_not, PW.c_and, PW.c_or, PW.c_call, PW.c_blt, PW.c_var, PW.t_int, PW.c_nil, PW.i_rng, PW.i_enm, PW.i_revd, PW.i_zp, PW.i_var, PW.i_tup, PW.i_rev, PW.i_comp, PW.i_ix, PW.i_gti, PW.i_call, PW.i_slc, PW.op_add, PW.op_sub, PW.op_mul, PW.op_fdv, PW.op_mod, PW.op_pow, PW.op_addS, PW.op_addT, PW.op_addL, PW.op_repL, PW.cm_lt, PW.cm_le, PW.cm_gt, PW.cm_ge, PW.cm_eq, PW.cm_ne, PW.cm_eqS, PW.cm_neS, PW.cm_eqT, PW.cm_neT, PW.cm_eqL, PW.cm_neL, PW.cm_inT, PW.cm_niT, PW.cm_eqB, PW.cm_isNN, PW.cm_isNE, PW.cm_isNT, PW.cm_isNI, PW.cm_noNN, PW.cm_noNE, PW.cm_noNT, PW.cm_noNI, PW.tr_bl, PW.tr_int, PW.tr_non, PW.tr_lst, PW.tr_rol, PW.tr_tup, PW.ix_rol, PW.b_abs, PW.b_int, PW.b_boolI, PW.b_boolB, PW.b_intB, PW.b_max, PW.b_min, PW.b_lenT, PW.b_lenR, PW.b_lenL, PW.b_sum, PW.b_all, PW.b_any, PW.b_sorted, PW.b_tupT, PW.b_listT, PW.b_listL, PW.b_isN, PW.b_isB, PW.b_isS, PW.b_tupL, PW.b_isI, PW.b_isT, PW.b_isE, PW.m_pop, PW.m_ext, PW.m_rev, PW.m_app, PW.g_nm, PW.g_tup, PW.g_cons, PW.g_nil, endW, startW, List.map_cons, List.map_nil, List.length_cons, List.length_nil, List.replicate, Nat.reduceAdd, Nat.reduceSub, Nat.zero_add, List.cons_append, List.nil_append, List.append_nil, List.getElem?_cons_zero, List.getElem?_cons_succ, List.set_cons_zero, List.set_cons_succ, setS, T.alen, g13, sBy, rngG]
    have := hb.pr.le
    refine ⟨ns, rfl, hb, trivial, ⟨by omega, by omega⟩, fun D hD => ?_⟩
    have eR : rangeW 0 p.toNat = (List.range p.toNat).map fun i => Vl.int (0 + ((i : Nat) : Int)) := rfl
    rw [eR]
    refine lc_fm (ι := fun i : Nat => Vl.int (0 + ((i : Nat) : Int))) (F := fun k => if QM.ev ns (0 + ((k : Nat) : Int)) % p = 0 then some (.int (0 + ((k : Nat) : Int))) else none) (fun _ => True) (fun _ _ _ => trivial) (fun _ _ => trivial) (List.range p.toNat) [] _ (fun a m S' K K2 _ hk => ?_) trivial Sto.upd_same (by rw [List.length_nil, List.length_range, sizeLine_eq]; omega) ?_
    · have ha := List.mem_range.mp m
      simp only [PW.o_nil, PW.o_seq, PW.o_asg, PW.o_par, PW.o_asgI, PW.o_aug, PW.o_augI, PW.o_ex, PW.o_ret, PW.o_retN, PW.o_ifs, PW.o_for, PW.o_whl, PW.o_rais, PW.o_brk, PW.o_cnt, PW.o_pass, PW.e_var, PW.e_int, PW.e_bl, PW.e_non, PW.e_str, PW.e_gint, PW.e_gti, PW.e_gtt, PW.e_gst, PW.e_rev, PW.e_cls, PW.e_ty, PW.e_tup, PW.e_lst, PW.e_bin, PW.e_neg, PW.e_not, PW.e_and, PW.e_or, PW.e_cmp, PW.e_chn, PW.e_ite, PW.e_ix, PW.e_slc, PW.e_call, PW.e_callk, PW.e_blt, PW.e_mth, PW.e_lrng, PW.e_att, PW.e_hrd, PW.e_comp, PW.e_comp2, PW.t_var, PW.t_bl, PW.t_cmp, PW.t_chn, PW.t_not, PW.t_and, PW.t_or, PW.t_ite, PW.t_call, PW.t_callk, PW.t_blt, PW.t_ix, PW.a_nil, PW.a_cons, PW.a_scons, PW.p_nil, PW.p_int, PW.p_var, PW.p_bin, PW.p_neg, PW.c_cmp, PW.c_chn, PW.c_not, PW.c_and, PW.c_or, PW.c_call, PW.c_blt, PW.c_var, PW.t_int, PW.c_nil, PW.i_rng, PW.i_enm, PW.i_revd, PW.i_zp, PW.i_var, PW.i_tup, PW.i_rev, PW.i_comp, PW.i_ix, PW.i_gti, PW.i_call, PW.i_slc, PW.op_add, PW.op_sub, PW.op_mul, PW.op_fdv, PW.op_mod, PW.op_pow, PW.op_addS, PW.op_addT, PW.op_addL, PW.op_repL, PW.cm_lt, PW.cm_le, PW.cm_gt, PW.cm_ge, PW.cm_eq, PW.cm_ne, PW.cm_eqS, PW.cm_neS, PW.cm_eqT, PW.cm_neT, PW.cm_eqL, PW.cm_neL, PW.cm_inT, PW.cm_niT, PW.cm_eqB, PW.cm_isNN, PW.cm_isNE, PW.cm_isNT, PW.cm_isNI, PW.cm_noNN, PW.cm_noNE, PW.cm_noNT, PW.cm_noNI, PW.tr_bl, PW.tr_int, PW.tr_non, PW.tr_lst, PW.tr_rol, PW.tr_tup, PW.ix_rol, PW.b_abs, PW.b_int, PW.b_boolI, PW.b_boolB, PW.b_intB, PW.b_max, PW.b_min, PW.b_lenT, PW.b_lenR, PW.b_lenL, PW.b_sum, PW.b_all, PW.b_any, PW.b_sorted, PW.b_tupT, PW.b_listT, PW.b_listL, PW.b_isN, PW.b_isB, PW.b_isS, PW.b_tupL, PW.b_isI, PW.b_isT, PW.b_isE, PW.m_pop, PW.m_ext, PW.m_rev, PW.m_app, PW.g_nm, PW.g_tup, PW.g_cons, PW.g_nil, endW, startW, List.map_cons, List.map_nil, List.length_cons, List.length_nil, List.replicate, Nat.reduceAdd, Nat.reduceSub, Nat.zero_add, List.cons_append, List.nil_append, List.append_nil, List.getElem?_cons_zero, List.getElem?_cons_succ, List.set_cons_zero, List.set_cons_succ, setS, T.alen, wipeW, no_ga, g15, sHby]
      refine ⟨_, rfl, by omega, nb_up (m := 62) (by omega) (by decide), nb_up (m := 62) (by omega) (by decide), ?_⟩
      rw [QM.ev_strip, ev_rests]
      by_cases z : QM.ev ns (0 + ((a : Nat) : Int)) % p = 0
      · simp only [if_pos z] at hk
        simp only [decide_eq_true z, if_true]
        exact hk S' (wsub_refl _)
      · simp only [if_neg z] at hk
        simp only [decide_eq_false z, Bool.false_eq_true, if_false]
        exact hk
    · rw [List.nil_append, fm_nb, Sto.upd_upd]
      exact ⟨_, Sto.upd_same, ret_to (wsub_upd (wsub_refl S) hD) h⟩
  · exact h.elim
/-! ### the law's powers -/
def sWhole : SpW := fun ws S Q _ => match ws with
  | [.int p, .int t] => ∃ k : Nat, t = (k : Int) ∧ k ≤ 100 ∧ 1 ≤ p ∧ p ≤ 47 ∧ Q (.int (p ^ k)) S
  | _ => False
theorem pow_sm {p : Int} {k : Nat} (h1 : 1 ≤ p) (h2 : p ≤ 47) (hk : k ≤ 110) : (p ^ k).natAbs < 2 ^ 700 ∧ 1 ≤ p ^ k := by
  constructor
  · rw [Int.natAbs_pow]
    have e1 : p.natAbs ^ k ≤ 64 ^ k := Nat.pow_le_pow_left (by omega) k
    have e2 : (64 : Nat) ^ k ≤ 64 ^ 110 := Nat.pow_le_pow_right (by decide) hk
    have e3 : (64 : Nat) ^ 110 < 2 ^ 700 := by decide +kernel
    omega
  · have : 0 < p ^ k := Int.pow_pos (by omega)
    omega
theorem r30 (Γ : Nat → SpW) (ws S Q E) (h : sWhole ws S Q E) : rdB b30 ⟨Γ, E, st.sub⟩ (endW Q) (startW N30.length ws) S := by
  unfold sWhole at h
  split at h
  · rename_i p t
    obtain ⟨k, rfl, hk, p1, p2, h⟩ := h
    unfold b30 N30
    simp only [PW.o_nil, PW.o_seq, PW.o_asg, PW.o_par, PW.o_asgI, PW.o_aug, PW.o_augI, PW.o_ex, PW.o_ret, PW.o_retN, PW.o_ifs, PW.o_for, PW.o_whl, PW.o_rais, PW.o_brk, PW.o_cnt, PW.o_pass, PW.e_var, PW.e_int, PW.e_bl, PW.e_non, PW.e_str, PW.e_gint, PW.e_gti, PW.e_gtt, PW.e_gst, PW.e_rev, PW.e_cls, PW.e_ty, PW.e_tup, PW.e_lst, PW.e_bin, PW.e_neg, PW.e_not, PW.e_and, PW.e_or, PW.e_cmp, PW.e_chn, PW.e_ite, PW.e_ix, PW.e_slc, PW.e_call, PW.e_callk, PW.e_blt, PW.e_mth, PW.e_lrng, PW.e_att, PW.e_hrd, PW.e_comp, PW.e_comp2, PW.t_var, PW.t_bl, PW.t_cmp, PW.t_chn, PW.t_not, PW.t_and, PW.t_or, PW.t_ite, PW.t_call, PW.t_callk, PW.t_blt, PW.t_ix, PW.a_nil, PW.a_cons, PW.a_scons, PW.p_nil, PW.p_int, PW.p_var, PW.p_bin, PW.p_neg, PW.c_cmp, PW.c_chn, PW.c_not, PW.c_and, PW.c_or, PW.c_call, PW.c_blt, PW.c_var, PW.t_int, PW.c_nil, PW.i_rng, PW.i_enm, PW.i_revd, PW.i_zp, PW.i_var, PW.i_tup, PW.i_rev, PW.i_comp, PW.i_ix, PW.i_gti, PW.i_call, PW.i_slc, PW.op_add, PW.op_sub, PW.op_mul, PW.op_fdv, PW.op_mod, PW.op_pow, PW.op_addS, PW.op_addT, PW.op_addL, PW.op_repL, PW.cm_lt, PW.cm_le, PW.cm_gt, PW.cm_ge, PW.cm_eq, PW.cm_ne, PW.cm_eqS, PW.cm_neS, PW.cm_eqT, PW.cm_neT, PW.cm_eqL, PW.cm_neL, PW.cm_inT, PW.cm_niT, PW.cm_eqB, PW.cm_isNN, PW.cm_isNE, PW.cm_isNT, PW.cm_isNI, PW.cm_noNN, PW.cm_noNE, PW.cm_noNT, PW.cm_noNI, PW.tr_bl, PW.tr_int, PW.tr_non, PW.tr_lst, PW.tr_rol, PW.tr_tup, PW.ix_rol, PW.b_abs, PW.b_int, PW.b_boolI, PW.b_boolB, PW.b_intB, PW.b_max, PW.b_min, PW.b_lenT, PW.b_lenR, PW.b_lenL, PW.b_sum, PW.b_all, PW.b_any, PW.b_sorted, PW.b_tupT, PW.b_listT, PW.b_listL, PW.b_isN, PW.b_isB, PW.b_isS, PW.b_tupL, PW.b_isI, PW.b_isT, PW.b_isE, PW.m_pop, PW.m_ext, PW.m_rev, PW.m_app, PW.g_nm, PW.g_tup, PW.g_cons, PW.g_nil, endW, startW, List.map_cons, List.map_nil, List.length_cons, List.length_nil, List.replicate, Nat.reduceAdd, Nat.reduceSub, Nat.zero_add, List.cons_append, List.nil_append, List.append_nil, List.getElem?_cons_zero, List.getElem?_cons_succ, List.set_cons_zero, List.set_cons_succ, setS, T.alen, rngG]
    refine ⟨trivial, ⟨by omega, by omega⟩, ?_⟩
    have key : ∀ (l : List Vl) (j : Nat) (x : Option Vl), j + l.length = k → forR (fun _ => True) (gP (.nm 3)) (rdB (.seq (.asg (.nm 2) (.bin .Mult (.var 2) (.var 0))) .nil) ⟨Γ, E, st.sub⟩)
        { nx := rdB (.seq (.ret (.var 2)) .nil) ⟨Γ, E, st.sub⟩ { nx := fun _ S => ∃ S2, wsub S2 S ∧ Q Vl.non S2, rt := Q }, rt := Q } l [some (.int p), some (.int (k : Nat)), some (.int (p ^ j)), x] S := by
      intro l
      induction l with
      | nil =>
        intro j x hj
        rw [for_nil]
        refine ⟨trivial, ?_⟩
        simp only [PW.o_nil, PW.o_seq, PW.o_asg, PW.o_par, PW.o_asgI, PW.o_aug, PW.o_augI, PW.o_ex, PW.o_ret, PW.o_retN, PW.o_ifs, PW.o_for, PW.o_whl, PW.o_rais, PW.o_brk, PW.o_cnt, PW.o_pass, PW.e_var, PW.e_int, PW.e_bl, PW.e_non, PW.e_str, PW.e_gint, PW.e_gti, PW.e_gtt, PW.e_gst, PW.e_rev, PW.e_cls, PW.e_ty, PW.e_tup, PW.e_lst, PW.e_bin, PW.e_neg, PW.e_not, PW.e_and, PW.e_or, PW.e_cmp, PW.e_chn, PW.e_ite, PW.e_ix, PW.e_slc, PW.e_call, PW.e_callk, PW.e_blt, PW.e_mth, PW.e_lrng, PW.e_att, PW.e_hrd, PW.e_comp, PW.e_comp2, PW.t_var, PW.t_bl, PW.t_cmp, PW.t_chn, PW.t_not, PW.t_and, PW.t_or, PW.t_ite, PW.t_call, PW.t_callk, PW.t_blt, PW.t_ix, PW.a_nil, PW.a_cons, PW.a_scons, PW.p_nil, PW.p_int, PW.p_var, PW.p_bin, PW.p_neg, PW.c_cmp, PW.c_chn, PW.c_not, PW.c_and, PW.c_or, PW.c_call, PW.c_blt, PW.c_var, PW.t_int, PW.c_nil, PW.i_rng, PW.i_enm, PW.i_revd, PW.i_zp, PW.i_var, PW.i_tup, PW.i_rev, PW.i_comp, PW.i_ix, PW.i_gti, PW.i_call, PW.i_slc, PW.op_add, PW.op_sub, PW.op_mul, PW.op_fdv, PW.op_mod, PW.op_pow, PW.op_addS, PW.op_addT, PW.op_addL, PW.op_repL, PW.cm_lt, PW.cm_le, PW.cm_gt, PW.cm_ge, PW.cm_eq, PW.cm_ne, PW.cm_eqS, PW.cm_neS, PW.cm_eqT, PW.cm_neT, PW.cm_eqL, PW.cm_neL, PW.cm_inT, PW.cm_niT, PW.cm_eqB, PW.cm_isNN, PW.cm_isNE, PW.cm_isNT, PW.cm_isNI, PW.cm_noNN, PW.cm_noNE, PW.cm_noNT, PW.cm_noNI, PW.tr_bl, PW.tr_int, PW.tr_non, PW.tr_lst, PW.tr_rol, PW.tr_tup, PW.ix_rol, PW.b_abs, PW.b_int, PW.b_boolI, PW.b_boolB, PW.b_intB, PW.b_max, PW.b_min, PW.b_lenT, PW.b_lenR, PW.b_lenL, PW.b_sum, PW.b_all, PW.b_any, PW.b_sorted, PW.b_tupT, PW.b_listT, PW.b_listL, PW.b_isN, PW.b_isB, PW.b_isS, PW.b_tupL, PW.b_isI, PW.b_isT, PW.b_isE, PW.m_pop, PW.m_ext, PW.m_rev, PW.m_app, PW.g_nm, PW.g_tup, PW.g_cons, PW.g_nil, endW, startW, List.map_cons, List.map_nil, List.length_cons, List.length_nil, List.replicate, Nat.reduceAdd, Nat.reduceSub, Nat.zero_add, List.cons_append, List.nil_append, List.append_nil, List.getElem?_cons_zero, List.getElem?_cons_succ, List.set_cons_zero, List.set_cons_succ, setS, T.alen]
        rw [show j = k by simpa using hj]
        exact ret_all h
      | cons w l ih =>
        intro j x hj
        rw [List.length_cons] at hj
        rw [for_cons]
        refine ⟨trivial, ?_⟩
        simp only [PW.o_nil, PW.o_seq, PW.o_asg, PW.o_par, PW.o_asgI, PW.o_aug, PW.o_augI, PW.o_ex, PW.o_ret, PW.o_retN, PW.o_ifs, PW.o_for, PW.o_whl, PW.o_rais, PW.o_brk, PW.o_cnt, PW.o_pass, PW.e_var, PW.e_int, PW.e_bl, PW.e_non, PW.e_str, PW.e_gint, PW.e_gti, PW.e_gtt, PW.e_gst, PW.e_rev, PW.e_cls, PW.e_ty, PW.e_tup, PW.e_lst, PW.e_bin, PW.e_neg, PW.e_not, PW.e_and, PW.e_or, PW.e_cmp, PW.e_chn, PW.e_ite, PW.e_ix, PW.e_slc, PW.e_call, PW.e_callk, PW.e_blt, PW.e_mth, PW.e_lrng, PW.e_att, PW.e_hrd, PW.e_comp, PW.e_comp2, PW.t_var, PW.t_bl, PW.t_cmp, PW.t_chn, PW.t_not, PW.t_and, PW.t_or, PW.t_ite, PW.t_call, PW.t_callk, PW.t_blt, PW.t_ix, PW.a_nil, PW.a_cons, PW.a_scons, PW.p_nil, PW.p_int, PW.p_var, PW.p_bin, PW.p_neg, PW.c_cmp, PW.c_chn, PW.c_not, PW.c_and, PW.c_or, PW.c_call, PW.c_blt, PW.c_var, PW.t_int, PW.c_nil, PW.i_rng, PW.i_enm, PW.i_revd, PW.i_zp, PW.i_var, PW.i_tup, PW.i_rev, PW.i_comp, PW.i_ix, PW.i_gti, PW.i_call, PW.i_slc, PW.op_add, PW.op_sub, PW.op_mul, PW.op_fdv, PW.op_mod, PW.op_pow, PW.op_addS, PW.op_addT, PW.op_addL, PW.op_repL, PW.cm_lt, PW.cm_le, PW.cm_gt, PW.cm_ge, PW.cm_eq, PW.cm_ne, PW.cm_eqS, PW.cm_neS, PW.cm_eqT, PW.cm_neT, PW.cm_eqL, PW.cm_neL, PW.cm_inT, PW.cm_niT, PW.cm_eqB, PW.cm_isNN, PW.cm_isNE, PW.cm_isNT, PW.cm_isNI, PW.cm_noNN, PW.cm_noNE, PW.cm_noNT, PW.cm_noNI, PW.tr_bl, PW.tr_int, PW.tr_non, PW.tr_lst, PW.tr_rol, PW.tr_tup, PW.ix_rol, PW.b_abs, PW.b_int, PW.b_boolI, PW.b_boolB, PW.b_intB, PW.b_max, PW.b_min, PW.b_lenT, PW.b_lenR, PW.b_lenL, PW.b_sum, PW.b_all, PW.b_any, PW.b_sorted, PW.b_tupT, PW.b_listT, PW.b_listL, PW.b_isN, PW.b_isB, PW.b_isS, PW.b_tupL, PW.b_isI, PW.b_isT, PW.b_isE, PW.m_pop, PW.m_ext, PW.m_rev, PW.m_app, PW.g_nm, PW.g_tup, PW.g_cons, PW.g_nil, endW, startW, List.map_cons, List.map_nil, List.length_cons, List.length_nil, List.replicate, Nat.reduceAdd, Nat.reduceSub, Nat.zero_add, List.cons_append, List.nil_append, List.append_nil, List.getElem?_cons_zero, List.getElem?_cons_succ, List.set_cons_zero, List.set_cons_succ, setS, T.alen]
        refine ⟨mulS (nb_up (pow_sm p1 p2 (by omega)).1 (by decide)) (nb_up (m := 62) (by omega) (by decide)), less_same ?_⟩
        rw [← Int.pow_succ]
        exact ih (j + 1) _ (by omega)
    have e8 : (rangeW 0 ((k : Int).toNat)).length = k := by
      unfold rangeW
      rw [List.length_map, List.length_range]; omega
    generalize rangeW 0 ((k : Int).toNat) = l at e8 ⊢
    have := key l 0 none (by omega)
    rw [Int.pow_zero] at this
    exact this
  · exact h.elim
end LW

set_option Elab.async false
set_option linter.all false
set_option maxRecDepth 100000
set_option maxHeartbeats 2000000
set_option exponentiation.threshold 100000
namespace LW
open PySem PySem.Spec PyProof.Rows L2 PW LQ KM
def b16l : B := (.seq (.asg (.nm 9) (.bin .Mult (.var 8) (.var 1))) (.seq (.asg (.nm 10) (.bin .FloorDiv (.call 15 (.cons (.var 0) (.cons (.var 7) (.cons (.var 9) .nil)))) (.var 8))) (.seq (.par [7, 8] (.cons (.bin .Mod (.bin .Sub (.var 7) (.bin .Mult (.bin .Mod (.bin .Mult (.var 10) (.var 6)) (.var 1)) (.var 8))) (.var 9)) (.cons (.var 9) .nil))) .nil)))
def b16b : B := (.seq (.ex (.call 2 (.cons (.var 3) (.cons (.int 1) (.cons (.gint "MOST_TIMES" 100) .nil))))) (.seq (.par [6, 7, 8] (.cons (.call 12 (.cons (.var 4) (.cons (.var 1) .nil))) (.cons (.var 2) (.cons (.var 1) .nil)))) (.seq (.for (.nm 5) (.rng (.cons (.bin .Sub (.var 3) (.int 1)) .nil)) b16l) (.seq (.ret (.var 7)) .nil))))
def b16a : B := (.seq (.asg (.nm 4) (.call 15 (.cons (.call 9 (.cons (.var 0) .nil)) (.cons (.var 2) (.cons (.var 1) .nil))))) (.seq (.ifs (.cmp .Eq (.var 4) (.int 0)) (.seq (.rais 4 (.var 2)) .nil) .nil) b16b))
theorem b16_eq : b16 = (.seq (.ex (.call 13 (.cons (.var 0) (.cons (.var 1) .nil)))) (.seq (.ifs (.or (.not (.call 0 (.cons (.var 2) (.cons (.int 0) (.cons (.bin .Sub (.var 1) (.int 1)) .nil))))) (.cmp .NotEq (.call 15 (.cons (.var 0) (.cons (.var 2) (.cons (.var 1) .nil)))) (.int 0))) (.seq (.rais 1 (.var 2)) .nil) .nil) b16a)) := rfl
def b17m : B := (.seq (.asg (.nm 5) (.comp (.var 8) (.nm 8) (.var 5) (.cmp .Eq (.call 15 (.cons (.var 0) (.cons (.var 8) (.cons (.var 7) .nil)))) (.int 0)) [("rest", 8)])) (.seq (.ifs (.cmp .Gt (.blt .len (.cons (.var 5) .nil)) (.bin .Mult (.gint "MOST_TIMES" 100) (.gint "MOST_TIMES" 100))) (.seq (.rais 5 (.bin .Mult (.gint "MOST_TIMES" 100) (.gint "MOST_TIMES" 100))) .nil) .nil) (.seq (.asg (.nm 6) (.var 7)) .nil)))
def b17l : B := (.seq (.asg (.nm 7) (.bin .Mult (.var 6) (.var 1))) (.seq (.asg (.nm 5) (.comp2 (.bin .Add (.var 8) (.bin .Mult (.var 6) (.var 9))) (.nm 8) (.var 5) .nil (.nm 9) (.rng (.cons (.var 1) .nil)) .nil [("rest", 8), ("step", 9)])) b17m))
def b17a : B := (.seq (.asg (.tup (.cons (.nm 5) (.cons (.nm 6) .nil))) (.tup (.cons (.blt .list (.cons (.var 3) .nil)) (.cons (.var 1) .nil)))) (.seq (.for (.nm 4) (.rng (.cons (.bin .Sub (.var 2) (.int 1)) .nil)) b17l) (.seq (.ret (.blt .tuple (.cons (.blt .sorted (.cons (.var 5) .nil)) .nil))) .nil)))
theorem b17_eq : b17 = (.seq (.asg (.nm 3) (.call 14 (.cons (.var 0) (.cons (.var 1) .nil)))) (.seq (.ex (.call 2 (.cons (.var 2) (.cons (.int 1) (.cons (.gint "MOST_TIMES" 100) .nil))))) b17a)) := rfl
/-- x is a nought of the curve by p -/
def Good (ns : List Int) (p : Int) (x : Vl) : Prop := ∃ n : Int, x = .int n ∧ 0 ≤ n ∧ n < p ∧ QM.ev ns n % p = 0
def sLifted : SpW := fun ws S Q E => match ws with
  | [.tup ws, .int p, x, t] => ∃ ns : List Int, ws = ns.map Vl.int ∧ By ns p ∧ x.flat = true ∧ (¬ Good ns p x → E (.exc 1 x) S) ∧
      ∀ n : Int, x = .int n → 0 ≤ n → n < p → QM.ev ns n % p = 0 → (QM.dv ns n % p = 0 → E (.exc 4 x) S) ∧
        (QM.dv ns n % p ≠ 0 → t.flat = true ∧ (isI t 1 100 = false → E (.exc 1 t) S) ∧ ∀ k : Nat, t = .int (k : Nat) → 1 ≤ k → k ≤ 100 → ∀ r, 0 ≤ r → r < p ^ k → r % p = n → QM.ev ns r % p ^ k = 0 → Q (.int r) S)
  | _ => False
theorem nbP {p x : Int} (hp : Pr p) (h0 : 0 ≤ x) (h1 : x < p) : x.natAbs < 2 ^ 1000 := nb_up (m := 62) (by have := hp.le; omega) (by decide)
/-- the going on -/
theorem r16l {Γ : Nat → SpW} {E : WK} {D : WEn} {S : Sto} {ns : List Int} {p n st' : Int} {t sl : Option Vl} (g15 : Γ 15 = sHby) (hp : Pr p) (hs : (st' * QM.dv ns n) % p = 1) (s0 : 0 ≤ st' ∧ st' < p) : ∀ (l : List Vl) (j : Nat) (f : Int) (x9 x10 x5 : Option Vl), j + 1 + l.length ≤ 101 → 0 ≤ f → f < p ^ (j + 1) → QM.ev ns f % p ^ (j + 1) = 0 → f % p = n % p →
    (∀ f x9 x10 x5, 0 ≤ f → f < p ^ (j + 1 + l.length) → QM.ev ns f % p ^ (j + 1 + l.length) = 0 → f % p = n % p → D.nx [some (iT ns), some (.int p), some (.int n), t, sl, x5, some (.int st'), some (.int f), some (.int (p ^ (j + 1 + l.length))), x9, x10] S) →
    forR (fun _ => True) (gP (.nm 5)) (rdB b16l ⟨Γ, E, st.sub⟩) D l [some (iT ns), some (.int p), some (.int n), t, sl, x5, some (.int st'), some (.int f), some (.int (p ^ (j + 1))), x9, x10] S := by
  intro l
  induction l with
  | nil =>
    intro j f x9 x10 x5 _ f0 f1 hf hn h
    rw [for_nil]
    exact ⟨trivial, h f x9 x10 x5 f0 f1 hf hn⟩
  | cons w l ih =>
    intro j f x9 x10 x5 hj f0 f1 hf hn h
    rw [List.length_cons] at hj h
    rw [for_cons]
    refine ⟨trivial, ?_⟩
    have hp2 := hp.le
    have P := pow_sm (p := p) (k := j + 1) (by omega) hp2.2 (by omega)
    have P2 := pow_sm (p := p) (k := j + 1 + 1) (by omega) hp2.2 (by omega)
    have pw : p ∣ p ^ (j + 1) := ⟨p ^ j, by rw [Int.pow_succ, Int.mul_comm]⟩
    have es : p ^ (j + 1) * p = p ^ (j + 1 + 1) := (Int.pow_succ ..).symm
    obtain ⟨h1, h2⟩ := hensel (st := st') hp2.1 (by omega) pw hf hn hs
    rw [es] at h1 h2
    unfold b16l
    simp only [PW.o_nil, PW.o_seq, PW.o_asg, PW.o_par, PW.o_asgI, PW.o_aug, PW.o_augI, PW.o_ex, PW.o_ret, PW.o_retN, PW.o_ifs, PW.o_for, PW.o_whl, PW.o_rais, PW.o_brk, PW.o_cnt, PW.o_pass, PW.e_var, PW.e_int, PW.e_bl, PW.e_non, PW.e_str, PW.e_gint, PW.e_gti, PW.e_gtt, PW.e_gst, PW.e_rev, PW.e_cls, PW.e_ty, PW.e_tup, PW.e_lst, PW.e_bin, PW.e_neg, PW.e_not, PW.e_and, PW.e_or, PW.e_cmp, PW.e_chn, PW.e_ite, PW.e_ix, PW.e_slc, PW.e_call, PW.e_callk, PW.e_blt, PW.e_mth, PW.e_lrng, PW.e_att, PW.e_hrd, PW.e_comp, PW.e_comp2, PW.t_var, PW.t_bl, PW.t_cmp, PW.t_chn, PW.t_not, PW.t_and, PW.t_or, PW.t_ite, PW.t_call, PW.t_callk, PW.t_blt, PW.t_ix, PW.a_nil, PW.a_cons, PW.a_scons, PW.p_nil, PW.p_int, PW.p_var, PW.p_bin, PW.p_neg, PW.c_cmp, PW.c_chn, PW.c_not, PW.c_and, PW.c_or, PW.c_call, PW.c_blt, PW.c_var, PW.t_int, PW.c_nil, PW.i_rng, PW.i_enm, PW.i_revd, PW.i_zp, PW.i_var, PW.i_tup, PW.i_rev, PW.i_comp, PW.i_ix, PW.i_gti, PW.i_call, PW.i_slc, PW.op_add, PW.op_sub, PW.op_mul, PW.op_fdv, PW.op_mod, PW.op_pow, PW.op_addS, PW.op_addT, PW.op_addL, PW.op_repL, PW.cm_lt, PW.cm_le, PW.cm_gt, PW.cm_ge, PW.cm_eq, PW.cm_ne, PW.cm_eqS, PW.cm_neS, PW.cm_eqT, PW.cm_neT, PW.cm_eqL, PW.cm_neL, PW.cm_inT, PW.cm_niT, PW.cm_eqB, PW.cm_isNN, PW.cm_isNE, PW.cm_isNT, PW.cm_isNI, PW.cm_noNN, PW.cm_noNE, PW.cm_noNT, PW.cm_noNI, PW.tr_bl, PW.tr_int, PW.tr_non, PW.tr_lst, PW.tr_rol, PW.tr_tup, PW.ix_rol, PW.b_abs, PW.b_int, PW.b_boolI, PW.b_boolB, PW.b_intB, PW.b_max, PW.b_min, PW.b_lenT, PW.b_lenR, PW.b_lenL, PW.b_sum, PW.b_all, PW.b_any, PW.b_sorted, PW.b_tupT, PW.b_listT, PW.b_listL, PW.b_isN, PW.b_isB, PW.b_isS, PW.b_tupL, PW.b_isI, PW.b_isT, PW.b_isE, PW.m_pop, PW.m_ext, PW.m_rev, PW.m_app, PW.g_nm, PW.g_tup, PW.g_cons, PW.g_nil, endW, startW, List.map_cons, List.map_nil, List.length_cons, List.length_nil, List.replicate, Nat.reduceAdd, Nat.reduceSub, Nat.zero_add, List.cons_append, List.nil_append, List.append_nil, List.getElem?_cons_zero, List.getElem?_cons_succ, List.set_cons_zero, List.set_cons_succ, setS, T.alen, g15, sHby]
    rw [es]
    have nf : f.natAbs < 2 ^ 700 := by omega
    refine ⟨mulS (nb_up P.1 (by decide)) (nbP (x := p - 1) hp (by omega) (by omega) |> fun _ => nb_up (m := 62) (by omega) (by decide)), ns, rfl, by omega, nb_up P2.1 (by decide), nb_up nf (by decide), ?_⟩
    rw [Int.fdiv_eq_ediv_of_nonneg _ (by omega)]
    have l0 : 0 ≤ QM.ev ns f % p ^ (j + 1 + 1) := Int.emod_nonneg _ (by omega)
    have l1 : QM.ev ns f % p ^ (j + 1 + 1) < p ^ (j + 1 + 1) := Int.emod_lt_of_pos _ (by omega)
    have q0 : 0 ≤ QM.ev ns f % p ^ (j + 1 + 1) / p ^ (j + 1) := Int.ediv_nonneg l0 (by omega)
    have q1 : QM.ev ns f % p ^ (j + 1 + 1) / p ^ (j + 1) < p := Int.ediv_lt_of_lt_mul (by omega) (by rw [Int.mul_comm, es]; exact l1)
    generalize QM.ev ns f % p ^ (j + 1 + 1) / p ^ (j + 1) = less at q0 q1 h1 h2 ⊢
    rw [Int.fmod_eq_emod_of_nonneg _ (by omega), Int.fmod_eq_emod_of_nonneg _ (by omega)]
    have t0 : 0 ≤ less * st' % p := Int.emod_nonneg _ (by omega)
    have t1 : less * st' % p < p := Int.emod_lt_of_pos _ (by omega)
    refine ⟨cdvS (by omega) (nb_up P.1 (by decide)), mulS (nbP hp q0 q1) (nbP hp s0.1 s0.2), by omega, mulS (nbP hp t0 t1) (nb_up P.1 (by decide)), by omega, less_same ?_⟩
    refine ih (j + 1) _ _ _ _ (by omega) (Int.emod_nonneg _ (by omega)) (Int.emod_lt_of_pos _ (by omega)) h1 h2 fun f x9 x10 x5 a b c d => ?_
    have e1 : j + 1 + 1 + l.length = j + 1 + (l.length + 1) := by omega
    rw [e1] at b c ⊢
    exact h f x9 x10 x5 a b c d
theorem isI_int {i lo hi : Int} : isI (.int i) lo hi = (decide (lo ≤ i) && decide (i ≤ hi)) := rfl
theorem isI_of {v : Vl} {lo hi : Int} (h : isI v lo hi = true) : ∃ i : Int, v = .int i ∧ lo ≤ i ∧ i ≤ hi := by
  cases v with
  | int i =>
    rw [isI_int, Bool.and_eq_true, decide_eq_true_iff, decide_eq_true_iff] at h
    exact ⟨i, rfl, h.1, h.2⟩
  | _ => cases h
theorem r16b {Γ : Nat → SpW} {Q E : WK} {S : Sto} {ns : List Int} {p n : Int} {t : Vl} {s : Int} {x5 x6 x7 x8 x9 x10 : Option Vl} (g2 : Γ 2 = sLookInt 1) (g12 : Γ 12 = sTurned) (g15 : Γ 15 = sHby) (hp : Pr p) (n0 : 0 ≤ n) (n1 : n < p) (hn : QM.ev ns n % p = 0) (hs : s = QM.dv ns n % p) (hz : s ≠ 0)
    (tf : t.flat = true) (h1 : isI t 1 100 = false → E (.exc 1 t) S) (h2 : ∀ k : Nat, t = .int (k : Nat) → 1 ≤ k → k ≤ 100 → ∀ r, 0 ≤ r → r < p ^ k → r % p = n → QM.ev ns r % p ^ k = 0 → Q (.int r) S) :
    rdB b16b ⟨Γ, E, st.sub⟩ (endW Q) [some (iT ns), some (.int p), some (.int n), some t, some (.int s), x5, x6, x7, x8, x9, x10] S := by
  have hp2 := hp.le
  have s0 : 0 ≤ s := by rw [hs]; exact Int.emod_nonneg _ (by omega)
  have s1 : s < p := by rw [hs]; exact Int.emod_lt_of_pos _ (by omega)
  unfold b16b
  simp only [PW.o_nil, PW.o_seq, PW.o_asg, PW.o_par, PW.o_asgI, PW.o_aug, PW.o_augI, PW.o_ex, PW.o_ret, PW.o_retN, PW.o_ifs, PW.o_for, PW.o_whl, PW.o_rais, PW.o_brk, PW.o_cnt, PW.o_pass, PW.e_var, PW.e_int, PW.e_bl, PW.e_non, PW.e_str, PW.e_gint, PW.e_gti, PW.e_gtt, PW.e_gst, PW.e_rev, PW.e_cls, PW.e_ty, PW.e_tup, PW.e_lst, PW.e_bin, PW.e_neg, PW.e_not, PW.e_and, PW.e_or, PW.e_cmp, PW.e_chn, PW.e_ite, PW.e_ix, PW.e_slc, PW.e_call, PW.e_callk, PW.e_blt, PW.e_mth, PW.e_lrng, PW.e_att, PW.e_hrd, PW.e_comp, PW.e_comp2, PW.t_var, PW.t_bl, PW.t_cmp, PW.t_chn, PW.t_not, PW.t_and, PW.t_or, PW.t_ite, PW.t_call, PW.t_callk, PW.t_blt, PW.t_ix, PW.a_nil, PW.a_cons, PW.a_scons, PW.p_nil, PW.p_int, PW.p_var, PW.p_bin, PW.p_neg, PW.c_cmp, PW.c_chn, PW.c_not, PW.c_and, PW.c_or, PW.c_call, PW.c_blt, PW.c_var, PW.t_int, PW.c_nil, PW.i_rng, PW.i_enm, PW.i_revd, PW.i_zp, PW.i_var, PW.i_tup, PW.i_rev, PW.i_comp, PW.i_ix, PW.i_gti, PW.i_call, PW.i_slc, PW.op_add, PW.op_sub, PW.op_mul, PW.op_fdv, PW.op_mod, PW.op_pow, PW.op_addS, PW.op_addT, PW.op_addL, PW.op_repL, PW.cm_lt, PW.cm_le, PW.cm_gt, PW.cm_ge, PW.cm_eq, PW.cm_ne, PW.cm_eqS, PW.cm_neS, PW.cm_eqT, PW.cm_neT, PW.cm_eqL, PW.cm_neL, PW.cm_inT, PW.cm_niT, PW.cm_eqB, PW.cm_isNN, PW.cm_isNE, PW.cm_isNT, PW.cm_isNI, PW.cm_noNN, PW.cm_noNE, PW.cm_noNT, PW.cm_noNI, PW.tr_bl, PW.tr_int, PW.tr_non, PW.tr_lst, PW.tr_rol, PW.tr_tup, PW.ix_rol, PW.b_abs, PW.b_int, PW.b_boolI, PW.b_boolB, PW.b_intB, PW.b_max, PW.b_min, PW.b_lenT, PW.b_lenR, PW.b_lenL, PW.b_sum, PW.b_all, PW.b_any, PW.b_sorted, PW.b_tupT, PW.b_listT, PW.b_listL, PW.b_isN, PW.b_isB, PW.b_isS, PW.b_tupL, PW.b_isI, PW.b_isT, PW.b_isE, PW.m_pop, PW.m_ext, PW.m_rev, PW.m_app, PW.g_nm, PW.g_tup, PW.g_cons, PW.g_nil, endW, startW, List.map_cons, List.map_nil, List.length_cons, List.length_nil, List.replicate, Nat.reduceAdd, Nat.reduceSub, Nat.zero_add, List.cons_append, List.nil_append, List.append_nil, List.getElem?_cons_zero, List.getElem?_cons_succ, List.set_cons_zero, List.set_cons_succ, setS, T.alen, g2, sLookInt]
  refine ⟨tf, fun ht => ?_, h1⟩
  obtain ⟨k, rfl, k1, k2⟩ := isI_of ht
  obtain ⟨kk, rfl⟩ : ∃ m : Nat, k = (m : Int) := ⟨k.toNat, by omega⟩
  simp only [PW.o_nil, PW.o_seq, PW.o_asg, PW.o_par, PW.o_asgI, PW.o_aug, PW.o_augI, PW.o_ex, PW.o_ret, PW.o_retN, PW.o_ifs, PW.o_for, PW.o_whl, PW.o_rais, PW.o_brk, PW.o_cnt, PW.o_pass, PW.e_var, PW.e_int, PW.e_bl, PW.e_non, PW.e_str, PW.e_gint, PW.e_gti, PW.e_gtt, PW.e_gst, PW.e_rev, PW.e_cls, PW.e_ty, PW.e_tup, PW.e_lst, PW.e_bin, PW.e_neg, PW.e_not, PW.e_and, PW.e_or, PW.e_cmp, PW.e_chn, PW.e_ite, PW.e_ix, PW.e_slc, PW.e_call, PW.e_callk, PW.e_blt, PW.e_mth, PW.e_lrng, PW.e_att, PW.e_hrd, PW.e_comp, PW.e_comp2, PW.t_var, PW.t_bl, PW.t_cmp, PW.t_chn, PW.t_not, PW.t_and, PW.t_or, PW.t_ite, PW.t_call, PW.t_callk, PW.t_blt, PW.t_ix, PW.a_nil, PW.a_cons, PW.a_scons, PW.p_nil, PW.p_int, PW.p_var, PW.p_bin, PW.p_neg, PW.c_cmp, PW.c_chn, PW.c_not, PW.c_and, PW.c_or, PW.c_call, PW.c_blt, PW.c_var, PW.t_int, PW.c_nil, PW.i_rng, PW.i_enm, PW.i_revd, PW.i_zp, PW.i_var, PW.i_tup, PW.i_rev, PW.i_comp, PW.i_ix, PW.i_gti, PW.i_call, PW.i_slc, PW.op_add, PW.op_sub, PW.op_mul, PW.op_fdv, PW.op_mod, PW.op_pow, PW.op_addS, PW.op_addT, PW.op_addL, PW.op_repL, PW.cm_lt, PW.cm_le, PW.cm_gt, PW.cm_ge, PW.cm_eq, PW.cm_ne, PW.cm_eqS, PW.cm_neS, PW.cm_eqT, PW.cm_neT, PW.cm_eqL, PW.cm_neL, PW.cm_inT, PW.cm_niT, PW.cm_eqB, PW.cm_isNN, PW.cm_isNE, PW.cm_isNT, PW.cm_isNI, PW.cm_noNN, PW.cm_noNE, PW.cm_noNT, PW.cm_noNI, PW.tr_bl, PW.tr_int, PW.tr_non, PW.tr_lst, PW.tr_rol, PW.tr_tup, PW.ix_rol, PW.b_abs, PW.b_int, PW.b_boolI, PW.b_boolB, PW.b_intB, PW.b_max, PW.b_min, PW.b_lenT, PW.b_lenR, PW.b_lenL, PW.b_sum, PW.b_all, PW.b_any, PW.b_sorted, PW.b_tupT, PW.b_listT, PW.b_listL, PW.b_isN, PW.b_isB, PW.b_isS, PW.b_tupL, PW.b_isI, PW.b_isT, PW.b_isE, PW.m_pop, PW.m_ext, PW.m_rev, PW.m_app, PW.g_nm, PW.g_tup, PW.g_cons, PW.g_nil, endW, startW, List.map_cons, List.map_nil, List.length_cons, List.length_nil, List.replicate, Nat.reduceAdd, Nat.reduceSub, Nat.zero_add, List.cons_append, List.nil_append, List.append_nil, List.getElem?_cons_zero, List.getElem?_cons_succ, List.set_cons_zero, List.set_cons_succ, setS, T.alen, g12, sTurned, rngG]
  refine ⟨hp, s0, s1, trivial, ⟨by omega, by omega⟩, ?_⟩
  have iv := inv_ok hp (show 1 ≤ s by omega) s1
  have e8 : (rangeW 0 ((kk : Int) - 1).toNat).length = kk - 1 := by
    unfold rangeW
    rw [List.length_map, List.length_range]; omega
  generalize rangeW 0 ((kk : Int) - 1).toNat = l at e8 ⊢
  have hs2 : (KM.inv s p * QM.dv ns n) % p = 1 := by
    generalize KM.inv s p = i at iv ⊢
    rw [hs, Int.mul_emod, Int.emod_emod, ← Int.mul_emod] at iv
    exact iv
  have := r16l (E := E) (D := { nx := rdB (.seq (.ret (.var 7)) .nil) ⟨Γ, E, st.sub⟩ { nx := fun _ S => ∃ S2, wsub S2 S ∧ Q Vl.non S2, rt := Q }, rt := Q }) (S := S) (t := some (.int (kk : Nat))) (sl := some (.int s)) g15 hp hs2 (inv_rng hp) l 0 n x9 x10 x5 (by omega) n0 (by rw [Nat.zero_add, Int.pow_succ, Int.pow_zero, Int.one_mul]; exact n1) (by rw [Nat.zero_add, Int.pow_succ, Int.pow_zero, Int.one_mul]; exact hn) rfl fun f x9 x10 x5 a b c d => ?_
  · rw [Nat.zero_add, Int.pow_succ, Int.pow_zero, Int.one_mul] at this
    exact this
  · simp only [PW.o_nil, PW.o_seq, PW.o_asg, PW.o_par, PW.o_asgI, PW.o_aug, PW.o_augI, PW.o_ex, PW.o_ret, PW.o_retN, PW.o_ifs, PW.o_for, PW.o_whl, PW.o_rais, PW.o_brk, PW.o_cnt, PW.o_pass, PW.e_var, PW.e_int, PW.e_bl, PW.e_non, PW.e_str, PW.e_gint, PW.e_gti, PW.e_gtt, PW.e_gst, PW.e_rev, PW.e_cls, PW.e_ty, PW.e_tup, PW.e_lst, PW.e_bin, PW.e_neg, PW.e_not, PW.e_and, PW.e_or, PW.e_cmp, PW.e_chn, PW.e_ite, PW.e_ix, PW.e_slc, PW.e_call, PW.e_callk, PW.e_blt, PW.e_mth, PW.e_lrng, PW.e_att, PW.e_hrd, PW.e_comp, PW.e_comp2, PW.t_var, PW.t_bl, PW.t_cmp, PW.t_chn, PW.t_not, PW.t_and, PW.t_or, PW.t_ite, PW.t_call, PW.t_callk, PW.t_blt, PW.t_ix, PW.a_nil, PW.a_cons, PW.a_scons, PW.p_nil, PW.p_int, PW.p_var, PW.p_bin, PW.p_neg, PW.c_cmp, PW.c_chn, PW.c_not, PW.c_and, PW.c_or, PW.c_call, PW.c_blt, PW.c_var, PW.t_int, PW.c_nil, PW.i_rng, PW.i_enm, PW.i_revd, PW.i_zp, PW.i_var, PW.i_tup, PW.i_rev, PW.i_comp, PW.i_ix, PW.i_gti, PW.i_call, PW.i_slc, PW.op_add, PW.op_sub, PW.op_mul, PW.op_fdv, PW.op_mod, PW.op_pow, PW.op_addS, PW.op_addT, PW.op_addL, PW.op_repL, PW.cm_lt, PW.cm_le, PW.cm_gt, PW.cm_ge, PW.cm_eq, PW.cm_ne, PW.cm_eqS, PW.cm_neS, PW.cm_eqT, PW.cm_neT, PW.cm_eqL, PW.cm_neL, PW.cm_inT, PW.cm_niT, PW.cm_eqB, PW.cm_isNN, PW.cm_isNE, PW.cm_isNT, PW.cm_isNI, PW.cm_noNN, PW.cm_noNE, PW.cm_noNT, PW.cm_noNI, PW.tr_bl, PW.tr_int, PW.tr_non, PW.tr_lst, PW.tr_rol, PW.tr_tup, PW.ix_rol, PW.b_abs, PW.b_int, PW.b_boolI, PW.b_boolB, PW.b_intB, PW.b_max, PW.b_min, PW.b_lenT, PW.b_lenR, PW.b_lenL, PW.b_sum, PW.b_all, PW.b_any, PW.b_sorted, PW.b_tupT, PW.b_listT, PW.b_listL, PW.b_isN, PW.b_isB, PW.b_isS, PW.b_tupL, PW.b_isI, PW.b_isT, PW.b_isE, PW.m_pop, PW.m_ext, PW.m_rev, PW.m_app, PW.g_nm, PW.g_tup, PW.g_cons, PW.g_nil, endW, startW, List.map_cons, List.map_nil, List.length_cons, List.length_nil, List.replicate, Nat.reduceAdd, Nat.reduceSub, Nat.zero_add, List.cons_append, List.nil_append, List.append_nil, List.getElem?_cons_zero, List.getElem?_cons_succ, List.set_cons_zero, List.set_cons_succ, setS, T.alen]
    have e1 : 0 + 1 + l.length = kk := by omega
    rw [e1] at b c
    refine ret_all (h2 kk rfl (by omega) (by omega) f a b ?_ c)
    rw [d, Int.emod_eq_of_lt n0 n1]
theorem r16 (Γ : Nat → SpW) (ws S Q E) (g0 : Γ 0 = sIsInt) (g2 : Γ 2 = sLookInt 1) (g9 : Γ 9 = sSlope) (g12 : Γ 12 = sTurned) (g13 : Γ 13 = sBy) (g15 : Γ 15 = sHby) (h : sLifted ws S Q E) : rdB b16 ⟨Γ, E, st.sub⟩ (endW Q) (startW N16.length ws) S := by
  unfold sLifted at h
  split at h
  · rename_i ws p x t
    obtain ⟨ns, rfl, hb, xf, h1, h2⟩ := h
    have hp := hb.pr
    have hp2 := hp.le
    have hl := hb.c.len
    rw [b16_eq]
    unfold N16
    simp only [PW.o_nil, PW.o_seq, PW.o_asg, PW.o_par, PW.o_asgI, PW.o_aug, PW.o_augI, PW.o_ex, PW.o_ret, PW.o_retN, PW.o_ifs, PW.o_for, PW.o_whl, PW.o_rais, PW.o_brk, PW.o_cnt, PW.o_pass, PW.e_var, PW.e_int, PW.e_bl, PW.e_non, PW.e_str, PW.e_gint, PW.e_gti, PW.e_gtt, PW.e_gst, PW.e_rev, PW.e_cls, PW.e_ty, PW.e_tup, PW.e_lst, PW.e_bin, PW.e_neg, PW.e_not, PW.e_and, PW.e_or, PW.e_cmp, PW.e_chn, PW.e_ite, PW.e_ix, PW.e_slc, PW.e_call, PW.e_callk, PW.e_blt, PW.e_mth, PW.e_lrng, PW.e_att, PW.e_hrd, PW.e_comp, PW.e_comp2, PW.t_var, PW.t_bl, PW.t_cmp, PW.t_chn, PW.t_not, PW.t_and, PW.t_or, PW.t_ite, PW.t_call, PW.t_callk, PW.t_blt, PW.t_ix, PW.a_nil, PW.a_cons, PW.a_scons, PW.p_nil, PW.p_int, PW.p_var, PW.p_bin, PW.p_neg, PW.c_cmp, PW.c_chn, PW.c_not, PW.c_and, PW.c_or, PW.c_call, PW.c_blt, PW.c_var, PW.t_int, PW.c_nil, PW.i_rng, PW.i_enm, PW.i_revd, PW.i_zp, PW.i_var, PW.i_tup, PW.i_rev, PW.i_comp, PW.i_ix, PW.i_gti, PW.i_call, PW.i_slc, PW.op_add, PW.op_sub, PW.op_mul, PW.op_fdv, PW.op_mod, PW.op_pow, PW.op_addS, PW.op_addT, PW.op_addL, PW.op_repL, PW.cm_lt, PW.cm_le, PW.cm_gt, PW.cm_ge, PW.cm_eq, PW.cm_ne, PW.cm_eqS, PW.cm_neS, PW.cm_eqT, PW.cm_neT, PW.cm_eqL, PW.cm_neL, PW.cm_inT, PW.cm_niT, PW.cm_eqB, PW.cm_isNN, PW.cm_isNE, PW.cm_isNT, PW.cm_isNI, PW.cm_noNN, PW.cm_noNE, PW.cm_noNT, PW.cm_noNI, PW.tr_bl, PW.tr_int, PW.tr_non, PW.tr_lst, PW.tr_rol, PW.tr_tup, PW.ix_rol, PW.b_abs, PW.b_int, PW.b_boolI, PW.b_boolB, PW.b_intB, PW.b_max, PW.b_min, PW.b_lenT, PW.b_lenR, PW.b_lenL, PW.b_sum, PW.b_all, PW.b_any, PW.b_sorted, PW.b_tupT, PW.b_listT, PW.b_listL, PW.b_isN, PW.b_isB, PW.b_isS, PW.b_tupL, PW.b_isI, PW.b_isT, PW.b_isE, PW.m_pop, PW.m_ext, PW.m_rev, PW.m_app, PW.g_nm, PW.g_tup, PW.g_cons, PW.g_nil, endW, startW, List.map_cons, List.map_nil, List.length_cons, List.length_nil, List.replicate, Nat.reduceAdd, Nat.reduceSub, Nat.zero_add, List.cons_append, List.nil_append, List.append_nil, List.getElem?_cons_zero, List.getElem?_cons_succ, List.set_cons_zero, List.set_cons_succ, setS, T.alen, g13, g0, sBy, sIsInt]
    refine ⟨ns, rfl, hb, xf, ?_⟩
    cases z : isI x 0 (p - 1) with
    | false =>
      simp only [Bool.not_false, if_true]
      refine ret_all (h1 ?_)
      rintro ⟨n, rfl, a, b, _⟩
      rw [isI_int, decide_eq_true a, decide_eq_true (show n ≤ p - 1 by omega)] at z
      cases z
    | true =>
      obtain ⟨n, rfl, n0, n1⟩ := isI_of z
      have n1 : n < p := by omega
      simp only [PW.o_nil, PW.o_seq, PW.o_asg, PW.o_par, PW.o_asgI, PW.o_aug, PW.o_augI, PW.o_ex, PW.o_ret, PW.o_retN, PW.o_ifs, PW.o_for, PW.o_whl, PW.o_rais, PW.o_brk, PW.o_cnt, PW.o_pass, PW.e_var, PW.e_int, PW.e_bl, PW.e_non, PW.e_str, PW.e_gint, PW.e_gti, PW.e_gtt, PW.e_gst, PW.e_rev, PW.e_cls, PW.e_ty, PW.e_tup, PW.e_lst, PW.e_bin, PW.e_neg, PW.e_not, PW.e_and, PW.e_or, PW.e_cmp, PW.e_chn, PW.e_ite, PW.e_ix, PW.e_slc, PW.e_call, PW.e_callk, PW.e_blt, PW.e_mth, PW.e_lrng, PW.e_att, PW.e_hrd, PW.e_comp, PW.e_comp2, PW.t_var, PW.t_bl, PW.t_cmp, PW.t_chn, PW.t_not, PW.t_and, PW.t_or, PW.t_ite, PW.t_call, PW.t_callk, PW.t_blt, PW.t_ix, PW.a_nil, PW.a_cons, PW.a_scons, PW.p_nil, PW.p_int, PW.p_var, PW.p_bin, PW.p_neg, PW.c_cmp, PW.c_chn, PW.c_not, PW.c_and, PW.c_or, PW.c_call, PW.c_blt, PW.c_var, PW.t_int, PW.c_nil, PW.i_rng, PW.i_enm, PW.i_revd, PW.i_zp, PW.i_var, PW.i_tup, PW.i_rev, PW.i_comp, PW.i_ix, PW.i_gti, PW.i_call, PW.i_slc, PW.op_add, PW.op_sub, PW.op_mul, PW.op_fdv, PW.op_mod, PW.op_pow, PW.op_addS, PW.op_addT, PW.op_addL, PW.op_repL, PW.cm_lt, PW.cm_le, PW.cm_gt, PW.cm_ge, PW.cm_eq, PW.cm_ne, PW.cm_eqS, PW.cm_neS, PW.cm_eqT, PW.cm_neT, PW.cm_eqL, PW.cm_neL, PW.cm_inT, PW.cm_niT, PW.cm_eqB, PW.cm_isNN, PW.cm_isNE, PW.cm_isNT, PW.cm_isNI, PW.cm_noNN, PW.cm_noNE, PW.cm_noNT, PW.cm_noNI, PW.tr_bl, PW.tr_int, PW.tr_non, PW.tr_lst, PW.tr_rol, PW.tr_tup, PW.ix_rol, PW.b_abs, PW.b_int, PW.b_boolI, PW.b_boolB, PW.b_intB, PW.b_max, PW.b_min, PW.b_lenT, PW.b_lenR, PW.b_lenL, PW.b_sum, PW.b_all, PW.b_any, PW.b_sorted, PW.b_tupT, PW.b_listT, PW.b_listL, PW.b_isN, PW.b_isB, PW.b_isS, PW.b_tupL, PW.b_isI, PW.b_isT, PW.b_isE, PW.m_pop, PW.m_ext, PW.m_rev, PW.m_app, PW.g_nm, PW.g_tup, PW.g_cons, PW.g_nil, endW, startW, List.map_cons, List.map_nil, List.length_cons, List.length_nil, List.replicate, Nat.reduceAdd, Nat.reduceSub, Nat.zero_add, List.cons_append, List.nil_append, List.append_nil, List.getElem?_cons_zero, List.getElem?_cons_succ, List.set_cons_zero, List.set_cons_succ, setS, T.alen, g15, sHby]
      simp only [Bool.not_true, Bool.false_eq_true, if_false]
      refine ⟨ns, rfl, by omega, nb_up (m := 62) (by omega) (by decide), nb_up (m := 62) (by omega) (by decide), ?_⟩
      by_cases y : QM.ev ns n % p = 0
      · simp only [decide_eq_true y, Bool.not_true, Bool.false_eq_true, if_false]
        obtain ⟨h3, h4⟩ := h2 n rfl n0 n1 y
        unfold b16a
        simp only [PW.o_nil, PW.o_seq, PW.o_asg, PW.o_par, PW.o_asgI, PW.o_aug, PW.o_augI, PW.o_ex, PW.o_ret, PW.o_retN, PW.o_ifs, PW.o_for, PW.o_whl, PW.o_rais, PW.o_brk, PW.o_cnt, PW.o_pass, PW.e_var, PW.e_int, PW.e_bl, PW.e_non, PW.e_str, PW.e_gint, PW.e_gti, PW.e_gtt, PW.e_gst, PW.e_rev, PW.e_cls, PW.e_ty, PW.e_tup, PW.e_lst, PW.e_bin, PW.e_neg, PW.e_not, PW.e_and, PW.e_or, PW.e_cmp, PW.e_chn, PW.e_ite, PW.e_ix, PW.e_slc, PW.e_call, PW.e_callk, PW.e_blt, PW.e_mth, PW.e_lrng, PW.e_att, PW.e_hrd, PW.e_comp, PW.e_comp2, PW.t_var, PW.t_bl, PW.t_cmp, PW.t_chn, PW.t_not, PW.t_and, PW.t_or, PW.t_ite, PW.t_call, PW.t_callk, PW.t_blt, PW.t_ix, PW.a_nil, PW.a_cons, PW.a_scons, PW.p_nil, PW.p_int, PW.p_var, PW.p_bin, PW.p_neg, PW.c_cmp, PW.c_chn, PW.c_not, PW.c_and, PW.c_or, PW.c_call, PW.c_blt, PW.c_var, PW.t_int, PW.c_nil, PW.i_rng, PW.i_enm, PW.i_revd, PW.i_zp, PW.i_var, PW.i_tup, PW.i_rev, PW.i_comp, PW.i_ix, PW.i_gti, PW.i_call, PW.i_slc, PW.op_add, PW.op_sub, PW.op_mul, PW.op_fdv, PW.op_mod, PW.op_pow, PW.op_addS, PW.op_addT, PW.op_addL, PW.op_repL, PW.cm_lt, PW.cm_le, PW.cm_gt, PW.cm_ge, PW.cm_eq, PW.cm_ne, PW.cm_eqS, PW.cm_neS, PW.cm_eqT, PW.cm_neT, PW.cm_eqL, PW.cm_neL, PW.cm_inT, PW.cm_niT, PW.cm_eqB, PW.cm_isNN, PW.cm_isNE, PW.cm_isNT, PW.cm_isNI, PW.cm_noNN, PW.cm_noNE, PW.cm_noNT, PW.cm_noNI, PW.tr_bl, PW.tr_int, PW.tr_non, PW.tr_lst, PW.tr_rol, PW.tr_tup, PW.ix_rol, PW.b_abs, PW.b_int, PW.b_boolI, PW.b_boolB, PW.b_intB, PW.b_max, PW.b_min, PW.b_lenT, PW.b_lenR, PW.b_lenL, PW.b_sum, PW.b_all, PW.b_any, PW.b_sorted, PW.b_tupT, PW.b_listT, PW.b_listL, PW.b_isN, PW.b_isB, PW.b_isS, PW.b_tupL, PW.b_isI, PW.b_isT, PW.b_isE, PW.m_pop, PW.m_ext, PW.m_rev, PW.m_app, PW.g_nm, PW.g_tup, PW.g_cons, PW.g_nil, endW, startW, List.map_cons, List.map_nil, List.length_cons, List.length_nil, List.replicate, Nat.reduceAdd, Nat.reduceSub, Nat.zero_add, List.cons_append, List.nil_append, List.append_nil, List.getElem?_cons_zero, List.getElem?_cons_succ, List.set_cons_zero, List.set_cons_succ, setS, T.alen, g9, sSlope, g15, sHby]
        refine ⟨ns, rfl, by omega, fun a m => ?_, QM.strip (QM.der ns), rfl, by omega, nb_up (m := 62) (by omega) (by decide), nb_up (m := 62) (by omega) (by decide), ?_⟩
        · have := hb.c.bd a m
          exact nb_up (m := 62) (by omega) (by decide)
        rw [QM.ev_strip, QM.ev_der]
        by_cases u : QM.dv ns n % p = 0
        · simp only [decide_eq_true u, if_true]
          exact ret_all (h3 u)
        · simp only [decide_eq_false u, Bool.false_eq_true, if_false]
          obtain ⟨a, b, c⟩ := h4 u
          exact r16b g2 g12 g15 hp n0 n1 y rfl u a b c
      · simp only [decide_eq_false y, Bool.not_false, if_true]
        refine ret_all (h1 ?_)
        rintro ⟨m, e, _, _, q⟩
        cases e
        exact y q
  · exact h.elim
/-! ### all of them -/
def sAll : SpW := fun ws S Q E => match ws with
  | [.tup ws, .int p, t] => ∃ ns : List Int, ws = ns.map Vl.int ∧ By ns p ∧ t.flat = true ∧ (isI t 1 100 = false → E (.exc 1 t) S) ∧ ∀ k : Nat, t = .int (k : Nat) → 1 ≤ k → k ≤ 100 → p ^ k ≤ 400 ∧ Q (iT (nb ns (p ^ k))) S
  | _ => False
theorem lcO_nil {G : Sto → Prop} {g c inner} {σ : WSt} {D : Addr} {Q : List Vl → Sto → Prop} {acc : List Vl} {S : Sto} : lcO G g c inner σ D Q [] acc S = (G S ∧ S D = some acc ∧ Q acc S) := (rfl)
theorem lcO_cons {G : Sto → Prop} {g c inner} {σ : WSt} {D : Addr} {Q : List Vl → Sto → Prop} {x : Vl} {xs acc : List Vl} {S : Sto} : lcO G g c inner σ D Q (x :: xs) acc S = (G S ∧ g x σ S fun σ2 S2 => c σ2 S2 fun b S3 =>
      if b = true then inner σ2 S3 (fun acc' S4 => lcO G g c inner σ D Q xs acc' S4) acc else lcO G g c inner σ D Q xs acc S3) := (rfl)
theorem ev_flat (L : List Int) (w p : Int) (r : Int) : ((List.range p.toNat).map fun k => Vl.int (r + w * (0 + ((k : Nat) : Int)))) = ((List.range p.toNat).map fun k => r + w * ((k : Nat) : Int)).map Vl.int := by
  rw [List.map_map]
  refine List.map_congr_left fun k _ => ?_
  show Vl.int _ = Vl.int _
  rw [Int.zero_add]
theorem wipe89 {o0 o1 o2 o3 o4 o5 o6 o7 o8 o9 : Option Vl} : wipeW [o0, o1, o2, o3, o4, o5, o6, o7, o8, o9] [8, 9] = [o0, o1, o2, o3, o4, o5, o6, o7, none, none] := rfl
theorem wipe_8 {o0 o1 o2 o3 o4 o5 o6 o7 o8 o9 : Option Vl} : wipeW [o0, o1, o2, o3, o4, o5, o6, o7, o8, o9] [8] = [o0, o1, o2, o3, o4, o5, o6, o7, none, o9] := rfl
theorem wipe_9 {o0 o1 o2 o3 o4 o5 o6 o7 o8 o9 : Option Vl} : wipeW [o0, o1, o2, o3, o4, o5, o6, o7, o8, o9] [9] = [o0, o1, o2, o3, o4, o5, o6, o7, o8, none] := rfl
theorem slots_nm {i : Nat} : (PW.Pt.nm i).slots = [i] := rfl
theorem r17l {Γ : Nat → SpW} {E : WK} {D : WEn} {S X : Sto} {ns L : List Int} {p w : Int} {t sm lp o7 o8 o9 : Option Vl} {q : Addr} (g15 : Γ 15 = sHby) (hp : 2 ≤ p ∧ p ≤ 47) (w0 : 0 < w) (hw : w * p ≤ 400) (F : Fd ns L w) (hs : wsub S X) (hq : X q = some (L.map Vl.int)) (nq : S q = none)
    (h : ∀ X' q' L' o7 o8 o9, wsub S X' → S q' = none → Fd ns L' (w * p) → X' q' = some (L'.map Vl.int) → D.nx [some (iT ns), some (.int p), t, sm, lp, some (.lst q'), some (.int (w * p)), o7, o8, o9] X') :
    rdB b17l ⟨Γ, E, st.sub⟩ D [some (iT ns), some (.int p), t, sm, lp, some (.lst q), some (.int w), o7, o8, o9] X := by
  have fl := F.len
  have p0 : 0 < p := by omega
  have wle : w ≤ 400 := by
    have := Int.mul_le_mul_of_nonneg_left (show 1 ≤ p by omega) (Int.le_of_lt w0)
    omega
  have wp0 : 0 < w * p := Int.mul_pos w0 p0
  unfold b17l
  simp only [PW.o_nil, PW.o_seq, PW.o_asg, PW.o_par, PW.o_asgI, PW.o_aug, PW.o_augI, PW.o_ex, PW.o_ret, PW.o_retN, PW.o_ifs, PW.o_for, PW.o_whl, PW.o_rais, PW.o_brk, PW.o_cnt, PW.o_pass, PW.e_var, PW.e_int, PW.e_bl, PW.e_non, PW.e_str, PW.e_gint, PW.e_gti, PW.e_gtt, PW.e_gst, PW.e_rev, PW.e_cls, PW.e_ty, PW.e_tup, PW.e_lst, PW.e_bin, PW.e_neg, PW.e_not, PW.e_and, PW.e_or, PW.e_cmp, PW.e_chn, PW.e_ite, PW.e_ix, PW.e_slc, PW.e_call, PW.e_callk, PW.e_blt, PW.e_mth, PW.e_lrng, PW.e_att, PW.e_hrd, PW.e_comp, PW.e_comp2, PW.t_var, PW.t_bl, PW.t_cmp, PW.t_chn, PW.t_not, PW.t_and, PW.t_or, PW.t_ite, PW.t_call, PW.t_callk, PW.t_blt, PW.t_ix, PW.a_nil, PW.a_cons, PW.a_scons, PW.p_nil, PW.p_int, PW.p_var, PW.p_bin, PW.p_neg, PW.c_cmp, PW.c_chn, PW.c_not, PW.c_and, PW.c_or, PW.c_call, PW.c_blt, PW.c_var, PW.t_int, PW.c_nil, PW.i_rng, PW.i_enm, PW.i_revd, PW.i_zp, PW.i_var, PW.i_tup, PW.i_rev, PW.i_comp, PW.i_ix, PW.i_gti, PW.i_call, PW.i_slc, PW.op_add, PW.op_sub, PW.op_mul, PW.op_fdv, PW.op_mod, PW.op_pow, PW.op_addS, PW.op_addT, PW.op_addL, PW.op_repL, PW.cm_lt, PW.cm_le, PW.cm_gt, PW.cm_ge, PW.cm_eq, PW.cm_ne, PW.cm_eqS, PW.cm_neS, PW.cm_eqT, PW.cm_neT, PW.cm_eqL, PW.cm_neL, PW.cm_inT, PW.cm_niT, PW.cm_eqB, PW.cm_isNN, PW.cm_isNE, PW.cm_isNT, PW.cm_isNI, PW.cm_noNN, PW.cm_noNE, PW.cm_noNT, PW.cm_noNI, PW.tr_bl, PW.tr_int, PW.tr_non, PW.tr_lst, PW.tr_rol, PW.tr_tup, PW.ix_rol, PW.b_abs, PW.b_int, PW.b_boolI, PW.b_boolB, PW.b_intB, PW.b_max, PW.b_min, PW.b_lenT, PW.b_lenR, PW.b_lenL, PW.b_sum, PW.b_all, PW.b_any, PW.b_sorted, PW.b_tupT, PW.b_listT, PW.b_listL, PW.b_isN, PW.b_isB, PW.b_isS, PW.b_tupL, PW.b_isI, PW.b_isT, PW.b_isE, PW.m_pop, PW.m_ext, PW.m_rev, PW.m_app, PW.g_nm, PW.g_tup, PW.g_cons, PW.g_nil, endW, startW, List.map_cons, List.map_nil, List.length_cons, List.length_nil, List.replicate, Nat.reduceAdd, Nat.reduceSub, Nat.zero_add, List.cons_append, List.nil_append, List.append_nil, List.getElem?_cons_zero, List.getElem?_cons_succ, List.set_cons_zero, List.set_cons_succ, setS, T.alen, seqL hq, wipe89]
  refine ⟨mulS (nb_up (m := 62) (by omega) (by decide)) (nb_up (m := 62) (by omega) (by decide)), fun D1 hD1 => ?_⟩
  have nqD : q ≠ D1 := fun z => by rw [z, hD1] at hq; cases hq
  have sD1 : S D1 = none := wsub_none hs hD1
  have eR : rangeW 0 p.toNat = (List.range p.toNat).map fun i => Vl.int (0 + ((i : Nat) : Int)) := rfl
  have llen : (nxt L w p).length ≤ 400 := by
    rw [nxt_len]
    have h1 : L.length * p.toNat ≤ w.toNat * p.toNat := Nat.mul_le_mul_right _ fl
    have h2 : ((w.toNat * p.toNat : Nat) : Int) = w * p := by
      rw [Int.natCast_mul, Int.toNat_of_nonneg (Int.le_of_lt w0), Int.toNat_of_nonneg (Int.le_of_lt p0)]
    omega
  -- the next ones, all
  have outer : ∀ (inn : WSt → Sto → (List Vl → Sto → Prop) → List Vl → Prop), (∀ (r : Int) (S3 : Sto) (K : List Vl → Sto → Prop) (acc : List Vl), lcR (fun _ => True) (gP (.nm 9)) ((rd T.nil).c (Rc.no ⟨Γ, E, st.sub⟩)) ((rd (.bin .Add (.var 8) (.bin .Mult (.var 6) (.var 9)))).e (Rc.no ⟨Γ, E, st.sub⟩))
      [some (iT ns), some (.int p), t, sm, lp, some (.lst q), some (.int w), some (.int (w * p)), some (.int r), none] D1 K (rangeW 0 p.toNat) acc S3 → inn [some (iT ns), some (.int p), t, sm, lp, some (.lst q), some (.int w), some (.int (w * p)), some (.int r), none] S3 K acc) →
      ∀ (l acc : List Int) (Q : List Vl → Sto → Prop), (nxt l w p).length + acc.length ≤ 400 → Q ((acc ++ nxt l w p).map Vl.int) (X.upd D1 ((acc ++ nxt l w p).map Vl.int)) →
      lcO (fun S' => S' q = some (L.map Vl.int)) (gP (.nm 8)) ((rd T.nil).c (Rc.no ⟨Γ, E, st.sub⟩)) inn
        [some (iT ns), some (.int p), t, sm, lp, some (.lst q), some (.int w), some (.int (w * p)), none, none] D1 Q (l.map Vl.int) (acc.map Vl.int) (X.upd D1 (acc.map Vl.int)) := by
    intro inn hin l
    induction l with
    | nil =>
      intro acc Q _ hQ
      rw [List.map_nil, lcO_nil]
      have e : nxt [] w p = [] := rfl
      rw [e, List.append_nil] at hQ
      exact ⟨by rw [Sto.upd_ne nqD]; exact hq, Sto.upd_same, hQ⟩
    | cons r l ih =>
      intro acc Q hl hQ
      have e : nxt (r :: l) w p = ((List.range p.toNat).map fun k => r + w * ((k : Nat) : Int)) ++ nxt l w p := rfl
      rw [e, List.length_append, List.length_map, List.length_range] at hl
      rw [List.map_cons, lcO_cons]
      refine ⟨by rw [Sto.upd_ne nqD]; exact hq, ?_⟩
      simp only [PW.o_nil, PW.o_seq, PW.o_asg, PW.o_par, PW.o_asgI, PW.o_aug, PW.o_augI, PW.o_ex, PW.o_ret, PW.o_retN, PW.o_ifs, PW.o_for, PW.o_whl, PW.o_rais, PW.o_brk, PW.o_cnt, PW.o_pass, PW.e_var, PW.e_int, PW.e_bl, PW.e_non, PW.e_str, PW.e_gint, PW.e_gti, PW.e_gtt, PW.e_gst, PW.e_rev, PW.e_cls, PW.e_ty, PW.e_tup, PW.e_lst, PW.e_bin, PW.e_neg, PW.e_not, PW.e_and, PW.e_or, PW.e_cmp, PW.e_chn, PW.e_ite, PW.e_ix, PW.e_slc, PW.e_call, PW.e_callk, PW.e_blt, PW.e_mth, PW.e_lrng, PW.e_att, PW.e_hrd, PW.e_comp, PW.e_comp2, PW.t_var, PW.t_bl, PW.t_cmp, PW.t_chn, PW.t_not, PW.t_and, PW.t_or, PW.t_ite, PW.t_call, PW.t_callk, PW.t_blt, PW.t_ix, PW.a_nil, PW.a_cons, PW.a_scons, PW.p_nil, PW.p_int, PW.p_var, PW.p_bin, PW.p_neg, PW.c_cmp, PW.c_chn, PW.c_not, PW.c_and, PW.c_or, PW.c_call, PW.c_blt, PW.c_var, PW.t_int, PW.c_nil, PW.i_rng, PW.i_enm, PW.i_revd, PW.i_zp, PW.i_var, PW.i_tup, PW.i_rev, PW.i_comp, PW.i_ix, PW.i_gti, PW.i_call, PW.i_slc, PW.op_add, PW.op_sub, PW.op_mul, PW.op_fdv, PW.op_mod, PW.op_pow, PW.op_addS, PW.op_addT, PW.op_addL, PW.op_repL, PW.cm_lt, PW.cm_le, PW.cm_gt, PW.cm_ge, PW.cm_eq, PW.cm_ne, PW.cm_eqS, PW.cm_neS, PW.cm_eqT, PW.cm_neT, PW.cm_eqL, PW.cm_neL, PW.cm_inT, PW.cm_niT, PW.cm_eqB, PW.cm_isNN, PW.cm_isNE, PW.cm_isNT, PW.cm_isNI, PW.cm_noNN, PW.cm_noNE, PW.cm_noNT, PW.cm_noNI, PW.tr_bl, PW.tr_int, PW.tr_non, PW.tr_lst, PW.tr_rol, PW.tr_tup, PW.ix_rol, PW.b_abs, PW.b_int, PW.b_boolI, PW.b_boolB, PW.b_intB, PW.b_max, PW.b_min, PW.b_lenT, PW.b_lenR, PW.b_lenL, PW.b_sum, PW.b_all, PW.b_any, PW.b_sorted, PW.b_tupT, PW.b_listT, PW.b_listL, PW.b_isN, PW.b_isB, PW.b_isS, PW.b_tupL, PW.b_isI, PW.b_isT, PW.b_isE, PW.m_pop, PW.m_ext, PW.m_rev, PW.m_app, PW.g_nm, PW.g_tup, PW.g_cons, PW.g_nil, endW, startW, List.map_cons, List.map_nil, List.length_cons, List.length_nil, List.replicate, Nat.reduceAdd, Nat.reduceSub, Nat.zero_add, List.cons_append, List.nil_append, List.append_nil, List.getElem?_cons_zero, List.getElem?_cons_succ, List.set_cons_zero, List.set_cons_succ, setS, T.alen, if_true]
      refine hin r _ _ _ ?_
      rw [eR]
      refine lc_fm (ι := fun i : Nat => Vl.int (0 + ((i : Nat) : Int))) (F := fun k => some (.int (r + w * (0 + ((k : Nat) : Int))))) (fun _ => True) (fun _ _ _ => trivial) (fun _ _ => trivial) (List.range p.toNat) (acc.map Vl.int) _ (fun a m S' K K2 _ hk => ?_) trivial Sto.upd_same (by rw [List.length_map, List.length_range, sizeLine_eq]; omega) ?_
      · have ha := List.mem_range.mp m
        simp only [PW.o_nil, PW.o_seq, PW.o_asg, PW.o_par, PW.o_asgI, PW.o_aug, PW.o_augI, PW.o_ex, PW.o_ret, PW.o_retN, PW.o_ifs, PW.o_for, PW.o_whl, PW.o_rais, PW.o_brk, PW.o_cnt, PW.o_pass, PW.e_var, PW.e_int, PW.e_bl, PW.e_non, PW.e_str, PW.e_gint, PW.e_gti, PW.e_gtt, PW.e_gst, PW.e_rev, PW.e_cls, PW.e_ty, PW.e_tup, PW.e_lst, PW.e_bin, PW.e_neg, PW.e_not, PW.e_and, PW.e_or, PW.e_cmp, PW.e_chn, PW.e_ite, PW.e_ix, PW.e_slc, PW.e_call, PW.e_callk, PW.e_blt, PW.e_mth, PW.e_lrng, PW.e_att, PW.e_hrd, PW.e_comp, PW.e_comp2, PW.t_var, PW.t_bl, PW.t_cmp, PW.t_chn, PW.t_not, PW.t_and, PW.t_or, PW.t_ite, PW.t_call, PW.t_callk, PW.t_blt, PW.t_ix, PW.a_nil, PW.a_cons, PW.a_scons, PW.p_nil, PW.p_int, PW.p_var, PW.p_bin, PW.p_neg, PW.c_cmp, PW.c_chn, PW.c_not, PW.c_and, PW.c_or, PW.c_call, PW.c_blt, PW.c_var, PW.t_int, PW.c_nil, PW.i_rng, PW.i_enm, PW.i_revd, PW.i_zp, PW.i_var, PW.i_tup, PW.i_rev, PW.i_comp, PW.i_ix, PW.i_gti, PW.i_call, PW.i_slc, PW.op_add, PW.op_sub, PW.op_mul, PW.op_fdv, PW.op_mod, PW.op_pow, PW.op_addS, PW.op_addT, PW.op_addL, PW.op_repL, PW.cm_lt, PW.cm_le, PW.cm_gt, PW.cm_ge, PW.cm_eq, PW.cm_ne, PW.cm_eqS, PW.cm_neS, PW.cm_eqT, PW.cm_neT, PW.cm_eqL, PW.cm_neL, PW.cm_inT, PW.cm_niT, PW.cm_eqB, PW.cm_isNN, PW.cm_isNE, PW.cm_isNT, PW.cm_isNI, PW.cm_noNN, PW.cm_noNE, PW.cm_noNT, PW.cm_noNI, PW.tr_bl, PW.tr_int, PW.tr_non, PW.tr_lst, PW.tr_rol, PW.tr_tup, PW.ix_rol, PW.b_abs, PW.b_int, PW.b_boolI, PW.b_boolB, PW.b_intB, PW.b_max, PW.b_min, PW.b_lenT, PW.b_lenR, PW.b_lenL, PW.b_sum, PW.b_all, PW.b_any, PW.b_sorted, PW.b_tupT, PW.b_listT, PW.b_listL, PW.b_isN, PW.b_isB, PW.b_isS, PW.b_tupL, PW.b_isI, PW.b_isT, PW.b_isE, PW.m_pop, PW.m_ext, PW.m_rev, PW.m_app, PW.g_nm, PW.g_tup, PW.g_cons, PW.g_nil, endW, startW, List.map_cons, List.map_nil, List.length_cons, List.length_nil, List.replicate, Nat.reduceAdd, Nat.reduceSub, Nat.zero_add, List.cons_append, List.nil_append, List.append_nil, List.getElem?_cons_zero, List.getElem?_cons_succ, List.set_cons_zero, List.set_cons_succ, setS, T.alen, if_true]
        exact ⟨mulS (nb_up (m := 62) (by omega) (by decide)) (nb_up (m := 62) (by omega) (by decide)), hk S' (wsub_refl _)⟩
      · rw [fm_map, ev_flat L, Sto.upd_upd, ← List.map_append]
        refine ih _ _ (by rw [List.length_append, List.length_map, List.length_range]; omega) ?_
        rw [e, ← List.append_assoc] at hQ
        exact hQ
  refine outer _ (fun r S3 K acc hr => ?_) L [] _ (by simpa using llen) ?_
  · simp only [PW.o_nil, PW.o_seq, PW.o_asg, PW.o_par, PW.o_asgI, PW.o_aug, PW.o_augI, PW.o_ex, PW.o_ret, PW.o_retN, PW.o_ifs, PW.o_for, PW.o_whl, PW.o_rais, PW.o_brk, PW.o_cnt, PW.o_pass, PW.e_var, PW.e_int, PW.e_bl, PW.e_non, PW.e_str, PW.e_gint, PW.e_gti, PW.e_gtt, PW.e_gst, PW.e_rev, PW.e_cls, PW.e_ty, PW.e_tup, PW.e_lst, PW.e_bin, PW.e_neg, PW.e_not, PW.e_and, PW.e_or, PW.e_cmp, PW.e_chn, PW.e_ite, PW.e_ix, PW.e_slc, PW.e_call, PW.e_callk, PW.e_blt, PW.e_mth, PW.e_lrng, PW.e_att, PW.e_hrd, PW.e_comp, PW.e_comp2, PW.t_var, PW.t_bl, PW.t_cmp, PW.t_chn, PW.t_not, PW.t_and, PW.t_or, PW.t_ite, PW.t_call, PW.t_callk, PW.t_blt, PW.t_ix, PW.a_nil, PW.a_cons, PW.a_scons, PW.p_nil, PW.p_int, PW.p_var, PW.p_bin, PW.p_neg, PW.c_cmp, PW.c_chn, PW.c_not, PW.c_and, PW.c_or, PW.c_call, PW.c_blt, PW.c_var, PW.t_int, PW.c_nil, PW.i_rng, PW.i_enm, PW.i_revd, PW.i_zp, PW.i_var, PW.i_tup, PW.i_rev, PW.i_comp, PW.i_ix, PW.i_gti, PW.i_call, PW.i_slc, PW.op_add, PW.op_sub, PW.op_mul, PW.op_fdv, PW.op_mod, PW.op_pow, PW.op_addS, PW.op_addT, PW.op_addL, PW.op_repL, PW.cm_lt, PW.cm_le, PW.cm_gt, PW.cm_ge, PW.cm_eq, PW.cm_ne, PW.cm_eqS, PW.cm_neS, PW.cm_eqT, PW.cm_neT, PW.cm_eqL, PW.cm_neL, PW.cm_inT, PW.cm_niT, PW.cm_eqB, PW.cm_isNN, PW.cm_isNE, PW.cm_isNT, PW.cm_isNI, PW.cm_noNN, PW.cm_noNE, PW.cm_noNT, PW.cm_noNI, PW.tr_bl, PW.tr_int, PW.tr_non, PW.tr_lst, PW.tr_rol, PW.tr_tup, PW.ix_rol, PW.b_abs, PW.b_int, PW.b_boolI, PW.b_boolB, PW.b_intB, PW.b_max, PW.b_min, PW.b_lenT, PW.b_lenR, PW.b_lenL, PW.b_sum, PW.b_all, PW.b_any, PW.b_sorted, PW.b_tupT, PW.b_listT, PW.b_listL, PW.b_isN, PW.b_isB, PW.b_isS, PW.b_tupL, PW.b_isI, PW.b_isT, PW.b_isE, PW.m_pop, PW.m_ext, PW.m_rev, PW.m_app, PW.g_nm, PW.g_tup, PW.g_cons, PW.g_nil, endW, startW, List.map_cons, List.map_nil, List.length_cons, List.length_nil, List.replicate, Nat.reduceAdd, Nat.reduceSub, Nat.zero_add, List.cons_append, List.nil_append, List.append_nil, List.getElem?_cons_zero, List.getElem?_cons_succ, List.set_cons_zero, List.set_cons_succ, setS, T.alen, rngG, slots_nm, wipe_9]
    exact ⟨trivial, ⟨by omega, by omega⟩, hr⟩
  rw [List.nil_append]
  have h1 : (X.upd D1 ((nxt L w p).map Vl.int)) D1 = some ((nxt L w p).map Vl.int) := Sto.upd_same
  have s1 : wsub S (X.upd D1 ((nxt L w p).map Vl.int)) := wsub_upd hs sD1
  generalize X.upd D1 ((nxt L w p).map Vl.int) = X1 at h1 s1
  unfold b17m
  simp only [PW.o_nil, PW.o_seq, PW.o_asg, PW.o_par, PW.o_asgI, PW.o_aug, PW.o_augI, PW.o_ex, PW.o_ret, PW.o_retN, PW.o_ifs, PW.o_for, PW.o_whl, PW.o_rais, PW.o_brk, PW.o_cnt, PW.o_pass, PW.e_var, PW.e_int, PW.e_bl, PW.e_non, PW.e_str, PW.e_gint, PW.e_gti, PW.e_gtt, PW.e_gst, PW.e_rev, PW.e_cls, PW.e_ty, PW.e_tup, PW.e_lst, PW.e_bin, PW.e_neg, PW.e_not, PW.e_and, PW.e_or, PW.e_cmp, PW.e_chn, PW.e_ite, PW.e_ix, PW.e_slc, PW.e_call, PW.e_callk, PW.e_blt, PW.e_mth, PW.e_lrng, PW.e_att, PW.e_hrd, PW.e_comp, PW.e_comp2, PW.t_var, PW.t_bl, PW.t_cmp, PW.t_chn, PW.t_not, PW.t_and, PW.t_or, PW.t_ite, PW.t_call, PW.t_callk, PW.t_blt, PW.t_ix, PW.a_nil, PW.a_cons, PW.a_scons, PW.p_nil, PW.p_int, PW.p_var, PW.p_bin, PW.p_neg, PW.c_cmp, PW.c_chn, PW.c_not, PW.c_and, PW.c_or, PW.c_call, PW.c_blt, PW.c_var, PW.t_int, PW.c_nil, PW.i_rng, PW.i_enm, PW.i_revd, PW.i_zp, PW.i_var, PW.i_tup, PW.i_rev, PW.i_comp, PW.i_ix, PW.i_gti, PW.i_call, PW.i_slc, PW.op_add, PW.op_sub, PW.op_mul, PW.op_fdv, PW.op_mod, PW.op_pow, PW.op_addS, PW.op_addT, PW.op_addL, PW.op_repL, PW.cm_lt, PW.cm_le, PW.cm_gt, PW.cm_ge, PW.cm_eq, PW.cm_ne, PW.cm_eqS, PW.cm_neS, PW.cm_eqT, PW.cm_neT, PW.cm_eqL, PW.cm_neL, PW.cm_inT, PW.cm_niT, PW.cm_eqB, PW.cm_isNN, PW.cm_isNE, PW.cm_isNT, PW.cm_isNI, PW.cm_noNN, PW.cm_noNE, PW.cm_noNT, PW.cm_noNI, PW.tr_bl, PW.tr_int, PW.tr_non, PW.tr_lst, PW.tr_rol, PW.tr_tup, PW.ix_rol, PW.b_abs, PW.b_int, PW.b_boolI, PW.b_boolB, PW.b_intB, PW.b_max, PW.b_min, PW.b_lenT, PW.b_lenR, PW.b_lenL, PW.b_sum, PW.b_all, PW.b_any, PW.b_sorted, PW.b_tupT, PW.b_listT, PW.b_listL, PW.b_isN, PW.b_isB, PW.b_isS, PW.b_tupL, PW.b_isI, PW.b_isT, PW.b_isE, PW.m_pop, PW.m_ext, PW.m_rev, PW.m_app, PW.g_nm, PW.g_tup, PW.g_cons, PW.g_nil, endW, startW, List.map_cons, List.map_nil, List.length_cons, List.length_nil, List.replicate, Nat.reduceAdd, Nat.reduceSub, Nat.zero_add, List.cons_append, List.nil_append, List.append_nil, List.getElem?_cons_zero, List.getElem?_cons_succ, List.set_cons_zero, List.set_cons_succ, setS, T.alen, seqL h1, wipe_8]
  intro D2 hD2
  have nD : D1 ≠ D2 := fun z => by rw [z, hD2] at h1; cases h1
  have sD2 : S D2 = none := wsub_none s1 hD2
  refine lc_fm (ι := Vl.int) (F := fun r => if QM.ev ns r % (w * p) = 0 then some (.int r) else none) (fun S' => S' D1 = some ((nxt L w p).map Vl.int)) (fun S' l j => ?_) (fun _ j => j) (nxt L w p) [] _ (fun a m S' K K2 _ hk => ?_) ?_ Sto.upd_same (by rw [List.length_nil, sizeLine_eq]; omega) ?_
  · rw [Sto.upd_ne nD]; exact j
  · have hm : 0 ≤ a ∧ a < w * p := by
      unfold nxt at m
      obtain ⟨r, mr, m⟩ := List.mem_flatMap.mp m
      obtain ⟨k, mk, rfl⟩ := List.mem_map.mp m
      have hk := List.mem_range.mp mk
      obtain ⟨r0, r1, _⟩ := (F.mem r).mp mr
      have a1 := Int.mul_nonneg (Int.le_of_lt w0) (show 0 ≤ (k : Int) by omega)
      have a2 : w * (k : Int) ≤ w * (p - 1) := Int.mul_le_mul_of_nonneg_left (by omega) (by omega)
      rw [Int.mul_sub, Int.mul_one] at a2
      omega
    simp only [PW.o_nil, PW.o_seq, PW.o_asg, PW.o_par, PW.o_asgI, PW.o_aug, PW.o_augI, PW.o_ex, PW.o_ret, PW.o_retN, PW.o_ifs, PW.o_for, PW.o_whl, PW.o_rais, PW.o_brk, PW.o_cnt, PW.o_pass, PW.e_var, PW.e_int, PW.e_bl, PW.e_non, PW.e_str, PW.e_gint, PW.e_gti, PW.e_gtt, PW.e_gst, PW.e_rev, PW.e_cls, PW.e_ty, PW.e_tup, PW.e_lst, PW.e_bin, PW.e_neg, PW.e_not, PW.e_and, PW.e_or, PW.e_cmp, PW.e_chn, PW.e_ite, PW.e_ix, PW.e_slc, PW.e_call, PW.e_callk, PW.e_blt, PW.e_mth, PW.e_lrng, PW.e_att, PW.e_hrd, PW.e_comp, PW.e_comp2, PW.t_var, PW.t_bl, PW.t_cmp, PW.t_chn, PW.t_not, PW.t_and, PW.t_or, PW.t_ite, PW.t_call, PW.t_callk, PW.t_blt, PW.t_ix, PW.a_nil, PW.a_cons, PW.a_scons, PW.p_nil, PW.p_int, PW.p_var, PW.p_bin, PW.p_neg, PW.c_cmp, PW.c_chn, PW.c_not, PW.c_and, PW.c_or, PW.c_call, PW.c_blt, PW.c_var, PW.t_int, PW.c_nil, PW.i_rng, PW.i_enm, PW.i_revd, PW.i_zp, PW.i_var, PW.i_tup, PW.i_rev, PW.i_comp, PW.i_ix, PW.i_gti, PW.i_call, PW.i_slc, PW.op_add, PW.op_sub, PW.op_mul, PW.op_fdv, PW.op_mod, PW.op_pow, PW.op_addS, PW.op_addT, PW.op_addL, PW.op_repL, PW.cm_lt, PW.cm_le, PW.cm_gt, PW.cm_ge, PW.cm_eq, PW.cm_ne, PW.cm_eqS, PW.cm_neS, PW.cm_eqT, PW.cm_neT, PW.cm_eqL, PW.cm_neL, PW.cm_inT, PW.cm_niT, PW.cm_eqB, PW.cm_isNN, PW.cm_isNE, PW.cm_isNT, PW.cm_isNI, PW.cm_noNN, PW.cm_noNE, PW.cm_noNT, PW.cm_noNI, PW.tr_bl, PW.tr_int, PW.tr_non, PW.tr_lst, PW.tr_rol, PW.tr_tup, PW.ix_rol, PW.b_abs, PW.b_int, PW.b_boolI, PW.b_boolB, PW.b_intB, PW.b_max, PW.b_min, PW.b_lenT, PW.b_lenR, PW.b_lenL, PW.b_sum, PW.b_all, PW.b_any, PW.b_sorted, PW.b_tupT, PW.b_listT, PW.b_listL, PW.b_isN, PW.b_isB, PW.b_isS, PW.b_tupL, PW.b_isI, PW.b_isT, PW.b_isE, PW.m_pop, PW.m_ext, PW.m_rev, PW.m_app, PW.g_nm, PW.g_tup, PW.g_cons, PW.g_nil, endW, startW, List.map_cons, List.map_nil, List.length_cons, List.length_nil, List.replicate, Nat.reduceAdd, Nat.reduceSub, Nat.zero_add, List.cons_append, List.nil_append, List.append_nil, List.getElem?_cons_zero, List.getElem?_cons_succ, List.set_cons_zero, List.set_cons_succ, setS, T.alen, no_ga, g15, sHby]
    refine ⟨ns, rfl, wp0, nb_up (m := 62) (by omega) (by decide), nb_up (m := 62) (by omega) (by decide), ?_⟩
    by_cases z : QM.ev ns a % (w * p) = 0
    · simp only [if_pos z] at hk
      simp only [decide_eq_true z, if_true]
      exact hk S' (wsub_refl _)
    · simp only [if_neg z] at hk
      simp only [decide_eq_false z, Bool.false_eq_true, if_false]
      exact hk
  · rw [Sto.upd_ne nD]; exact h1
  · have ef : ∀ l : List Int, l.filterMap (fun r => if QM.ev ns r % (w * p) = 0 then some (Vl.int r) else none) = (l.filter fun r => decide (QM.ev ns r % (w * p) = 0)).map Vl.int := by
      intro l
      induction l with
      | nil => rfl
      | cons a l ih =>
        rw [List.filterMap_cons, List.filter_cons]
        by_cases z : QM.ev ns a % (w * p) = 0
        · rw [if_pos z, if_pos (decide_eq_true z), ih, List.map_cons]
        · rw [if_neg z, if_neg (by simpa using z), ih]
    rw [List.nil_append, ef, Sto.upd_upd]
    have F2 := F.next w0 p0
    have fl2 := F2.len
    generalize (nxt L w p).filter (fun r => decide (QM.ev ns r % (w * p) = 0)) = L2 at F2 fl2
    refine ⟨_, Sto.upd_same, mulS (by decide) (by decide), ?_⟩
    rw [List.length_map]
    have e2 : decide (100 * 100 < (L2.length : Int)) = false := decide_eq_false (by omega)
    simp only [e2, Bool.false_eq_true, if_false]
    exact h _ D2 L2 _ _ _ (wsub_upd s1 sD2) sD2 F2 Sto.upd_same
theorem pow_le {p : Int} {j k : Nat} (hp : 2 ≤ p) (h : j ≤ k) : p ^ j ≤ p ^ k := by
  obtain ⟨d, rfl⟩ : ∃ d, k = j + d := ⟨k - j, by omega⟩
  rw [Int.pow_add]
  have h1 : 0 < p ^ j := Int.pow_pos (by omega)
  have h2 : 0 < p ^ d := Int.pow_pos (by omega)
  have := Int.mul_le_mul_of_nonneg_left (show 1 ≤ p ^ d by omega) (Int.le_of_lt h1)
  omega
theorem r17 (Γ : Nat → SpW) (ws S Q E) (g2 : Γ 2 = sLookInt 1) (g14 : Γ 14 = sNoughts) (g15 : Γ 15 = sHby) (h : sAll ws S Q E) : rdB b17 ⟨Γ, E, st.sub⟩ (endW Q) (startW N17.length ws) S := by
  unfold sAll at h
  split at h
  · rename_i ws p t
    obtain ⟨ns, rfl, hb, tf, h1, h2⟩ := h
    have hp := hb.pr.le
    rw [b17_eq]
    unfold N17
    simp only [PW.o_nil, PW.o_seq, PW.o_asg, PW.o_par, PW.o_asgI, PW.o_aug, PW.o_augI, PW.o_ex, PW.o_ret, PW.o_retN, PW.o_ifs, PW.o_for, PW.o_whl, PW.o_rais, PW.o_brk, PW.o_cnt, PW.o_pass, PW.e_var, PW.e_int, PW.e_bl, PW.e_non, PW.e_str, PW.e_gint, PW.e_gti, PW.e_gtt, PW.e_gst, PW.e_rev, PW.e_cls, PW.e_ty, PW.e_tup, PW.e_lst, PW.e_bin, PW.e_neg, PW.e_not, PW.e_and, PW.e_or, PW.e_cmp, PW.e_chn, PW.e_ite, PW.e_ix, PW.e_slc, PW.e_call, PW.e_callk, PW.e_blt, PW.e_mth, PW.e_lrng, PW.e_att, PW.e_hrd, PW.e_comp, PW.e_comp2, PW.t_var, PW.t_bl, PW.t_cmp, PW.t_chn, PW.t_not, PW.t_and, PW.t_or, PW.t_ite, PW.t_call, PW.t_callk, PW.t_blt, PW.t_ix, PW.a_nil, PW.a_cons, PW.a_scons, PW.p_nil, PW.p_int, PW.p_var, PW.p_bin, PW.p_neg, PW.c_cmp, PW.c_chn, PW.c_not, PW.c_and, PW.c_or, PW.c_call, PW.c_blt, PW.c_var, PW.t_int, PW.c_nil, PW.i_rng, PW.i_enm, PW.i_revd, PW.i_zp, PW.i_var, PW.i_tup, PW.i_rev, PW.i_comp, PW.i_ix, PW.i_gti, PW.i_call, PW.i_slc, PW.op_add, PW.op_sub, PW.op_mul, PW.op_fdv, PW.op_mod, PW.op_pow, PW.op_addS, PW.op_addT, PW.op_addL, PW.op_repL, PW.cm_lt, PW.cm_le, PW.cm_gt, PW.cm_ge, PW.cm_eq, PW.cm_ne, PW.cm_eqS, PW.cm_neS, PW.cm_eqT, PW.cm_neT, PW.cm_eqL, PW.cm_neL, PW.cm_inT, PW.cm_niT, PW.cm_eqB, PW.cm_isNN, PW.cm_isNE, PW.cm_isNT, PW.cm_isNI, PW.cm_noNN, PW.cm_noNE, PW.cm_noNT, PW.cm_noNI, PW.tr_bl, PW.tr_int, PW.tr_non, PW.tr_lst, PW.tr_rol, PW.tr_tup, PW.ix_rol, PW.b_abs, PW.b_int, PW.b_boolI, PW.b_boolB, PW.b_intB, PW.b_max, PW.b_min, PW.b_lenT, PW.b_lenR, PW.b_lenL, PW.b_sum, PW.b_all, PW.b_any, PW.b_sorted, PW.b_tupT, PW.b_listT, PW.b_listL, PW.b_isN, PW.b_isB, PW.b_isS, PW.b_tupL, PW.b_isI, PW.b_isT, PW.b_isE, PW.m_pop, PW.m_ext, PW.m_rev, PW.m_app, PW.g_nm, PW.g_tup, PW.g_cons, PW.g_nil, endW, startW, List.map_cons, List.map_nil, List.length_cons, List.length_nil, List.replicate, Nat.reduceAdd, Nat.reduceSub, Nat.zero_add, List.cons_append, List.nil_append, List.append_nil, List.getElem?_cons_zero, List.getElem?_cons_succ, List.set_cons_zero, List.set_cons_succ, setS, T.alen, g14, g2, sNoughts, sLookInt]
    refine ⟨ns, rfl, hb, tf, fun ht => ?_, h1⟩
    obtain ⟨k, rfl, k1, k2⟩ := isI_of ht
    obtain ⟨kk, rfl⟩ : ∃ m : Nat, k = (m : Int) := ⟨k.toNat, by omega⟩
    obtain ⟨h3, h4⟩ := h2 kk rfl (by omega) (by omega)
    unfold b17a
    simp only [PW.o_nil, PW.o_seq, PW.o_asg, PW.o_par, PW.o_asgI, PW.o_aug, PW.o_augI, PW.o_ex, PW.o_ret, PW.o_retN, PW.o_ifs, PW.o_for, PW.o_whl, PW.o_rais, PW.o_brk, PW.o_cnt, PW.o_pass, PW.e_var, PW.e_int, PW.e_bl, PW.e_non, PW.e_str, PW.e_gint, PW.e_gti, PW.e_gtt, PW.e_gst, PW.e_rev, PW.e_cls, PW.e_ty, PW.e_tup, PW.e_lst, PW.e_bin, PW.e_neg, PW.e_not, PW.e_and, PW.e_or, PW.e_cmp, PW.e_chn, PW.e_ite, PW.e_ix, PW.e_slc, PW.e_call, PW.e_callk, PW.e_blt, PW.e_mth, PW.e_lrng, PW.e_att, PW.e_hrd, PW.e_comp, PW.e_comp2, PW.t_var, PW.t_bl, PW.t_cmp, PW.t_chn, PW.t_not, PW.t_and, PW.t_or, PW.t_ite, PW.t_call, PW.t_callk, PW.t_blt, PW.t_ix, PW.a_nil, PW.a_cons, PW.a_scons, PW.p_nil, PW.p_int, PW.p_var, PW.p_bin, PW.p_neg, PW.c_cmp, PW.c_chn, PW.c_not, PW.c_and, PW.c_or, PW.c_call, PW.c_blt, PW.c_var, PW.t_int, PW.c_nil, PW.i_rng, PW.i_enm, PW.i_revd, PW.i_zp, PW.i_var, PW.i_tup, PW.i_rev, PW.i_comp, PW.i_ix, PW.i_gti, PW.i_call, PW.i_slc, PW.op_add, PW.op_sub, PW.op_mul, PW.op_fdv, PW.op_mod, PW.op_pow, PW.op_addS, PW.op_addT, PW.op_addL, PW.op_repL, PW.cm_lt, PW.cm_le, PW.cm_gt, PW.cm_ge, PW.cm_eq, PW.cm_ne, PW.cm_eqS, PW.cm_neS, PW.cm_eqT, PW.cm_neT, PW.cm_eqL, PW.cm_neL, PW.cm_inT, PW.cm_niT, PW.cm_eqB, PW.cm_isNN, PW.cm_isNE, PW.cm_isNT, PW.cm_isNI, PW.cm_noNN, PW.cm_noNE, PW.cm_noNT, PW.cm_noNI, PW.tr_bl, PW.tr_int, PW.tr_non, PW.tr_lst, PW.tr_rol, PW.tr_tup, PW.ix_rol, PW.b_abs, PW.b_int, PW.b_boolI, PW.b_boolB, PW.b_intB, PW.b_max, PW.b_min, PW.b_lenT, PW.b_lenR, PW.b_lenL, PW.b_sum, PW.b_all, PW.b_any, PW.b_sorted, PW.b_tupT, PW.b_listT, PW.b_listL, PW.b_isN, PW.b_isB, PW.b_isS, PW.b_tupL, PW.b_isI, PW.b_isT, PW.b_isE, PW.m_pop, PW.m_ext, PW.m_rev, PW.m_app, PW.g_nm, PW.g_tup, PW.g_cons, PW.g_nil, endW, startW, List.map_cons, List.map_nil, List.length_cons, List.length_nil, List.replicate, Nat.reduceAdd, Nat.reduceSub, Nat.zero_add, List.cons_append, List.nil_append, List.append_nil, List.getElem?_cons_zero, List.getElem?_cons_succ, List.set_cons_zero, List.set_cons_succ, setS, T.alen, rngG, newL]
    refine ⟨_, rfl, fun q hq => ⟨le_sz, trivial, ⟨by omega, by omega⟩, ?_⟩⟩
    have e8 : (rangeW 0 ((kk : Int) - 1).toNat).length = kk - 1 := by
      unfold rangeW
      rw [List.length_map, List.length_range]; omega
    generalize rangeW 0 ((kk : Int) - 1).toNat = l at e8 ⊢
    have key : ∀ (l : List Vl) (j : Nat) (L : List Int) (X : Sto) (q : Addr) (x4 x7 x8 x9 : Option Vl), j + 1 + l.length = kk → Fd ns L (p ^ (j + 1)) → wsub S X → S q = none → X q = some (L.map Vl.int) →
        forR (fun _ => True) (gP (.nm 4)) (rdB b17l ⟨Γ, E, st.sub⟩) { nx := rdB (.seq (.ret (.blt .tuple (.cons (.blt .sorted (.cons (.var 5) .nil)) .nil))) .nil) ⟨Γ, E, st.sub⟩ { nx := fun _ S => ∃ S2, wsub S2 S ∧ Q Vl.non S2, rt := Q }, rt := Q } l
          [some (iT ns), some (.int p), some (.int (kk : Nat)), some (iT (nb ns p)), x4, some (.lst q), some (.int (p ^ (j + 1))), x7, x8, x9] X := by
      intro l
      induction l with
      | nil =>
        intro j L X q x4 x7 x8 x9 hj F hs nq hq
        rw [for_nil]
        refine ⟨trivial, ?_⟩
        simp only [PW.o_nil, PW.o_seq, PW.o_asg, PW.o_par, PW.o_asgI, PW.o_aug, PW.o_augI, PW.o_ex, PW.o_ret, PW.o_retN, PW.o_ifs, PW.o_for, PW.o_whl, PW.o_rais, PW.o_brk, PW.o_cnt, PW.o_pass, PW.e_var, PW.e_int, PW.e_bl, PW.e_non, PW.e_str, PW.e_gint, PW.e_gti, PW.e_gtt, PW.e_gst, PW.e_rev, PW.e_cls, PW.e_ty, PW.e_tup, PW.e_lst, PW.e_bin, PW.e_neg, PW.e_not, PW.e_and, PW.e_or, PW.e_cmp, PW.e_chn, PW.e_ite, PW.e_ix, PW.e_slc, PW.e_call, PW.e_callk, PW.e_blt, PW.e_mth, PW.e_lrng, PW.e_att, PW.e_hrd, PW.e_comp, PW.e_comp2, PW.t_var, PW.t_bl, PW.t_cmp, PW.t_chn, PW.t_not, PW.t_and, PW.t_or, PW.t_ite, PW.t_call, PW.t_callk, PW.t_blt, PW.t_ix, PW.a_nil, PW.a_cons, PW.a_scons, PW.p_nil, PW.p_int, PW.p_var, PW.p_bin, PW.p_neg, PW.c_cmp, PW.c_chn, PW.c_not, PW.c_and, PW.c_or, PW.c_call, PW.c_blt, PW.c_var, PW.t_int, PW.c_nil, PW.i_rng, PW.i_enm, PW.i_revd, PW.i_zp, PW.i_var, PW.i_tup, PW.i_rev, PW.i_comp, PW.i_ix, PW.i_gti, PW.i_call, PW.i_slc, PW.op_add, PW.op_sub, PW.op_mul, PW.op_fdv, PW.op_mod, PW.op_pow, PW.op_addS, PW.op_addT, PW.op_addL, PW.op_repL, PW.cm_lt, PW.cm_le, PW.cm_gt, PW.cm_ge, PW.cm_eq, PW.cm_ne, PW.cm_eqS, PW.cm_neS, PW.cm_eqT, PW.cm_neT, PW.cm_eqL, PW.cm_neL, PW.cm_inT, PW.cm_niT, PW.cm_eqB, PW.cm_isNN, PW.cm_isNE, PW.cm_isNT, PW.cm_isNI, PW.cm_noNN, PW.cm_noNE, PW.cm_noNT, PW.cm_noNI, PW.tr_bl, PW.tr_int, PW.tr_non, PW.tr_lst, PW.tr_rol, PW.tr_tup, PW.ix_rol, PW.b_abs, PW.b_int, PW.b_boolI, PW.b_boolB, PW.b_intB, PW.b_max, PW.b_min, PW.b_lenT, PW.b_lenR, PW.b_lenL, PW.b_sum, PW.b_all, PW.b_any, PW.b_sorted, PW.b_tupT, PW.b_listT, PW.b_listL, PW.b_isN, PW.b_isB, PW.b_isS, PW.b_tupL, PW.b_isI, PW.b_isT, PW.b_isE, PW.m_pop, PW.m_ext, PW.m_rev, PW.m_app, PW.g_nm, PW.g_tup, PW.g_cons, PW.g_nil, endW, startW, List.map_cons, List.map_nil, List.length_cons, List.length_nil, List.replicate, Nat.reduceAdd, Nat.reduceSub, Nat.zero_add, List.cons_append, List.nil_append, List.append_nil, List.getElem?_cons_zero, List.getElem?_cons_succ, List.set_cons_zero, List.set_cons_succ, setS, T.alen, newL]
        refine ⟨L, hq, fun M pm sm r hr => ⟨_, Sto.upd_same, ?_⟩⟩
        rw [F.sorted pm sm, show j + 1 = kk by simpa using hj]
        exact ret_to (wsub_upd hs (wsub_none hs hr)) h4
      | cons v l ih =>
        intro j L X q x4 x7 x8 x9 hj F hs nq hq
        rw [List.length_cons] at hj
        rw [for_cons]
        refine ⟨trivial, ?_⟩
        simp only [PW.o_nil, PW.o_seq, PW.o_asg, PW.o_par, PW.o_asgI, PW.o_aug, PW.o_augI, PW.o_ex, PW.o_ret, PW.o_retN, PW.o_ifs, PW.o_for, PW.o_whl, PW.o_rais, PW.o_brk, PW.o_cnt, PW.o_pass, PW.e_var, PW.e_int, PW.e_bl, PW.e_non, PW.e_str, PW.e_gint, PW.e_gti, PW.e_gtt, PW.e_gst, PW.e_rev, PW.e_cls, PW.e_ty, PW.e_tup, PW.e_lst, PW.e_bin, PW.e_neg, PW.e_not, PW.e_and, PW.e_or, PW.e_cmp, PW.e_chn, PW.e_ite, PW.e_ix, PW.e_slc, PW.e_call, PW.e_callk, PW.e_blt, PW.e_mth, PW.e_lrng, PW.e_att, PW.e_hrd, PW.e_comp, PW.e_comp2, PW.t_var, PW.t_bl, PW.t_cmp, PW.t_chn, PW.t_not, PW.t_and, PW.t_or, PW.t_ite, PW.t_call, PW.t_callk, PW.t_blt, PW.t_ix, PW.a_nil, PW.a_cons, PW.a_scons, PW.p_nil, PW.p_int, PW.p_var, PW.p_bin, PW.p_neg, PW.c_cmp, PW.c_chn, PW.c_not, PW.c_and, PW.c_or, PW.c_call, PW.c_blt, PW.c_var, PW.t_int, PW.c_nil, PW.i_rng, PW.i_enm, PW.i_revd, PW.i_zp, PW.i_var, PW.i_tup, PW.i_rev, PW.i_comp, PW.i_ix, PW.i_gti, PW.i_call, PW.i_slc, PW.op_add, PW.op_sub, PW.op_mul, PW.op_fdv, PW.op_mod, PW.op_pow, PW.op_addS, PW.op_addT, PW.op_addL, PW.op_repL, PW.cm_lt, PW.cm_le, PW.cm_gt, PW.cm_ge, PW.cm_eq, PW.cm_ne, PW.cm_eqS, PW.cm_neS, PW.cm_eqT, PW.cm_neT, PW.cm_eqL, PW.cm_neL, PW.cm_inT, PW.cm_niT, PW.cm_eqB, PW.cm_isNN, PW.cm_isNE, PW.cm_isNT, PW.cm_isNI, PW.cm_noNN, PW.cm_noNE, PW.cm_noNT, PW.cm_noNI, PW.tr_bl, PW.tr_int, PW.tr_non, PW.tr_lst, PW.tr_rol, PW.tr_tup, PW.ix_rol, PW.b_abs, PW.b_int, PW.b_boolI, PW.b_boolB, PW.b_intB, PW.b_max, PW.b_min, PW.b_lenT, PW.b_lenR, PW.b_lenL, PW.b_sum, PW.b_all, PW.b_any, PW.b_sorted, PW.b_tupT, PW.b_listT, PW.b_listL, PW.b_isN, PW.b_isB, PW.b_isS, PW.b_tupL, PW.b_isI, PW.b_isT, PW.b_isE, PW.m_pop, PW.m_ext, PW.m_rev, PW.m_app, PW.g_nm, PW.g_tup, PW.g_cons, PW.g_nil, endW, startW, List.map_cons, List.map_nil, List.length_cons, List.length_nil, List.replicate, Nat.reduceAdd, Nat.reduceSub, Nat.zero_add, List.cons_append, List.nil_append, List.append_nil, List.getElem?_cons_zero, List.getElem?_cons_succ, List.set_cons_zero, List.set_cons_succ, setS, T.alen]
        have es : p ^ (j + 1) * p = p ^ (j + 1 + 1) := (Int.pow_succ ..).symm
        refine r17l g15 hp (Int.pow_pos (by omega)) (by rw [es]; exact Int.le_trans (pow_le hp.1 (by omega)) h3) F hs hq nq fun X' q' L' o7 o8 o9 a b c d => ?_
        rw [es] at c ⊢
        exact less_same (ih (j + 1) L' X' q' _ _ _ _ (by omega) c a b d)
    have := key l 0 (nb ns p) (S.upd q ((nb ns p).map Vl.int)) q none none none none (by omega) (by rw [Nat.zero_add, Int.pow_succ, Int.pow_zero, Int.one_mul]; exact Fd.nb ns p) (wsub_upd (wsub_refl S) hq) hq Sto.upd_same
    rw [Nat.zero_add, Int.pow_succ, Int.pow_zero, Int.one_mul] at this
    exact this
  · exact h.elim

end LW

set_option Elab.async false
set_option linter.all false
set_option maxRecDepth 100000
set_option maxHeartbeats 2000000
set_option exponentiation.threshold 100000
namespace LW
open PySem PySem.Spec PyProof.Rows L2 PW LQ KM
def b31d : B := (.seq (.asg (.nm 7) (.call 20 (.cons (.var 0) (.cons (.lst (.cons (.int 0) (.cons (.int 101) (.cons .non (.cons (.bl true) (.cons (.str "1") .nil)))))) .nil)))) (.seq (.asg (.nm 8) (.ix (.hrd (.call 16 (.cons (.var 1) (.cons (.var 2) (.cons (.var 4) (.cons (.var 7) .nil)))))) (.int 0))) (.seq (.ifs (.or (.not (.blt .isi (.cons (.var 8) (.cons (.cls 1) .nil)))) (.cmp .NotEq (.blt .repr (.cons (.att (.var 8)) .nil)) (.blt .repr (.cons (.var 7) .nil)))) (.seq (.ret (.bl false)) .nil) .nil) .nil)))
def b31c : B := (.seq (.asg (.nm 6) (.call 30 (.cons (.var 2) (.cons (.var 5) .nil)))) (.seq (.ifs (.or (.not (.call 22 (.cons (.var 11) (.cons (.int 0) (.cons (.bin .Sub (.var 6) (.int 1)) .nil))))) (.or (.cmp .NotEq (.bin .Mod (.var 11) (.var 2)) (.var 4)) (.cmp .NotEq (.bin .Mod (.call 29 (.cons (.var 1) (.cons (.var 11) .nil))) (.var 6)) (.int 0)))) (.seq (.ret (.bl false)) .nil) .nil) b31d))
def b31b : B := (.seq (.ifs (.cmp .Eq (.bin .Mod (.call 29 (.cons (.call 27 (.cons (.var 1) .nil)) (.cons (.var 4) .nil))) (.var 2)) (.int 0)) (.seq (.ifs (.or (.not (.blt .isi (.cons (.var 8) (.cons (.cls 4) .nil)))) (.cmp .NotEq (.blt .repr (.cons (.att (.var 8)) .nil)) (.blt .repr (.cons (.var 4) .nil)))) (.seq (.ret (.bl false)) .nil) .nil) (.seq .cnt .nil)) .nil) b31c)
def b31l : B := (.seq (.asg (.nm 5) (.blt .int (.cons (.bin .Add (.int 1) (.call 20 (.cons (.var 0) (.cons (.lst (.cons (.int 0) (.cons (.int 1) (.cons (.int 2) (.cons (.int 5) (.cons (.int 20) (.cons (.int 99) .nil))))))) .nil)))) .nil))) (.seq (.asg (.tup (.cons (.nm 8) (.cons (.nm 11) .nil))) (.hrd (.callk 16 (.cons (.var 1) (.cons (.var 2) .nil)) (.cons (.var 4) (.cons (.var 5) .nil))))) b31b))
def b31v : B := (.seq (.asg (.nm 8) (.ix (.hrd (.call 16 (.cons (.var 1) (.cons (.var 2) (.cons (.var 7) (.cons .non .nil)))))) (.int 0))) (.seq (.asg (.nm 9) (.ix (.hrd (.call 17 (.cons (.var 1) (.cons (.var 2) (.cons (.int 0) .nil))))) (.int 0))) (.seq (.ifs (.or (.not (.blt .isi (.cons (.var 9) (.cons (.cls 1) .nil)))) (.cmp .NotEq (.blt .repr (.cons (.att (.var 9)) .nil)) (.str "0"))) (.seq (.ret (.bl false)) .nil) .nil) (.seq (.ret (.and (.blt .isi (.cons (.var 8) (.cons (.cls 1) .nil))) (.cmp .Eq (.blt .repr (.cons (.att (.var 8)) .nil)) (.blt .repr (.cons (.var 7) .nil))))) .nil))))
def b31u : B := (.seq (.asg (.nm 7) (.call 20 (.cons (.var 0) (.cons (.bin .Add (.lst (.cons (.neg (.int 1)) (.cons (.var 2) (.cons .non (.cons (.bl true) (.cons (.str "0") .nil)))))) (.slc (.comp (.var 12) (.nm 12) (.rng (.cons (.var 2) .nil)) (.cmp .NotIn (.var 12) (.var 3)) [("rest", 12)]) .nil (.int 3))) .nil)))) b31v)
def b31t : B := (.seq (.asg (.nm 5) (.blt .int (.cons (.bin .Add (.int 1) (.call 19 (.cons (.var 0) (.cons (.int 4) .nil)))) .nil))) (.seq (.asg (.nm 6) (.call 30 (.cons (.var 2) (.cons (.var 5) .nil)))) (.seq (.ifs (.cmp .LtE (.var 6) (.int 400)) (.seq (.asg (.nm 10) (.blt .tuple (.cons (.comp (.var 12) (.nm 12) (.rng (.cons (.var 6) .nil)) (.cmp .Eq (.bin .Mod (.call 29 (.cons (.var 1) (.cons (.var 12) .nil))) (.var 6)) (.int 0)) [("rest", 12)]) .nil))) (.seq (.ifs (.cmp .NotEq (.blt .repr (.cons (.callk 17 (.cons (.var 1) (.cons (.var 2) .nil)) (.cons (.var 5) .nil)) .nil)) (.blt .repr (.cons (.var 10) .nil))) (.seq (.ret (.bl false)) .nil) .nil) .nil)) .nil) b31u)))
theorem b31_eq : b31 = (.seq (.asg (.nm 3) (.call 14 (.cons (.var 1) (.cons (.var 2) .nil)))) (.seq (.for (.nm 4) (.slc (.var 3) .nil (.int 3)) b31l) b31t)) := rfl
theorem inV_ints {a : Int} {ns : List Int} : inV (Vl.int a).fl ((ns.map Vl.int).map Vl.fl) = decide (a ∈ ns) := by
  unfold inV
  induction ns with
  | nil => rfl
  | cons n ns ih =>
    rw [List.map_cons, List.map_cons, List.any_cons, ih]
    show (n == a || decide (a ∈ ns)) = _
    rw [Bool.eq_iff_iff, Bool.or_eq_true, beq_iff_eq, decide_eq_true_iff, decide_eq_true_iff, List.mem_cons]
    exact ⟨fun z => z.imp Eq.symm id, fun z => z.imp Eq.symm id⟩
structure Dc (cs : List Int) (p : Int) : Prop where
  by_ : By cs p
  len : cs.length ≤ 5
  bd : QM.Bd cs 400000
theorem Dc.of {cs : List Int} {p : Int} (h : Drawn 4 cs) (hp : Pr p) (hs : ∃ a ∈ cs, a % p ≠ 0) : Dc cs p := by
  have h1 := h.l1
  have h2 := h.l2
  have hb : QM.Bd cs 400000 := h.bd.mono (by decide)
  have hn : cs ≠ [] := fun z => by rw [z] at h1; cases h1
  exact ⟨⟨⟨fun q => by rw [← QM.co_last q]; exact h.last, by omega, fun a m => Nat.le_trans (hb a m) (by decide)⟩, hn, hp, hs⟩, h2, hb⟩
theorem sub44 : st.sub 4 4 = true := by decide
theorem sub11 : st.sub 1 1 = true := by decide
/-- behind the right answer -/
theorem r31d {Γ : Nat → SpW} {E : WK} {D : WEn} {S X : Sto} {cs : List Int} {p n : Int} {a : Addr} {c : Int} {x3 x5 x6 x7 x8 x9 x10 x11 x12 : Option Vl} (g16 : Γ 16 = sLifted) (g20 : Γ 20 = sOf) (dc : Dc cs p) (n0 : 0 ≤ n) (n1 : n < p) (hn : QM.ev cs n % p = 0) (hz : QM.dv cs n % p ≠ 0)
    (hc : c ≤ 10 ^ 5) (hcp : Cp S a X) (hp : Pot X a c) (h : ∀ X' x7 x8, Cp S a X' → Pot X' a (c + 1) → D.nx [some (.lst a), some (iT cs), some (.int p), x3, some (.int n), x5, x6, x7, x8, x9, x10, x11, x12] X') :
    rdB b31d ⟨Γ, E, st.sub⟩ D [some (.lst a), some (iT cs), some (.int p), x3, some (.int n), x5, x6, x7, x8, x9, x10, x11, x12] X := by
  unfold b31d
  simp only [PW.o_nil, PW.o_seq, PW.o_asg, PW.o_par, PW.o_asgI, PW.o_aug, PW.o_augI, PW.o_ex, PW.o_ret, PW.o_retN, PW.o_ifs, PW.o_for, PW.o_whl, PW.o_rais, PW.o_brk, PW.o_cnt, PW.o_pass, PW.e_var, PW.e_int, PW.e_bl, PW.e_non, PW.e_str, PW.e_gint, PW.e_gti, PW.e_gtt, PW.e_gst, PW.e_rev, PW.e_cls, PW.e_ty, PW.e_tup, PW.e_lst, PW.e_bin, PW.e_neg, PW.e_not, PW.e_and, PW.e_or, PW.e_cmp, PW.e_chn, PW.e_ite, PW.e_ix, PW.e_slc, PW.e_call, PW.e_callk, PW.e_blt, PW.e_mth, PW.e_lrng, PW.e_att, PW.e_hrd, PW.e_comp, PW.e_comp2, PW.t_var, PW.t_bl, PW.t_cmp, PW.t_chn, PW.t_not, PW.t_and, PW.t_or, PW.t_ite, PW.t_call, PW.t_callk, PW.t_blt, PW.t_ix, PW.a_nil, PW.a_cons, PW.a_scons, PW.p_nil, PW.p_int, PW.p_var, PW.p_bin, PW.p_neg, PW.c_cmp, PW.c_chn, PW.c_not, PW.c_and, PW.c_or, PW.c_call, PW.c_blt, PW.c_var, PW.t_int, PW.c_nil, PW.i_rng, PW.i_enm, PW.i_revd, PW.i_zp, PW.i_var, PW.i_tup, PW.i_rev, PW.i_comp, PW.i_ix, PW.i_gti, PW.i_call, PW.i_slc, PW.op_add, PW.op_sub, PW.op_mul, PW.op_fdv, PW.op_mod, PW.op_pow, PW.op_addS, PW.op_addT, PW.op_addL, PW.op_repL, PW.cm_lt, PW.cm_le, PW.cm_gt, PW.cm_ge, PW.cm_eq, PW.cm_ne, PW.cm_eqS, PW.cm_neS, PW.cm_eqT, PW.cm_neT, PW.cm_eqL, PW.cm_neL, PW.cm_inT, PW.cm_niT, PW.cm_eqB, PW.cm_isNN, PW.cm_isNE, PW.cm_isNT, PW.cm_isNI, PW.cm_noNN, PW.cm_noNE, PW.cm_noNT, PW.cm_noNI, PW.tr_bl, PW.tr_int, PW.tr_non, PW.tr_lst, PW.tr_rol, PW.tr_tup, PW.ix_rol, PW.b_abs, PW.b_int, PW.b_boolI, PW.b_boolB, PW.b_intB, PW.b_max, PW.b_min, PW.b_lenT, PW.b_lenR, PW.b_lenL, PW.b_sum, PW.b_all, PW.b_any, PW.b_sorted, PW.b_tupT, PW.b_listT, PW.b_listL, PW.b_isN, PW.b_isB, PW.b_isS, PW.b_tupL, PW.b_isI, PW.b_isT, PW.b_isE, PW.m_pop, PW.m_ext, PW.m_rev, PW.m_app, PW.g_nm, PW.g_tup, PW.g_cons, PW.g_nil, endW, startW, List.map_cons, List.map_nil, List.length_cons, List.length_nil, List.replicate, Nat.reduceAdd, Nat.reduceSub, Nat.zero_add, List.cons_append, List.nil_append, List.append_nil, List.getElem?_cons_zero, List.getElem?_cons_succ, List.set_cons_zero, List.set_cons_succ, setS, T.alen, newL, g20, sOf]
  refine ⟨le_sz5, fun q hq => ⟨(hp.new (l := []) hq).2, c, by omega, (hp.new hq).1, _, Sto.upd_same, by decide, by decide, fun w w1 hw hp1 => ?_⟩⟩
  have c1 := (hcp.new (ws := [.int 0, .int 101, .non, .bl true, .str "1"]) hq).upd (ws := w1)
  generalize (X.upd q [.int 0, .int 101, .non, .bl true, .str "1"]).upd a w1 = X1 at c1 hp1
  obtain ⟨wf, wi, x, hx⟩ : w.flat = true ∧ isI w 1 100 = false ∧ ∃ x, Rp w x := by
    simp only [List.mem_cons, List.not_mem_nil, or_false] at hw
    rcases hw with rfl | rfl | rfl | rfl | rfl
    · exact ⟨rfl, rfl, _, rp_int (by decide)⟩
    · exact ⟨rfl, rfl, _, rp_int (by decide)⟩
    · exact ⟨rfl, rfl, _, rp_non⟩
    · exact ⟨rfl, rfl, _, rp_bl _⟩
    · exact ⟨rfl, rfl, _, rp_1⟩
  simp only [PW.o_nil, PW.o_seq, PW.o_asg, PW.o_par, PW.o_asgI, PW.o_aug, PW.o_augI, PW.o_ex, PW.o_ret, PW.o_retN, PW.o_ifs, PW.o_for, PW.o_whl, PW.o_rais, PW.o_brk, PW.o_cnt, PW.o_pass, PW.e_var, PW.e_int, PW.e_bl, PW.e_non, PW.e_str, PW.e_gint, PW.e_gti, PW.e_gtt, PW.e_gst, PW.e_rev, PW.e_cls, PW.e_ty, PW.e_tup, PW.e_lst, PW.e_bin, PW.e_neg, PW.e_not, PW.e_and, PW.e_or, PW.e_cmp, PW.e_chn, PW.e_ite, PW.e_ix, PW.e_slc, PW.e_call, PW.e_callk, PW.e_blt, PW.e_mth, PW.e_lrng, PW.e_att, PW.e_hrd, PW.e_comp, PW.e_comp2, PW.t_var, PW.t_bl, PW.t_cmp, PW.t_chn, PW.t_not, PW.t_and, PW.t_or, PW.t_ite, PW.t_call, PW.t_callk, PW.t_blt, PW.t_ix, PW.a_nil, PW.a_cons, PW.a_scons, PW.p_nil, PW.p_int, PW.p_var, PW.p_bin, PW.p_neg, PW.c_cmp, PW.c_chn, PW.c_not, PW.c_and, PW.c_or, PW.c_call, PW.c_blt, PW.c_var, PW.t_int, PW.c_nil, PW.i_rng, PW.i_enm, PW.i_revd, PW.i_zp, PW.i_var, PW.i_tup, PW.i_rev, PW.i_comp, PW.i_ix, PW.i_gti, PW.i_call, PW.i_slc, PW.op_add, PW.op_sub, PW.op_mul, PW.op_fdv, PW.op_mod, PW.op_pow, PW.op_addS, PW.op_addT, PW.op_addL, PW.op_repL, PW.cm_lt, PW.cm_le, PW.cm_gt, PW.cm_ge, PW.cm_eq, PW.cm_ne, PW.cm_eqS, PW.cm_neS, PW.cm_eqT, PW.cm_neT, PW.cm_eqL, PW.cm_neL, PW.cm_inT, PW.cm_niT, PW.cm_eqB, PW.cm_isNN, PW.cm_isNE, PW.cm_isNT, PW.cm_isNI, PW.cm_noNN, PW.cm_noNE, PW.cm_noNT, PW.cm_noNI, PW.tr_bl, PW.tr_int, PW.tr_non, PW.tr_lst, PW.tr_rol, PW.tr_tup, PW.ix_rol, PW.b_abs, PW.b_int, PW.b_boolI, PW.b_boolB, PW.b_intB, PW.b_max, PW.b_min, PW.b_lenT, PW.b_lenR, PW.b_lenL, PW.b_sum, PW.b_all, PW.b_any, PW.b_sorted, PW.b_tupT, PW.b_listT, PW.b_listL, PW.b_isN, PW.b_isB, PW.b_isS, PW.b_tupL, PW.b_isI, PW.b_isT, PW.b_isE, PW.m_pop, PW.m_ext, PW.m_rev, PW.m_app, PW.g_nm, PW.g_tup, PW.g_cons, PW.g_nil, endW, startW, List.map_cons, List.map_nil, List.length_cons, List.length_nil, List.replicate, Nat.reduceAdd, Nat.reduceSub, Nat.zero_add, List.cons_append, List.nil_append, List.append_nil, List.getElem?_cons_zero, List.getElem?_cons_succ, List.set_cons_zero, List.set_cons_succ, setS, T.alen, g16, sLifted]
  refine ⟨cs, rfl, dc.by_, rfl, fun z => absurd ⟨n, rfl, n0, n1, hn⟩ z, fun m e m0 m1 hm => ?_⟩
  cases e
  refine ⟨fun z => absurd z hz, fun _ => ⟨wf, fun _ => ?_, fun k e k1 k2 => ?_⟩⟩
  · unfold Rp at hx
    simp only [PW.o_nil, PW.o_seq, PW.o_asg, PW.o_par, PW.o_asgI, PW.o_aug, PW.o_augI, PW.o_ex, PW.o_ret, PW.o_retN, PW.o_ifs, PW.o_for, PW.o_whl, PW.o_rais, PW.o_brk, PW.o_cnt, PW.o_pass, PW.e_var, PW.e_int, PW.e_bl, PW.e_non, PW.e_str, PW.e_gint, PW.e_gti, PW.e_gtt, PW.e_gst, PW.e_rev, PW.e_cls, PW.e_ty, PW.e_tup, PW.e_lst, PW.e_bin, PW.e_neg, PW.e_not, PW.e_and, PW.e_or, PW.e_cmp, PW.e_chn, PW.e_ite, PW.e_ix, PW.e_slc, PW.e_call, PW.e_callk, PW.e_blt, PW.e_mth, PW.e_lrng, PW.e_att, PW.e_hrd, PW.e_comp, PW.e_comp2, PW.t_var, PW.t_bl, PW.t_cmp, PW.t_chn, PW.t_not, PW.t_and, PW.t_or, PW.t_ite, PW.t_call, PW.t_callk, PW.t_blt, PW.t_ix, PW.a_nil, PW.a_cons, PW.a_scons, PW.p_nil, PW.p_int, PW.p_var, PW.p_bin, PW.p_neg, PW.c_cmp, PW.c_chn, PW.c_not, PW.c_and, PW.c_or, PW.c_call, PW.c_blt, PW.c_var, PW.t_int, PW.c_nil, PW.i_rng, PW.i_enm, PW.i_revd, PW.i_zp, PW.i_var, PW.i_tup, PW.i_rev, PW.i_comp, PW.i_ix, PW.i_gti, PW.i_call, PW.i_slc, PW.op_add, PW.op_sub, PW.op_mul, PW.op_fdv, PW.op_mod, PW.op_pow, PW.op_addS, PW.op_addT, PW.op_addL, PW.op_repL, PW.cm_lt, PW.cm_le, PW.cm_gt, PW.cm_ge, PW.cm_eq, PW.cm_ne, PW.cm_eqS, PW.cm_neS, PW.cm_eqT, PW.cm_neT, PW.cm_eqL, PW.cm_neL, PW.cm_inT, PW.cm_niT, PW.cm_eqB, PW.cm_isNN, PW.cm_isNE, PW.cm_isNT, PW.cm_isNI, PW.cm_noNN, PW.cm_noNE, PW.cm_noNT, PW.cm_noNI, PW.tr_bl, PW.tr_int, PW.tr_non, PW.tr_lst, PW.tr_rol, PW.tr_tup, PW.ix_rol, PW.b_abs, PW.b_int, PW.b_boolI, PW.b_boolB, PW.b_intB, PW.b_max, PW.b_min, PW.b_lenT, PW.b_lenR, PW.b_lenL, PW.b_sum, PW.b_all, PW.b_any, PW.b_sorted, PW.b_tupT, PW.b_listT, PW.b_listL, PW.b_isN, PW.b_isB, PW.b_isS, PW.b_tupL, PW.b_isI, PW.b_isT, PW.b_isE, PW.m_pop, PW.m_ext, PW.m_rev, PW.m_app, PW.g_nm, PW.g_tup, PW.g_cons, PW.g_nil, endW, startW, List.map_cons, List.map_nil, List.length_cons, List.length_nil, List.replicate, Nat.reduceAdd, Nat.reduceSub, Nat.zero_add, List.cons_append, List.nil_append, List.append_nil, List.getElem?_cons_zero, List.getElem?_cons_succ, List.set_cons_zero, List.set_cons_succ, setS, T.alen, ixT0, sub11, hx, if_true, decide_true, Bool.not_true, Bool.false_eq_true, if_false]
    exact h X1 _ _ c1 hp1
  · rw [e, isI_int, decide_eq_true (show (1 : Int) ≤ (k : Int) by omega), decide_eq_true (show (k : Int) ≤ 100 by omega)] at wi
    cases wi
theorem r31c {Γ : Nat → SpW} {E : WK} {D : WEn} {S X : Sto} {cs : List Int} {p n r : Int} {k : Nat} {a : Addr} {c : Int} {x3 x6 x7 x8 x9 x10 x12 : Option Vl} (g16 : Γ 16 = sLifted) (g20 : Γ 20 = sOf) (g22 : Γ 22 = sIsInt) (g29 : Γ 29 = sAt) (g30 : Γ 30 = sWhole) (dc : Dc cs p) (n0 : 0 ≤ n) (n1 : n < p) (hn : QM.ev cs n % p = 0) (hz : QM.dv cs n % p ≠ 0)
    (k1 : 1 ≤ k) (k2 : k ≤ 100) (r0 : 0 ≤ r) (r1 : r < p ^ k) (r2 : r % p = n) (r3 : QM.ev cs r % p ^ k = 0)
    (hc : c ≤ 10 ^ 5) (hcp : Cp S a X) (hp : Pot X a c) (h : ∀ X' x6 x7 x8, Cp S a X' → Pot X' a (c + 1) → D.nx [some (.lst a), some (iT cs), some (.int p), x3, some (.int n), some (.int (k : Nat)), x6, x7, x8, x9, x10, some (.int r), x12] X') :
    rdB b31c ⟨Γ, E, st.sub⟩ D [some (.lst a), some (iT cs), some (.int p), x3, some (.int n), some (.int (k : Nat)), x6, x7, x8, x9, x10, some (.int r), x12] X := by
  have hp2 := dc.by_.pr.le
  have P := pow_sm (p := p) (k := k) (by omega) hp2.2 (by omega)
  have l5 := dc.len
  unfold b31c
  simp only [PW.o_nil, PW.o_seq, PW.o_asg, PW.o_par, PW.o_asgI, PW.o_aug, PW.o_augI, PW.o_ex, PW.o_ret, PW.o_retN, PW.o_ifs, PW.o_for, PW.o_whl, PW.o_rais, PW.o_brk, PW.o_cnt, PW.o_pass, PW.e_var, PW.e_int, PW.e_bl, PW.e_non, PW.e_str, PW.e_gint, PW.e_gti, PW.e_gtt, PW.e_gst, PW.e_rev, PW.e_cls, PW.e_ty, PW.e_tup, PW.e_lst, PW.e_bin, PW.e_neg, PW.e_not, PW.e_and, PW.e_or, PW.e_cmp, PW.e_chn, PW.e_ite, PW.e_ix, PW.e_slc, PW.e_call, PW.e_callk, PW.e_blt, PW.e_mth, PW.e_lrng, PW.e_att, PW.e_hrd, PW.e_comp, PW.e_comp2, PW.t_var, PW.t_bl, PW.t_cmp, PW.t_chn, PW.t_not, PW.t_and, PW.t_or, PW.t_ite, PW.t_call, PW.t_callk, PW.t_blt, PW.t_ix, PW.a_nil, PW.a_cons, PW.a_scons, PW.p_nil, PW.p_int, PW.p_var, PW.p_bin, PW.p_neg, PW.c_cmp, PW.c_chn, PW.c_not, PW.c_and, PW.c_or, PW.c_call, PW.c_blt, PW.c_var, PW.t_int, PW.c_nil, PW.i_rng, PW.i_enm, PW.i_revd, PW.i_zp, PW.i_var, PW.i_tup, PW.i_rev, PW.i_comp, PW.i_ix, PW.i_gti, PW.i_call, PW.i_slc, PW.op_add, PW.op_sub, PW.op_mul, PW.op_fdv, PW.op_mod, PW.op_pow, PW.op_addS, PW.op_addT, PW.op_addL, PW.op_repL, PW.cm_lt, PW.cm_le, PW.cm_gt, PW.cm_ge, PW.cm_eq, PW.cm_ne, PW.cm_eqS, PW.cm_neS, PW.cm_eqT, PW.cm_neT, PW.cm_eqL, PW.cm_neL, PW.cm_inT, PW.cm_niT, PW.cm_eqB, PW.cm_isNN, PW.cm_isNE, PW.cm_isNT, PW.cm_isNI, PW.cm_noNN, PW.cm_noNE, PW.cm_noNT, PW.cm_noNI, PW.tr_bl, PW.tr_int, PW.tr_non, PW.tr_lst, PW.tr_rol, PW.tr_tup, PW.ix_rol, PW.b_abs, PW.b_int, PW.b_boolI, PW.b_boolB, PW.b_intB, PW.b_max, PW.b_min, PW.b_lenT, PW.b_lenR, PW.b_lenL, PW.b_sum, PW.b_all, PW.b_any, PW.b_sorted, PW.b_tupT, PW.b_listT, PW.b_listL, PW.b_isN, PW.b_isB, PW.b_isS, PW.b_tupL, PW.b_isI, PW.b_isT, PW.b_isE, PW.m_pop, PW.m_ext, PW.m_rev, PW.m_app, PW.g_nm, PW.g_tup, PW.g_cons, PW.g_nil, endW, startW, List.map_cons, List.map_nil, List.length_cons, List.length_nil, List.replicate, Nat.reduceAdd, Nat.reduceSub, Nat.zero_add, List.cons_append, List.nil_append, List.append_nil, List.getElem?_cons_zero, List.getElem?_cons_succ, List.set_cons_zero, List.set_cons_succ, setS, T.alen, g30, sWhole, g22, sIsInt]
  refine ⟨k, rfl, k2, by omega, hp2.2, rfl, ?_⟩
  rw [isI_int, decide_eq_true r0, decide_eq_true (show r ≤ p ^ k - 1 by omega)]
  simp only [Bool.and_self, Bool.not_true, Bool.false_eq_true, if_false]
  rw [Int.fmod_eq_emod_of_nonneg _ (by omega)]
  refine ⟨by omega, ?_⟩
  simp only [decide_eq_true r2, Bool.not_true, Bool.false_eq_true, if_false]
  simp only [PW.o_nil, PW.o_seq, PW.o_asg, PW.o_par, PW.o_asgI, PW.o_aug, PW.o_augI, PW.o_ex, PW.o_ret, PW.o_retN, PW.o_ifs, PW.o_for, PW.o_whl, PW.o_rais, PW.o_brk, PW.o_cnt, PW.o_pass, PW.e_var, PW.e_int, PW.e_bl, PW.e_non, PW.e_str, PW.e_gint, PW.e_gti, PW.e_gtt, PW.e_gst, PW.e_rev, PW.e_cls, PW.e_ty, PW.e_tup, PW.e_lst, PW.e_bin, PW.e_neg, PW.e_not, PW.e_and, PW.e_or, PW.e_cmp, PW.e_chn, PW.e_ite, PW.e_ix, PW.e_slc, PW.e_call, PW.e_callk, PW.e_blt, PW.e_mth, PW.e_lrng, PW.e_att, PW.e_hrd, PW.e_comp, PW.e_comp2, PW.t_var, PW.t_bl, PW.t_cmp, PW.t_chn, PW.t_not, PW.t_and, PW.t_or, PW.t_ite, PW.t_call, PW.t_callk, PW.t_blt, PW.t_ix, PW.a_nil, PW.a_cons, PW.a_scons, PW.p_nil, PW.p_int, PW.p_var, PW.p_bin, PW.p_neg, PW.c_cmp, PW.c_chn, PW.c_not, PW.c_and, PW.c_or, PW.c_call, PW.c_blt, PW.c_var, PW.t_int, PW.c_nil, PW.i_rng, PW.i_enm, PW.i_revd, PW.i_zp, PW.i_var, PW.i_tup, PW.i_rev, PW.i_comp, PW.i_ix, PW.i_gti, PW.i_call, PW.i_slc, PW.op_add, PW.op_sub, PW.op_mul, PW.op_fdv, PW.op_mod, PW.op_pow, PW.op_addS, PW.op_addT, PW.op_addL, PW.op_repL, PW.cm_lt, PW.cm_le, PW.cm_gt, PW.cm_ge, PW.cm_eq, PW.cm_ne, PW.cm_eqS, PW.cm_neS, PW.cm_eqT, PW.cm_neT, PW.cm_eqL, PW.cm_neL, PW.cm_inT, PW.cm_niT, PW.cm_eqB, PW.cm_isNN, PW.cm_isNE, PW.cm_isNT, PW.cm_isNI, PW.cm_noNN, PW.cm_noNE, PW.cm_noNT, PW.cm_noNI, PW.tr_bl, PW.tr_int, PW.tr_non, PW.tr_lst, PW.tr_rol, PW.tr_tup, PW.ix_rol, PW.b_abs, PW.b_int, PW.b_boolI, PW.b_boolB, PW.b_intB, PW.b_max, PW.b_min, PW.b_lenT, PW.b_lenR, PW.b_lenL, PW.b_sum, PW.b_all, PW.b_any, PW.b_sorted, PW.b_tupT, PW.b_listT, PW.b_listL, PW.b_isN, PW.b_isB, PW.b_isS, PW.b_tupL, PW.b_isI, PW.b_isT, PW.b_isE, PW.m_pop, PW.m_ext, PW.m_rev, PW.m_app, PW.g_nm, PW.g_tup, PW.g_cons, PW.g_nil, endW, startW, List.map_cons, List.map_nil, List.length_cons, List.length_nil, List.replicate, Nat.reduceAdd, Nat.reduceSub, Nat.zero_add, List.cons_append, List.nil_append, List.append_nil, List.getElem?_cons_zero, List.getElem?_cons_succ, List.set_cons_zero, List.set_cons_succ, setS, T.alen, g29, sAt]
  refine ⟨cs, rfl, by omega, ⟨700, by decide, fun b m => ?_, by omega⟩, ?_⟩
  · have := dc.bd b m
    exact nb_up (m := 62) (by omega) (by decide)
  rw [Int.fmod_eq_emod_of_nonneg _ (by omega)]
  refine ⟨by omega, ?_⟩
  simp only [decide_eq_true r3, Bool.not_true, Bool.false_eq_true, if_false]
  exact r31d g16 g20 dc n0 n1 hn hz hc hcp hp fun X' x7 x8 => h X' _ _ _
/-- one nought looked at -/
theorem r31l {Γ : Nat → SpW} {E : WK} {D : WEn} {S X : Sto} {cs : List Int} {p n : Int} {a : Addr} {c : Int} {x3 x5 x6 x7 x8 x9 x10 x11 x12 : Option Vl} (g16 : Γ 16 = sLifted) (g20 : Γ 20 = sOf) (g22 : Γ 22 = sIsInt) (g27 : Γ 27 = sSlope) (g29 : Γ 29 = sAt) (g30 : Γ 30 = sWhole) (dc : Dc cs p) (n0 : 0 ≤ n) (n1 : n < p) (hn : QM.ev cs n % p = 0)
    (hc : c + 2 ≤ 10 ^ 5) (hcp : Cp S a X) (hp : Pot X a c) (h : ∀ X' x5 x6 x7 x8 x11, Cp S a X' → Pot X' a (c + 2) → D.nx [some (.lst a), some (iT cs), some (.int p), x3, some (.int n), x5, x6, x7, x8, x9, x10, x11, x12] X' ∧ D.ct [some (.lst a), some (iT cs), some (.int p), x3, some (.int n), x5, x6, x7, x8, x9, x10, x11, x12] X') :
    rdB b31l ⟨Γ, E, st.sub⟩ D [some (.lst a), some (iT cs), some (.int p), x3, some (.int n), x5, x6, x7, x8, x9, x10, x11, x12] X := by
  have hp2 := dc.by_.pr.le
  have l5 := dc.len
  unfold b31l
  simp only [PW.o_nil, PW.o_seq, PW.o_asg, PW.o_par, PW.o_asgI, PW.o_aug, PW.o_augI, PW.o_ex, PW.o_ret, PW.o_retN, PW.o_ifs, PW.o_for, PW.o_whl, PW.o_rais, PW.o_brk, PW.o_cnt, PW.o_pass, PW.e_var, PW.e_int, PW.e_bl, PW.e_non, PW.e_str, PW.e_gint, PW.e_gti, PW.e_gtt, PW.e_gst, PW.e_rev, PW.e_cls, PW.e_ty, PW.e_tup, PW.e_lst, PW.e_bin, PW.e_neg, PW.e_not, PW.e_and, PW.e_or, PW.e_cmp, PW.e_chn, PW.e_ite, PW.e_ix, PW.e_slc, PW.e_call, PW.e_callk, PW.e_blt, PW.e_mth, PW.e_lrng, PW.e_att, PW.e_hrd, PW.e_comp, PW.e_comp2, PW.t_var, PW.t_bl, PW.t_cmp, PW.t_chn, PW.t_not, PW.t_and, PW.t_or, PW.t_ite, PW.t_call, PW.t_callk, PW.t_blt, PW.t_ix, PW.a_nil, PW.a_cons, PW.a_scons, PW.p_nil, PW.p_int, PW.p_var, PW.p_bin, PW.p_neg, PW.c_cmp, PW.c_chn, PW.c_not, PW.c_and, PW.c_or, PW.c_call, PW.c_blt, PW.c_var, PW.t_int, PW.c_nil, PW.i_rng, PW.i_enm, PW.i_revd, PW.i_zp, PW.i_var, PW.i_tup, PW.i_rev, PW.i_comp, PW.i_ix, PW.i_gti, PW.i_call, PW.i_slc, PW.op_add, PW.op_sub, PW.op_mul, PW.op_fdv, PW.op_mod, PW.op_pow, PW.op_addS, PW.op_addT, PW.op_addL, PW.op_repL, PW.cm_lt, PW.cm_le, PW.cm_gt, PW.cm_ge, PW.cm_eq, PW.cm_ne, PW.cm_eqS, PW.cm_neS, PW.cm_eqT, PW.cm_neT, PW.cm_eqL, PW.cm_neL, PW.cm_inT, PW.cm_niT, PW.cm_eqB, PW.cm_isNN, PW.cm_isNE, PW.cm_isNT, PW.cm_isNI, PW.cm_noNN, PW.cm_noNE, PW.cm_noNT, PW.cm_noNI, PW.tr_bl, PW.tr_int, PW.tr_non, PW.tr_lst, PW.tr_rol, PW.tr_tup, PW.ix_rol, PW.b_abs, PW.b_int, PW.b_boolI, PW.b_boolB, PW.b_intB, PW.b_max, PW.b_min, PW.b_lenT, PW.b_lenR, PW.b_lenL, PW.b_sum, PW.b_all, PW.b_any, PW.b_sorted, PW.b_tupT, PW.b_listT, PW.b_listL, PW.b_isN, PW.b_isB, PW.b_isS, PW.b_tupL, PW.b_isI, PW.b_isT, PW.b_isE, PW.m_pop, PW.m_ext, PW.m_rev, PW.m_app, PW.g_nm, PW.g_tup, PW.g_cons, PW.g_nil, endW, startW, List.map_cons, List.map_nil, List.length_cons, List.length_nil, List.replicate, Nat.reduceAdd, Nat.reduceSub, Nat.zero_add, List.cons_append, List.nil_append, List.append_nil, List.getElem?_cons_zero, List.getElem?_cons_succ, List.set_cons_zero, List.set_cons_succ, setS, T.alen, newL, g20, sOf]
  refine ⟨by rw [sizeLine_eq]; omega, fun q hq => ⟨(hp.new (l := []) hq).2, c, by omega, (hp.new hq).1, _, Sto.upd_same, by decide, by decide, fun w w1 hw hp1 => ?_⟩⟩
  have c1 := (hcp.new (ws := [.int 0, .int 1, .int 2, .int 5, .int 20, .int 99]) hq).upd (ws := w1)
  generalize (X.upd q [.int 0, .int 1, .int 2, .int 5, .int 20, .int 99]).upd a w1 = X1 at c1 hp1
  obtain ⟨k, rfl, k2⟩ : ∃ k : Nat, w = .int (k : Nat) ∧ k ≤ 99 := by
    simp only [List.mem_cons, List.not_mem_nil, or_false] at hw
    rcases hw with rfl | rfl | rfl | rfl | rfl | rfl
    · exact ⟨0, rfl, by decide⟩
    · exact ⟨1, rfl, by decide⟩
    · exact ⟨2, rfl, by decide⟩
    · exact ⟨5, rfl, by decide⟩
    · exact ⟨20, rfl, by decide⟩
    · exact ⟨99, rfl, by decide⟩
  simp only [PW.o_nil, PW.o_seq, PW.o_asg, PW.o_par, PW.o_asgI, PW.o_aug, PW.o_augI, PW.o_ex, PW.o_ret, PW.o_retN, PW.o_ifs, PW.o_for, PW.o_whl, PW.o_rais, PW.o_brk, PW.o_cnt, PW.o_pass, PW.e_var, PW.e_int, PW.e_bl, PW.e_non, PW.e_str, PW.e_gint, PW.e_gti, PW.e_gtt, PW.e_gst, PW.e_rev, PW.e_cls, PW.e_ty, PW.e_tup, PW.e_lst, PW.e_bin, PW.e_neg, PW.e_not, PW.e_and, PW.e_or, PW.e_cmp, PW.e_chn, PW.e_ite, PW.e_ix, PW.e_slc, PW.e_call, PW.e_callk, PW.e_blt, PW.e_mth, PW.e_lrng, PW.e_att, PW.e_hrd, PW.e_comp, PW.e_comp2, PW.t_var, PW.t_bl, PW.t_cmp, PW.t_chn, PW.t_not, PW.t_and, PW.t_or, PW.t_ite, PW.t_call, PW.t_callk, PW.t_blt, PW.t_ix, PW.a_nil, PW.a_cons, PW.a_scons, PW.p_nil, PW.p_int, PW.p_var, PW.p_bin, PW.p_neg, PW.c_cmp, PW.c_chn, PW.c_not, PW.c_and, PW.c_or, PW.c_call, PW.c_blt, PW.c_var, PW.t_int, PW.c_nil, PW.i_rng, PW.i_enm, PW.i_revd, PW.i_zp, PW.i_var, PW.i_tup, PW.i_rev, PW.i_comp, PW.i_ix, PW.i_gti, PW.i_call, PW.i_slc, PW.op_add, PW.op_sub, PW.op_mul, PW.op_fdv, PW.op_mod, PW.op_pow, PW.op_addS, PW.op_addT, PW.op_addL, PW.op_repL, PW.cm_lt, PW.cm_le, PW.cm_gt, PW.cm_ge, PW.cm_eq, PW.cm_ne, PW.cm_eqS, PW.cm_neS, PW.cm_eqT, PW.cm_neT, PW.cm_eqL, PW.cm_neL, PW.cm_inT, PW.cm_niT, PW.cm_eqB, PW.cm_isNN, PW.cm_isNE, PW.cm_isNT, PW.cm_isNI, PW.cm_noNN, PW.cm_noNE, PW.cm_noNT, PW.cm_noNI, PW.tr_bl, PW.tr_int, PW.tr_non, PW.tr_lst, PW.tr_rol, PW.tr_tup, PW.ix_rol, PW.b_abs, PW.b_int, PW.b_boolI, PW.b_boolB, PW.b_intB, PW.b_max, PW.b_min, PW.b_lenT, PW.b_lenR, PW.b_lenL, PW.b_sum, PW.b_all, PW.b_any, PW.b_sorted, PW.b_tupT, PW.b_listT, PW.b_listL, PW.b_isN, PW.b_isB, PW.b_isS, PW.b_tupL, PW.b_isI, PW.b_isT, PW.b_isE, PW.m_pop, PW.m_ext, PW.m_rev, PW.m_app, PW.g_nm, PW.g_tup, PW.g_cons, PW.g_nil, endW, startW, List.map_cons, List.map_nil, List.length_cons, List.length_nil, List.replicate, Nat.reduceAdd, Nat.reduceSub, Nat.zero_add, List.cons_append, List.nil_append, List.append_nil, List.getElem?_cons_zero, List.getElem?_cons_succ, List.set_cons_zero, List.set_cons_succ, setS, T.alen, g16, sLifted]
  rw [show (1 : Int) + (k : Int) = ((1 + k : Nat) : Int) by omega]
  refine ⟨trivial, trivial, cs, rfl, dc.by_, rfl, fun z => absurd ⟨n, rfl, n0, n1, hn⟩ z, fun m e m0 m1 hm => ?_⟩
  cases e
  have slope : ∀ {K : WK}, K (.int (QM.dv cs n)) X1 → Γ 27 [iT cs] X1 (fun x S1 => Γ 29 [x, .int n] S1 K E) E := by
    intro K hK
    rw [g27, g29]
    unfold sSlope sAt
    refine ⟨cs, rfl, by omega, fun b m => ?_, QM.strip (QM.der cs), rfl, ?_, ⟨700, by decide, fun b m => ?_, nb_up (m := 62) (by omega) (by decide)⟩, ?_⟩
    · have := dc.bd b m
      exact nb_up (m := 62) (by omega) (by decide)
    · refine Nat.le_trans (QM.strip_len _) ?_
      unfold QM.der
      rw [List.length_drop, ← QM.sl_zip, List.length_map, List.length_zipIdx]
      omega
    · have m := QM.strip_mem m
      unfold QM.der at m
      have m := List.mem_of_mem_drop m
      rw [← QM.sl_zip] at m
      obtain ⟨z, mz, rfl⟩ := List.mem_map.mp m
      have hm := List.mem_zipIdx mz
      have h1 : z.1 ∈ cs := by
        rw [hm.2.2]; exact List.getElem_mem _
      have := dc.bd z.1 h1
      rw [Int.natAbs_mul]
      have h2 : (((z.2 : Nat) : Int).natAbs * z.1.natAbs) ≤ 10 * 400000 := Nat.mul_le_mul (by omega) this
      have : 10 * 400000 < 2 ^ 700 := by decide +kernel
      omega
    · rw [QM.ev_strip, QM.ev_der]
      exact hK
  refine ⟨fun dz => ?_, fun dz => ⟨rfl, fun z => ?_, fun kk e k1 k3 r r0 r1 r2 r3 => ?_⟩⟩
  · unfold b31b
    simp only [PW.o_nil, PW.o_seq, PW.o_asg, PW.o_par, PW.o_asgI, PW.o_aug, PW.o_augI, PW.o_ex, PW.o_ret, PW.o_retN, PW.o_ifs, PW.o_for, PW.o_whl, PW.o_rais, PW.o_brk, PW.o_cnt, PW.o_pass, PW.e_var, PW.e_int, PW.e_bl, PW.e_non, PW.e_str, PW.e_gint, PW.e_gti, PW.e_gtt, PW.e_gst, PW.e_rev, PW.e_cls, PW.e_ty, PW.e_tup, PW.e_lst, PW.e_bin, PW.e_neg, PW.e_not, PW.e_and, PW.e_or, PW.e_cmp, PW.e_chn, PW.e_ite, PW.e_ix, PW.e_slc, PW.e_call, PW.e_callk, PW.e_blt, PW.e_mth, PW.e_lrng, PW.e_att, PW.e_hrd, PW.e_comp, PW.e_comp2, PW.t_var, PW.t_bl, PW.t_cmp, PW.t_chn, PW.t_not, PW.t_and, PW.t_or, PW.t_ite, PW.t_call, PW.t_callk, PW.t_blt, PW.t_ix, PW.a_nil, PW.a_cons, PW.a_scons, PW.p_nil, PW.p_int, PW.p_var, PW.p_bin, PW.p_neg, PW.c_cmp, PW.c_chn, PW.c_not, PW.c_and, PW.c_or, PW.c_call, PW.c_blt, PW.c_var, PW.t_int, PW.c_nil, PW.i_rng, PW.i_enm, PW.i_revd, PW.i_zp, PW.i_var, PW.i_tup, PW.i_rev, PW.i_comp, PW.i_ix, PW.i_gti, PW.i_call, PW.i_slc, PW.op_add, PW.op_sub, PW.op_mul, PW.op_fdv, PW.op_mod, PW.op_pow, PW.op_addS, PW.op_addT, PW.op_addL, PW.op_repL, PW.cm_lt, PW.cm_le, PW.cm_gt, PW.cm_ge, PW.cm_eq, PW.cm_ne, PW.cm_eqS, PW.cm_neS, PW.cm_eqT, PW.cm_neT, PW.cm_eqL, PW.cm_neL, PW.cm_inT, PW.cm_niT, PW.cm_eqB, PW.cm_isNN, PW.cm_isNE, PW.cm_isNT, PW.cm_isNI, PW.cm_noNN, PW.cm_noNE, PW.cm_noNT, PW.cm_noNI, PW.tr_bl, PW.tr_int, PW.tr_non, PW.tr_lst, PW.tr_rol, PW.tr_tup, PW.ix_rol, PW.b_abs, PW.b_int, PW.b_boolI, PW.b_boolB, PW.b_intB, PW.b_max, PW.b_min, PW.b_lenT, PW.b_lenR, PW.b_lenL, PW.b_sum, PW.b_all, PW.b_any, PW.b_sorted, PW.b_tupT, PW.b_listT, PW.b_listL, PW.b_isN, PW.b_isB, PW.b_isS, PW.b_tupL, PW.b_isI, PW.b_isT, PW.b_isE, PW.m_pop, PW.m_ext, PW.m_rev, PW.m_app, PW.g_nm, PW.g_tup, PW.g_cons, PW.g_nil, endW, startW, List.map_cons, List.map_nil, List.length_cons, List.length_nil, List.replicate, Nat.reduceAdd, Nat.reduceSub, Nat.zero_add, List.cons_append, List.nil_append, List.append_nil, List.getElem?_cons_zero, List.getElem?_cons_succ, List.set_cons_zero, List.set_cons_succ, setS, T.alen]
    refine slope ?_
    simp only [PW.o_nil, PW.o_seq, PW.o_asg, PW.o_par, PW.o_asgI, PW.o_aug, PW.o_augI, PW.o_ex, PW.o_ret, PW.o_retN, PW.o_ifs, PW.o_for, PW.o_whl, PW.o_rais, PW.o_brk, PW.o_cnt, PW.o_pass, PW.e_var, PW.e_int, PW.e_bl, PW.e_non, PW.e_str, PW.e_gint, PW.e_gti, PW.e_gtt, PW.e_gst, PW.e_rev, PW.e_cls, PW.e_ty, PW.e_tup, PW.e_lst, PW.e_bin, PW.e_neg, PW.e_not, PW.e_and, PW.e_or, PW.e_cmp, PW.e_chn, PW.e_ite, PW.e_ix, PW.e_slc, PW.e_call, PW.e_callk, PW.e_blt, PW.e_mth, PW.e_lrng, PW.e_att, PW.e_hrd, PW.e_comp, PW.e_comp2, PW.t_var, PW.t_bl, PW.t_cmp, PW.t_chn, PW.t_not, PW.t_and, PW.t_or, PW.t_ite, PW.t_call, PW.t_callk, PW.t_blt, PW.t_ix, PW.a_nil, PW.a_cons, PW.a_scons, PW.p_nil, PW.p_int, PW.p_var, PW.p_bin, PW.p_neg, PW.c_cmp, PW.c_chn, PW.c_not, PW.c_and, PW.c_or, PW.c_call, PW.c_blt, PW.c_var, PW.t_int, PW.c_nil, PW.i_rng, PW.i_enm, PW.i_revd, PW.i_zp, PW.i_var, PW.i_tup, PW.i_rev, PW.i_comp, PW.i_ix, PW.i_gti, PW.i_call, PW.i_slc, PW.op_add, PW.op_sub, PW.op_mul, PW.op_fdv, PW.op_mod, PW.op_pow, PW.op_addS, PW.op_addT, PW.op_addL, PW.op_repL, PW.cm_lt, PW.cm_le, PW.cm_gt, PW.cm_ge, PW.cm_eq, PW.cm_ne, PW.cm_eqS, PW.cm_neS, PW.cm_eqT, PW.cm_neT, PW.cm_eqL, PW.cm_neL, PW.cm_inT, PW.cm_niT, PW.cm_eqB, PW.cm_isNN, PW.cm_isNE, PW.cm_isNT, PW.cm_isNI, PW.cm_noNN, PW.cm_noNE, PW.cm_noNT, PW.cm_noNI, PW.tr_bl, PW.tr_int, PW.tr_non, PW.tr_lst, PW.tr_rol, PW.tr_tup, PW.ix_rol, PW.b_abs, PW.b_int, PW.b_boolI, PW.b_boolB, PW.b_intB, PW.b_max, PW.b_min, PW.b_lenT, PW.b_lenR, PW.b_lenL, PW.b_sum, PW.b_all, PW.b_any, PW.b_sorted, PW.b_tupT, PW.b_listT, PW.b_listL, PW.b_isN, PW.b_isB, PW.b_isS, PW.b_tupL, PW.b_isI, PW.b_isT, PW.b_isE, PW.m_pop, PW.m_ext, PW.m_rev, PW.m_app, PW.g_nm, PW.g_tup, PW.g_cons, PW.g_nil, endW, startW, List.map_cons, List.map_nil, List.length_cons, List.length_nil, List.replicate, Nat.reduceAdd, Nat.reduceSub, Nat.zero_add, List.cons_append, List.nil_append, List.append_nil, List.getElem?_cons_zero, List.getElem?_cons_succ, List.set_cons_zero, List.set_cons_succ, setS, T.alen]
    rw [Int.fmod_eq_emod_of_nonneg _ (by omega)]
    refine ⟨by omega, ?_⟩
    have e1 := rp_int (n := n) (Nat.lt_of_le_of_lt (show n.natAbs ≤ 100 by omega) (by decide +kernel))
    unfold Rp at e1
    simp only [decide_eq_true dz, if_true]
    simp only [PW.o_nil, PW.o_seq, PW.o_asg, PW.o_par, PW.o_asgI, PW.o_aug, PW.o_augI, PW.o_ex, PW.o_ret, PW.o_retN, PW.o_ifs, PW.o_for, PW.o_whl, PW.o_rais, PW.o_brk, PW.o_cnt, PW.o_pass, PW.e_var, PW.e_int, PW.e_bl, PW.e_non, PW.e_str, PW.e_gint, PW.e_gti, PW.e_gtt, PW.e_gst, PW.e_rev, PW.e_cls, PW.e_ty, PW.e_tup, PW.e_lst, PW.e_bin, PW.e_neg, PW.e_not, PW.e_and, PW.e_or, PW.e_cmp, PW.e_chn, PW.e_ite, PW.e_ix, PW.e_slc, PW.e_call, PW.e_callk, PW.e_blt, PW.e_mth, PW.e_lrng, PW.e_att, PW.e_hrd, PW.e_comp, PW.e_comp2, PW.t_var, PW.t_bl, PW.t_cmp, PW.t_chn, PW.t_not, PW.t_and, PW.t_or, PW.t_ite, PW.t_call, PW.t_callk, PW.t_blt, PW.t_ix, PW.a_nil, PW.a_cons, PW.a_scons, PW.p_nil, PW.p_int, PW.p_var, PW.p_bin, PW.p_neg, PW.c_cmp, PW.c_chn, PW.c_not, PW.c_and, PW.c_or, PW.c_call, PW.c_blt, PW.c_var, PW.t_int, PW.c_nil, PW.i_rng, PW.i_enm, PW.i_revd, PW.i_zp, PW.i_var, PW.i_tup, PW.i_rev, PW.i_comp, PW.i_ix, PW.i_gti, PW.i_call, PW.i_slc, PW.op_add, PW.op_sub, PW.op_mul, PW.op_fdv, PW.op_mod, PW.op_pow, PW.op_addS, PW.op_addT, PW.op_addL, PW.op_repL, PW.cm_lt, PW.cm_le, PW.cm_gt, PW.cm_ge, PW.cm_eq, PW.cm_ne, PW.cm_eqS, PW.cm_neS, PW.cm_eqT, PW.cm_neT, PW.cm_eqL, PW.cm_neL, PW.cm_inT, PW.cm_niT, PW.cm_eqB, PW.cm_isNN, PW.cm_isNE, PW.cm_isNT, PW.cm_isNI, PW.cm_noNN, PW.cm_noNE, PW.cm_noNT, PW.cm_noNI, PW.tr_bl, PW.tr_int, PW.tr_non, PW.tr_lst, PW.tr_rol, PW.tr_tup, PW.ix_rol, PW.b_abs, PW.b_int, PW.b_boolI, PW.b_boolB, PW.b_intB, PW.b_max, PW.b_min, PW.b_lenT, PW.b_lenR, PW.b_lenL, PW.b_sum, PW.b_all, PW.b_any, PW.b_sorted, PW.b_tupT, PW.b_listT, PW.b_listL, PW.b_isN, PW.b_isB, PW.b_isS, PW.b_tupL, PW.b_isI, PW.b_isT, PW.b_isE, PW.m_pop, PW.m_ext, PW.m_rev, PW.m_app, PW.g_nm, PW.g_tup, PW.g_cons, PW.g_nil, endW, startW, List.map_cons, List.map_nil, List.length_cons, List.length_nil, List.replicate, Nat.reduceAdd, Nat.reduceSub, Nat.zero_add, List.cons_append, List.nil_append, List.append_nil, List.getElem?_cons_zero, List.getElem?_cons_succ, List.set_cons_zero, List.set_cons_succ, setS, T.alen, sub44, e1, if_true, decide_true, Bool.not_true, Bool.false_eq_true, if_false]
    exact (h X1 _ _ _ _ _ c1 (hp1.mono (by omega))).2
  · rw [isI_int, decide_eq_true (show (1 : Int) ≤ ((1 + k : Nat) : Int) by omega), decide_eq_true (show ((1 + k : Nat) : Int) ≤ 100 by omega)] at z
    cases z
  · have e : ((1 + k : Nat) : Int) = ((kk : Nat) : Int) := by injection e
    obtain rfl : 1 + k = kk := by omega
    unfold b31b
    simp only [PW.o_nil, PW.o_seq, PW.o_asg, PW.o_par, PW.o_asgI, PW.o_aug, PW.o_augI, PW.o_ex, PW.o_ret, PW.o_retN, PW.o_ifs, PW.o_for, PW.o_whl, PW.o_rais, PW.o_brk, PW.o_cnt, PW.o_pass, PW.e_var, PW.e_int, PW.e_bl, PW.e_non, PW.e_str, PW.e_gint, PW.e_gti, PW.e_gtt, PW.e_gst, PW.e_rev, PW.e_cls, PW.e_ty, PW.e_tup, PW.e_lst, PW.e_bin, PW.e_neg, PW.e_not, PW.e_and, PW.e_or, PW.e_cmp, PW.e_chn, PW.e_ite, PW.e_ix, PW.e_slc, PW.e_call, PW.e_callk, PW.e_blt, PW.e_mth, PW.e_lrng, PW.e_att, PW.e_hrd, PW.e_comp, PW.e_comp2, PW.t_var, PW.t_bl, PW.t_cmp, PW.t_chn, PW.t_not, PW.t_and, PW.t_or, PW.t_ite, PW.t_call, PW.t_callk, PW.t_blt, PW.t_ix, PW.a_nil, PW.a_cons, PW.a_scons, PW.p_nil, PW.p_int, PW.p_var, PW.p_bin, PW.p_neg, PW.c_cmp, PW.c_chn, PW.c_not, PW.c_and, PW.c_or, PW.c_call, PW.c_blt, PW.c_var, PW.t_int, PW.c_nil, PW.i_rng, PW.i_enm, PW.i_revd, PW.i_zp, PW.i_var, PW.i_tup, PW.i_rev, PW.i_comp, PW.i_ix, PW.i_gti, PW.i_call, PW.i_slc, PW.op_add, PW.op_sub, PW.op_mul, PW.op_fdv, PW.op_mod, PW.op_pow, PW.op_addS, PW.op_addT, PW.op_addL, PW.op_repL, PW.cm_lt, PW.cm_le, PW.cm_gt, PW.cm_ge, PW.cm_eq, PW.cm_ne, PW.cm_eqS, PW.cm_neS, PW.cm_eqT, PW.cm_neT, PW.cm_eqL, PW.cm_neL, PW.cm_inT, PW.cm_niT, PW.cm_eqB, PW.cm_isNN, PW.cm_isNE, PW.cm_isNT, PW.cm_isNI, PW.cm_noNN, PW.cm_noNE, PW.cm_noNT, PW.cm_noNI, PW.tr_bl, PW.tr_int, PW.tr_non, PW.tr_lst, PW.tr_rol, PW.tr_tup, PW.ix_rol, PW.b_abs, PW.b_int, PW.b_boolI, PW.b_boolB, PW.b_intB, PW.b_max, PW.b_min, PW.b_lenT, PW.b_lenR, PW.b_lenL, PW.b_sum, PW.b_all, PW.b_any, PW.b_sorted, PW.b_tupT, PW.b_listT, PW.b_listL, PW.b_isN, PW.b_isB, PW.b_isS, PW.b_tupL, PW.b_isI, PW.b_isT, PW.b_isE, PW.m_pop, PW.m_ext, PW.m_rev, PW.m_app, PW.g_nm, PW.g_tup, PW.g_cons, PW.g_nil, endW, startW, List.map_cons, List.map_nil, List.length_cons, List.length_nil, List.replicate, Nat.reduceAdd, Nat.reduceSub, Nat.zero_add, List.cons_append, List.nil_append, List.append_nil, List.getElem?_cons_zero, List.getElem?_cons_succ, List.set_cons_zero, List.set_cons_succ, setS, T.alen]
    refine slope ?_
    simp only [PW.o_nil, PW.o_seq, PW.o_asg, PW.o_par, PW.o_asgI, PW.o_aug, PW.o_augI, PW.o_ex, PW.o_ret, PW.o_retN, PW.o_ifs, PW.o_for, PW.o_whl, PW.o_rais, PW.o_brk, PW.o_cnt, PW.o_pass, PW.e_var, PW.e_int, PW.e_bl, PW.e_non, PW.e_str, PW.e_gint, PW.e_gti, PW.e_gtt, PW.e_gst, PW.e_rev, PW.e_cls, PW.e_ty, PW.e_tup, PW.e_lst, PW.e_bin, PW.e_neg, PW.e_not, PW.e_and, PW.e_or, PW.e_cmp, PW.e_chn, PW.e_ite, PW.e_ix, PW.e_slc, PW.e_call, PW.e_callk, PW.e_blt, PW.e_mth, PW.e_lrng, PW.e_att, PW.e_hrd, PW.e_comp, PW.e_comp2, PW.t_var, PW.t_bl, PW.t_cmp, PW.t_chn, PW.t_not, PW.t_and, PW.t_or, PW.t_ite, PW.t_call, PW.t_callk, PW.t_blt, PW.t_ix, PW.a_nil, PW.a_cons, PW.a_scons, PW.p_nil, PW.p_int, PW.p_var, PW.p_bin, PW.p_neg, PW.c_cmp, PW.c_chn, PW.c_not, PW.c_and, PW.c_or, PW.c_call, PW.c_blt, PW.c_var, PW.t_int, PW.c_nil, PW.i_rng, PW.i_enm, PW.i_revd, PW.i_zp, PW.i_var, PW.i_tup, PW.i_rev, PW.i_comp, PW.i_ix, PW.i_gti, PW.i_call, PW.i_slc, PW.op_add, PW.op_sub, PW.op_mul, PW.op_fdv, PW.op_mod, PW.op_pow, PW.op_addS, PW.op_addT, PW.op_addL, PW.op_repL, PW.cm_lt, PW.cm_le, PW.cm_gt, PW.cm_ge, PW.cm_eq, PW.cm_ne, PW.cm_eqS, PW.cm_neS, PW.cm_eqT, PW.cm_neT, PW.cm_eqL, PW.cm_neL, PW.cm_inT, PW.cm_niT, PW.cm_eqB, PW.cm_isNN, PW.cm_isNE, PW.cm_isNT, PW.cm_isNI, PW.cm_noNN, PW.cm_noNE, PW.cm_noNT, PW.cm_noNI, PW.tr_bl, PW.tr_int, PW.tr_non, PW.tr_lst, PW.tr_rol, PW.tr_tup, PW.ix_rol, PW.b_abs, PW.b_int, PW.b_boolI, PW.b_boolB, PW.b_intB, PW.b_max, PW.b_min, PW.b_lenT, PW.b_lenR, PW.b_lenL, PW.b_sum, PW.b_all, PW.b_any, PW.b_sorted, PW.b_tupT, PW.b_listT, PW.b_listL, PW.b_isN, PW.b_isB, PW.b_isS, PW.b_tupL, PW.b_isI, PW.b_isT, PW.b_isE, PW.m_pop, PW.m_ext, PW.m_rev, PW.m_app, PW.g_nm, PW.g_tup, PW.g_cons, PW.g_nil, endW, startW, List.map_cons, List.map_nil, List.length_cons, List.length_nil, List.replicate, Nat.reduceAdd, Nat.reduceSub, Nat.zero_add, List.cons_append, List.nil_append, List.append_nil, List.getElem?_cons_zero, List.getElem?_cons_succ, List.set_cons_zero, List.set_cons_succ, setS, T.alen]
    rw [Int.fmod_eq_emod_of_nonneg _ (by omega)]
    refine ⟨by omega, ?_⟩
    simp only [decide_eq_false dz, Bool.false_eq_true, if_false]
    refine r31c g16 g20 g22 g29 g30 dc n0 n1 hn dz k1 k3 r0 r1 r2 r3 (c := c + 1) (by omega) c1 hp1 fun X' x6 x7 x8 a1 a2 => (h X' _ _ _ _ _ a1 (a2.mono (by omega))).1
theorem slT {ws : List Vl} {lo hi : Option Int} {S : Sto} {Q : WK} : slW (.tup ws) lo hi S Q = Q (.tup (cutW ws lo hi)) S := (rfl)
/-- what no nought is, drawn -/
theorem r31v {Γ : Nat → SpW} {E : WK} {D : WEn} {X : Sto} {cs : List Int} {p : Int} {a : Addr} {w : Vl} {x : Str} {x3 x4 x5 x6 x8 x9 x10 x11 x12 : Option Vl} (g16 : Γ 16 = sLifted) (g17 : Γ 17 = sAll) (dc : Dc cs p) (wf : w.flat = true) (wg : ¬ Good cs p w) (hx : Rp w x)
    (h : ∃ S2, wsub S2 X ∧ D.rt (.bl true) S2) : rdB b31v ⟨Γ, E, st.sub⟩ D [some (.lst a), some (iT cs), some (.int p), x3, x4, x5, x6, some w, x8, x9, x10, x11, x12] X := by
  unfold b31v
  simp only [PW.o_nil, PW.o_seq, PW.o_asg, PW.o_par, PW.o_asgI, PW.o_aug, PW.o_augI, PW.o_ex, PW.o_ret, PW.o_retN, PW.o_ifs, PW.o_for, PW.o_whl, PW.o_rais, PW.o_brk, PW.o_cnt, PW.o_pass, PW.e_var, PW.e_int, PW.e_bl, PW.e_non, PW.e_str, PW.e_gint, PW.e_gti, PW.e_gtt, PW.e_gst, PW.e_rev, PW.e_cls, PW.e_ty, PW.e_tup, PW.e_lst, PW.e_bin, PW.e_neg, PW.e_not, PW.e_and, PW.e_or, PW.e_cmp, PW.e_chn, PW.e_ite, PW.e_ix, PW.e_slc, PW.e_call, PW.e_callk, PW.e_blt, PW.e_mth, PW.e_lrng, PW.e_att, PW.e_hrd, PW.e_comp, PW.e_comp2, PW.t_var, PW.t_bl, PW.t_cmp, PW.t_chn, PW.t_not, PW.t_and, PW.t_or, PW.t_ite, PW.t_call, PW.t_callk, PW.t_blt, PW.t_ix, PW.a_nil, PW.a_cons, PW.a_scons, PW.p_nil, PW.p_int, PW.p_var, PW.p_bin, PW.p_neg, PW.c_cmp, PW.c_chn, PW.c_not, PW.c_and, PW.c_or, PW.c_call, PW.c_blt, PW.c_var, PW.t_int, PW.c_nil, PW.i_rng, PW.i_enm, PW.i_revd, PW.i_zp, PW.i_var, PW.i_tup, PW.i_rev, PW.i_comp, PW.i_ix, PW.i_gti, PW.i_call, PW.i_slc, PW.op_add, PW.op_sub, PW.op_mul, PW.op_fdv, PW.op_mod, PW.op_pow, PW.op_addS, PW.op_addT, PW.op_addL, PW.op_repL, PW.cm_lt, PW.cm_le, PW.cm_gt, PW.cm_ge, PW.cm_eq, PW.cm_ne, PW.cm_eqS, PW.cm_neS, PW.cm_eqT, PW.cm_neT, PW.cm_eqL, PW.cm_neL, PW.cm_inT, PW.cm_niT, PW.cm_eqB, PW.cm_isNN, PW.cm_isNE, PW.cm_isNT, PW.cm_isNI, PW.cm_noNN, PW.cm_noNE, PW.cm_noNT, PW.cm_noNI, PW.tr_bl, PW.tr_int, PW.tr_non, PW.tr_lst, PW.tr_rol, PW.tr_tup, PW.ix_rol, PW.b_abs, PW.b_int, PW.b_boolI, PW.b_boolB, PW.b_intB, PW.b_max, PW.b_min, PW.b_lenT, PW.b_lenR, PW.b_lenL, PW.b_sum, PW.b_all, PW.b_any, PW.b_sorted, PW.b_tupT, PW.b_listT, PW.b_listL, PW.b_isN, PW.b_isB, PW.b_isS, PW.b_tupL, PW.b_isI, PW.b_isT, PW.b_isE, PW.m_pop, PW.m_ext, PW.m_rev, PW.m_app, PW.g_nm, PW.g_tup, PW.g_cons, PW.g_nil, endW, startW, List.map_cons, List.map_nil, List.length_cons, List.length_nil, List.replicate, Nat.reduceAdd, Nat.reduceSub, Nat.zero_add, List.cons_append, List.nil_append, List.append_nil, List.getElem?_cons_zero, List.getElem?_cons_succ, List.set_cons_zero, List.set_cons_succ, setS, T.alen, g16, sLifted]
  refine ⟨cs, rfl, dc.by_, wf, fun _ => ?_, fun n e n0 n1 hn => absurd ⟨n, e, n0, n1, hn⟩ wg⟩
  simp only [PW.o_nil, PW.o_seq, PW.o_asg, PW.o_par, PW.o_asgI, PW.o_aug, PW.o_augI, PW.o_ex, PW.o_ret, PW.o_retN, PW.o_ifs, PW.o_for, PW.o_whl, PW.o_rais, PW.o_brk, PW.o_cnt, PW.o_pass, PW.e_var, PW.e_int, PW.e_bl, PW.e_non, PW.e_str, PW.e_gint, PW.e_gti, PW.e_gtt, PW.e_gst, PW.e_rev, PW.e_cls, PW.e_ty, PW.e_tup, PW.e_lst, PW.e_bin, PW.e_neg, PW.e_not, PW.e_and, PW.e_or, PW.e_cmp, PW.e_chn, PW.e_ite, PW.e_ix, PW.e_slc, PW.e_call, PW.e_callk, PW.e_blt, PW.e_mth, PW.e_lrng, PW.e_att, PW.e_hrd, PW.e_comp, PW.e_comp2, PW.t_var, PW.t_bl, PW.t_cmp, PW.t_chn, PW.t_not, PW.t_and, PW.t_or, PW.t_ite, PW.t_call, PW.t_callk, PW.t_blt, PW.t_ix, PW.a_nil, PW.a_cons, PW.a_scons, PW.p_nil, PW.p_int, PW.p_var, PW.p_bin, PW.p_neg, PW.c_cmp, PW.c_chn, PW.c_not, PW.c_and, PW.c_or, PW.c_call, PW.c_blt, PW.c_var, PW.t_int, PW.c_nil, PW.i_rng, PW.i_enm, PW.i_revd, PW.i_zp, PW.i_var, PW.i_tup, PW.i_rev, PW.i_comp, PW.i_ix, PW.i_gti, PW.i_call, PW.i_slc, PW.op_add, PW.op_sub, PW.op_mul, PW.op_fdv, PW.op_mod, PW.op_pow, PW.op_addS, PW.op_addT, PW.op_addL, PW.op_repL, PW.cm_lt, PW.cm_le, PW.cm_gt, PW.cm_ge, PW.cm_eq, PW.cm_ne, PW.cm_eqS, PW.cm_neS, PW.cm_eqT, PW.cm_neT, PW.cm_eqL, PW.cm_neL, PW.cm_inT, PW.cm_niT, PW.cm_eqB, PW.cm_isNN, PW.cm_isNE, PW.cm_isNT, PW.cm_isNI, PW.cm_noNN, PW.cm_noNE, PW.cm_noNT, PW.cm_noNI, PW.tr_bl, PW.tr_int, PW.tr_non, PW.tr_lst, PW.tr_rol, PW.tr_tup, PW.ix_rol, PW.b_abs, PW.b_int, PW.b_boolI, PW.b_boolB, PW.b_intB, PW.b_max, PW.b_min, PW.b_lenT, PW.b_lenR, PW.b_lenL, PW.b_sum, PW.b_all, PW.b_any, PW.b_sorted, PW.b_tupT, PW.b_listT, PW.b_listL, PW.b_isN, PW.b_isB, PW.b_isS, PW.b_tupL, PW.b_isI, PW.b_isT, PW.b_isE, PW.m_pop, PW.m_ext, PW.m_rev, PW.m_app, PW.g_nm, PW.g_tup, PW.g_cons, PW.g_nil, endW, startW, List.map_cons, List.map_nil, List.length_cons, List.length_nil, List.replicate, Nat.reduceAdd, Nat.reduceSub, Nat.zero_add, List.cons_append, List.nil_append, List.append_nil, List.getElem?_cons_zero, List.getElem?_cons_succ, List.set_cons_zero, List.set_cons_succ, setS, T.alen, g17, sAll, ixT0]
  refine ⟨cs, rfl, dc.by_, rfl, fun _ => ?_, fun k e k1 k2 => ?_⟩
  · have e0 := rp_int (n := 0) (by decide)
    rw [shown_0] at e0
    unfold Rp at e0 hx
    simp only [PW.o_nil, PW.o_seq, PW.o_asg, PW.o_par, PW.o_asgI, PW.o_aug, PW.o_augI, PW.o_ex, PW.o_ret, PW.o_retN, PW.o_ifs, PW.o_for, PW.o_whl, PW.o_rais, PW.o_brk, PW.o_cnt, PW.o_pass, PW.e_var, PW.e_int, PW.e_bl, PW.e_non, PW.e_str, PW.e_gint, PW.e_gti, PW.e_gtt, PW.e_gst, PW.e_rev, PW.e_cls, PW.e_ty, PW.e_tup, PW.e_lst, PW.e_bin, PW.e_neg, PW.e_not, PW.e_and, PW.e_or, PW.e_cmp, PW.e_chn, PW.e_ite, PW.e_ix, PW.e_slc, PW.e_call, PW.e_callk, PW.e_blt, PW.e_mth, PW.e_lrng, PW.e_att, PW.e_hrd, PW.e_comp, PW.e_comp2, PW.t_var, PW.t_bl, PW.t_cmp, PW.t_chn, PW.t_not, PW.t_and, PW.t_or, PW.t_ite, PW.t_call, PW.t_callk, PW.t_blt, PW.t_ix, PW.a_nil, PW.a_cons, PW.a_scons, PW.p_nil, PW.p_int, PW.p_var, PW.p_bin, PW.p_neg, PW.c_cmp, PW.c_chn, PW.c_not, PW.c_and, PW.c_or, PW.c_call, PW.c_blt, PW.c_var, PW.t_int, PW.c_nil, PW.i_rng, PW.i_enm, PW.i_revd, PW.i_zp, PW.i_var, PW.i_tup, PW.i_rev, PW.i_comp, PW.i_ix, PW.i_gti, PW.i_call, PW.i_slc, PW.op_add, PW.op_sub, PW.op_mul, PW.op_fdv, PW.op_mod, PW.op_pow, PW.op_addS, PW.op_addT, PW.op_addL, PW.op_repL, PW.cm_lt, PW.cm_le, PW.cm_gt, PW.cm_ge, PW.cm_eq, PW.cm_ne, PW.cm_eqS, PW.cm_neS, PW.cm_eqT, PW.cm_neT, PW.cm_eqL, PW.cm_neL, PW.cm_inT, PW.cm_niT, PW.cm_eqB, PW.cm_isNN, PW.cm_isNE, PW.cm_isNT, PW.cm_isNI, PW.cm_noNN, PW.cm_noNE, PW.cm_noNT, PW.cm_noNI, PW.tr_bl, PW.tr_int, PW.tr_non, PW.tr_lst, PW.tr_rol, PW.tr_tup, PW.ix_rol, PW.b_abs, PW.b_int, PW.b_boolI, PW.b_boolB, PW.b_intB, PW.b_max, PW.b_min, PW.b_lenT, PW.b_lenR, PW.b_lenL, PW.b_sum, PW.b_all, PW.b_any, PW.b_sorted, PW.b_tupT, PW.b_listT, PW.b_listL, PW.b_isN, PW.b_isB, PW.b_isS, PW.b_tupL, PW.b_isI, PW.b_isT, PW.b_isE, PW.m_pop, PW.m_ext, PW.m_rev, PW.m_app, PW.g_nm, PW.g_tup, PW.g_cons, PW.g_nil, endW, startW, List.map_cons, List.map_nil, List.length_cons, List.length_nil, List.replicate, Nat.reduceAdd, Nat.reduceSub, Nat.zero_add, List.cons_append, List.nil_append, List.append_nil, List.getElem?_cons_zero, List.getElem?_cons_succ, List.set_cons_zero, List.set_cons_succ, setS, T.alen, ixT0, sub11, hx, e0, if_true, decide_true, Bool.not_true, Bool.false_eq_true, if_false]
    exact h
  · injection e with e
    omega
theorem fm_not {ns : List Int} {p : Int} (l : List Nat) : (l.filterMap fun k => if (0 + ((k : Nat) : Int)) ∈ ns then none else some (Vl.int (0 + ((k : Nat) : Int)))) = ((l.filter fun k => !decide (((k : Nat) : Int) ∈ ns)).map fun k => ((k : Nat) : Int)).map Vl.int := by
  induction l with
  | nil => rfl
  | cons k l ih =>
    rw [List.filterMap_cons, List.filter_cons]
    by_cases z : ((k : Nat) : Int) ∈ ns
    · rw [Int.zero_add, if_pos z, ih, if_neg (by simpa using z)]
    · rw [Int.zero_add, if_neg z, ih, if_pos (by simpa using z), List.map_cons, List.map_cons]
theorem wipe_12 {o0 o1 o2 o3 o4 o5 o6 o7 o8 o9 o10 o11 o12 : Option Vl} : wipeW [o0, o1, o2, o3, o4, o5, o6, o7, o8, o9, o10, o11, o12] [12] = [o0, o1, o2, o3, o4, o5, o6, o7, o8, o9, o10, o11, none] := rfl
theorem cut_takeI {l : List Int} {m : Nat} : cutW (l.map Vl.int) none (some (m : Int)) = (l.take m).map Vl.int := by rw [cut_take, List.map_take]
theorem r31u {Γ : Nat → SpW} {Q E : WK} {S X : Sto} {cs : List Int} {p : Int} {a : Addr} {c : Int} {x4 x5 x6 x7 x8 x9 x10 x11 x12 : Option Vl} (g16 : Γ 16 = sLifted) (g17 : Γ 17 = sAll) (g20 : Γ 20 = sOf) (dc : Dc cs p) (hc : c ≤ 10 ^ 5) (hcp : Cp S a X) (hp : Pot X a c)
    (h : ∀ ws', Pot (S.upd a ws') a (c + 1) → Q (.bl true) (S.upd a ws')) : rdB b31u ⟨Γ, E, st.sub⟩ (endW Q) [some (.lst a), some (iT cs), some (.int p), some (iT (nb cs p)), x4, x5, x6, x7, x8, x9, x10, x11, x12] X := by
  have hp2 := dc.by_.pr.le
  unfold b31u
  simp only [PW.o_nil, PW.o_seq, PW.o_asg, PW.o_par, PW.o_asgI, PW.o_aug, PW.o_augI, PW.o_ex, PW.o_ret, PW.o_retN, PW.o_ifs, PW.o_for, PW.o_whl, PW.o_rais, PW.o_brk, PW.o_cnt, PW.o_pass, PW.e_var, PW.e_int, PW.e_bl, PW.e_non, PW.e_str, PW.e_gint, PW.e_gti, PW.e_gtt, PW.e_gst, PW.e_rev, PW.e_cls, PW.e_ty, PW.e_tup, PW.e_lst, PW.e_bin, PW.e_neg, PW.e_not, PW.e_and, PW.e_or, PW.e_cmp, PW.e_chn, PW.e_ite, PW.e_ix, PW.e_slc, PW.e_call, PW.e_callk, PW.e_blt, PW.e_mth, PW.e_lrng, PW.e_att, PW.e_hrd, PW.e_comp, PW.e_comp2, PW.t_var, PW.t_bl, PW.t_cmp, PW.t_chn, PW.t_not, PW.t_and, PW.t_or, PW.t_ite, PW.t_call, PW.t_callk, PW.t_blt, PW.t_ix, PW.a_nil, PW.a_cons, PW.a_scons, PW.p_nil, PW.p_int, PW.p_var, PW.p_bin, PW.p_neg, PW.c_cmp, PW.c_chn, PW.c_not, PW.c_and, PW.c_or, PW.c_call, PW.c_blt, PW.c_var, PW.t_int, PW.c_nil, PW.i_rng, PW.i_enm, PW.i_revd, PW.i_zp, PW.i_var, PW.i_tup, PW.i_rev, PW.i_comp, PW.i_ix, PW.i_gti, PW.i_call, PW.i_slc, PW.op_add, PW.op_sub, PW.op_mul, PW.op_fdv, PW.op_mod, PW.op_pow, PW.op_addS, PW.op_addT, PW.op_addL, PW.op_repL, PW.cm_lt, PW.cm_le, PW.cm_gt, PW.cm_ge, PW.cm_eq, PW.cm_ne, PW.cm_eqS, PW.cm_neS, PW.cm_eqT, PW.cm_neT, PW.cm_eqL, PW.cm_neL, PW.cm_inT, PW.cm_niT, PW.cm_eqB, PW.cm_isNN, PW.cm_isNE, PW.cm_isNT, PW.cm_isNI, PW.cm_noNN, PW.cm_noNE, PW.cm_noNT, PW.cm_noNI, PW.tr_bl, PW.tr_int, PW.tr_non, PW.tr_lst, PW.tr_rol, PW.tr_tup, PW.ix_rol, PW.b_abs, PW.b_int, PW.b_boolI, PW.b_boolB, PW.b_intB, PW.b_max, PW.b_min, PW.b_lenT, PW.b_lenR, PW.b_lenL, PW.b_sum, PW.b_all, PW.b_any, PW.b_sorted, PW.b_tupT, PW.b_listT, PW.b_listL, PW.b_isN, PW.b_isB, PW.b_isS, PW.b_tupL, PW.b_isI, PW.b_isT, PW.b_isE, PW.m_pop, PW.m_ext, PW.m_rev, PW.m_app, PW.g_nm, PW.g_tup, PW.g_cons, PW.g_nil, endW, startW, List.map_cons, List.map_nil, List.length_cons, List.length_nil, List.replicate, Nat.reduceAdd, Nat.reduceSub, Nat.zero_add, List.cons_append, List.nil_append, List.append_nil, List.getElem?_cons_zero, List.getElem?_cons_succ, List.set_cons_zero, List.set_cons_succ, setS, T.alen, newL, g20, sOf, wipe_12, rngG]
  refine ⟨le_sz5, fun q hq => ⟨trivial, ⟨by omega, by omega⟩, fun D hD => ?_⟩⟩
  have c1 := hcp.new (ws := [.int (-1), .int p, .non, .bl true, .str "0"]) hq
  have p1 := (hp.new (l := [.int (-1), .int p, .non, .bl true, .str "0"]) hq).1
  have q1 : (X.upd q [.int (-1), .int p, .non, .bl true, .str "0"]) q = some [.int (-1), .int p, .non, .bl true, .str "0"] := Sto.upd_same
  generalize X.upd q [.int (-1), .int p, .non, .bl true, .str "0"] = X1 at c1 p1 q1 hD ⊢
  have nqD : q ≠ D := fun z => by rw [z, hD] at q1; cases q1
  have eR : rangeW 0 p.toNat = (List.range p.toNat).map fun i => Vl.int (0 + ((i : Nat) : Int)) := rfl
  rw [eR]
  refine lc_fm (ι := fun i : Nat => Vl.int (0 + ((i : Nat) : Int))) (F := fun k => if (0 + ((k : Nat) : Int)) ∈ nb cs p then none else some (Vl.int (0 + ((k : Nat) : Int)))) (fun _ => True) (fun _ _ _ => trivial) (fun _ _ => trivial) (List.range p.toNat) [] _ (fun k m S' K K2 _ hk => ?_) trivial Sto.upd_same (by rw [List.length_nil, List.length_range, sizeLine_eq]; omega) ?_
  · have hm := List.mem_range.mp m
    simp only [PW.o_nil, PW.o_seq, PW.o_asg, PW.o_par, PW.o_asgI, PW.o_aug, PW.o_augI, PW.o_ex, PW.o_ret, PW.o_retN, PW.o_ifs, PW.o_for, PW.o_whl, PW.o_rais, PW.o_brk, PW.o_cnt, PW.o_pass, PW.e_var, PW.e_int, PW.e_bl, PW.e_non, PW.e_str, PW.e_gint, PW.e_gti, PW.e_gtt, PW.e_gst, PW.e_rev, PW.e_cls, PW.e_ty, PW.e_tup, PW.e_lst, PW.e_bin, PW.e_neg, PW.e_not, PW.e_and, PW.e_or, PW.e_cmp, PW.e_chn, PW.e_ite, PW.e_ix, PW.e_slc, PW.e_call, PW.e_callk, PW.e_blt, PW.e_mth, PW.e_lrng, PW.e_att, PW.e_hrd, PW.e_comp, PW.e_comp2, PW.t_var, PW.t_bl, PW.t_cmp, PW.t_chn, PW.t_not, PW.t_and, PW.t_or, PW.t_ite, PW.t_call, PW.t_callk, PW.t_blt, PW.t_ix, PW.a_nil, PW.a_cons, PW.a_scons, PW.p_nil, PW.p_int, PW.p_var, PW.p_bin, PW.p_neg, PW.c_cmp, PW.c_chn, PW.c_not, PW.c_and, PW.c_or, PW.c_call, PW.c_blt, PW.c_var, PW.t_int, PW.c_nil, PW.i_rng, PW.i_enm, PW.i_revd, PW.i_zp, PW.i_var, PW.i_tup, PW.i_rev, PW.i_comp, PW.i_ix, PW.i_gti, PW.i_call, PW.i_slc, PW.op_add, PW.op_sub, PW.op_mul, PW.op_fdv, PW.op_mod, PW.op_pow, PW.op_addS, PW.op_addT, PW.op_addL, PW.op_repL, PW.cm_lt, PW.cm_le, PW.cm_gt, PW.cm_ge, PW.cm_eq, PW.cm_ne, PW.cm_eqS, PW.cm_neS, PW.cm_eqT, PW.cm_neT, PW.cm_eqL, PW.cm_neL, PW.cm_inT, PW.cm_niT, PW.cm_eqB, PW.cm_isNN, PW.cm_isNE, PW.cm_isNT, PW.cm_isNI, PW.cm_noNN, PW.cm_noNE, PW.cm_noNT, PW.cm_noNI, PW.tr_bl, PW.tr_int, PW.tr_non, PW.tr_lst, PW.tr_rol, PW.tr_tup, PW.ix_rol, PW.b_abs, PW.b_int, PW.b_boolI, PW.b_boolB, PW.b_intB, PW.b_max, PW.b_min, PW.b_lenT, PW.b_lenR, PW.b_lenL, PW.b_sum, PW.b_all, PW.b_any, PW.b_sorted, PW.b_tupT, PW.b_listT, PW.b_listL, PW.b_isN, PW.b_isB, PW.b_isS, PW.b_tupL, PW.b_isI, PW.b_isT, PW.b_isE, PW.m_pop, PW.m_ext, PW.m_rev, PW.m_app, PW.g_nm, PW.g_tup, PW.g_cons, PW.g_nil, endW, startW, List.map_cons, List.map_nil, List.length_cons, List.length_nil, List.replicate, Nat.reduceAdd, Nat.reduceSub, Nat.zero_add, List.cons_append, List.nil_append, List.append_nil, List.getElem?_cons_zero, List.getElem?_cons_succ, List.set_cons_zero, List.set_cons_succ, setS, T.alen, if_true]
    refine ⟨rfl, ?_, ?_⟩
    · rw [List.all_map, List.all_eq_true]; intro x _; rfl
    · rw [inV_ints]
      by_cases z : (0 + ((k : Nat) : Int)) ∈ nb cs p
      · simp only [if_pos z] at hk
        simp only [decide_eq_true z, Bool.not_true, Bool.false_eq_true, if_false]
        exact hk
      · simp only [if_neg z] at hk
        simp only [decide_eq_false z, Bool.not_false, if_true]
        exact hk S' (wsub_refl _)
  · rw [List.nil_append, fm_not (p := p), Sto.upd_upd]
    have hL : ∀ r ∈ ((List.range p.toNat).filter fun k => !decide (((k : Nat) : Int) ∈ nb cs p)).map (fun k => ((k : Nat) : Int)), ¬ Good cs p (.int r) ∧ r.natAbs ≤ 100 := by
      intro r m
      obtain ⟨k, mk, rfl⟩ := List.mem_map.mp m
      rw [List.mem_filter, List.mem_range] at mk
      refine ⟨fun ⟨n, e, n0, n1, hn⟩ => ?_, by omega⟩
      injection e with e
      have z : ((k : Nat) : Int) ∉ nb cs p := by simpa using mk.2
      exact z (mem_nb.mpr ⟨by omega, by omega, by rw [e]; exact hn⟩)
    generalize ((List.range p.toNat).filter fun k => !decide (((k : Nat) : Int) ∈ nb cs p)).map (fun k => ((k : Nat) : Int)) = L at hL
    refine ⟨_, Sto.upd_same, fun r hr => ?_⟩
    rw [show (3 : Int) = ((3 : Nat) : Int) from rfl, cut_takeI]
    have c2 := (c1.new (ws := L.map Vl.int) hD).new (ws := (L.take 3).map Vl.int) hr
    have p2 := ((p1.new (l := L.map Vl.int) hD).1.new (l := (L.take 3).map Vl.int) hr).1
    have nqr : q ≠ r := fun z => by
      rw [← z, Sto.upd_ne nqD, q1] at hr; cases hr
    have q2 : ((X1.upd D (L.map Vl.int)).upd r ((L.take 3).map Vl.int)) q = some [.int (-1), .int p, .non, .bl true, .str "0"] := by rw [Sto.upd_ne nqr, Sto.upd_ne nqD]; exact q1
    have r2 : ((X1.upd D (L.map Vl.int)).upd r ((L.take 3).map Vl.int)) r = some ((L.take 3).map Vl.int) := Sto.upd_same
    generalize (X1.upd D (L.map Vl.int)).upd r ((L.take 3).map Vl.int) = X2 at c2 p2 q2 r2
    have l3 : (L.take 3).length ≤ 3 := by rw [List.length_take]; omega
    refine ⟨_, _, q2, r2, by rw [List.length_map, sizeLine_eq]; show 5 + _ ≤ _; omega, fun s hs => ?_⟩
    refine ⟨(p2.new (l := []) hs).2, c, by omega, (p2.new hs).1, _, Sto.upd_same, by rw [List.length_append]; show 1 ≤ 5 + _; omega, by rw [List.length_append, List.length_map]; show 5 + _ ≤ _; omega, fun w w1 hw hp3 => ?_⟩
    have c3 := (c2.new (ws := [.int (-1), .int p, .non, .bl true, .str "0"] ++ (L.take 3).map Vl.int) hs).upd (ws := w1)
    obtain ⟨wf, wg, x, hx⟩ : w.flat = true ∧ ¬ Good cs p w ∧ ∃ x, Rp w x := by
      rcases List.mem_append.mp hw with hw | hw
      · simp only [List.mem_cons, List.not_mem_nil, or_false] at hw
        rcases hw with rfl | rfl | rfl | rfl | rfl
        · exact ⟨rfl, fun ⟨n, e, n0, n1, _⟩ => by injection e with e; omega, _, rp_int (by decide)⟩
        · exact ⟨rfl, fun ⟨n, e, n0, n1, _⟩ => by injection e with e; omega, _, rp_int (Nat.lt_of_le_of_lt (show p.natAbs ≤ 100 by omega) (by decide +kernel))⟩
        · exact ⟨rfl, fun ⟨n, e, n0, n1, _⟩ => (by cases e), _, rp_non⟩
        · exact ⟨rfl, fun ⟨n, e, n0, n1, _⟩ => (by cases e), _, rp_bl _⟩
        · exact ⟨rfl, fun ⟨n, e, n0, n1, _⟩ => (by cases e), _, rp_0⟩
      · obtain ⟨r, mr, rfl⟩ := List.mem_map.mp hw
        obtain ⟨g, b⟩ := hL r (List.mem_of_mem_take mr)
        exact ⟨rfl, g, _, rp_int (Nat.lt_of_le_of_lt b (by decide +kernel))⟩
    refine r31v g16 g17 dc wf wg hx ?_
    obtain ⟨wf', k1, k2⟩ := Pot.fin c3 hp3
    exact ret_to k1 (h wf' k2)
/-- behind the single noughts -/
theorem r31t {Γ : Nat → SpW} {Q E : WK} {S X : Sto} {cs : List Int} {p : Int} {a : Addr} {c : Int} {x4 x5 x6 x7 x8 x9 x10 x11 x12 : Option Vl} (g16 : Γ 16 = sLifted) (g17 : Γ 17 = sAll) (g19 : Γ 19 = sTake) (g20 : Γ 20 = sOf) (g29 : Γ 29 = sAt) (g30 : Γ 30 = sWhole) (dc : Dc cs p) (hc : c + 1 ≤ 10 ^ 5) (hcp : Cp S a X) (hp : Pot X a c)
    (h : ∀ ws', Pot (S.upd a ws') a (c + 2) → Q (.bl true) (S.upd a ws')) : rdB b31t ⟨Γ, E, st.sub⟩ (endW Q) [some (.lst a), some (iT cs), some (.int p), some (iT (nb cs p)), x4, x5, x6, x7, x8, x9, x10, x11, x12] X := by
  have hp2 := dc.by_.pr.le
  have l5 := dc.len
  unfold b31t
  simp only [PW.o_nil, PW.o_seq, PW.o_asg, PW.o_par, PW.o_asgI, PW.o_aug, PW.o_augI, PW.o_ex, PW.o_ret, PW.o_retN, PW.o_ifs, PW.o_for, PW.o_whl, PW.o_rais, PW.o_brk, PW.o_cnt, PW.o_pass, PW.e_var, PW.e_int, PW.e_bl, PW.e_non, PW.e_str, PW.e_gint, PW.e_gti, PW.e_gtt, PW.e_gst, PW.e_rev, PW.e_cls, PW.e_ty, PW.e_tup, PW.e_lst, PW.e_bin, PW.e_neg, PW.e_not, PW.e_and, PW.e_or, PW.e_cmp, PW.e_chn, PW.e_ite, PW.e_ix, PW.e_slc, PW.e_call, PW.e_callk, PW.e_blt, PW.e_mth, PW.e_lrng, PW.e_att, PW.e_hrd, PW.e_comp, PW.e_comp2, PW.t_var, PW.t_bl, PW.t_cmp, PW.t_chn, PW.t_not, PW.t_and, PW.t_or, PW.t_ite, PW.t_call, PW.t_callk, PW.t_blt, PW.t_ix, PW.a_nil, PW.a_cons, PW.a_scons, PW.p_nil, PW.p_int, PW.p_var, PW.p_bin, PW.p_neg, PW.c_cmp, PW.c_chn, PW.c_not, PW.c_and, PW.c_or, PW.c_call, PW.c_blt, PW.c_var, PW.t_int, PW.c_nil, PW.i_rng, PW.i_enm, PW.i_revd, PW.i_zp, PW.i_var, PW.i_tup, PW.i_rev, PW.i_comp, PW.i_ix, PW.i_gti, PW.i_call, PW.i_slc, PW.op_add, PW.op_sub, PW.op_mul, PW.op_fdv, PW.op_mod, PW.op_pow, PW.op_addS, PW.op_addT, PW.op_addL, PW.op_repL, PW.cm_lt, PW.cm_le, PW.cm_gt, PW.cm_ge, PW.cm_eq, PW.cm_ne, PW.cm_eqS, PW.cm_neS, PW.cm_eqT, PW.cm_neT, PW.cm_eqL, PW.cm_neL, PW.cm_inT, PW.cm_niT, PW.cm_eqB, PW.cm_isNN, PW.cm_isNE, PW.cm_isNT, PW.cm_isNI, PW.cm_noNN, PW.cm_noNE, PW.cm_noNT, PW.cm_noNI, PW.tr_bl, PW.tr_int, PW.tr_non, PW.tr_lst, PW.tr_rol, PW.tr_tup, PW.ix_rol, PW.b_abs, PW.b_int, PW.b_boolI, PW.b_boolB, PW.b_intB, PW.b_max, PW.b_min, PW.b_lenT, PW.b_lenR, PW.b_lenL, PW.b_sum, PW.b_all, PW.b_any, PW.b_sorted, PW.b_tupT, PW.b_listT, PW.b_listL, PW.b_isN, PW.b_isB, PW.b_isS, PW.b_tupL, PW.b_isI, PW.b_isT, PW.b_isE, PW.m_pop, PW.m_ext, PW.m_rev, PW.m_app, PW.g_nm, PW.g_tup, PW.g_cons, PW.g_nil, endW, startW, List.map_cons, List.map_nil, List.length_cons, List.length_nil, List.replicate, Nat.reduceAdd, Nat.reduceSub, Nat.zero_add, List.cons_append, List.nil_append, List.append_nil, List.getElem?_cons_zero, List.getElem?_cons_succ, List.set_cons_zero, List.set_cons_succ, setS, T.alen, g19, sTake, g30, sWhole, wipe_12]
  refine ⟨by decide, by decide, c, by omega, hp, fun e w1 e0 e1 hp1 => ?_⟩
  have c1 := hcp.upd (ws := w1)
  generalize X.upd a w1 = X1 at c1 hp1
  obtain ⟨k, ek, k1, k4⟩ : ∃ k : Nat, 1 + e = (k : Int) ∧ 1 ≤ k ∧ k ≤ 4 := ⟨(1 + e).toNat, by omega, by omega, by omega⟩
  rw [ek]
  have P := pow_sm (p := p) (k := k) (by omega) hp2.2 (by omega)
  refine ⟨k, rfl, by omega, by omega, hp2.2, ?_⟩
  have fin : ∀ (X2 : Sto) (x10 : Option Vl), Cp S a X2 → Pot X2 a (c + 1) → rdB b31u ⟨Γ, E, st.sub⟩ (endW Q) [some (.lst a), some (iT cs), some (.int p), some (iT (nb cs p)), x4, some (.int (k : Nat)), some (.int (p ^ k)), x7, x8, x9, x10, x11, x12] X2 := fun X2 x10 c2 p2 =>
    r31u g16 g17 g20 dc hc c2 p2 fun ws' hq => h ws' (hq.mono (by omega))
  by_cases z : p ^ k ≤ 400
  · simp only [decide_eq_true z, if_true]
    simp only [PW.o_nil, PW.o_seq, PW.o_asg, PW.o_par, PW.o_asgI, PW.o_aug, PW.o_augI, PW.o_ex, PW.o_ret, PW.o_retN, PW.o_ifs, PW.o_for, PW.o_whl, PW.o_rais, PW.o_brk, PW.o_cnt, PW.o_pass, PW.e_var, PW.e_int, PW.e_bl, PW.e_non, PW.e_str, PW.e_gint, PW.e_gti, PW.e_gtt, PW.e_gst, PW.e_rev, PW.e_cls, PW.e_ty, PW.e_tup, PW.e_lst, PW.e_bin, PW.e_neg, PW.e_not, PW.e_and, PW.e_or, PW.e_cmp, PW.e_chn, PW.e_ite, PW.e_ix, PW.e_slc, PW.e_call, PW.e_callk, PW.e_blt, PW.e_mth, PW.e_lrng, PW.e_att, PW.e_hrd, PW.e_comp, PW.e_comp2, PW.t_var, PW.t_bl, PW.t_cmp, PW.t_chn, PW.t_not, PW.t_and, PW.t_or, PW.t_ite, PW.t_call, PW.t_callk, PW.t_blt, PW.t_ix, PW.a_nil, PW.a_cons, PW.a_scons, PW.p_nil, PW.p_int, PW.p_var, PW.p_bin, PW.p_neg, PW.c_cmp, PW.c_chn, PW.c_not, PW.c_and, PW.c_or, PW.c_call, PW.c_blt, PW.c_var, PW.t_int, PW.c_nil, PW.i_rng, PW.i_enm, PW.i_revd, PW.i_zp, PW.i_var, PW.i_tup, PW.i_rev, PW.i_comp, PW.i_ix, PW.i_gti, PW.i_call, PW.i_slc, PW.op_add, PW.op_sub, PW.op_mul, PW.op_fdv, PW.op_mod, PW.op_pow, PW.op_addS, PW.op_addT, PW.op_addL, PW.op_repL, PW.cm_lt, PW.cm_le, PW.cm_gt, PW.cm_ge, PW.cm_eq, PW.cm_ne, PW.cm_eqS, PW.cm_neS, PW.cm_eqT, PW.cm_neT, PW.cm_eqL, PW.cm_neL, PW.cm_inT, PW.cm_niT, PW.cm_eqB, PW.cm_isNN, PW.cm_isNE, PW.cm_isNT, PW.cm_isNI, PW.cm_noNN, PW.cm_noNE, PW.cm_noNT, PW.cm_noNI, PW.tr_bl, PW.tr_int, PW.tr_non, PW.tr_lst, PW.tr_rol, PW.tr_tup, PW.ix_rol, PW.b_abs, PW.b_int, PW.b_boolI, PW.b_boolB, PW.b_intB, PW.b_max, PW.b_min, PW.b_lenT, PW.b_lenR, PW.b_lenL, PW.b_sum, PW.b_all, PW.b_any, PW.b_sorted, PW.b_tupT, PW.b_listT, PW.b_listL, PW.b_isN, PW.b_isB, PW.b_isS, PW.b_tupL, PW.b_isI, PW.b_isT, PW.b_isE, PW.m_pop, PW.m_ext, PW.m_rev, PW.m_app, PW.g_nm, PW.g_tup, PW.g_cons, PW.g_nil, endW, startW, List.map_cons, List.map_nil, List.length_cons, List.length_nil, List.replicate, Nat.reduceAdd, Nat.reduceSub, Nat.zero_add, List.cons_append, List.nil_append, List.append_nil, List.getElem?_cons_zero, List.getElem?_cons_succ, List.set_cons_zero, List.set_cons_succ, setS, T.alen, rngG, wipe_12]
    refine ⟨trivial, ⟨by omega, by omega⟩, fun D hD => ?_⟩
    have eR : rangeW 0 (p ^ k).toNat = (List.range (p ^ k).toNat).map fun i => Vl.int (0 + ((i : Nat) : Int)) := rfl
    rw [eR]
    refine lc_fm (ι := fun i : Nat => Vl.int (0 + ((i : Nat) : Int))) (F := fun i => if QM.ev cs (0 + ((i : Nat) : Int)) % p ^ k = 0 then some (.int (0 + ((i : Nat) : Int))) else none) (fun _ => True) (fun _ _ _ => trivial) (fun _ _ => trivial) (List.range (p ^ k).toNat) [] _ (fun i m S' K K2 _ hk => ?_) trivial Sto.upd_same (by rw [List.length_nil, List.length_range, sizeLine_eq]; omega) ?_
    · have hm := List.mem_range.mp m
      simp only [PW.o_nil, PW.o_seq, PW.o_asg, PW.o_par, PW.o_asgI, PW.o_aug, PW.o_augI, PW.o_ex, PW.o_ret, PW.o_retN, PW.o_ifs, PW.o_for, PW.o_whl, PW.o_rais, PW.o_brk, PW.o_cnt, PW.o_pass, PW.e_var, PW.e_int, PW.e_bl, PW.e_non, PW.e_str, PW.e_gint, PW.e_gti, PW.e_gtt, PW.e_gst, PW.e_rev, PW.e_cls, PW.e_ty, PW.e_tup, PW.e_lst, PW.e_bin, PW.e_neg, PW.e_not, PW.e_and, PW.e_or, PW.e_cmp, PW.e_chn, PW.e_ite, PW.e_ix, PW.e_slc, PW.e_call, PW.e_callk, PW.e_blt, PW.e_mth, PW.e_lrng, PW.e_att, PW.e_hrd, PW.e_comp, PW.e_comp2, PW.t_var, PW.t_bl, PW.t_cmp, PW.t_chn, PW.t_not, PW.t_and, PW.t_or, PW.t_ite, PW.t_call, PW.t_callk, PW.t_blt, PW.t_ix, PW.a_nil, PW.a_cons, PW.a_scons, PW.p_nil, PW.p_int, PW.p_var, PW.p_bin, PW.p_neg, PW.c_cmp, PW.c_chn, PW.c_not, PW.c_and, PW.c_or, PW.c_call, PW.c_blt, PW.c_var, PW.t_int, PW.c_nil, PW.i_rng, PW.i_enm, PW.i_revd, PW.i_zp, PW.i_var, PW.i_tup, PW.i_rev, PW.i_comp, PW.i_ix, PW.i_gti, PW.i_call, PW.i_slc, PW.op_add, PW.op_sub, PW.op_mul, PW.op_fdv, PW.op_mod, PW.op_pow, PW.op_addS, PW.op_addT, PW.op_addL, PW.op_repL, PW.cm_lt, PW.cm_le, PW.cm_gt, PW.cm_ge, PW.cm_eq, PW.cm_ne, PW.cm_eqS, PW.cm_neS, PW.cm_eqT, PW.cm_neT, PW.cm_eqL, PW.cm_neL, PW.cm_inT, PW.cm_niT, PW.cm_eqB, PW.cm_isNN, PW.cm_isNE, PW.cm_isNT, PW.cm_isNI, PW.cm_noNN, PW.cm_noNE, PW.cm_noNT, PW.cm_noNI, PW.tr_bl, PW.tr_int, PW.tr_non, PW.tr_lst, PW.tr_rol, PW.tr_tup, PW.ix_rol, PW.b_abs, PW.b_int, PW.b_boolI, PW.b_boolB, PW.b_intB, PW.b_max, PW.b_min, PW.b_lenT, PW.b_lenR, PW.b_lenL, PW.b_sum, PW.b_all, PW.b_any, PW.b_sorted, PW.b_tupT, PW.b_listT, PW.b_listL, PW.b_isN, PW.b_isB, PW.b_isS, PW.b_tupL, PW.b_isI, PW.b_isT, PW.b_isE, PW.m_pop, PW.m_ext, PW.m_rev, PW.m_app, PW.g_nm, PW.g_tup, PW.g_cons, PW.g_nil, endW, startW, List.map_cons, List.map_nil, List.length_cons, List.length_nil, List.replicate, Nat.reduceAdd, Nat.reduceSub, Nat.zero_add, List.cons_append, List.nil_append, List.append_nil, List.getElem?_cons_zero, List.getElem?_cons_succ, List.set_cons_zero, List.set_cons_succ, setS, T.alen, no_ga, g29, sAt]
      refine ⟨cs, rfl, by omega, ⟨700, by decide, fun b m => ?_, nb_up (m := 62) (by omega) (by decide)⟩, ?_⟩
      · have := dc.bd b m
        exact nb_up (m := 62) (by omega) (by decide)
      rw [Int.fmod_eq_emod_of_nonneg _ (by omega)]
      refine ⟨by omega, ?_⟩
      by_cases y : QM.ev cs (0 + ((i : Nat) : Int)) % p ^ k = 0
      · simp only [if_pos y] at hk
        simp only [decide_eq_true y, if_true]
        exact hk S' (wsub_refl _)
      · simp only [if_neg y] at hk
        simp only [decide_eq_false y, Bool.false_eq_true, if_false]
        exact hk
    · rw [List.nil_append, fm_nb, Sto.upd_upd]
      refine ⟨_, Sto.upd_same, ?_⟩
      have c2 := c1.new (ws := (nb cs (p ^ k)).map Vl.int) hD
      have p2 := (hp1.new (l := (nb cs (p ^ k)).map Vl.int) hD).1
      generalize X1.upd D ((nb cs (p ^ k)).map Vl.int) = X2 at c2 p2
      simp only [PW.o_nil, PW.o_seq, PW.o_asg, PW.o_par, PW.o_asgI, PW.o_aug, PW.o_augI, PW.o_ex, PW.o_ret, PW.o_retN, PW.o_ifs, PW.o_for, PW.o_whl, PW.o_rais, PW.o_brk, PW.o_cnt, PW.o_pass, PW.e_var, PW.e_int, PW.e_bl, PW.e_non, PW.e_str, PW.e_gint, PW.e_gti, PW.e_gtt, PW.e_gst, PW.e_rev, PW.e_cls, PW.e_ty, PW.e_tup, PW.e_lst, PW.e_bin, PW.e_neg, PW.e_not, PW.e_and, PW.e_or, PW.e_cmp, PW.e_chn, PW.e_ite, PW.e_ix, PW.e_slc, PW.e_call, PW.e_callk, PW.e_blt, PW.e_mth, PW.e_lrng, PW.e_att, PW.e_hrd, PW.e_comp, PW.e_comp2, PW.t_var, PW.t_bl, PW.t_cmp, PW.t_chn, PW.t_not, PW.t_and, PW.t_or, PW.t_ite, PW.t_call, PW.t_callk, PW.t_blt, PW.t_ix, PW.a_nil, PW.a_cons, PW.a_scons, PW.p_nil, PW.p_int, PW.p_var, PW.p_bin, PW.p_neg, PW.c_cmp, PW.c_chn, PW.c_not, PW.c_and, PW.c_or, PW.c_call, PW.c_blt, PW.c_var, PW.t_int, PW.c_nil, PW.i_rng, PW.i_enm, PW.i_revd, PW.i_zp, PW.i_var, PW.i_tup, PW.i_rev, PW.i_comp, PW.i_ix, PW.i_gti, PW.i_call, PW.i_slc, PW.op_add, PW.op_sub, PW.op_mul, PW.op_fdv, PW.op_mod, PW.op_pow, PW.op_addS, PW.op_addT, PW.op_addL, PW.op_repL, PW.cm_lt, PW.cm_le, PW.cm_gt, PW.cm_ge, PW.cm_eq, PW.cm_ne, PW.cm_eqS, PW.cm_neS, PW.cm_eqT, PW.cm_neT, PW.cm_eqL, PW.cm_neL, PW.cm_inT, PW.cm_niT, PW.cm_eqB, PW.cm_isNN, PW.cm_isNE, PW.cm_isNT, PW.cm_isNI, PW.cm_noNN, PW.cm_noNE, PW.cm_noNT, PW.cm_noNI, PW.tr_bl, PW.tr_int, PW.tr_non, PW.tr_lst, PW.tr_rol, PW.tr_tup, PW.ix_rol, PW.b_abs, PW.b_int, PW.b_boolI, PW.b_boolB, PW.b_intB, PW.b_max, PW.b_min, PW.b_lenT, PW.b_lenR, PW.b_lenL, PW.b_sum, PW.b_all, PW.b_any, PW.b_sorted, PW.b_tupT, PW.b_listT, PW.b_listL, PW.b_isN, PW.b_isB, PW.b_isS, PW.b_tupL, PW.b_isI, PW.b_isT, PW.b_isE, PW.m_pop, PW.m_ext, PW.m_rev, PW.m_app, PW.g_nm, PW.g_tup, PW.g_cons, PW.g_nil, endW, startW, List.map_cons, List.map_nil, List.length_cons, List.length_nil, List.replicate, Nat.reduceAdd, Nat.reduceSub, Nat.zero_add, List.cons_append, List.nil_append, List.append_nil, List.getElem?_cons_zero, List.getElem?_cons_succ, List.set_cons_zero, List.set_cons_succ, setS, T.alen, g17, sAll]
      refine ⟨trivial, trivial, cs, rfl, dc.by_, rfl, fun y => ?_, fun kk ekk k1 k2 => ⟨?_, ?_⟩⟩
      · rw [isI_int, decide_eq_true (show (1 : Int) ≤ (k : Int) by omega), decide_eq_true (show (k : Int) ≤ 100 by omega)] at y
        cases y
      · have : ((k : Nat) : Int) = ((kk : Nat) : Int) := by injection ekk
        obtain rfl : k = kk := by omega
        exact z
      · have : ((k : Nat) : Int) = ((kk : Nat) : Int) := by injection ekk
        obtain rfl : k = kk := by omega
        have e1 := rp_tup (ns := nb cs (p ^ k)) (fun r m => by
          have := mem_nb.mp m
          exact Nat.lt_of_le_of_lt (show r.natAbs ≤ 400 by omega) (by decide +kernel)) (by
          have := len_nb cs (p ^ k)
          omega)
        unfold Rp at e1
        simp only [PW.o_nil, PW.o_seq, PW.o_asg, PW.o_par, PW.o_asgI, PW.o_aug, PW.o_augI, PW.o_ex, PW.o_ret, PW.o_retN, PW.o_ifs, PW.o_for, PW.o_whl, PW.o_rais, PW.o_brk, PW.o_cnt, PW.o_pass, PW.e_var, PW.e_int, PW.e_bl, PW.e_non, PW.e_str, PW.e_gint, PW.e_gti, PW.e_gtt, PW.e_gst, PW.e_rev, PW.e_cls, PW.e_ty, PW.e_tup, PW.e_lst, PW.e_bin, PW.e_neg, PW.e_not, PW.e_and, PW.e_or, PW.e_cmp, PW.e_chn, PW.e_ite, PW.e_ix, PW.e_slc, PW.e_call, PW.e_callk, PW.e_blt, PW.e_mth, PW.e_lrng, PW.e_att, PW.e_hrd, PW.e_comp, PW.e_comp2, PW.t_var, PW.t_bl, PW.t_cmp, PW.t_chn, PW.t_not, PW.t_and, PW.t_or, PW.t_ite, PW.t_call, PW.t_callk, PW.t_blt, PW.t_ix, PW.a_nil, PW.a_cons, PW.a_scons, PW.p_nil, PW.p_int, PW.p_var, PW.p_bin, PW.p_neg, PW.c_cmp, PW.c_chn, PW.c_not, PW.c_and, PW.c_or, PW.c_call, PW.c_blt, PW.c_var, PW.t_int, PW.c_nil, PW.i_rng, PW.i_enm, PW.i_revd, PW.i_zp, PW.i_var, PW.i_tup, PW.i_rev, PW.i_comp, PW.i_ix, PW.i_gti, PW.i_call, PW.i_slc, PW.op_add, PW.op_sub, PW.op_mul, PW.op_fdv, PW.op_mod, PW.op_pow, PW.op_addS, PW.op_addT, PW.op_addL, PW.op_repL, PW.cm_lt, PW.cm_le, PW.cm_gt, PW.cm_ge, PW.cm_eq, PW.cm_ne, PW.cm_eqS, PW.cm_neS, PW.cm_eqT, PW.cm_neT, PW.cm_eqL, PW.cm_neL, PW.cm_inT, PW.cm_niT, PW.cm_eqB, PW.cm_isNN, PW.cm_isNE, PW.cm_isNT, PW.cm_isNI, PW.cm_noNN, PW.cm_noNE, PW.cm_noNT, PW.cm_noNI, PW.tr_bl, PW.tr_int, PW.tr_non, PW.tr_lst, PW.tr_rol, PW.tr_tup, PW.ix_rol, PW.b_abs, PW.b_int, PW.b_boolI, PW.b_boolB, PW.b_intB, PW.b_max, PW.b_min, PW.b_lenT, PW.b_lenR, PW.b_lenL, PW.b_sum, PW.b_all, PW.b_any, PW.b_sorted, PW.b_tupT, PW.b_listT, PW.b_listL, PW.b_isN, PW.b_isB, PW.b_isS, PW.b_tupL, PW.b_isI, PW.b_isT, PW.b_isE, PW.m_pop, PW.m_ext, PW.m_rev, PW.m_app, PW.g_nm, PW.g_tup, PW.g_cons, PW.g_nil, endW, startW, List.map_cons, List.map_nil, List.length_cons, List.length_nil, List.replicate, Nat.reduceAdd, Nat.reduceSub, Nat.zero_add, List.cons_append, List.nil_append, List.append_nil, List.getElem?_cons_zero, List.getElem?_cons_succ, List.set_cons_zero, List.set_cons_succ, setS, T.alen, e1, decide_true, Bool.not_true, Bool.false_eq_true, if_false]
        exact fin X2 _ c2 p2
  · simp only [decide_eq_false z, Bool.false_eq_true, if_false]
    exact fin X1 _ c1 hp1
def sIsRight : SpW := fun ws S Q _ => match ws with
  | [.lst a, .tup ws, .int p] => ∃ cs : List Int, ws = cs.map Vl.int ∧ Dc cs p ∧ ∃ n, n ≤ 10 ^ 4 ∧ Pot S a n ∧ ∀ ws', Pot (S.upd a ws') a (n + 10) → Q (.bl true) (S.upd a ws')
  | _ => False
theorem r31 (Γ : Nat → SpW) (ws S Q E) (g14 : Γ 14 = sNoughts) (g16 : Γ 16 = sLifted) (g17 : Γ 17 = sAll) (g19 : Γ 19 = sTake) (g20 : Γ 20 = sOf) (g22 : Γ 22 = sIsInt) (g27 : Γ 27 = sSlope) (g29 : Γ 29 = sAt) (g30 : Γ 30 = sWhole) (h : sIsRight ws S Q E) : rdB b31 ⟨Γ, E, st.sub⟩ (endW Q) (startW N31.length ws) S := by
  unfold sIsRight at h
  split at h
  · rename_i a ws p
    obtain ⟨cs, rfl, dc, n, hn, hp, h⟩ := h
    rw [b31_eq]
    unfold N31
    simp only [PW.o_nil, PW.o_seq, PW.o_asg, PW.o_par, PW.o_asgI, PW.o_aug, PW.o_augI, PW.o_ex, PW.o_ret, PW.o_retN, PW.o_ifs, PW.o_for, PW.o_whl, PW.o_rais, PW.o_brk, PW.o_cnt, PW.o_pass, PW.e_var, PW.e_int, PW.e_bl, PW.e_non, PW.e_str, PW.e_gint, PW.e_gti, PW.e_gtt, PW.e_gst, PW.e_rev, PW.e_cls, PW.e_ty, PW.e_tup, PW.e_lst, PW.e_bin, PW.e_neg, PW.e_not, PW.e_and, PW.e_or, PW.e_cmp, PW.e_chn, PW.e_ite, PW.e_ix, PW.e_slc, PW.e_call, PW.e_callk, PW.e_blt, PW.e_mth, PW.e_lrng, PW.e_att, PW.e_hrd, PW.e_comp, PW.e_comp2, PW.t_var, PW.t_bl, PW.t_cmp, PW.t_chn, PW.t_not, PW.t_and, PW.t_or, PW.t_ite, PW.t_call, PW.t_callk, PW.t_blt, PW.t_ix, PW.a_nil, PW.a_cons, PW.a_scons, PW.p_nil, PW.p_int, PW.p_var, PW.p_bin, PW.p_neg, PW.c_cmp, PW.c_chn, PW.c_not, PW.c_and, PW.c_or, PW.c_call, PW.c_blt, PW.c_var, PW.t_int, PW.c_nil, PW.i_rng, PW.i_enm, PW.i_revd, PW.i_zp, PW.i_var, PW.i_tup, PW.i_rev, PW.i_comp, PW.i_ix, PW.i_gti, PW.i_call, PW.i_slc, PW.op_add, PW.op_sub, PW.op_mul, PW.op_fdv, PW.op_mod, PW.op_pow, PW.op_addS, PW.op_addT, PW.op_addL, PW.op_repL, PW.cm_lt, PW.cm_le, PW.cm_gt, PW.cm_ge, PW.cm_eq, PW.cm_ne, PW.cm_eqS, PW.cm_neS, PW.cm_eqT, PW.cm_neT, PW.cm_eqL, PW.cm_neL, PW.cm_inT, PW.cm_niT, PW.cm_eqB, PW.cm_isNN, PW.cm_isNE, PW.cm_isNT, PW.cm_isNI, PW.cm_noNN, PW.cm_noNE, PW.cm_noNT, PW.cm_noNI, PW.tr_bl, PW.tr_int, PW.tr_non, PW.tr_lst, PW.tr_rol, PW.tr_tup, PW.ix_rol, PW.b_abs, PW.b_int, PW.b_boolI, PW.b_boolB, PW.b_intB, PW.b_max, PW.b_min, PW.b_lenT, PW.b_lenR, PW.b_lenL, PW.b_sum, PW.b_all, PW.b_any, PW.b_sorted, PW.b_tupT, PW.b_listT, PW.b_listL, PW.b_isN, PW.b_isB, PW.b_isS, PW.b_tupL, PW.b_isI, PW.b_isT, PW.b_isE, PW.m_pop, PW.m_ext, PW.m_rev, PW.m_app, PW.g_nm, PW.g_tup, PW.g_cons, PW.g_nil, endW, startW, List.map_cons, List.map_nil, List.length_cons, List.length_nil, List.replicate, Nat.reduceAdd, Nat.reduceSub, Nat.zero_add, List.cons_append, List.nil_append, List.append_nil, List.getElem?_cons_zero, List.getElem?_cons_succ, List.set_cons_zero, List.set_cons_succ, setS, T.alen, g14, sNoughts]
    refine ⟨cs, rfl, dc.by_, ?_⟩
    rw [slT, seqT, show (3 : Int) = ((3 : Nat) : Int) from rfl, cut_takeI]
    have key : ∀ (l : List Int) (X : Sto) (c : Int) (x4 x5 x6 x7 x8 x9 x10 x11 x12 : Option Vl), (∀ r ∈ l, r ∈ nb cs p) → c + 2 * l.length ≤ n + 6 → Cp S a X → Pot X a c →
        forR (fun _ => True) (gP (.nm 4)) (rdB b31l ⟨Γ, E, st.sub⟩) { nx := rdB b31t ⟨Γ, E, st.sub⟩ { nx := fun _ S => ∃ S2, wsub S2 S ∧ Q Vl.non S2, rt := Q }, rt := Q } (l.map Vl.int)
          [some (.lst a), some (iT cs), some (.int p), some (iT (nb cs p)), x4, x5, x6, x7, x8, x9, x10, x11, x12] X := by
      intro l
      induction l with
      | nil =>
        intro X c x4 x5 x6 x7 x8 x9 x10 x11 x12 _ hc hcp hp
        rw [List.map_nil, for_nil]
        exact ⟨trivial, r31t g16 g17 g19 g20 g29 g30 dc (c := n + 6) (by omega) hcp (hp.mono (by simpa using hc)) fun ws' hq => h ws' (hq.mono (by omega))⟩
      | cons r l ih =>
        intro X c x4 x5 x6 x7 x8 x9 x10 x11 x12 hl hc hcp hp
        rw [List.length_cons] at hc
        rw [List.map_cons, for_cons]
        refine ⟨trivial, ?_⟩
        simp only [PW.o_nil, PW.o_seq, PW.o_asg, PW.o_par, PW.o_asgI, PW.o_aug, PW.o_augI, PW.o_ex, PW.o_ret, PW.o_retN, PW.o_ifs, PW.o_for, PW.o_whl, PW.o_rais, PW.o_brk, PW.o_cnt, PW.o_pass, PW.e_var, PW.e_int, PW.e_bl, PW.e_non, PW.e_str, PW.e_gint, PW.e_gti, PW.e_gtt, PW.e_gst, PW.e_rev, PW.e_cls, PW.e_ty, PW.e_tup, PW.e_lst, PW.e_bin, PW.e_neg, PW.e_not, PW.e_and, PW.e_or, PW.e_cmp, PW.e_chn, PW.e_ite, PW.e_ix, PW.e_slc, PW.e_call, PW.e_callk, PW.e_blt, PW.e_mth, PW.e_lrng, PW.e_att, PW.e_hrd, PW.e_comp, PW.e_comp2, PW.t_var, PW.t_bl, PW.t_cmp, PW.t_chn, PW.t_not, PW.t_and, PW.t_or, PW.t_ite, PW.t_call, PW.t_callk, PW.t_blt, PW.t_ix, PW.a_nil, PW.a_cons, PW.a_scons, PW.p_nil, PW.p_int, PW.p_var, PW.p_bin, PW.p_neg, PW.c_cmp, PW.c_chn, PW.c_not, PW.c_and, PW.c_or, PW.c_call, PW.c_blt, PW.c_var, PW.t_int, PW.c_nil, PW.i_rng, PW.i_enm, PW.i_revd, PW.i_zp, PW.i_var, PW.i_tup, PW.i_rev, PW.i_comp, PW.i_ix, PW.i_gti, PW.i_call, PW.i_slc, PW.op_add, PW.op_sub, PW.op_mul, PW.op_fdv, PW.op_mod, PW.op_pow, PW.op_addS, PW.op_addT, PW.op_addL, PW.op_repL, PW.cm_lt, PW.cm_le, PW.cm_gt, PW.cm_ge, PW.cm_eq, PW.cm_ne, PW.cm_eqS, PW.cm_neS, PW.cm_eqT, PW.cm_neT, PW.cm_eqL, PW.cm_neL, PW.cm_inT, PW.cm_niT, PW.cm_eqB, PW.cm_isNN, PW.cm_isNE, PW.cm_isNT, PW.cm_isNI, PW.cm_noNN, PW.cm_noNE, PW.cm_noNT, PW.cm_noNI, PW.tr_bl, PW.tr_int, PW.tr_non, PW.tr_lst, PW.tr_rol, PW.tr_tup, PW.ix_rol, PW.b_abs, PW.b_int, PW.b_boolI, PW.b_boolB, PW.b_intB, PW.b_max, PW.b_min, PW.b_lenT, PW.b_lenR, PW.b_lenL, PW.b_sum, PW.b_all, PW.b_any, PW.b_sorted, PW.b_tupT, PW.b_listT, PW.b_listL, PW.b_isN, PW.b_isB, PW.b_isS, PW.b_tupL, PW.b_isI, PW.b_isT, PW.b_isE, PW.m_pop, PW.m_ext, PW.m_rev, PW.m_app, PW.g_nm, PW.g_tup, PW.g_cons, PW.g_nil, endW, startW, List.map_cons, List.map_nil, List.length_cons, List.length_nil, List.replicate, Nat.reduceAdd, Nat.reduceSub, Nat.zero_add, List.cons_append, List.nil_append, List.append_nil, List.getElem?_cons_zero, List.getElem?_cons_succ, List.set_cons_zero, List.set_cons_succ, setS, T.alen]
        obtain ⟨r0, r1, rz⟩ := mem_nb.mp (hl r List.mem_cons_self)
        refine r31l g16 g20 g22 g27 g29 g30 dc r0 r1 rz (c := c) (by omega) hcp hp fun X' x5 x6 x7 x8 x11 c2 p2 => ?_
        have := ih X' (c + 2) (some (.int r)) x5 x6 x7 x8 x9 x10 x11 x12 (fun b m => hl b (List.mem_cons_of_mem _ m)) (by omega) c2 p2
        exact ⟨less_same this, less_same this⟩
    have l3 : ((nb cs p).take 3).length ≤ 3 := by rw [List.length_take]; omega
    exact key ((nb cs p).take 3) S n none none none none none none none none none (fun r m => List.mem_of_mem_take m) (by omega) Cp.refl hp
  · exact h.elim

end LW

set_option Elab.async false
set_option linter.all false
set_option maxRecDepth 100000
set_option maxHeartbeats 2000000
set_option exponentiation.threshold 100000
namespace LW
open PySem PySem.Spec PyProof.Rows L2 PW LQ KM
def b32e : B := (.seq (.ret (.cmp .Eq (.comp (.call 16 (.cons (.tup (.cons (.neg (.int 2)) (.cons (.int 0) (.cons (.int 1) .nil)))) (.cons (.int 7) (.cons (.var 4) (.cons (.int 4) .nil))))) (.nm 4) (.tup (.cons (.int 3) (.cons (.int 4) .nil))) .nil [("nought", 4)]) (.lst (.cons (.int 2166) (.cons (.int 235) .nil))))) .nil)
def b32i : B := (.seq (.ifs (.and (.not (.blt .all (.cons (.comp (.cmp .Eq (.bin .Mod (.var 5) (.var 3)) (.int 0)) (.nm 5) (.var 2) .nil [("part", 5)]) .nil))) (.not (.call 31 (.cons (.var 0) (.cons (.var 2) (.cons (.var 3) .nil)))))) (.seq (.ret (.bl false)) .nil) .nil) .nil)
def b32l : B := (.seq (.asg (.tup (.cons (.nm 2) (.cons (.nm 3) .nil))) (.tup (.cons (.call 28 (.cons (.var 0) (.cons (.int 4) .nil))) (.cons (.call 20 (.cons (.var 0) (.cons (.lst (.cons (.int 2) (.cons (.int 3) (.cons (.int 3) (.cons (.int 5) (.cons (.int 7) (.cons (.int 13) (.cons (.int 47) .nil)))))))) .nil))) .nil)))) b32i)
theorem b32_eq : b32 = (.seq (.for (.nm 1) (.rng (.cons (.int 4) .nil)) b32l) b32e) := rfl
theorem toldP_of {ws S Q E} (h : sTold ws S Q E) : sToldP ws S Q E := by
  unfold sTold at h
  split at h
  · obtain ⟨ns, a, b, c⟩ := h
    exact ⟨ns, .inl ⟨_, rfl, a⟩, b, c⟩
  · exact h.elim
theorem two_roots : ∀ r ∈ List.range 2401, (r * r + 2399) % 2401 = 0 → (r % 7 = 3 → r = 2166) ∧ (r % 7 = 4 → r = 235) := by decide +kernel
theorem root_is {r : Int} (h0 : 0 ≤ r) (h1 : r < 7 ^ 4) (h : QM.ev [-2, 0, 1] r % 7 ^ 4 = 0) : (r % 7 = 3 → r = 2166) ∧ (r % 7 = 4 → r = 235) := by
  obtain ⟨n, rfl⟩ : ∃ n : Nat, r = (n : Int) := ⟨r.toNat, by omega⟩
  have e : QM.ev [-2, 0, 1] (n : Int) = (n : Int) * (n : Int) - 2 := by
    show -2 + (n : Int) * (0 + (n : Int) * (1 + (n : Int) * 0)) = _
    rw [Int.mul_zero, Int.add_zero, Int.mul_one, Int.zero_add]; omega
  rw [e] at h
  have h2 : (n * n + 2399) % 2401 = 0 := by
    have : ((n * n + 2399 : Nat) : Int) = (n : Int) * (n : Int) - 2 + 2401 := by
      rw [Int.natCast_add, Int.natCast_mul]; omega
    omega
  obtain ⟨a, b⟩ := two_roots n (List.mem_range.mpr (by omega)) h2
  exact ⟨fun z => by have := a (by omega); omega, fun z => by have := b (by omega); omega⟩
theorem by7 : By [-2, 0, 1] 7 := ⟨⟨fun _ => by show (1 : Int) ≠ 0; decide, by decide, by decide⟩, by decide, by unfold Pr; decide, 1, by decide, by decide⟩
def sRight : SpW := fun ws S Q _ => match ws with
  | [.lst a] => ∃ n, n ≤ 1000 ∧ Pot S a n ∧ ∀ ws', Q (.bl true) (S.upd a ws')
  | _ => False
theorem wipe4 {o0 o1 o2 o3 o4 o5 : Option Vl} : wipeW [o0, o1, o2, o3, o4, o5] [4] = [o0, o1, o2, o3, none, o5] := rfl
theorem wipe5 {o0 o1 o2 o3 o4 o5 : Option Vl} : wipeW [o0, o1, o2, o3, o4, o5] [5] = [o0, o1, o2, o3, o4, none] := rfl
theorem r32e {Γ : Nat → SpW} {Q E : WK} {S X : Sto} {a : Addr} {n : Int} {x1 x2 x3 x4 x5 : Option Vl} (g16 : Γ 16 = sLifted) (hc : Cp S a X) (hp : Pot X a n) (h : ∀ ws', Q (.bl true) (S.upd a ws')) :
    rdB b32e ⟨Γ, E, st.sub⟩ (endW Q) [some (.lst a), x1, x2, x3, x4, x5] X := by
  unfold b32e
  simp only [PW.o_nil, PW.o_seq, PW.o_asg, PW.o_par, PW.o_asgI, PW.o_aug, PW.o_augI, PW.o_ex, PW.o_ret, PW.o_retN, PW.o_ifs, PW.o_for, PW.o_whl, PW.o_rais, PW.o_brk, PW.o_cnt, PW.o_pass, PW.e_var, PW.e_int, PW.e_bl, PW.e_non, PW.e_str, PW.e_gint, PW.e_gti, PW.e_gtt, PW.e_gst, PW.e_rev, PW.e_cls, PW.e_ty, PW.e_tup, PW.e_lst, PW.e_bin, PW.e_neg, PW.e_not, PW.e_and, PW.e_or, PW.e_cmp, PW.e_chn, PW.e_ite, PW.e_ix, PW.e_slc, PW.e_call, PW.e_callk, PW.e_blt, PW.e_mth, PW.e_lrng, PW.e_att, PW.e_hrd, PW.e_comp, PW.e_comp2, PW.t_var, PW.t_bl, PW.t_cmp, PW.t_chn, PW.t_not, PW.t_and, PW.t_or, PW.t_ite, PW.t_call, PW.t_callk, PW.t_blt, PW.t_ix, PW.a_nil, PW.a_cons, PW.a_scons, PW.p_nil, PW.p_int, PW.p_var, PW.p_bin, PW.p_neg, PW.c_cmp, PW.c_chn, PW.c_not, PW.c_and, PW.c_or, PW.c_call, PW.c_blt, PW.c_var, PW.t_int, PW.c_nil, PW.i_rng, PW.i_enm, PW.i_revd, PW.i_zp, PW.i_var, PW.i_tup, PW.i_rev, PW.i_comp, PW.i_ix, PW.i_gti, PW.i_call, PW.i_slc, PW.op_add, PW.op_sub, PW.op_mul, PW.op_fdv, PW.op_mod, PW.op_pow, PW.op_addS, PW.op_addT, PW.op_addL, PW.op_repL, PW.cm_lt, PW.cm_le, PW.cm_gt, PW.cm_ge, PW.cm_eq, PW.cm_ne, PW.cm_eqS, PW.cm_neS, PW.cm_eqT, PW.cm_neT, PW.cm_eqL, PW.cm_neL, PW.cm_inT, PW.cm_niT, PW.cm_eqB, PW.cm_isNN, PW.cm_isNE, PW.cm_isNT, PW.cm_isNI, PW.cm_noNN, PW.cm_noNE, PW.cm_noNT, PW.cm_noNI, PW.tr_bl, PW.tr_int, PW.tr_non, PW.tr_lst, PW.tr_rol, PW.tr_tup, PW.ix_rol, PW.b_abs, PW.b_int, PW.b_boolI, PW.b_boolB, PW.b_intB, PW.b_max, PW.b_min, PW.b_lenT, PW.b_lenR, PW.b_lenL, PW.b_sum, PW.b_all, PW.b_any, PW.b_sorted, PW.b_tupT, PW.b_listT, PW.b_listL, PW.b_isN, PW.b_isB, PW.b_isS, PW.b_tupL, PW.b_isI, PW.b_isT, PW.b_isE, PW.m_pop, PW.m_ext, PW.m_rev, PW.m_app, PW.g_nm, PW.g_tup, PW.g_cons, PW.g_nil, endW, startW, List.map_cons, List.map_nil, List.length_cons, List.length_nil, List.replicate, Nat.reduceAdd, Nat.reduceSub, Nat.zero_add, List.cons_append, List.nil_append, List.append_nil, List.getElem?_cons_zero, List.getElem?_cons_succ, List.set_cons_zero, List.set_cons_succ, setS, T.alen, seqT, wipe4, newL]
  refine ⟨le_sz, fun D hD => ?_⟩
  rw [lc_cons]
  refine ⟨trivial, ?_⟩
  simp only [PW.o_nil, PW.o_seq, PW.o_asg, PW.o_par, PW.o_asgI, PW.o_aug, PW.o_augI, PW.o_ex, PW.o_ret, PW.o_retN, PW.o_ifs, PW.o_for, PW.o_whl, PW.o_rais, PW.o_brk, PW.o_cnt, PW.o_pass, PW.e_var, PW.e_int, PW.e_bl, PW.e_non, PW.e_str, PW.e_gint, PW.e_gti, PW.e_gtt, PW.e_gst, PW.e_rev, PW.e_cls, PW.e_ty, PW.e_tup, PW.e_lst, PW.e_bin, PW.e_neg, PW.e_not, PW.e_and, PW.e_or, PW.e_cmp, PW.e_chn, PW.e_ite, PW.e_ix, PW.e_slc, PW.e_call, PW.e_callk, PW.e_blt, PW.e_mth, PW.e_lrng, PW.e_att, PW.e_hrd, PW.e_comp, PW.e_comp2, PW.t_var, PW.t_bl, PW.t_cmp, PW.t_chn, PW.t_not, PW.t_and, PW.t_or, PW.t_ite, PW.t_call, PW.t_callk, PW.t_blt, PW.t_ix, PW.a_nil, PW.a_cons, PW.a_scons, PW.p_nil, PW.p_int, PW.p_var, PW.p_bin, PW.p_neg, PW.c_cmp, PW.c_chn, PW.c_not, PW.c_and, PW.c_or, PW.c_call, PW.c_blt, PW.c_var, PW.t_int, PW.c_nil, PW.i_rng, PW.i_enm, PW.i_revd, PW.i_zp, PW.i_var, PW.i_tup, PW.i_rev, PW.i_comp, PW.i_ix, PW.i_gti, PW.i_call, PW.i_slc, PW.op_add, PW.op_sub, PW.op_mul, PW.op_fdv, PW.op_mod, PW.op_pow, PW.op_addS, PW.op_addT, PW.op_addL, PW.op_repL, PW.cm_lt, PW.cm_le, PW.cm_gt, PW.cm_ge, PW.cm_eq, PW.cm_ne, PW.cm_eqS, PW.cm_neS, PW.cm_eqT, PW.cm_neT, PW.cm_eqL, PW.cm_neL, PW.cm_inT, PW.cm_niT, PW.cm_eqB, PW.cm_isNN, PW.cm_isNE, PW.cm_isNT, PW.cm_isNI, PW.cm_noNN, PW.cm_noNE, PW.cm_noNT, PW.cm_noNI, PW.tr_bl, PW.tr_int, PW.tr_non, PW.tr_lst, PW.tr_rol, PW.tr_tup, PW.ix_rol, PW.b_abs, PW.b_int, PW.b_boolI, PW.b_boolB, PW.b_intB, PW.b_max, PW.b_min, PW.b_lenT, PW.b_lenR, PW.b_lenL, PW.b_sum, PW.b_all, PW.b_any, PW.b_sorted, PW.b_tupT, PW.b_listT, PW.b_listL, PW.b_isN, PW.b_isB, PW.b_isS, PW.b_tupL, PW.b_isI, PW.b_isT, PW.b_isE, PW.m_pop, PW.m_ext, PW.m_rev, PW.m_app, PW.g_nm, PW.g_tup, PW.g_cons, PW.g_nil, endW, startW, List.map_cons, List.map_nil, List.length_cons, List.length_nil, List.replicate, Nat.reduceAdd, Nat.reduceSub, Nat.zero_add, List.cons_append, List.nil_append, List.append_nil, List.getElem?_cons_zero, List.getElem?_cons_succ, List.set_cons_zero, List.set_cons_succ, setS, T.alen, no_ga, g16, sLifted, if_true]
  refine ⟨le_sz3, [-2, 0, 1], rfl, by7, rfl, fun z => absurd ⟨3, rfl, by decide, by decide, by decide⟩ z, fun m e m0 m1 hm => ?_⟩
  cases e
  refine ⟨fun z => absurd z (by decide), fun _ => ⟨rfl, fun z => (by cases z), fun k e _ _ r r0 r1 r2 r3 => ?_⟩⟩
  have e : (4 : Int) = ((k : Nat) : Int) := by injection e
  obtain rfl : k = 4 := by omega
  have e1 := (root_is r0 r1 r3).1 r2
  subst e1
  refine ⟨Sto.upd_same, by rw [sizeLine_eq]; decide, _, wsub_refl _, ?_⟩
  rw [Sto.upd_upd, lc_cons]
  refine ⟨trivial, ?_⟩
  simp only [PW.o_nil, PW.o_seq, PW.o_asg, PW.o_par, PW.o_asgI, PW.o_aug, PW.o_augI, PW.o_ex, PW.o_ret, PW.o_retN, PW.o_ifs, PW.o_for, PW.o_whl, PW.o_rais, PW.o_brk, PW.o_cnt, PW.o_pass, PW.e_var, PW.e_int, PW.e_bl, PW.e_non, PW.e_str, PW.e_gint, PW.e_gti, PW.e_gtt, PW.e_gst, PW.e_rev, PW.e_cls, PW.e_ty, PW.e_tup, PW.e_lst, PW.e_bin, PW.e_neg, PW.e_not, PW.e_and, PW.e_or, PW.e_cmp, PW.e_chn, PW.e_ite, PW.e_ix, PW.e_slc, PW.e_call, PW.e_callk, PW.e_blt, PW.e_mth, PW.e_lrng, PW.e_att, PW.e_hrd, PW.e_comp, PW.e_comp2, PW.t_var, PW.t_bl, PW.t_cmp, PW.t_chn, PW.t_not, PW.t_and, PW.t_or, PW.t_ite, PW.t_call, PW.t_callk, PW.t_blt, PW.t_ix, PW.a_nil, PW.a_cons, PW.a_scons, PW.p_nil, PW.p_int, PW.p_var, PW.p_bin, PW.p_neg, PW.c_cmp, PW.c_chn, PW.c_not, PW.c_and, PW.c_or, PW.c_call, PW.c_blt, PW.c_var, PW.t_int, PW.c_nil, PW.i_rng, PW.i_enm, PW.i_revd, PW.i_zp, PW.i_var, PW.i_tup, PW.i_rev, PW.i_comp, PW.i_ix, PW.i_gti, PW.i_call, PW.i_slc, PW.op_add, PW.op_sub, PW.op_mul, PW.op_fdv, PW.op_mod, PW.op_pow, PW.op_addS, PW.op_addT, PW.op_addL, PW.op_repL, PW.cm_lt, PW.cm_le, PW.cm_gt, PW.cm_ge, PW.cm_eq, PW.cm_ne, PW.cm_eqS, PW.cm_neS, PW.cm_eqT, PW.cm_neT, PW.cm_eqL, PW.cm_neL, PW.cm_inT, PW.cm_niT, PW.cm_eqB, PW.cm_isNN, PW.cm_isNE, PW.cm_isNT, PW.cm_isNI, PW.cm_noNN, PW.cm_noNE, PW.cm_noNT, PW.cm_noNI, PW.tr_bl, PW.tr_int, PW.tr_non, PW.tr_lst, PW.tr_rol, PW.tr_tup, PW.ix_rol, PW.b_abs, PW.b_int, PW.b_boolI, PW.b_boolB, PW.b_intB, PW.b_max, PW.b_min, PW.b_lenT, PW.b_lenR, PW.b_lenL, PW.b_sum, PW.b_all, PW.b_any, PW.b_sorted, PW.b_tupT, PW.b_listT, PW.b_listL, PW.b_isN, PW.b_isB, PW.b_isS, PW.b_tupL, PW.b_isI, PW.b_isT, PW.b_isE, PW.m_pop, PW.m_ext, PW.m_rev, PW.m_app, PW.g_nm, PW.g_tup, PW.g_cons, PW.g_nil, endW, startW, List.map_cons, List.map_nil, List.length_cons, List.length_nil, List.replicate, Nat.reduceAdd, Nat.reduceSub, Nat.zero_add, List.cons_append, List.nil_append, List.append_nil, List.getElem?_cons_zero, List.getElem?_cons_succ, List.set_cons_zero, List.set_cons_succ, setS, T.alen, no_ga, g16, sLifted, if_true]
  refine ⟨le_sz3, [-2, 0, 1], rfl, by7, rfl, fun z => absurd ⟨4, rfl, by decide, by decide, by decide⟩ z, fun m e m0 m1 hm => ?_⟩
  cases e
  refine ⟨fun z => absurd z (by decide), fun _ => ⟨rfl, fun z => (by cases z), fun k e _ _ r r0 r1 r2 r3 => ?_⟩⟩
  have e : (4 : Int) = ((k : Nat) : Int) := by injection e
  obtain rfl : k = 4 := by omega
  have e1 := (root_is r0 r1 r3).2 r2
  subst e1
  refine ⟨Sto.upd_same, by rw [sizeLine_eq]; show 1 < 16777216; decide, _, wsub_refl _, ?_⟩
  rw [Sto.upd_upd, lc_nil]
  refine ⟨trivial, Sto.upd_same, le_sz, fun q hq => ?_⟩
  have c2 := (hc.new (ws := [.int 2166, .int 235]) hD).new (ws := [.int 2166, .int 235]) hq
  have p2 := ((hp.new (l := [.int 2166, .int 235]) hD).1.new (l := [.int 2166, .int 235]) hq).1
  have nDq : D ≠ q := fun z => by rw [← z, Sto.upd_same] at hq; cases hq
  have h1 : ((X.upd D [.int 2166, .int 235]).upd q [.int 2166, .int 235]) D = some (([2166, 235] : List Int).map Vl.int) := by rw [Sto.upd_ne nDq, Sto.upd_same]; rfl
  have h2 : ((X.upd D [.int 2166, .int 235]).upd q [.int 2166, .int 235]) q = some (([2166, 235] : List Int).map Vl.int) := Sto.upd_same
  show eqD ((X.upd D [.int 2166, .int 235]).upd q [.int 2166, .int 235]) (.lst D) (.lst q) _
  rw [eqL h1 h2]
  obtain ⟨wf, k1, k2⟩ := Pot.fin c2 p2
  exact ret_to k1 (h wf)
theorem r32 (Γ : Nat → SpW) (ws S Q E) (g16 : Γ 16 = sLifted) (g20 : Γ 20 = sOf) (g28 : Γ 28 = sDrawn) (g31 : Γ 31 = sIsRight) (h : sRight ws S Q E) : rdB b32 ⟨Γ, E, st.sub⟩ (endW Q) (startW N32.length ws) S := by
  unfold sRight at h
  split at h
  · rename_i a
    obtain ⟨n, hn, hp, h⟩ := h
    rw [b32_eq]
    unfold N32
    simp only [PW.o_nil, PW.o_seq, PW.o_asg, PW.o_par, PW.o_asgI, PW.o_aug, PW.o_augI, PW.o_ex, PW.o_ret, PW.o_retN, PW.o_ifs, PW.o_for, PW.o_whl, PW.o_rais, PW.o_brk, PW.o_cnt, PW.o_pass, PW.e_var, PW.e_int, PW.e_bl, PW.e_non, PW.e_str, PW.e_gint, PW.e_gti, PW.e_gtt, PW.e_gst, PW.e_rev, PW.e_cls, PW.e_ty, PW.e_tup, PW.e_lst, PW.e_bin, PW.e_neg, PW.e_not, PW.e_and, PW.e_or, PW.e_cmp, PW.e_chn, PW.e_ite, PW.e_ix, PW.e_slc, PW.e_call, PW.e_callk, PW.e_blt, PW.e_mth, PW.e_lrng, PW.e_att, PW.e_hrd, PW.e_comp, PW.e_comp2, PW.t_var, PW.t_bl, PW.t_cmp, PW.t_chn, PW.t_not, PW.t_and, PW.t_or, PW.t_ite, PW.t_call, PW.t_callk, PW.t_blt, PW.t_ix, PW.a_nil, PW.a_cons, PW.a_scons, PW.p_nil, PW.p_int, PW.p_var, PW.p_bin, PW.p_neg, PW.c_cmp, PW.c_chn, PW.c_not, PW.c_and, PW.c_or, PW.c_call, PW.c_blt, PW.c_var, PW.t_int, PW.c_nil, PW.i_rng, PW.i_enm, PW.i_revd, PW.i_zp, PW.i_var, PW.i_tup, PW.i_rev, PW.i_comp, PW.i_ix, PW.i_gti, PW.i_call, PW.i_slc, PW.op_add, PW.op_sub, PW.op_mul, PW.op_fdv, PW.op_mod, PW.op_pow, PW.op_addS, PW.op_addT, PW.op_addL, PW.op_repL, PW.cm_lt, PW.cm_le, PW.cm_gt, PW.cm_ge, PW.cm_eq, PW.cm_ne, PW.cm_eqS, PW.cm_neS, PW.cm_eqT, PW.cm_neT, PW.cm_eqL, PW.cm_neL, PW.cm_inT, PW.cm_niT, PW.cm_eqB, PW.cm_isNN, PW.cm_isNE, PW.cm_isNT, PW.cm_isNI, PW.cm_noNN, PW.cm_noNE, PW.cm_noNT, PW.cm_noNI, PW.tr_bl, PW.tr_int, PW.tr_non, PW.tr_lst, PW.tr_rol, PW.tr_tup, PW.ix_rol, PW.b_abs, PW.b_int, PW.b_boolI, PW.b_boolB, PW.b_intB, PW.b_max, PW.b_min, PW.b_lenT, PW.b_lenR, PW.b_lenL, PW.b_sum, PW.b_all, PW.b_any, PW.b_sorted, PW.b_tupT, PW.b_listT, PW.b_listL, PW.b_isN, PW.b_isB, PW.b_isS, PW.b_tupL, PW.b_isI, PW.b_isT, PW.b_isE, PW.m_pop, PW.m_ext, PW.m_rev, PW.m_app, PW.g_nm, PW.g_tup, PW.g_cons, PW.g_nil, endW, startW, List.map_cons, List.map_nil, List.length_cons, List.length_nil, List.replicate, Nat.reduceAdd, Nat.reduceSub, Nat.zero_add, List.cons_append, List.nil_append, List.append_nil, List.getElem?_cons_zero, List.getElem?_cons_succ, List.set_cons_zero, List.set_cons_succ, setS, T.alen, rngG]
    refine ⟨trivial, ⟨by decide, by decide⟩, ?_⟩
    have key : ∀ (l : List Vl) (X : Sto) (c : Int) (x1 x2 x3 x4 x5 : Option Vl), c + 100 * l.length ≤ 2000 → Cp S a X → Pot X a c →
        forR (fun _ => True) (gP (.nm 1)) (rdB b32l ⟨Γ, E, st.sub⟩) { nx := rdB b32e ⟨Γ, E, st.sub⟩ { nx := fun _ S => ∃ S2, wsub S2 S ∧ Q Vl.non S2, rt := Q }, rt := Q } l [some (.lst a), x1, x2, x3, x4, x5] X := by
      intro l
      induction l with
      | nil =>
        intro X c x1 x2 x3 x4 x5 _ hc hp
        rw [for_nil]
        exact ⟨trivial, r32e g16 hc hp h⟩
      | cons w l ih =>
        intro X c x1 x2 x3 x4 x5 hn hc hp
        rw [List.length_cons] at hn
        rw [for_cons]
        refine ⟨trivial, ?_⟩
        unfold b32l
        simp only [PW.o_nil, PW.o_seq, PW.o_asg, PW.o_par, PW.o_asgI, PW.o_aug, PW.o_augI, PW.o_ex, PW.o_ret, PW.o_retN, PW.o_ifs, PW.o_for, PW.o_whl, PW.o_rais, PW.o_brk, PW.o_cnt, PW.o_pass, PW.e_var, PW.e_int, PW.e_bl, PW.e_non, PW.e_str, PW.e_gint, PW.e_gti, PW.e_gtt, PW.e_gst, PW.e_rev, PW.e_cls, PW.e_ty, PW.e_tup, PW.e_lst, PW.e_bin, PW.e_neg, PW.e_not, PW.e_and, PW.e_or, PW.e_cmp, PW.e_chn, PW.e_ite, PW.e_ix, PW.e_slc, PW.e_call, PW.e_callk, PW.e_blt, PW.e_mth, PW.e_lrng, PW.e_att, PW.e_hrd, PW.e_comp, PW.e_comp2, PW.t_var, PW.t_bl, PW.t_cmp, PW.t_chn, PW.t_not, PW.t_and, PW.t_or, PW.t_ite, PW.t_call, PW.t_callk, PW.t_blt, PW.t_ix, PW.a_nil, PW.a_cons, PW.a_scons, PW.p_nil, PW.p_int, PW.p_var, PW.p_bin, PW.p_neg, PW.c_cmp, PW.c_chn, PW.c_not, PW.c_and, PW.c_or, PW.c_call, PW.c_blt, PW.c_var, PW.t_int, PW.c_nil, PW.i_rng, PW.i_enm, PW.i_revd, PW.i_zp, PW.i_var, PW.i_tup, PW.i_rev, PW.i_comp, PW.i_ix, PW.i_gti, PW.i_call, PW.i_slc, PW.op_add, PW.op_sub, PW.op_mul, PW.op_fdv, PW.op_mod, PW.op_pow, PW.op_addS, PW.op_addT, PW.op_addL, PW.op_repL, PW.cm_lt, PW.cm_le, PW.cm_gt, PW.cm_ge, PW.cm_eq, PW.cm_ne, PW.cm_eqS, PW.cm_neS, PW.cm_eqT, PW.cm_neT, PW.cm_eqL, PW.cm_neL, PW.cm_inT, PW.cm_niT, PW.cm_eqB, PW.cm_isNN, PW.cm_isNE, PW.cm_isNT, PW.cm_isNI, PW.cm_noNN, PW.cm_noNE, PW.cm_noNT, PW.cm_noNI, PW.tr_bl, PW.tr_int, PW.tr_non, PW.tr_lst, PW.tr_rol, PW.tr_tup, PW.ix_rol, PW.b_abs, PW.b_int, PW.b_boolI, PW.b_boolB, PW.b_intB, PW.b_max, PW.b_min, PW.b_lenT, PW.b_lenR, PW.b_lenL, PW.b_sum, PW.b_all, PW.b_any, PW.b_sorted, PW.b_tupT, PW.b_listT, PW.b_listL, PW.b_isN, PW.b_isB, PW.b_isS, PW.b_tupL, PW.b_isI, PW.b_isT, PW.b_isE, PW.m_pop, PW.m_ext, PW.m_rev, PW.m_app, PW.g_nm, PW.g_tup, PW.g_cons, PW.g_nil, endW, startW, List.map_cons, List.map_nil, List.length_cons, List.length_nil, List.replicate, Nat.reduceAdd, Nat.reduceSub, Nat.zero_add, List.cons_append, List.nil_append, List.append_nil, List.getElem?_cons_zero, List.getElem?_cons_succ, List.set_cons_zero, List.set_cons_succ, setS, T.alen, g28, sDrawn]
        refine ⟨4, rfl, by decide, by decide, c, by omega, hp, fun w1 cs dr hp1 => ?_⟩
        have c1 := hc.upd (ws := w1)
        generalize X.upd a w1 = X1 at c1 hp1
        simp only [PW.o_nil, PW.o_seq, PW.o_asg, PW.o_par, PW.o_asgI, PW.o_aug, PW.o_augI, PW.o_ex, PW.o_ret, PW.o_retN, PW.o_ifs, PW.o_for, PW.o_whl, PW.o_rais, PW.o_brk, PW.o_cnt, PW.o_pass, PW.e_var, PW.e_int, PW.e_bl, PW.e_non, PW.e_str, PW.e_gint, PW.e_gti, PW.e_gtt, PW.e_gst, PW.e_rev, PW.e_cls, PW.e_ty, PW.e_tup, PW.e_lst, PW.e_bin, PW.e_neg, PW.e_not, PW.e_and, PW.e_or, PW.e_cmp, PW.e_chn, PW.e_ite, PW.e_ix, PW.e_slc, PW.e_call, PW.e_callk, PW.e_blt, PW.e_mth, PW.e_lrng, PW.e_att, PW.e_hrd, PW.e_comp, PW.e_comp2, PW.t_var, PW.t_bl, PW.t_cmp, PW.t_chn, PW.t_not, PW.t_and, PW.t_or, PW.t_ite, PW.t_call, PW.t_callk, PW.t_blt, PW.t_ix, PW.a_nil, PW.a_cons, PW.a_scons, PW.p_nil, PW.p_int, PW.p_var, PW.p_bin, PW.p_neg, PW.c_cmp, PW.c_chn, PW.c_not, PW.c_and, PW.c_or, PW.c_call, PW.c_blt, PW.c_var, PW.t_int, PW.c_nil, PW.i_rng, PW.i_enm, PW.i_revd, PW.i_zp, PW.i_var, PW.i_tup, PW.i_rev, PW.i_comp, PW.i_ix, PW.i_gti, PW.i_call, PW.i_slc, PW.op_add, PW.op_sub, PW.op_mul, PW.op_fdv, PW.op_mod, PW.op_pow, PW.op_addS, PW.op_addT, PW.op_addL, PW.op_repL, PW.cm_lt, PW.cm_le, PW.cm_gt, PW.cm_ge, PW.cm_eq, PW.cm_ne, PW.cm_eqS, PW.cm_neS, PW.cm_eqT, PW.cm_neT, PW.cm_eqL, PW.cm_neL, PW.cm_inT, PW.cm_niT, PW.cm_eqB, PW.cm_isNN, PW.cm_isNE, PW.cm_isNT, PW.cm_isNI, PW.cm_noNN, PW.cm_noNE, PW.cm_noNT, PW.cm_noNI, PW.tr_bl, PW.tr_int, PW.tr_non, PW.tr_lst, PW.tr_rol, PW.tr_tup, PW.ix_rol, PW.b_abs, PW.b_int, PW.b_boolI, PW.b_boolB, PW.b_intB, PW.b_max, PW.b_min, PW.b_lenT, PW.b_lenR, PW.b_lenL, PW.b_sum, PW.b_all, PW.b_any, PW.b_sorted, PW.b_tupT, PW.b_listT, PW.b_listL, PW.b_isN, PW.b_isB, PW.b_isS, PW.b_tupL, PW.b_isI, PW.b_isT, PW.b_isE, PW.m_pop, PW.m_ext, PW.m_rev, PW.m_app, PW.g_nm, PW.g_tup, PW.g_cons, PW.g_nil, endW, startW, List.map_cons, List.map_nil, List.length_cons, List.length_nil, List.replicate, Nat.reduceAdd, Nat.reduceSub, Nat.zero_add, List.cons_append, List.nil_append, List.append_nil, List.getElem?_cons_zero, List.getElem?_cons_succ, List.set_cons_zero, List.set_cons_succ, setS, T.alen, newL, g20, sOf]
        refine ⟨by rw [sizeLine_eq]; omega, fun q hq => ⟨(hp1.new (l := []) hq).2, c + 80, by omega, (hp1.new hq).1, _, Sto.upd_same, by decide, by decide, fun v w2 hv hp2 => ?_⟩⟩
        have c2 := (c1.new (ws := [.int 2, .int 3, .int 3, .int 5, .int 7, .int 13, .int 47]) hq).upd (ws := w2)
        generalize (X1.upd q [.int 2, .int 3, .int 3, .int 5, .int 7, .int 13, .int 47]).upd a w2 = X2 at c2 hp2
        obtain ⟨p, rfl, pr⟩ : ∃ p : Int, v = .int p ∧ Pr p := by
          simp only [List.mem_cons, List.not_mem_nil, or_false] at hv
          unfold Pr
          rcases hv with rfl | rfl | rfl | rfl | rfl | rfl | rfl <;> exact ⟨_, rfl, by decide⟩
        have hp47 := pr.le
        unfold b32i
        simp only [PW.o_nil, PW.o_seq, PW.o_asg, PW.o_par, PW.o_asgI, PW.o_aug, PW.o_augI, PW.o_ex, PW.o_ret, PW.o_retN, PW.o_ifs, PW.o_for, PW.o_whl, PW.o_rais, PW.o_brk, PW.o_cnt, PW.o_pass, PW.e_var, PW.e_int, PW.e_bl, PW.e_non, PW.e_str, PW.e_gint, PW.e_gti, PW.e_gtt, PW.e_gst, PW.e_rev, PW.e_cls, PW.e_ty, PW.e_tup, PW.e_lst, PW.e_bin, PW.e_neg, PW.e_not, PW.e_and, PW.e_or, PW.e_cmp, PW.e_chn, PW.e_ite, PW.e_ix, PW.e_slc, PW.e_call, PW.e_callk, PW.e_blt, PW.e_mth, PW.e_lrng, PW.e_att, PW.e_hrd, PW.e_comp, PW.e_comp2, PW.t_var, PW.t_bl, PW.t_cmp, PW.t_chn, PW.t_not, PW.t_and, PW.t_or, PW.t_ite, PW.t_call, PW.t_callk, PW.t_blt, PW.t_ix, PW.a_nil, PW.a_cons, PW.a_scons, PW.p_nil, PW.p_int, PW.p_var, PW.p_bin, PW.p_neg, PW.c_cmp, PW.c_chn, PW.c_not, PW.c_and, PW.c_or, PW.c_call, PW.c_blt, PW.c_var, PW.t_int, PW.c_nil, PW.i_rng, PW.i_enm, PW.i_revd, PW.i_zp, PW.i_var, PW.i_tup, PW.i_rev, PW.i_comp, PW.i_ix, PW.i_gti, PW.i_call, PW.i_slc, PW.op_add, PW.op_sub, PW.op_mul, PW.op_fdv, PW.op_mod, PW.op_pow, PW.op_addS, PW.op_addT, PW.op_addL, PW.op_repL, PW.cm_lt, PW.cm_le, PW.cm_gt, PW.cm_ge, PW.cm_eq, PW.cm_ne, PW.cm_eqS, PW.cm_neS, PW.cm_eqT, PW.cm_neT, PW.cm_eqL, PW.cm_neL, PW.cm_inT, PW.cm_niT, PW.cm_eqB, PW.cm_isNN, PW.cm_isNE, PW.cm_isNT, PW.cm_isNI, PW.cm_noNN, PW.cm_noNE, PW.cm_noNT, PW.cm_noNI, PW.tr_bl, PW.tr_int, PW.tr_non, PW.tr_lst, PW.tr_rol, PW.tr_tup, PW.ix_rol, PW.b_abs, PW.b_int, PW.b_boolI, PW.b_boolB, PW.b_intB, PW.b_max, PW.b_min, PW.b_lenT, PW.b_lenR, PW.b_lenL, PW.b_sum, PW.b_all, PW.b_any, PW.b_sorted, PW.b_tupT, PW.b_listT, PW.b_listL, PW.b_isN, PW.b_isB, PW.b_isS, PW.b_tupL, PW.b_isI, PW.b_isT, PW.b_isE, PW.m_pop, PW.m_ext, PW.m_rev, PW.m_app, PW.g_nm, PW.g_tup, PW.g_cons, PW.g_nil, endW, startW, List.map_cons, List.map_nil, List.length_cons, List.length_nil, List.replicate, Nat.reduceAdd, Nat.reduceSub, Nat.zero_add, List.cons_append, List.nil_append, List.append_nil, List.getElem?_cons_zero, List.getElem?_cons_succ, List.set_cons_zero, List.set_cons_succ, setS, T.alen, seqT, wipe5]
        refine ⟨le_sz, fun D hD => ?_⟩
        refine lc_fm (ι := Vl.int) (F := fun b => some (.bl (decide (b % p = 0)))) (fun _ => True) (fun _ _ _ => trivial) (fun _ _ => trivial) cs [] _ (fun b m S' K K2 _ hk => ?_) trivial Sto.upd_same (by rw [List.length_nil, sizeLine_eq]; have := dr.l2; omega) ?_
        · simp only [PW.o_nil, PW.o_seq, PW.o_asg, PW.o_par, PW.o_asgI, PW.o_aug, PW.o_augI, PW.o_ex, PW.o_ret, PW.o_retN, PW.o_ifs, PW.o_for, PW.o_whl, PW.o_rais, PW.o_brk, PW.o_cnt, PW.o_pass, PW.e_var, PW.e_int, PW.e_bl, PW.e_non, PW.e_str, PW.e_gint, PW.e_gti, PW.e_gtt, PW.e_gst, PW.e_rev, PW.e_cls, PW.e_ty, PW.e_tup, PW.e_lst, PW.e_bin, PW.e_neg, PW.e_not, PW.e_and, PW.e_or, PW.e_cmp, PW.e_chn, PW.e_ite, PW.e_ix, PW.e_slc, PW.e_call, PW.e_callk, PW.e_blt, PW.e_mth, PW.e_lrng, PW.e_att, PW.e_hrd, PW.e_comp, PW.e_comp2, PW.t_var, PW.t_bl, PW.t_cmp, PW.t_chn, PW.t_not, PW.t_and, PW.t_or, PW.t_ite, PW.t_call, PW.t_callk, PW.t_blt, PW.t_ix, PW.a_nil, PW.a_cons, PW.a_scons, PW.p_nil, PW.p_int, PW.p_var, PW.p_bin, PW.p_neg, PW.c_cmp, PW.c_chn, PW.c_not, PW.c_and, PW.c_or, PW.c_call, PW.c_blt, PW.c_var, PW.t_int, PW.c_nil, PW.i_rng, PW.i_enm, PW.i_revd, PW.i_zp, PW.i_var, PW.i_tup, PW.i_rev, PW.i_comp, PW.i_ix, PW.i_gti, PW.i_call, PW.i_slc, PW.op_add, PW.op_sub, PW.op_mul, PW.op_fdv, PW.op_mod, PW.op_pow, PW.op_addS, PW.op_addT, PW.op_addL, PW.op_repL, PW.cm_lt, PW.cm_le, PW.cm_gt, PW.cm_ge, PW.cm_eq, PW.cm_ne, PW.cm_eqS, PW.cm_neS, PW.cm_eqT, PW.cm_neT, PW.cm_eqL, PW.cm_neL, PW.cm_inT, PW.cm_niT, PW.cm_eqB, PW.cm_isNN, PW.cm_isNE, PW.cm_isNT, PW.cm_isNI, PW.cm_noNN, PW.cm_noNE, PW.cm_noNT, PW.cm_noNI, PW.tr_bl, PW.tr_int, PW.tr_non, PW.tr_lst, PW.tr_rol, PW.tr_tup, PW.ix_rol, PW.b_abs, PW.b_int, PW.b_boolI, PW.b_boolB, PW.b_intB, PW.b_max, PW.b_min, PW.b_lenT, PW.b_lenR, PW.b_lenL, PW.b_sum, PW.b_all, PW.b_any, PW.b_sorted, PW.b_tupT, PW.b_listT, PW.b_listL, PW.b_isN, PW.b_isB, PW.b_isS, PW.b_tupL, PW.b_isI, PW.b_isT, PW.b_isE, PW.m_pop, PW.m_ext, PW.m_rev, PW.m_app, PW.g_nm, PW.g_tup, PW.g_cons, PW.g_nil, endW, startW, List.map_cons, List.map_nil, List.length_cons, List.length_nil, List.replicate, Nat.reduceAdd, Nat.reduceSub, Nat.zero_add, List.cons_append, List.nil_append, List.append_nil, List.getElem?_cons_zero, List.getElem?_cons_succ, List.set_cons_zero, List.set_cons_succ, setS, T.alen, if_true]
          rw [Int.fmod_eq_emod_of_nonneg _ (by omega)]
          exact ⟨by omega, hk S' (wsub_refl _)⟩
        · rw [List.nil_append, fm_map, Sto.upd_upd]
          have e : cs.map (fun b => Vl.bl (decide (b % p = 0))) = (cs.map fun b => decide (b % p = 0)).map Vl.bl := by rw [List.map_map]; rfl
          rw [e]
          refine ⟨_, Sto.upd_same, ?_⟩
          have c3 := c2.new (ws := (cs.map fun b => decide (b % p = 0)).map Vl.bl) hD
          have p3 := (hp2.new (l := (cs.map fun b => decide (b % p = 0)).map Vl.bl) hD).1
          generalize X2.upd D ((cs.map fun b => decide (b % p = 0)).map Vl.bl) = X3 at c3 p3
          cases z : (cs.map fun b => decide (b % p = 0)).all id with
          | true =>
            simp only [Bool.not_true, Bool.false_eq_true, if_false]
            exact less_same (ih X3 (c + 80 + 1) _ _ _ _ _ (by omega) c3 p3)
          | false =>
            simp only [Bool.not_false, if_true]
            rw [List.all_map, List.all_eq_false] at z
            obtain ⟨b, mb, hb⟩ := z
            have hb : b % p ≠ 0 := by simpa using hb
            simp only [PW.o_nil, PW.o_seq, PW.o_asg, PW.o_par, PW.o_asgI, PW.o_aug, PW.o_augI, PW.o_ex, PW.o_ret, PW.o_retN, PW.o_ifs, PW.o_for, PW.o_whl, PW.o_rais, PW.o_brk, PW.o_cnt, PW.o_pass, PW.e_var, PW.e_int, PW.e_bl, PW.e_non, PW.e_str, PW.e_gint, PW.e_gti, PW.e_gtt, PW.e_gst, PW.e_rev, PW.e_cls, PW.e_ty, PW.e_tup, PW.e_lst, PW.e_bin, PW.e_neg, PW.e_not, PW.e_and, PW.e_or, PW.e_cmp, PW.e_chn, PW.e_ite, PW.e_ix, PW.e_slc, PW.e_call, PW.e_callk, PW.e_blt, PW.e_mth, PW.e_lrng, PW.e_att, PW.e_hrd, PW.e_comp, PW.e_comp2, PW.t_var, PW.t_bl, PW.t_cmp, PW.t_chn, PW.t_not, PW.t_and, PW.t_or, PW.t_ite, PW.t_call, PW.t_callk, PW.t_blt, PW.t_ix, PW.a_nil, PW.a_cons, PW.a_scons, PW.p_nil, PW.p_int, PW.p_var, PW.p_bin, PW.p_neg, PW.c_cmp, PW.c_chn, PW.c_not, PW.c_and, PW.c_or, PW.c_call, PW.c_blt, PW.c_var, PW.t_int, PW.c_nil, PW.i_rng, PW.i_enm, PW.i_revd, PW.i_zp, PW.i_var, PW.i_tup, PW.i_rev, PW.i_comp, PW.i_ix, PW.i_gti, PW.i_call, PW.i_slc, PW.op_add, PW.op_sub, PW.op_mul, PW.op_fdv, PW.op_mod, PW.op_pow, PW.op_addS, PW.op_addT, PW.op_addL, PW.op_repL, PW.cm_lt, PW.cm_le, PW.cm_gt, PW.cm_ge, PW.cm_eq, PW.cm_ne, PW.cm_eqS, PW.cm_neS, PW.cm_eqT, PW.cm_neT, PW.cm_eqL, PW.cm_neL, PW.cm_inT, PW.cm_niT, PW.cm_eqB, PW.cm_isNN, PW.cm_isNE, PW.cm_isNT, PW.cm_isNI, PW.cm_noNN, PW.cm_noNE, PW.cm_noNT, PW.cm_noNI, PW.tr_bl, PW.tr_int, PW.tr_non, PW.tr_lst, PW.tr_rol, PW.tr_tup, PW.ix_rol, PW.b_abs, PW.b_int, PW.b_boolI, PW.b_boolB, PW.b_intB, PW.b_max, PW.b_min, PW.b_lenT, PW.b_lenR, PW.b_lenL, PW.b_sum, PW.b_all, PW.b_any, PW.b_sorted, PW.b_tupT, PW.b_listT, PW.b_listL, PW.b_isN, PW.b_isB, PW.b_isS, PW.b_tupL, PW.b_isI, PW.b_isT, PW.b_isE, PW.m_pop, PW.m_ext, PW.m_rev, PW.m_app, PW.g_nm, PW.g_tup, PW.g_cons, PW.g_nil, endW, startW, List.map_cons, List.map_nil, List.length_cons, List.length_nil, List.replicate, Nat.reduceAdd, Nat.reduceSub, Nat.zero_add, List.cons_append, List.nil_append, List.append_nil, List.getElem?_cons_zero, List.getElem?_cons_succ, List.set_cons_zero, List.set_cons_succ, setS, T.alen, g31, sIsRight]
            refine ⟨cs, rfl, Dc.of dr pr ⟨b, mb, hb⟩, c + 80 + 1, by omega, p3, fun w4 hp4 => ?_⟩
            simp only [Bool.not_true, Bool.false_eq_true, if_false]
            exact less_same (ih (X3.upd a w4) (c + 80 + 1 + 10) _ _ _ _ _ (by omega) c3.upd hp4)
    have e8 : (rangeW 0 (Int.toNat 4)).length = 4 := by
      unfold rangeW
      rw [List.length_map, List.length_range]
      rfl
    generalize rangeW 0 (Int.toNat 4) = l at e8 ⊢
    exact key l S n none none none none none (by omega) Cp.refl hp
  · exact h.elim
def sLaw : SpW := fun ws S Q _ => match ws with
  | [.rol us] => (∃ ns : List Int, us = ns.map Vl.int) ∧ ∀ S', Q (.bl true) S'
  | _ => False
theorem r33 (Γ : Nat → SpW) (ws S Q E) (g18 : Γ 18 = sPot) (g21 : Γ 21 = sCells) (g32 : Γ 32 = sRight) (h : sLaw ws S Q E) : rdB b33 ⟨Γ, E, st.sub⟩ (endW Q) (startW N33.length ws) S := by
  unfold sLaw at h
  split at h
  · rename_i us
    obtain ⟨⟨ns, rfl⟩, h⟩ := h
    unfold b33 N33
    simp only [PW.o_nil, PW.o_seq, PW.o_asg, PW.o_par, PW.o_asgI, PW.o_aug, PW.o_augI, PW.o_ex, PW.o_ret, PW.o_retN, PW.o_ifs, PW.o_for, PW.o_whl, PW.o_rais, PW.o_brk, PW.o_cnt, PW.o_pass, PW.e_var, PW.e_int, PW.e_bl, PW.e_non, PW.e_str, PW.e_gint, PW.e_gti, PW.e_gtt, PW.e_gst, PW.e_rev, PW.e_cls, PW.e_ty, PW.e_tup, PW.e_lst, PW.e_bin, PW.e_neg, PW.e_not, PW.e_and, PW.e_or, PW.e_cmp, PW.e_chn, PW.e_ite, PW.e_ix, PW.e_slc, PW.e_call, PW.e_callk, PW.e_blt, PW.e_mth, PW.e_lrng, PW.e_att, PW.e_hrd, PW.e_comp, PW.e_comp2, PW.t_var, PW.t_bl, PW.t_cmp, PW.t_chn, PW.t_not, PW.t_and, PW.t_or, PW.t_ite, PW.t_call, PW.t_callk, PW.t_blt, PW.t_ix, PW.a_nil, PW.a_cons, PW.a_scons, PW.p_nil, PW.p_int, PW.p_var, PW.p_bin, PW.p_neg, PW.c_cmp, PW.c_chn, PW.c_not, PW.c_and, PW.c_or, PW.c_call, PW.c_blt, PW.c_var, PW.t_int, PW.c_nil, PW.i_rng, PW.i_enm, PW.i_revd, PW.i_zp, PW.i_var, PW.i_tup, PW.i_rev, PW.i_comp, PW.i_ix, PW.i_gti, PW.i_call, PW.i_slc, PW.op_add, PW.op_sub, PW.op_mul, PW.op_fdv, PW.op_mod, PW.op_pow, PW.op_addS, PW.op_addT, PW.op_addL, PW.op_repL, PW.cm_lt, PW.cm_le, PW.cm_gt, PW.cm_ge, PW.cm_eq, PW.cm_ne, PW.cm_eqS, PW.cm_neS, PW.cm_eqT, PW.cm_neT, PW.cm_eqL, PW.cm_neL, PW.cm_inT, PW.cm_niT, PW.cm_eqB, PW.cm_isNN, PW.cm_isNE, PW.cm_isNT, PW.cm_isNI, PW.cm_noNN, PW.cm_noNE, PW.cm_noNT, PW.cm_noNI, PW.tr_bl, PW.tr_int, PW.tr_non, PW.tr_lst, PW.tr_rol, PW.tr_tup, PW.ix_rol, PW.b_abs, PW.b_int, PW.b_boolI, PW.b_boolB, PW.b_intB, PW.b_max, PW.b_min, PW.b_lenT, PW.b_lenR, PW.b_lenL, PW.b_sum, PW.b_all, PW.b_any, PW.b_sorted, PW.b_tupT, PW.b_listT, PW.b_listL, PW.b_isN, PW.b_isB, PW.b_isS, PW.b_tupL, PW.b_isI, PW.b_isT, PW.b_isE, PW.m_pop, PW.m_ext, PW.m_rev, PW.m_app, PW.g_nm, PW.g_tup, PW.g_cons, PW.g_nil, endW, startW, List.map_cons, List.map_nil, List.length_cons, List.length_nil, List.replicate, Nat.reduceAdd, Nat.reduceSub, Nat.zero_add, List.cons_append, List.nil_append, List.append_nil, List.getElem?_cons_zero, List.getElem?_cons_succ, List.set_cons_zero, List.set_cons_succ, setS, T.alen, g21, sCells, seqL Sto.upd_same]
    refine ⟨by decide, by decide, fun p k hp k1 k2 => ?_⟩
    intro D hD
    have np : p ≠ D := fun z => by rw [z, Sto.upd_same] at hD; cases hD
    have eR : rangeW 0 k = (List.range k).map fun i => Vl.int (0 + ((i : Nat) : Int)) := rfl
    have hP : (S.upd p (rangeW 0 k)) p = some (rangeW 0 k) := Sto.upd_same
    rw [eR] at hP ⊢
    refine lc_fm (ι := fun i : Nat => Vl.int (0 + ((i : Nat) : Int))) (F := fun _ => some (.bl true)) (fun S' => S' p = some ((List.range k).map fun i => Vl.int (0 + ((i : Nat) : Int)))) (fun S' l j => ?_) (fun _ j => j) (List.range k) [] _ (fun i m S' K K2 _ hk => ?_) ?_ Sto.upd_same (by rw [List.length_nil, List.length_range, sizeLine_eq]; omega) ?_
    · rw [Sto.upd_ne np]; exact j
    · have hm := List.mem_range.mp m
      simp only [PW.o_nil, PW.o_seq, PW.o_asg, PW.o_par, PW.o_asgI, PW.o_aug, PW.o_augI, PW.o_ex, PW.o_ret, PW.o_retN, PW.o_ifs, PW.o_for, PW.o_whl, PW.o_rais, PW.o_brk, PW.o_cnt, PW.o_pass, PW.e_var, PW.e_int, PW.e_bl, PW.e_non, PW.e_str, PW.e_gint, PW.e_gti, PW.e_gtt, PW.e_gst, PW.e_rev, PW.e_cls, PW.e_ty, PW.e_tup, PW.e_lst, PW.e_bin, PW.e_neg, PW.e_not, PW.e_and, PW.e_or, PW.e_cmp, PW.e_chn, PW.e_ite, PW.e_ix, PW.e_slc, PW.e_call, PW.e_callk, PW.e_blt, PW.e_mth, PW.e_lrng, PW.e_att, PW.e_hrd, PW.e_comp, PW.e_comp2, PW.t_var, PW.t_bl, PW.t_cmp, PW.t_chn, PW.t_not, PW.t_and, PW.t_or, PW.t_ite, PW.t_call, PW.t_callk, PW.t_blt, PW.t_ix, PW.a_nil, PW.a_cons, PW.a_scons, PW.p_nil, PW.p_int, PW.p_var, PW.p_bin, PW.p_neg, PW.c_cmp, PW.c_chn, PW.c_not, PW.c_and, PW.c_or, PW.c_call, PW.c_blt, PW.c_var, PW.t_int, PW.c_nil, PW.i_rng, PW.i_enm, PW.i_revd, PW.i_zp, PW.i_var, PW.i_tup, PW.i_rev, PW.i_comp, PW.i_ix, PW.i_gti, PW.i_call, PW.i_slc, PW.op_add, PW.op_sub, PW.op_mul, PW.op_fdv, PW.op_mod, PW.op_pow, PW.op_addS, PW.op_addT, PW.op_addL, PW.op_repL, PW.cm_lt, PW.cm_le, PW.cm_gt, PW.cm_ge, PW.cm_eq, PW.cm_ne, PW.cm_eqS, PW.cm_neS, PW.cm_eqT, PW.cm_neT, PW.cm_eqL, PW.cm_neL, PW.cm_inT, PW.cm_niT, PW.cm_eqB, PW.cm_isNN, PW.cm_isNE, PW.cm_isNT, PW.cm_isNI, PW.cm_noNN, PW.cm_noNE, PW.cm_noNT, PW.cm_noNI, PW.tr_bl, PW.tr_int, PW.tr_non, PW.tr_lst, PW.tr_rol, PW.tr_tup, PW.ix_rol, PW.b_abs, PW.b_int, PW.b_boolI, PW.b_boolB, PW.b_intB, PW.b_max, PW.b_min, PW.b_lenT, PW.b_lenR, PW.b_lenL, PW.b_sum, PW.b_all, PW.b_any, PW.b_sorted, PW.b_tupT, PW.b_listT, PW.b_listL, PW.b_isN, PW.b_isB, PW.b_isS, PW.b_tupL, PW.b_isI, PW.b_isT, PW.b_isE, PW.m_pop, PW.m_ext, PW.m_rev, PW.m_app, PW.g_nm, PW.g_tup, PW.g_cons, PW.g_nil, endW, startW, List.map_cons, List.map_nil, List.length_cons, List.length_nil, List.replicate, Nat.reduceAdd, Nat.reduceSub, Nat.zero_add, List.cons_append, List.nil_append, List.append_nil, List.getElem?_cons_zero, List.getElem?_cons_succ, List.set_cons_zero, List.set_cons_succ, setS, T.alen, no_ga, g18, sPot, g32, sRight, no_sb, wipeW, if_true]
      refine ⟨⟨ns, rfl⟩, by omega, by omega, fun q own x hq o1 o2 x1 x2 => ⟨0, by decide, ⟨own, x, 0, Sto.upd_same, o1, o2, x1, x2, by decide, by decide⟩, fun ws' => ?_⟩⟩
      rw [Sto.upd_upd]
      exact hk _ (wsub_upd (wsub_refl _) hq)
    · rw [Sto.upd_ne np]; exact hP
    · rw [List.nil_append, fm_map, map_const, Sto.upd_upd]
      refine ⟨List.replicate (List.range k).length true, ?_, ret_all ?_⟩
      · rw [List.map_replicate]; exact Sto.upd_same
      · rw [all_true]; exact h _
  · exact h.elim

/-- a promise that is given from a height on -/
def gd (h k : Nat) (s : SpW) : SpW := fun ws S Q E => h ≤ k ∧ s ws S Q E
theorem gd_eq {h k : Nat} {s : SpW} (l : h ≤ k) : gd h k s = s := by
  funext ws S Q E
  exact propext ⟨fun x => x.2, fun x => ⟨l, x⟩⟩
def Sp (k : Nat) : Nat → SpW
  | 0 => gd 1 k sIsInt
  | 1 => gd 1 k sIsWhole
  | 2 => gd 2 k (sLookInt 1)
  | 3 => gd 2 k sAreWholes
  | 4 => gd 3 k sAnyCurve
  | 5 => gd 4 k sIsCurve
  | 6 => gd 5 k sLookCurve
  | 7 => gd 6 k sLookReal
  | 8 => gd 1 k sToldP
  | 9 => gd 2 k sSlope
  | 10 => gd 2 k sPrime
  | 11 => gd 2 k sRests
  | 12 => gd 1 k sTurned
  | 13 => gd 7 k sBy
  | 14 => gd 8 k sNoughts
  | 15 => gd 1 k sHby
  | 16 => gd 8 k sLifted
  | 17 => gd 9 k sAll
  | 18 => gd 1 k sPot
  | 19 => gd 1 k sTake
  | 20 => gd 2 k sOf
  | 21 => gd 1 k sCells
  | 22 => gd 1 k sIsInt
  | 23 => gd 1 k sGcd
  | 24 => gd 2 k sLow
  | 25 => gd 1 k sTold
  | 26 => gd 2 k sProd
  | 27 => gd 2 k sSlope
  | 28 => gd 3 k sDrawn
  | 29 => gd 1 k sAt
  | 30 => gd 1 k sWhole
  | 31 => gd 10 k sIsRight
  | 32 => gd 11 k sRight
  | 33 => gd 12 k sLaw
  | _ => fun _ _ _ _ => False
theorem sp0 (i : Nat) (ws S Q E) : ¬ Sp 0 i ws S Q E := by
  intro z
  unfold Sp gd at z
  split at z
  all_goals first | exact absurd z.1 (by decide) | exact z
theorem len0 (k : Nat) (ws S Q E) (z : Sp k 0 ws S Q E) : ws.length = 3 := by have z := z.2; unfold sIsInt at z; split at z; rfl; exact z.elim
theorem len1 (k : Nat) (ws S Q E) (z : Sp k 1 ws S Q E) : ws.length = 1 := by have z := z.2; unfold sIsWhole at z; split at z; rfl; exact z.elim
theorem len2 (k : Nat) (ws S Q E) (z : Sp k 2 ws S Q E) : ws.length = 3 := by have z := z.2; unfold sLookInt at z; split at z; rfl; exact z.elim
theorem len3 (k : Nat) (ws S Q E) (z : Sp k 3 ws S Q E) : ws.length = 1 := by have z := z.2; unfold sAreWholes at z; split at z; rfl; exact z.elim
theorem len4 (k : Nat) (ws S Q E) (z : Sp k 4 ws S Q E) : ws.length = 1 := by have z := z.2; unfold sAnyCurve at z; split at z; rfl; exact z.elim
theorem len5 (k : Nat) (ws S Q E) (z : Sp k 5 ws S Q E) : ws.length = 1 := by have z := z.2; unfold sIsCurve at z; split at z; rfl; exact z.elim
theorem len6 (k : Nat) (ws S Q E) (z : Sp k 6 ws S Q E) : ws.length = 1 := by have z := z.2; unfold sLookCurve at z; split at z; rfl; exact z.elim
theorem len7 (k : Nat) (ws S Q E) (z : Sp k 7 ws S Q E) : ws.length = 1 := by have z := z.2; unfold sLookReal at z; split at z; rfl; exact z.elim
theorem len8 (k : Nat) (ws S Q E) (z : Sp k 8 ws S Q E) : ws.length = 1 := by have z := z.2; unfold sToldP at z; split at z; rfl; exact z.elim
theorem len9 (k : Nat) (ws S Q E) (z : Sp k 9 ws S Q E) : ws.length = 1 := by have z := z.2; unfold sSlope at z; split at z; rfl; exact z.elim
theorem len10 (k : Nat) (ws S Q E) (z : Sp k 10 ws S Q E) : ws.length = 1 := by have z := z.2; unfold sPrime at z; split at z; rfl; exact z.elim
theorem len11 (k : Nat) (ws S Q E) (z : Sp k 11 ws S Q E) : ws.length = 2 := by have z := z.2; unfold sRests at z; split at z; rfl; exact z.elim
theorem len12 (k : Nat) (ws S Q E) (z : Sp k 12 ws S Q E) : ws.length = 2 := by have z := z.2; unfold sTurned at z; split at z; rfl; exact z.elim
theorem len13 (k : Nat) (ws S Q E) (z : Sp k 13 ws S Q E) : ws.length = 2 := by have z := z.2; unfold sBy at z; split at z; rfl; exact z.elim
theorem len14 (k : Nat) (ws S Q E) (z : Sp k 14 ws S Q E) : ws.length = 2 := by have z := z.2; unfold sNoughts at z; split at z; rfl; exact z.elim
theorem len15 (k : Nat) (ws S Q E) (z : Sp k 15 ws S Q E) : ws.length = 3 := by have z := z.2; unfold sHby at z; split at z; rfl; exact z.elim
theorem len16 (k : Nat) (ws S Q E) (z : Sp k 16 ws S Q E) : ws.length = 4 := by have z := z.2; unfold sLifted at z; split at z; rfl; exact z.elim
theorem len17 (k : Nat) (ws S Q E) (z : Sp k 17 ws S Q E) : ws.length = 3 := by have z := z.2; unfold sAll at z; split at z; rfl; exact z.elim
theorem len18 (k : Nat) (ws S Q E) (z : Sp k 18 ws S Q E) : ws.length = 2 := by have z := z.2; unfold sPot at z; split at z; rfl; exact z.elim
theorem len19 (k : Nat) (ws S Q E) (z : Sp k 19 ws S Q E) : ws.length = 2 := by have z := z.2; unfold sTake at z; split at z; rfl; exact z.elim
theorem len20 (k : Nat) (ws S Q E) (z : Sp k 20 ws S Q E) : ws.length = 2 := by have z := z.2; unfold sOf at z; split at z; rfl; exact z.elim
theorem len21 (k : Nat) (ws S Q E) (z : Sp k 21 ws S Q E) : ws.length = 2 := by have z := z.2; unfold sCells at z; split at z; rfl; exact z.elim
theorem len22 (k : Nat) (ws S Q E) (z : Sp k 22 ws S Q E) : ws.length = 3 := by have z := z.2; unfold sIsInt at z; split at z; rfl; exact z.elim
theorem len23 (k : Nat) (ws S Q E) (z : Sp k 23 ws S Q E) : ws.length = 2 := by have z := z.2; unfold sGcd at z; split at z; rfl; exact z.elim
theorem len24 (k : Nat) (ws S Q E) (z : Sp k 24 ws S Q E) : ws.length = 2 := by have z := z.2; unfold sLow at z; split at z; rfl; exact z.elim
theorem len25 (k : Nat) (ws S Q E) (z : Sp k 25 ws S Q E) : ws.length = 1 := by have z := z.2; unfold sTold at z; split at z; rfl; exact z.elim
theorem len26 (k : Nat) (ws S Q E) (z : Sp k 26 ws S Q E) : ws.length = 2 := by have z := z.2; unfold sProd at z; split at z; rfl; exact z.elim
theorem len27 (k : Nat) (ws S Q E) (z : Sp k 27 ws S Q E) : ws.length = 1 := by have z := z.2; unfold sSlope at z; split at z; rfl; exact z.elim
theorem len28 (k : Nat) (ws S Q E) (z : Sp k 28 ws S Q E) : ws.length = 2 := by have z := z.2; unfold sDrawn at z; split at z; rfl; exact z.elim
theorem len29 (k : Nat) (ws S Q E) (z : Sp k 29 ws S Q E) : ws.length = 2 := by have z := z.2; unfold sAt at z; split at z; rfl; exact z.elim
theorem len30 (k : Nat) (ws S Q E) (z : Sp k 30 ws S Q E) : ws.length = 2 := by have z := z.2; unfold sWhole at z; split at z; rfl; exact z.elim
theorem len31 (k : Nat) (ws S Q E) (z : Sp k 31 ws S Q E) : ws.length = 3 := by have z := z.2; unfold sIsRight at z; split at z; rfl; exact z.elim
theorem len32 (k : Nat) (ws S Q E) (z : Sp k 32 ws S Q E) : ws.length = 1 := by have z := z.2; unfold sRight at z; split at z; rfl; exact z.elim
theorem len33 (k : Nat) (ws S Q E) (z : Sp k 33 ws S Q E) : ws.length = 1 := by have z := z.2; unfold sLaw at z; split at z; rfl; exact z.elim
theorem red0 (k : Nat) (ws S Q E) (z : Sp (k + 1) 0 ws S Q E) : rdB b0 ⟨Sp k, E, st.sub⟩ (endW Q) (startW N0.length ws) S := by
  obtain ⟨l, z⟩ := z
  exact tIsInt _ _ ws S Q E z
theorem red1 (k : Nat) (ws S Q E) (z : Sp (k + 1) 1 ws S Q E) : rdB b1 ⟨Sp k, E, st.sub⟩ (endW Q) (startW N1.length ws) S := by
  obtain ⟨l, z⟩ := z
  exact tIsWhole _ _ ws S Q E z
theorem red2 (k : Nat) (ws S Q E) (z : Sp (k + 1) 2 ws S Q E) : rdB b2 ⟨Sp k, E, st.sub⟩ (endW Q) (startW N2.length ws) S := by
  obtain ⟨l, z⟩ := z
  exact tLookInt 0 1 _ _ ws S Q E (gd_eq (by omega)) z
theorem red3 (k : Nat) (ws S Q E) (z : Sp (k + 1) 3 ws S Q E) : rdB b3 ⟨Sp k, E, st.sub⟩ (endW Q) (startW N3.length ws) S := by
  obtain ⟨l, z⟩ := z
  exact tAreWholes 1 _ _ ws S Q E (gd_eq (by omega)) z
theorem red4 (k : Nat) (ws S Q E) (z : Sp (k + 1) 4 ws S Q E) : rdB b4 ⟨Sp k, E, st.sub⟩ (endW Q) (startW N4.length ws) S := by
  obtain ⟨l, z⟩ := z
  exact tAnyCurve 3 _ _ ws S Q E (gd_eq (by omega)) z
theorem red5 (k : Nat) (ws S Q E) (z : Sp (k + 1) 5 ws S Q E) : rdB b5 ⟨Sp k, E, st.sub⟩ (endW Q) (startW N5.length ws) S := by
  obtain ⟨l, z⟩ := z
  exact tIsCurve 4 _ _ ws S Q E (gd_eq (by omega)) z
theorem red6 (k : Nat) (ws S Q E) (z : Sp (k + 1) 6 ws S Q E) : rdB b6 ⟨Sp k, E, st.sub⟩ (endW Q) (startW N6.length ws) S := by
  obtain ⟨l, z⟩ := z
  exact tLookCurve 5 2 _ _ ws S Q E (gd_eq (by omega)) z
theorem red7 (k : Nat) (ws S Q E) (z : Sp (k + 1) 7 ws S Q E) : rdB b7 ⟨Sp k, E, st.sub⟩ (endW Q) (startW N7.length ws) S := by
  obtain ⟨l, z⟩ := z
  exact tLookReal 6 3 _ _ ws S Q E (gd_eq (by omega)) z
theorem red8 (k : Nat) (ws S Q E) (z : Sp (k + 1) 8 ws S Q E) : rdB b8 ⟨Sp k, E, st.sub⟩ (endW Q) (startW N8.length ws) S := by
  obtain ⟨l, z⟩ := z
  exact tToldP _ _ ws S Q E z
theorem red9 (k : Nat) (ws S Q E) (z : Sp (k + 1) 9 ws S Q E) : rdB b9 ⟨Sp k, E, st.sub⟩ (endW Q) (startW N9.length ws) S := by
  obtain ⟨l, z⟩ := z
  exact tSlope 8 _ _ ws S Q E (fun ws S Q E h => ⟨by omega, toldP_of h⟩) z
theorem red10 (k : Nat) (ws S Q E) (z : Sp (k + 1) 10 ws S Q E) : rdB b10 ⟨Sp k, E, st.sub⟩ (endW Q) (startW N10.length ws) S := by
  obtain ⟨l, z⟩ := z
  exact r10 _ ws S Q E (gd_eq (by omega)) z
theorem red11 (k : Nat) (ws S Q E) (z : Sp (k + 1) 11 ws S Q E) : rdB b11 ⟨Sp k, E, st.sub⟩ (endW Q) (startW N11.length ws) S := by
  obtain ⟨l, z⟩ := z
  exact r11 _ ws S Q E (gd_eq (by omega)) z
theorem red12 (k : Nat) (ws S Q E) (z : Sp (k + 1) 12 ws S Q E) : rdB b12 ⟨Sp k, E, st.sub⟩ (endW Q) (startW N12.length ws) S := by
  obtain ⟨l, z⟩ := z
  exact r12 _ ws S Q E z
theorem red13 (k : Nat) (ws S Q E) (z : Sp (k + 1) 13 ws S Q E) : rdB b13 ⟨Sp k, E, st.sub⟩ (endW Q) (startW N13.length ws) S := by
  obtain ⟨l, z⟩ := z
  exact r13 _ ws S Q E (gd_eq (by omega)) (gd_eq (by omega)) (gd_eq (by omega)) z
theorem red14 (k : Nat) (ws S Q E) (z : Sp (k + 1) 14 ws S Q E) : rdB b14 ⟨Sp k, E, st.sub⟩ (endW Q) (startW N14.length ws) S := by
  obtain ⟨l, z⟩ := z
  exact r14 _ ws S Q E (gd_eq (by omega)) (gd_eq (by omega)) z
theorem red15 (k : Nat) (ws S Q E) (z : Sp (k + 1) 15 ws S Q E) : rdB b15 ⟨Sp k, E, st.sub⟩ (endW Q) (startW N15.length ws) S := by
  obtain ⟨l, z⟩ := z
  exact tHby _ _ ws S Q E z
theorem red16 (k : Nat) (ws S Q E) (z : Sp (k + 1) 16 ws S Q E) : rdB b16 ⟨Sp k, E, st.sub⟩ (endW Q) (startW N16.length ws) S := by
  obtain ⟨l, z⟩ := z
  exact r16 _ ws S Q E (gd_eq (by omega)) (gd_eq (by omega)) (gd_eq (by omega)) (gd_eq (by omega)) (gd_eq (by omega)) (gd_eq (by omega)) z
theorem red17 (k : Nat) (ws S Q E) (z : Sp (k + 1) 17 ws S Q E) : rdB b17 ⟨Sp k, E, st.sub⟩ (endW Q) (startW N17.length ws) S := by
  obtain ⟨l, z⟩ := z
  exact r17 _ ws S Q E (gd_eq (by omega)) (gd_eq (by omega)) (gd_eq (by omega)) z
theorem red18 (k : Nat) (ws S Q E) (z : Sp (k + 1) 18 ws S Q E) : rdB b18 ⟨Sp k, E, st.sub⟩ (endW Q) (startW N18.length ws) S := by
  obtain ⟨l, z⟩ := z
  exact tPot _ _ ws S Q E z
theorem red19 (k : Nat) (ws S Q E) (z : Sp (k + 1) 19 ws S Q E) : rdB b19 ⟨Sp k, E, st.sub⟩ (endW Q) (startW N19.length ws) S := by
  obtain ⟨l, z⟩ := z
  exact tTake _ _ ws S Q E z
theorem red20 (k : Nat) (ws S Q E) (z : Sp (k + 1) 20 ws S Q E) : rdB b20 ⟨Sp k, E, st.sub⟩ (endW Q) (startW N20.length ws) S := by
  obtain ⟨l, z⟩ := z
  exact tOf 19 _ _ ws S Q E (gd_eq (by omega)) z
theorem red21 (k : Nat) (ws S Q E) (z : Sp (k + 1) 21 ws S Q E) : rdB b21 ⟨Sp k, E, st.sub⟩ (endW Q) (startW N21.length ws) S := by
  obtain ⟨l, z⟩ := z
  exact tCells _ _ ws S Q E z
theorem red22 (k : Nat) (ws S Q E) (z : Sp (k + 1) 22 ws S Q E) : rdB b22 ⟨Sp k, E, st.sub⟩ (endW Q) (startW N22.length ws) S := by
  obtain ⟨l, z⟩ := z
  exact tIsInt _ _ ws S Q E z
theorem red23 (k : Nat) (ws S Q E) (z : Sp (k + 1) 23 ws S Q E) : rdB b23 ⟨Sp k, E, st.sub⟩ (endW Q) (startW N23.length ws) S := by
  obtain ⟨l, z⟩ := z
  exact tGcd _ _ ws S Q E z
theorem red24 (k : Nat) (ws S Q E) (z : Sp (k + 1) 24 ws S Q E) : rdB b24 ⟨Sp k, E, st.sub⟩ (endW Q) (startW N24.length ws) S := by
  obtain ⟨l, z⟩ := z
  exact tLow 23 _ _ ws S Q E (gd_eq (by omega)) z
theorem red25 (k : Nat) (ws S Q E) (z : Sp (k + 1) 25 ws S Q E) : rdB b25 ⟨Sp k, E, st.sub⟩ (endW Q) (startW N25.length ws) S := by
  obtain ⟨l, z⟩ := z
  exact tTold _ _ ws S Q E z
theorem red26 (k : Nat) (ws S Q E) (z : Sp (k + 1) 26 ws S Q E) : rdB b26 ⟨Sp k, E, st.sub⟩ (endW Q) (startW N26.length ws) S := by
  obtain ⟨l, z⟩ := z
  exact tProd 25 _ _ ws S Q E (gd_eq (by omega)) z
theorem red27 (k : Nat) (ws S Q E) (z : Sp (k + 1) 27 ws S Q E) : rdB b27 ⟨Sp k, E, st.sub⟩ (endW Q) (startW N27.length ws) S := by
  obtain ⟨l, z⟩ := z
  exact tSlope 25 _ _ ws S Q E (fun ws S Q E h => ⟨by omega, h⟩) z
theorem red28 (k : Nat) (ws S Q E) (z : Sp (k + 1) 28 ws S Q E) : rdB b28 ⟨Sp k, E, st.sub⟩ (endW Q) (startW N28.length ws) S := by
  obtain ⟨l, z⟩ := z
  exact tDrawn 19 20 25 24 26 _ _ ws S Q E (gd_eq (by omega)) (gd_eq (by omega)) (gd_eq (by omega)) (gd_eq (by omega)) (gd_eq (by omega)) z
theorem red29 (k : Nat) (ws S Q E) (z : Sp (k + 1) 29 ws S Q E) : rdB b29 ⟨Sp k, E, st.sub⟩ (endW Q) (startW N29.length ws) S := by
  obtain ⟨l, z⟩ := z
  exact tAt _ _ ws S Q E z
theorem red30 (k : Nat) (ws S Q E) (z : Sp (k + 1) 30 ws S Q E) : rdB b30 ⟨Sp k, E, st.sub⟩ (endW Q) (startW N30.length ws) S := by
  obtain ⟨l, z⟩ := z
  exact r30 _ ws S Q E z
theorem red31 (k : Nat) (ws S Q E) (z : Sp (k + 1) 31 ws S Q E) : rdB b31 ⟨Sp k, E, st.sub⟩ (endW Q) (startW N31.length ws) S := by
  obtain ⟨l, z⟩ := z
  exact r31 _ ws S Q E (gd_eq (by omega)) (gd_eq (by omega)) (gd_eq (by omega)) (gd_eq (by omega)) (gd_eq (by omega)) (gd_eq (by omega)) (gd_eq (by omega)) (gd_eq (by omega)) (gd_eq (by omega)) z
theorem red32 (k : Nat) (ws S Q E) (z : Sp (k + 1) 32 ws S Q E) : rdB b32 ⟨Sp k, E, st.sub⟩ (endW Q) (startW N32.length ws) S := by
  obtain ⟨l, z⟩ := z
  exact r32 _ ws S Q E (gd_eq (by omega)) (gd_eq (by omega)) (gd_eq (by omega)) (gd_eq (by omega)) z
theorem red33 (k : Nat) (ws S Q E) (z : Sp (k + 1) 33 ws S Q E) : rdB b33 ⟨Sp k, E, st.sub⟩ (endW Q) (startW N33.length ws) S := by
  obtain ⟨l, z⟩ := z
  exact r33 _ ws S Q E (gd_eq (by omega)) (gd_eq (by omega)) (gd_eq (by omega)) z
def top_level : Nat := 12
theorem law_spec (ns : List Int) (hl : ns.length ≤ 63) (hb : ∀ z ∈ ns, Builtin.Int.intBits z ≤ 1048576) : Sp top_level 33 [.rol (ns.map Vl.int)] (fun _ => none) (fun v _ => v = .bl true) (fun _ _ => False) := ⟨by decide, ⟨ns, rfl⟩, fun _ => rfl⟩

end LW

set_option maxHeartbeats 0
set_option maxRecDepth 100000
namespace LW
open PySem PySem.Spec PyProof.Rows L2 PW
section
variable {K : PySem.W.Frag} {mg : Str → Option Value} {h : Heap} {w : World} {base : Heap}
theorem fin0 (X : K.In h) (G : h.Ns mainGlobals mg) (c : He.SaysD (faAll st) fn K) {kq : Nat} {sp : SpW} (H : ∀ fd, FunD K "is_int" "is_int" (defArgs (top 8)) (defBody (top 8)) (defScope (top 8)) [] [] (He.fAd K ("is_int", none)) fd → FnG PG w K mg base kq (He.fAd K ("is_int", none)) fd ["value", "low", "high"] (liftSp (geOf st tf PG K mg) sp)) :
    ∃ a fd, mg "is_int" = some (.ref a) ∧ PySem.W.keepIn K (.ref a) = true ∧ L2.Binds K fd ["value", "low", "high"] [] ∧ (∀ n, (0, n) ∈ st.kws → KBinds K fd ["value", "low", "high"] ((["value", "low", "high"] : List Str).drop n) (kbg n) (kbg n)) ∧ FnG PG w K mg base kq a fd ["value", "low", "high"] (liftSp (geOf st tf PG K mg) sp) := by
  obtain ⟨fd, F⟩ := c.def_ 0 (d := D0) rfl
  refine ⟨_, fd, glo_at X G c (mem_fn (by decide +kernel)), F.kp, F.bindsN fun _ _ _ _ _ _ us hl => match us, hl with | [_, _, _], _ => rfl, fun n m => ?_, H fd F⟩
  exact absurd m (by simp [st])
theorem fin1 (X : K.In h) (G : h.Ns mainGlobals mg) (c : He.SaysD (faAll st) fn K) {kq : Nat} {sp : SpW} (H : ∀ fd, FunD K "is_whole" "is_whole" (defArgs (top 9)) (defBody (top 9)) (defScope (top 9)) [] [] (He.fAd K ("is_whole", none)) fd → FnG PG w K mg base kq (He.fAd K ("is_whole", none)) fd ["value"] (liftSp (geOf st tf PG K mg) sp)) :
    ∃ a fd, mg "is_whole" = some (.ref a) ∧ PySem.W.keepIn K (.ref a) = true ∧ L2.Binds K fd ["value"] [] ∧ (∀ n, (1, n) ∈ st.kws → KBinds K fd ["value"] ((["value"] : List Str).drop n) (kbg n) (kbg n)) ∧ FnG PG w K mg base kq a fd ["value"] (liftSp (geOf st tf PG K mg) sp) := by
  obtain ⟨fd, F⟩ := c.def_ 1 (d := D1) rfl
  refine ⟨_, fd, glo_at X G c (mem_fn (by decide +kernel)), F.kp, F.bindsN fun _ _ _ _ _ _ us hl => match us, hl with | [_], _ => rfl, fun n m => ?_, H fd F⟩
  exact absurd m (by simp [st])
theorem fin2 (X : K.In h) (G : h.Ns mainGlobals mg) (c : He.SaysD (faAll st) fn K) {kq : Nat} {sp : SpW} (H : ∀ fd, FunD K "look_at_int" "look_at_int" (defArgs (top 10)) (defBody (top 10)) (defScope (top 10)) [] [] (He.fAd K ("look_at_int", none)) fd → FnG PG w K mg base kq (He.fAd K ("look_at_int", none)) fd ["value", "low", "high"] (liftSp (geOf st tf PG K mg) sp)) :
    ∃ a fd, mg "look_at_int" = some (.ref a) ∧ PySem.W.keepIn K (.ref a) = true ∧ L2.Binds K fd ["value", "low", "high"] [] ∧ (∀ n, (2, n) ∈ st.kws → KBinds K fd ["value", "low", "high"] ((["value", "low", "high"] : List Str).drop n) (kbg n) (kbg n)) ∧ FnG PG w K mg base kq a fd ["value", "low", "high"] (liftSp (geOf st tf PG K mg) sp) := by
  obtain ⟨fd, F⟩ := c.def_ 2 (d := D2) rfl
  refine ⟨_, fd, glo_at X G c (mem_fn (by decide +kernel)), F.kp, F.bindsN fun _ _ _ _ _ _ us hl => match us, hl with | [_, _, _], _ => rfl, fun n m => ?_, H fd F⟩
  exact absurd m (by simp [st])
theorem fin3 (X : K.In h) (G : h.Ns mainGlobals mg) (c : He.SaysD (faAll st) fn K) {kq : Nat} {sp : SpW} (H : ∀ fd, FunD K "are_wholes" "are_wholes" (defArgs (top 11)) (defBody (top 11)) (defScope (top 11)) [] [] (He.fAd K ("are_wholes", none)) fd → FnG PG w K mg base kq (He.fAd K ("are_wholes", none)) fd ["value"] (liftSp (geOf st tf PG K mg) sp)) :
    ∃ a fd, mg "are_wholes" = some (.ref a) ∧ PySem.W.keepIn K (.ref a) = true ∧ L2.Binds K fd ["value"] [] ∧ (∀ n, (3, n) ∈ st.kws → KBinds K fd ["value"] ((["value"] : List Str).drop n) (kbg n) (kbg n)) ∧ FnG PG w K mg base kq a fd ["value"] (liftSp (geOf st tf PG K mg) sp) := by
  obtain ⟨fd, F⟩ := c.def_ 3 (d := D3) rfl
  refine ⟨_, fd, glo_at X G c (mem_fn (by decide +kernel)), F.kp, F.bindsN fun _ _ _ _ _ _ us hl => match us, hl with | [_], _ => rfl, fun n m => ?_, H fd F⟩
  exact absurd m (by simp [st])
theorem fin4 (X : K.In h) (G : h.Ns mainGlobals mg) (c : He.SaysD (faAll st) fn K) {kq : Nat} {sp : SpW} (H : ∀ fd, FunD K "is_any_curve" "is_any_curve" (defArgs (top 15)) (defBody (top 15)) (defScope (top 15)) [] [] (He.fAd K ("is_any_curve", none)) fd → FnG PG w K mg base kq (He.fAd K ("is_any_curve", none)) fd ["value"] (liftSp (geOf st tf PG K mg) sp)) :
    ∃ a fd, mg "is_any_curve" = some (.ref a) ∧ PySem.W.keepIn K (.ref a) = true ∧ L2.Binds K fd ["value"] [] ∧ (∀ n, (4, n) ∈ st.kws → KBinds K fd ["value"] ((["value"] : List Str).drop n) (kbg n) (kbg n)) ∧ FnG PG w K mg base kq a fd ["value"] (liftSp (geOf st tf PG K mg) sp) := by
  obtain ⟨fd, F⟩ := c.def_ 4 (d := D4) rfl
  refine ⟨_, fd, glo_at X G c (mem_fn (by decide +kernel)), F.kp, F.bindsN fun _ _ _ _ _ _ us hl => match us, hl with | [_], _ => rfl, fun n m => ?_, H fd F⟩
  exact absurd m (by simp [st])
theorem fin5 (X : K.In h) (G : h.Ns mainGlobals mg) (c : He.SaysD (faAll st) fn K) {kq : Nat} {sp : SpW} (H : ∀ fd, FunD K "is_curve" "is_curve" (defArgs (top 16)) (defBody (top 16)) (defScope (top 16)) [] [] (He.fAd K ("is_curve", none)) fd → FnG PG w K mg base kq (He.fAd K ("is_curve", none)) fd ["value"] (liftSp (geOf st tf PG K mg) sp)) :
    ∃ a fd, mg "is_curve" = some (.ref a) ∧ PySem.W.keepIn K (.ref a) = true ∧ L2.Binds K fd ["value"] [] ∧ (∀ n, (5, n) ∈ st.kws → KBinds K fd ["value"] ((["value"] : List Str).drop n) (kbg n) (kbg n)) ∧ FnG PG w K mg base kq a fd ["value"] (liftSp (geOf st tf PG K mg) sp) := by
  obtain ⟨fd, F⟩ := c.def_ 5 (d := D5) rfl
  refine ⟨_, fd, glo_at X G c (mem_fn (by decide +kernel)), F.kp, F.bindsN fun _ _ _ _ _ _ us hl => match us, hl with | [_], _ => rfl, fun n m => ?_, H fd F⟩
  exact absurd m (by simp [st])
theorem fin6 (X : K.In h) (G : h.Ns mainGlobals mg) (c : He.SaysD (faAll st) fn K) {kq : Nat} {sp : SpW} (H : ∀ fd, FunD K "look_at_curve" "look_at_curve" (defArgs (top 17)) (defBody (top 17)) (defScope (top 17)) [] [] (He.fAd K ("look_at_curve", none)) fd → FnG PG w K mg base kq (He.fAd K ("look_at_curve", none)) fd ["curve"] (liftSp (geOf st tf PG K mg) sp)) :
    ∃ a fd, mg "look_at_curve" = some (.ref a) ∧ PySem.W.keepIn K (.ref a) = true ∧ L2.Binds K fd ["curve"] [] ∧ (∀ n, (6, n) ∈ st.kws → KBinds K fd ["curve"] ((["curve"] : List Str).drop n) (kbg n) (kbg n)) ∧ FnG PG w K mg base kq a fd ["curve"] (liftSp (geOf st tf PG K mg) sp) := by
  obtain ⟨fd, F⟩ := c.def_ 6 (d := D6) rfl
  refine ⟨_, fd, glo_at X G c (mem_fn (by decide +kernel)), F.kp, F.bindsN fun _ _ _ _ _ _ us hl => match us, hl with | [_], _ => rfl, fun n m => ?_, H fd F⟩
  exact absurd m (by simp [st])
theorem fin7 (X : K.In h) (G : h.Ns mainGlobals mg) (c : He.SaysD (faAll st) fn K) {kq : Nat} {sp : SpW} (H : ∀ fd, FunD K "look_at_real" "look_at_real" (defArgs (top 18)) (defBody (top 18)) (defScope (top 18)) [] [] (He.fAd K ("look_at_real", none)) fd → FnG PG w K mg base kq (He.fAd K ("look_at_real", none)) fd ["curve"] (liftSp (geOf st tf PG K mg) sp)) :
    ∃ a fd, mg "look_at_real" = some (.ref a) ∧ PySem.W.keepIn K (.ref a) = true ∧ L2.Binds K fd ["curve"] [] ∧ (∀ n, (7, n) ∈ st.kws → KBinds K fd ["curve"] ((["curve"] : List Str).drop n) (kbg n) (kbg n)) ∧ FnG PG w K mg base kq a fd ["curve"] (liftSp (geOf st tf PG K mg) sp) := by
  obtain ⟨fd, F⟩ := c.def_ 7 (d := D7) rfl
  refine ⟨_, fd, glo_at X G c (mem_fn (by decide +kernel)), F.kp, F.bindsN fun _ _ _ _ _ _ us hl => match us, hl with | [_], _ => rfl, fun n m => ?_, H fd F⟩
  exact absurd m (by simp [st])
theorem fin8 (X : K.In h) (G : h.Ns mainGlobals mg) (c : He.SaysD (faAll st) fn K) {kq : Nat} {sp : SpW} (H : ∀ fd, FunD K "told" "told" (defArgs (top 19)) (defBody (top 19)) (defScope (top 19)) [] [] (He.fAd K ("told", none)) fd → FnG PG w K mg base kq (He.fAd K ("told", none)) fd ["parts"] (liftSp (geOf st tf PG K mg) sp)) :
    ∃ a fd, mg "told" = some (.ref a) ∧ PySem.W.keepIn K (.ref a) = true ∧ L2.Binds K fd ["parts"] [] ∧ (∀ n, (8, n) ∈ st.kws → KBinds K fd ["parts"] ((["parts"] : List Str).drop n) (kbg n) (kbg n)) ∧ FnG PG w K mg base kq a fd ["parts"] (liftSp (geOf st tf PG K mg) sp) := by
  obtain ⟨fd, F⟩ := c.def_ 8 (d := D8) rfl
  refine ⟨_, fd, glo_at X G c (mem_fn (by decide +kernel)), F.kp, F.bindsN fun _ _ _ _ _ _ us hl => match us, hl with | [_], _ => rfl, fun n m => ?_, H fd F⟩
  exact absurd m (by simp [st])
theorem fin9 (X : K.In h) (G : h.Ns mainGlobals mg) (c : He.SaysD (faAll st) fn K) {kq : Nat} {sp : SpW} (H : ∀ fd, FunD K "slope_of" "slope_of" (defArgs (top 20)) (defBody (top 20)) (defScope (top 20)) [] [] (He.fAd K ("slope_of", none)) fd → FnG PG w K mg base kq (He.fAd K ("slope_of", none)) fd ["curve"] (liftSp (geOf st tf PG K mg) sp)) :
    ∃ a fd, mg "slope_of" = some (.ref a) ∧ PySem.W.keepIn K (.ref a) = true ∧ L2.Binds K fd ["curve"] [] ∧ (∀ n, (9, n) ∈ st.kws → KBinds K fd ["curve"] ((["curve"] : List Str).drop n) (kbg n) (kbg n)) ∧ FnG PG w K mg base kq a fd ["curve"] (liftSp (geOf st tf PG K mg) sp) := by
  obtain ⟨fd, F⟩ := c.def_ 9 (d := D9) rfl
  refine ⟨_, fd, glo_at X G c (mem_fn (by decide +kernel)), F.kp, F.bindsN fun _ _ _ _ _ _ us hl => match us, hl with | [_], _ => rfl, fun n m => ?_, H fd F⟩
  exact absurd m (by simp [st])
theorem fin10 (X : K.In h) (G : h.Ns mainGlobals mg) (c : He.SaysD (faAll st) fn K) {kq : Nat} {sp : SpW} (H : ∀ fd, FunD K "look_at_prime" "look_at_prime" (defArgs (top 24)) (defBody (top 24)) (defScope (top 24)) [] [] (He.fAd K ("look_at_prime", none)) fd → FnG PG w K mg base kq (He.fAd K ("look_at_prime", none)) fd ["prime"] (liftSp (geOf st tf PG K mg) sp)) :
    ∃ a fd, mg "look_at_prime" = some (.ref a) ∧ PySem.W.keepIn K (.ref a) = true ∧ L2.Binds K fd ["prime"] [] ∧ (∀ n, (10, n) ∈ st.kws → KBinds K fd ["prime"] ((["prime"] : List Str).drop n) (kbg n) (kbg n)) ∧ FnG PG w K mg base kq a fd ["prime"] (liftSp (geOf st tf PG K mg) sp) := by
  obtain ⟨fd, F⟩ := c.def_ 10 (d := D10) rfl
  refine ⟨_, fd, glo_at X G c (mem_fn (by decide +kernel)), F.kp, F.bindsN fun _ _ _ _ _ _ us hl => match us, hl with | [_], _ => rfl, fun n m => ?_, H fd F⟩
  exact absurd m (by simp [st])
theorem fin11 (X : K.In h) (G : h.Ns mainGlobals mg) (c : He.SaysD (faAll st) fn K) {kq : Nat} {sp : SpW} (H : ∀ fd, FunD K "rests" "rests" (defArgs (top 25)) (defBody (top 25)) (defScope (top 25)) [] [] (He.fAd K ("rests", none)) fd → FnG PG w K mg base kq (He.fAd K ("rests", none)) fd ["curve", "whole"] (liftSp (geOf st tf PG K mg) sp)) :
    ∃ a fd, mg "rests" = some (.ref a) ∧ PySem.W.keepIn K (.ref a) = true ∧ L2.Binds K fd ["curve", "whole"] [] ∧ (∀ n, (11, n) ∈ st.kws → KBinds K fd ["curve", "whole"] ((["curve", "whole"] : List Str).drop n) (kbg n) (kbg n)) ∧ FnG PG w K mg base kq a fd ["curve", "whole"] (liftSp (geOf st tf PG K mg) sp) := by
  obtain ⟨fd, F⟩ := c.def_ 11 (d := D11) rfl
  refine ⟨_, fd, glo_at X G c (mem_fn (by decide +kernel)), F.kp, F.bindsN fun _ _ _ _ _ _ us hl => match us, hl with | [_, _], _ => rfl, fun n m => ?_, H fd F⟩
  exact absurd m (by simp [st])
theorem fin12 (X : K.In h) (G : h.Ns mainGlobals mg) (c : He.SaysD (faAll st) fn K) {kq : Nat} {sp : SpW} (H : ∀ fd, FunD K "turned_over" "turned_over" (defArgs (top 26)) (defBody (top 26)) (defScope (top 26)) [] [] (He.fAd K ("turned_over", none)) fd → FnG PG w K mg base kq (He.fAd K ("turned_over", none)) fd ["number", "prime"] (liftSp (geOf st tf PG K mg) sp)) :
    ∃ a fd, mg "turned_over" = some (.ref a) ∧ PySem.W.keepIn K (.ref a) = true ∧ L2.Binds K fd ["number", "prime"] [] ∧ (∀ n, (12, n) ∈ st.kws → KBinds K fd ["number", "prime"] ((["number", "prime"] : List Str).drop n) (kbg n) (kbg n)) ∧ FnG PG w K mg base kq a fd ["number", "prime"] (liftSp (geOf st tf PG K mg) sp) := by
  obtain ⟨fd, F⟩ := c.def_ 12 (d := D12) rfl
  refine ⟨_, fd, glo_at X G c (mem_fn (by decide +kernel)), F.kp, F.bindsN fun _ _ _ _ _ _ us hl => match us, hl with | [_, _], _ => rfl, fun n m => ?_, H fd F⟩
  exact absurd m (by simp [st])
theorem fin13 (X : K.In h) (G : h.Ns mainGlobals mg) (c : He.SaysD (faAll st) fn K) {kq : Nat} {sp : SpW} (H : ∀ fd, FunD K "look_at_by" "look_at_by" (defArgs (top 27)) (defBody (top 27)) (defScope (top 27)) [] [] (He.fAd K ("look_at_by", none)) fd → FnG PG w K mg base kq (He.fAd K ("look_at_by", none)) fd ["curve", "prime"] (liftSp (geOf st tf PG K mg) sp)) :
    ∃ a fd, mg "look_at_by" = some (.ref a) ∧ PySem.W.keepIn K (.ref a) = true ∧ L2.Binds K fd ["curve", "prime"] [] ∧ (∀ n, (13, n) ∈ st.kws → KBinds K fd ["curve", "prime"] ((["curve", "prime"] : List Str).drop n) (kbg n) (kbg n)) ∧ FnG PG w K mg base kq a fd ["curve", "prime"] (liftSp (geOf st tf PG K mg) sp) := by
  obtain ⟨fd, F⟩ := c.def_ 13 (d := D13) rfl
  refine ⟨_, fd, glo_at X G c (mem_fn (by decide +kernel)), F.kp, F.bindsN fun _ _ _ _ _ _ us hl => match us, hl with | [_, _], _ => rfl, fun n m => ?_, H fd F⟩
  exact absurd m (by simp [st])
theorem fin14 (X : K.In h) (G : h.Ns mainGlobals mg) (c : He.SaysD (faAll st) fn K) {kq : Nat} {sp : SpW} (H : ∀ fd, FunD K "noughts_by" "noughts_by" (defArgs (top 28)) (defBody (top 28)) (defScope (top 28)) [] [] (He.fAd K ("noughts_by", none)) fd → FnG PG w K mg base kq (He.fAd K ("noughts_by", none)) fd ["curve", "prime"] (liftSp (geOf st tf PG K mg) sp)) :
    ∃ a fd, mg "noughts_by" = some (.ref a) ∧ PySem.W.keepIn K (.ref a) = true ∧ L2.Binds K fd ["curve", "prime"] [] ∧ (∀ n, (14, n) ∈ st.kws → KBinds K fd ["curve", "prime"] ((["curve", "prime"] : List Str).drop n) (kbg n) (kbg n)) ∧ FnG PG w K mg base kq a fd ["curve", "prime"] (liftSp (geOf st tf PG K mg) sp) := by
  obtain ⟨fd, F⟩ := c.def_ 14 (d := D14) rfl
  refine ⟨_, fd, glo_at X G c (mem_fn (by decide +kernel)), F.kp, F.bindsN fun _ _ _ _ _ _ us hl => match us, hl with | [_, _], _ => rfl, fun n m => ?_, H fd F⟩
  exact absurd m (by simp [st])
theorem fin15 (X : K.In h) (G : h.Ns mainGlobals mg) (c : He.SaysD (faAll st) fn K) {kq : Nat} {sp : SpW} (H : ∀ fd, FunD K "height_by" "height_by" (defArgs (top 29)) (defBody (top 29)) (defScope (top 29)) [] [] (He.fAd K ("height_by", none)) fd → FnG PG w K mg base kq (He.fAd K ("height_by", none)) fd ["curve", "number", "whole"] (liftSp (geOf st tf PG K mg) sp)) :
    ∃ a fd, mg "height_by" = some (.ref a) ∧ PySem.W.keepIn K (.ref a) = true ∧ L2.Binds K fd ["curve", "number", "whole"] [] ∧ (∀ n, (15, n) ∈ st.kws → KBinds K fd ["curve", "number", "whole"] ((["curve", "number", "whole"] : List Str).drop n) (kbg n) (kbg n)) ∧ FnG PG w K mg base kq a fd ["curve", "number", "whole"] (liftSp (geOf st tf PG K mg) sp) := by
  obtain ⟨fd, F⟩ := c.def_ 15 (d := D15) rfl
  refine ⟨_, fd, glo_at X G c (mem_fn (by decide +kernel)), F.kp, F.bindsN fun _ _ _ _ _ _ us hl => match us, hl with | [_, _, _], _ => rfl, fun n m => ?_, H fd F⟩
  exact absurd m (by simp [st])
theorem fin16 (X : K.In h) (G : h.Ns mainGlobals mg) (c : He.SaysD (faAll st) fn K) {kq : Nat} {sp : SpW} (H : ∀ fd, FunD K "lifted" "lifted" (defArgs (top 30)) (defBody (top 30)) (defScope (top 30)) [] [] (He.fAd K ("lifted", none)) fd → FnG PG w K mg base kq (He.fAd K ("lifted", none)) fd ["curve", "prime", "nought", "times"] (liftSp (geOf st tf PG K mg) sp)) :
    ∃ a fd, mg "lifted" = some (.ref a) ∧ PySem.W.keepIn K (.ref a) = true ∧ L2.Binds K fd ["curve", "prime", "nought", "times"] [] ∧ (∀ n, (16, n) ∈ st.kws → KBinds K fd ["curve", "prime", "nought", "times"] ((["curve", "prime", "nought", "times"] : List Str).drop n) (kbg n) (kbg n)) ∧ FnG PG w K mg base kq a fd ["curve", "prime", "nought", "times"] (liftSp (geOf st tf PG K mg) sp) := by
  obtain ⟨fd, F⟩ := c.def_ 16 (d := D16) rfl
  refine ⟨_, fd, glo_at X G c (mem_fn (by decide +kernel)), F.kp, F.bindsN fun _ _ _ _ _ _ us hl => match us, hl with | [_, _, _, _], _ => rfl, fun n m => ?_, H fd F⟩
  have m2 : n = 2 := by simpa [st] using m
  rcases m2 with rfl
  · exact kb_of 2 F (by decide) (by decide) fun _ _ _ _ _ _ us ws h1 h2 => match us, ws, h1, h2 with | [_, _], [_, _], _, _ => rfl
theorem fin17 (X : K.In h) (G : h.Ns mainGlobals mg) (c : He.SaysD (faAll st) fn K) {kq : Nat} {sp : SpW} (H : ∀ fd, FunD K "all_lifted" "all_lifted" (defArgs (top 31)) (defBody (top 31)) (defScope (top 31)) [] [] (He.fAd K ("all_lifted", none)) fd → FnG PG w K mg base kq (He.fAd K ("all_lifted", none)) fd ["curve", "prime", "times"] (liftSp (geOf st tf PG K mg) sp)) :
    ∃ a fd, mg "all_lifted" = some (.ref a) ∧ PySem.W.keepIn K (.ref a) = true ∧ L2.Binds K fd ["curve", "prime", "times"] [] ∧ (∀ n, (17, n) ∈ st.kws → KBinds K fd ["curve", "prime", "times"] ((["curve", "prime", "times"] : List Str).drop n) (kbg n) (kbg n)) ∧ FnG PG w K mg base kq a fd ["curve", "prime", "times"] (liftSp (geOf st tf PG K mg) sp) := by
  obtain ⟨fd, F⟩ := c.def_ 17 (d := D17) rfl
  refine ⟨_, fd, glo_at X G c (mem_fn (by decide +kernel)), F.kp, F.bindsN fun _ _ _ _ _ _ us hl => match us, hl with | [_, _, _], _ => rfl, fun n m => ?_, H fd F⟩
  have m2 : n = 2 := by simpa [st] using m
  rcases m2 with rfl
  · exact kb_of 2 F (by decide) (by decide) fun _ _ _ _ _ _ us ws h1 h2 => match us, ws, h1, h2 with | [_, _], [_], _, _ => rfl
theorem fin18 (X : K.In h) (G : h.Ns mainGlobals mg) (c : He.SaysD (faAll st) fn K) {kq : Nat} {sp : SpW} (H : ∀ fd, FunD K "_law_pot" "_law_pot" (defArgs (top 33)) (defBody (top 33)) (defScope (top 33)) [] [] (He.fAd K ("_law_pot", none)) fd → FnG PG w K mg base kq (He.fAd K ("_law_pot", none)) fd ["script", "place"] (liftSp (geOf st tf PG K mg) sp)) :
    ∃ a fd, mg "_law_pot" = some (.ref a) ∧ PySem.W.keepIn K (.ref a) = true ∧ L2.Binds K fd ["script", "place"] [] ∧ (∀ n, (18, n) ∈ st.kws → KBinds K fd ["script", "place"] ((["script", "place"] : List Str).drop n) (kbg n) (kbg n)) ∧ FnG PG w K mg base kq a fd ["script", "place"] (liftSp (geOf st tf PG K mg) sp) := by
  obtain ⟨fd, F⟩ := c.def_ 18 (d := D18) rfl
  refine ⟨_, fd, glo_at X G c (mem_fn (by decide +kernel)), F.kp, F.bindsN fun _ _ _ _ _ _ us hl => match us, hl with | [_, _], _ => rfl, fun n m => ?_, H fd F⟩
  exact absurd m (by simp [st])
theorem fin19 (X : K.In h) (G : h.Ns mainGlobals mg) (c : He.SaysD (faAll st) fn K) {kq : Nat} {sp : SpW} (H : ∀ fd, FunD K "_law_take" "_law_take" (defArgs (top 34)) (defBody (top 34)) (defScope (top 34)) [] [] (He.fAd K ("_law_take", none)) fd → FnG PG w K mg base kq (He.fAd K ("_law_take", none)) fd ["pot", "upto"] (liftSp (geOf st tf PG K mg) sp)) :
    ∃ a fd, mg "_law_take" = some (.ref a) ∧ PySem.W.keepIn K (.ref a) = true ∧ L2.Binds K fd ["pot", "upto"] [] ∧ (∀ n, (19, n) ∈ st.kws → KBinds K fd ["pot", "upto"] ((["pot", "upto"] : List Str).drop n) (kbg n) (kbg n)) ∧ FnG PG w K mg base kq a fd ["pot", "upto"] (liftSp (geOf st tf PG K mg) sp) := by
  obtain ⟨fd, F⟩ := c.def_ 19 (d := D19) rfl
  refine ⟨_, fd, glo_at X G c (mem_fn (by decide +kernel)), F.kp, F.bindsN fun _ _ _ _ _ _ us hl => match us, hl with | [_, _], _ => rfl, fun n m => ?_, H fd F⟩
  exact absurd m (by simp [st])
theorem fin20 (X : K.In h) (G : h.Ns mainGlobals mg) (c : He.SaysD (faAll st) fn K) {kq : Nat} {sp : SpW} (H : ∀ fd, FunD K "_law_of" "_law_of" (defArgs (top 35)) (defBody (top 35)) (defScope (top 35)) [] [] (He.fAd K ("_law_of", none)) fd → FnG PG w K mg base kq (He.fAd K ("_law_of", none)) fd ["pot", "some"] (liftSp (geOf st tf PG K mg) sp)) :
    ∃ a fd, mg "_law_of" = some (.ref a) ∧ PySem.W.keepIn K (.ref a) = true ∧ L2.Binds K fd ["pot", "some"] [] ∧ (∀ n, (20, n) ∈ st.kws → KBinds K fd ["pot", "some"] ((["pot", "some"] : List Str).drop n) (kbg n) (kbg n)) ∧ FnG PG w K mg base kq a fd ["pot", "some"] (liftSp (geOf st tf PG K mg) sp) := by
  obtain ⟨fd, F⟩ := c.def_ 20 (d := D20) rfl
  refine ⟨_, fd, glo_at X G c (mem_fn (by decide +kernel)), F.kp, F.bindsN fun _ _ _ _ _ _ us hl => match us, hl with | [_, _], _ => rfl, fun n m => ?_, H fd F⟩
  exact absurd m (by simp [st])
theorem fin21 (X : K.In h) (G : h.Ns mainGlobals mg) (c : He.SaysD (faAll st) fn K) {kq : Nat} {sp : SpW} (H : ∀ fd, FunD K "_law_cells" "_law_cells" (defArgs (top 36)) (defBody (top 36)) (defScope (top 36)) [] [] (He.fAd K ("_law_cells", none)) fd → FnG PG w K mg base kq (He.fAd K ("_law_cells", none)) fd ["script", "most"] (liftSp (geOf st tf PG K mg) sp)) :
    ∃ a fd, mg "_law_cells" = some (.ref a) ∧ PySem.W.keepIn K (.ref a) = true ∧ L2.Binds K fd ["script", "most"] [] ∧ (∀ n, (21, n) ∈ st.kws → KBinds K fd ["script", "most"] ((["script", "most"] : List Str).drop n) (kbg n) (kbg n)) ∧ FnG PG w K mg base kq a fd ["script", "most"] (liftSp (geOf st tf PG K mg) sp) := by
  obtain ⟨fd, F⟩ := c.def_ 21 (d := D21) rfl
  refine ⟨_, fd, glo_at X G c (mem_fn (by decide +kernel)), F.kp, F.bindsN fun _ _ _ _ _ _ us hl => match us, hl with | [_, _], _ => rfl, fun n m => ?_, H fd F⟩
  exact absurd m (by simp [st])
theorem fin22 (X : K.In h) (G : h.Ns mainGlobals mg) (c : He.SaysD (faAll st) fn K) {kq : Nat} {sp : SpW} (H : ∀ fd, FunD K "_law_is_int" "_law_is_int" (defArgs (top 38)) (defBody (top 38)) (defScope (top 38)) [] [] (He.fAd K ("_law_is_int", none)) fd → FnG PG w K mg base kq (He.fAd K ("_law_is_int", none)) fd ["value", "low", "high"] (liftSp (geOf st tf PG K mg) sp)) :
    ∃ a fd, mg "_law_is_int" = some (.ref a) ∧ PySem.W.keepIn K (.ref a) = true ∧ L2.Binds K fd ["value", "low", "high"] [] ∧ (∀ n, (22, n) ∈ st.kws → KBinds K fd ["value", "low", "high"] ((["value", "low", "high"] : List Str).drop n) (kbg n) (kbg n)) ∧ FnG PG w K mg base kq a fd ["value", "low", "high"] (liftSp (geOf st tf PG K mg) sp) := by
  obtain ⟨fd, F⟩ := c.def_ 22 (d := D22) rfl
  refine ⟨_, fd, glo_at X G c (mem_fn (by decide +kernel)), F.kp, F.bindsN fun _ _ _ _ _ _ us hl => match us, hl with | [_, _, _], _ => rfl, fun n m => ?_, H fd F⟩
  exact absurd m (by simp [st])
theorem fin23 (X : K.In h) (G : h.Ns mainGlobals mg) (c : He.SaysD (faAll st) fn K) {kq : Nat} {sp : SpW} (H : ∀ fd, FunD K "_law_common_int" "_law_common_int" (defArgs (top 39)) (defBody (top 39)) (defScope (top 39)) [] [] (He.fAd K ("_law_common_int", none)) fd → FnG PG w K mg base kq (He.fAd K ("_law_common_int", none)) fd ["one", "other"] (liftSp (geOf st tf PG K mg) sp)) :
    ∃ a fd, mg "_law_common_int" = some (.ref a) ∧ PySem.W.keepIn K (.ref a) = true ∧ L2.Binds K fd ["one", "other"] [] ∧ (∀ n, (23, n) ∈ st.kws → KBinds K fd ["one", "other"] ((["one", "other"] : List Str).drop n) (kbg n) (kbg n)) ∧ FnG PG w K mg base kq a fd ["one", "other"] (liftSp (geOf st tf PG K mg) sp) := by
  obtain ⟨fd, F⟩ := c.def_ 23 (d := D23) rfl
  refine ⟨_, fd, glo_at X G c (mem_fn (by decide +kernel)), F.kp, F.bindsN fun _ _ _ _ _ _ us hl => match us, hl with | [_, _], _ => rfl, fun n m => ?_, H fd F⟩
  exact absurd m (by simp [st])
theorem fin24 (X : K.In h) (G : h.Ns mainGlobals mg) (c : He.SaysD (faAll st) fn K) {kq : Nat} {sp : SpW} (H : ∀ fd, FunD K "_law_low" "_law_low" (defArgs (top 40)) (defBody (top 40)) (defScope (top 40)) [] [] (He.fAd K ("_law_low", none)) fd → FnG PG w K mg base kq (He.fAd K ("_law_low", none)) fd ["top", "bottom"] (liftSp (geOf st tf PG K mg) sp)) :
    ∃ a fd, mg "_law_low" = some (.ref a) ∧ PySem.W.keepIn K (.ref a) = true ∧ L2.Binds K fd ["top", "bottom"] [] ∧ (∀ n, (24, n) ∈ st.kws → KBinds K fd ["top", "bottom"] ((["top", "bottom"] : List Str).drop n) (kbg n) (kbg n)) ∧ FnG PG w K mg base kq a fd ["top", "bottom"] (liftSp (geOf st tf PG K mg) sp) := by
  obtain ⟨fd, F⟩ := c.def_ 24 (d := D24) rfl
  refine ⟨_, fd, glo_at X G c (mem_fn (by decide +kernel)), F.kp, F.bindsN fun _ _ _ _ _ _ us hl => match us, hl with | [_, _], _ => rfl, fun n m => ?_, H fd F⟩
  exact absurd m (by simp [st])
theorem fin25 (X : K.In h) (G : h.Ns mainGlobals mg) (c : He.SaysD (faAll st) fn K) {kq : Nat} {sp : SpW} (H : ∀ fd, FunD K "_law_told" "_law_told" (defArgs (top 41)) (defBody (top 41)) (defScope (top 41)) [] [] (He.fAd K ("_law_told", none)) fd → FnG PG w K mg base kq (He.fAd K ("_law_told", none)) fd ["parts"] (liftSp (geOf st tf PG K mg) sp)) :
    ∃ a fd, mg "_law_told" = some (.ref a) ∧ PySem.W.keepIn K (.ref a) = true ∧ L2.Binds K fd ["parts"] [] ∧ (∀ n, (25, n) ∈ st.kws → KBinds K fd ["parts"] ((["parts"] : List Str).drop n) (kbg n) (kbg n)) ∧ FnG PG w K mg base kq a fd ["parts"] (liftSp (geOf st tf PG K mg) sp) := by
  obtain ⟨fd, F⟩ := c.def_ 25 (d := D25) rfl
  refine ⟨_, fd, glo_at X G c (mem_fn (by decide +kernel)), F.kp, F.bindsN fun _ _ _ _ _ _ us hl => match us, hl with | [_], _ => rfl, fun n m => ?_, H fd F⟩
  exact absurd m (by simp [st])
theorem fin26 (X : K.In h) (G : h.Ns mainGlobals mg) (c : He.SaysD (faAll st) fn K) {kq : Nat} {sp : SpW} (H : ∀ fd, FunD K "_law_product" "_law_product" (defArgs (top 42)) (defBody (top 42)) (defScope (top 42)) [] [] (He.fAd K ("_law_product", none)) fd → FnG PG w K mg base kq (He.fAd K ("_law_product", none)) fd ["one", "other"] (liftSp (geOf st tf PG K mg) sp)) :
    ∃ a fd, mg "_law_product" = some (.ref a) ∧ PySem.W.keepIn K (.ref a) = true ∧ L2.Binds K fd ["one", "other"] [] ∧ (∀ n, (26, n) ∈ st.kws → KBinds K fd ["one", "other"] ((["one", "other"] : List Str).drop n) (kbg n) (kbg n)) ∧ FnG PG w K mg base kq a fd ["one", "other"] (liftSp (geOf st tf PG K mg) sp) := by
  obtain ⟨fd, F⟩ := c.def_ 26 (d := D26) rfl
  refine ⟨_, fd, glo_at X G c (mem_fn (by decide +kernel)), F.kp, F.bindsN fun _ _ _ _ _ _ us hl => match us, hl with | [_, _], _ => rfl, fun n m => ?_, H fd F⟩
  exact absurd m (by simp [st])
theorem fin27 (X : K.In h) (G : h.Ns mainGlobals mg) (c : He.SaysD (faAll st) fn K) {kq : Nat} {sp : SpW} (H : ∀ fd, FunD K "_law_slopes" "_law_slopes" (defArgs (top 43)) (defBody (top 43)) (defScope (top 43)) [] [] (He.fAd K ("_law_slopes", none)) fd → FnG PG w K mg base kq (He.fAd K ("_law_slopes", none)) fd ["curve"] (liftSp (geOf st tf PG K mg) sp)) :
    ∃ a fd, mg "_law_slopes" = some (.ref a) ∧ PySem.W.keepIn K (.ref a) = true ∧ L2.Binds K fd ["curve"] [] ∧ (∀ n, (27, n) ∈ st.kws → KBinds K fd ["curve"] ((["curve"] : List Str).drop n) (kbg n) (kbg n)) ∧ FnG PG w K mg base kq a fd ["curve"] (liftSp (geOf st tf PG K mg) sp) := by
  obtain ⟨fd, F⟩ := c.def_ 27 (d := D27) rfl
  refine ⟨_, fd, glo_at X G c (mem_fn (by decide +kernel)), F.kp, F.bindsN fun _ _ _ _ _ _ us hl => match us, hl with | [_], _ => rfl, fun n m => ?_, H fd F⟩
  exact absurd m (by simp [st])
theorem fin28 (X : K.In h) (G : h.Ns mainGlobals mg) (c : He.SaysD (faAll st) fn K) {kq : Nat} {sp : SpW} (H : ∀ fd, FunD K "_law_curve_drawn" "_law_curve_drawn" (defArgs (top 44)) (defBody (top 44)) (defScope (top 44)) [] [] (He.fAd K ("_law_curve_drawn", none)) fd → FnG PG w K mg base kq (He.fAd K ("_law_curve_drawn", none)) fd ["pot", "degree"] (liftSp (geOf st tf PG K mg) sp)) :
    ∃ a fd, mg "_law_curve_drawn" = some (.ref a) ∧ PySem.W.keepIn K (.ref a) = true ∧ L2.Binds K fd ["pot", "degree"] [] ∧ (∀ n, (28, n) ∈ st.kws → KBinds K fd ["pot", "degree"] ((["pot", "degree"] : List Str).drop n) (kbg n) (kbg n)) ∧ FnG PG w K mg base kq a fd ["pot", "degree"] (liftSp (geOf st tf PG K mg) sp) := by
  obtain ⟨fd, F⟩ := c.def_ 28 (d := D28) rfl
  refine ⟨_, fd, glo_at X G c (mem_fn (by decide +kernel)), F.kp, F.bindsN fun _ _ _ _ _ _ us hl => match us, hl with | [_, _], _ => rfl, fun n m => ?_, H fd F⟩
  exact absurd m (by simp [st])
theorem fin29 (X : K.In h) (G : h.Ns mainGlobals mg) (c : He.SaysD (faAll st) fn K) {kq : Nat} {sp : SpW} (H : ∀ fd, FunD K "_law_at" "_law_at" (defArgs (top 45)) (defBody (top 45)) (defScope (top 45)) [] [] (He.fAd K ("_law_at", none)) fd → FnG PG w K mg base kq (He.fAd K ("_law_at", none)) fd ["curve", "number"] (liftSp (geOf st tf PG K mg) sp)) :
    ∃ a fd, mg "_law_at" = some (.ref a) ∧ PySem.W.keepIn K (.ref a) = true ∧ L2.Binds K fd ["curve", "number"] [] ∧ (∀ n, (29, n) ∈ st.kws → KBinds K fd ["curve", "number"] ((["curve", "number"] : List Str).drop n) (kbg n) (kbg n)) ∧ FnG PG w K mg base kq a fd ["curve", "number"] (liftSp (geOf st tf PG K mg) sp) := by
  obtain ⟨fd, F⟩ := c.def_ 29 (d := D29) rfl
  refine ⟨_, fd, glo_at X G c (mem_fn (by decide +kernel)), F.kp, F.bindsN fun _ _ _ _ _ _ us hl => match us, hl with | [_, _], _ => rfl, fun n m => ?_, H fd F⟩
  exact absurd m (by simp [st])
theorem fin30 (X : K.In h) (G : h.Ns mainGlobals mg) (c : He.SaysD (faAll st) fn K) {kq : Nat} {sp : SpW} (H : ∀ fd, FunD K "_law_whole" "_law_whole" (defArgs (top 46)) (defBody (top 46)) (defScope (top 46)) [] [] (He.fAd K ("_law_whole", none)) fd → FnG PG w K mg base kq (He.fAd K ("_law_whole", none)) fd ["prime", "times"] (liftSp (geOf st tf PG K mg) sp)) :
    ∃ a fd, mg "_law_whole" = some (.ref a) ∧ PySem.W.keepIn K (.ref a) = true ∧ L2.Binds K fd ["prime", "times"] [] ∧ (∀ n, (30, n) ∈ st.kws → KBinds K fd ["prime", "times"] ((["prime", "times"] : List Str).drop n) (kbg n) (kbg n)) ∧ FnG PG w K mg base kq a fd ["prime", "times"] (liftSp (geOf st tf PG K mg) sp) := by
  obtain ⟨fd, F⟩ := c.def_ 30 (d := D30) rfl
  refine ⟨_, fd, glo_at X G c (mem_fn (by decide +kernel)), F.kp, F.bindsN fun _ _ _ _ _ _ us hl => match us, hl with | [_, _], _ => rfl, fun n m => ?_, H fd F⟩
  exact absurd m (by simp [st])
theorem fin31 (X : K.In h) (G : h.Ns mainGlobals mg) (c : He.SaysD (faAll st) fn K) {kq : Nat} {sp : SpW} (H : ∀ fd, FunD K "_law_is_right" "_law_is_right" (defArgs (top 47)) (defBody (top 47)) (defScope (top 47)) [] [] (He.fAd K ("_law_is_right", none)) fd → FnG PG w K mg base kq (He.fAd K ("_law_is_right", none)) fd ["pot", "curve", "prime"] (liftSp (geOf st tf PG K mg) sp)) :
    ∃ a fd, mg "_law_is_right" = some (.ref a) ∧ PySem.W.keepIn K (.ref a) = true ∧ L2.Binds K fd ["pot", "curve", "prime"] [] ∧ (∀ n, (31, n) ∈ st.kws → KBinds K fd ["pot", "curve", "prime"] ((["pot", "curve", "prime"] : List Str).drop n) (kbg n) (kbg n)) ∧ FnG PG w K mg base kq a fd ["pot", "curve", "prime"] (liftSp (geOf st tf PG K mg) sp) := by
  obtain ⟨fd, F⟩ := c.def_ 31 (d := D31) rfl
  refine ⟨_, fd, glo_at X G c (mem_fn (by decide +kernel)), F.kp, F.bindsN fun _ _ _ _ _ _ us hl => match us, hl with | [_, _, _], _ => rfl, fun n m => ?_, H fd F⟩
  exact absurd m (by simp [st])
theorem fin32 (X : K.In h) (G : h.Ns mainGlobals mg) (c : He.SaysD (faAll st) fn K) {kq : Nat} {sp : SpW} (H : ∀ fd, FunD K "_law_right" "_law_right" (defArgs (top 48)) (defBody (top 48)) (defScope (top 48)) [] [] (He.fAd K ("_law_right", none)) fd → FnG PG w K mg base kq (He.fAd K ("_law_right", none)) fd ["pot"] (liftSp (geOf st tf PG K mg) sp)) :
    ∃ a fd, mg "_law_right" = some (.ref a) ∧ PySem.W.keepIn K (.ref a) = true ∧ L2.Binds K fd ["pot"] [] ∧ (∀ n, (32, n) ∈ st.kws → KBinds K fd ["pot"] ((["pot"] : List Str).drop n) (kbg n) (kbg n)) ∧ FnG PG w K mg base kq a fd ["pot"] (liftSp (geOf st tf PG K mg) sp) := by
  obtain ⟨fd, F⟩ := c.def_ 32 (d := D32) rfl
  refine ⟨_, fd, glo_at X G c (mem_fn (by decide +kernel)), F.kp, F.bindsN fun _ _ _ _ _ _ us hl => match us, hl with | [_], _ => rfl, fun n m => ?_, H fd F⟩
  exact absurd m (by simp [st])
theorem fin33 (X : K.In h) (G : h.Ns mainGlobals mg) (c : He.SaysD (faAll st) fn K) {kq : Nat} {sp : SpW} (H : ∀ fd, FunD K "law" "law" (defArgs (top 49)) (defBody (top 49)) (defScope (top 49)) [] [] (He.fAd K ("law", none)) fd → FnG PG w K mg base kq (He.fAd K ("law", none)) fd ["script"] (liftSp (geOf st tf PG K mg) sp)) :
    ∃ a fd, mg "law" = some (.ref a) ∧ PySem.W.keepIn K (.ref a) = true ∧ L2.Binds K fd ["script"] [] ∧ (∀ n, (33, n) ∈ st.kws → KBinds K fd ["script"] ((["script"] : List Str).drop n) (kbg n) (kbg n)) ∧ FnG PG w K mg base kq a fd ["script"] (liftSp (geOf st tf PG K mg) sp) := by
  obtain ⟨fd, F⟩ := c.def_ 33 (d := D33) rfl
  refine ⟨_, fd, glo_at X G c (mem_fn (by decide +kernel)), F.kp, F.bindsN fun _ _ _ _ _ _ us hl => match us, hl with | [_], _ => rfl, fun n m => ?_, H fd F⟩
  exact absurd m (by simp [st])
theorem all_defs (X : K.In h) (G : h.Ns mainGlobals mg) (c : He.SaysD (faAll st) fn K) (e : errB st PG.main.file K = true) (ne : tabsNe tf K = true) (tb : tabB st K = true) (TB : ∀ p ∈ tf.map (He.cT K), LamX.TabB base mg p.1 p.2) : ∀ k, DefsAt st (geOf st tf PG K mg) PG w base (Sp k) (kk k) := by
  have gf := gf_of (tf := tf) X G c e tb (by kernel_rfl)
  have hh : ∃ (g CE : Addr) (pg : Arguments) (bg : List Stmt) (sg : Scope) (dV kV doc pm cdv ct oc : Value) (an od : Option Addr) (osl : Array (Option Value)), HeardF (geOf st tf PG K mg) g CE pg bg sg dV kV doc pm cdv ct oc an od osl := by
    obtain ⟨fd, F⟩ := c.def_ 34 (d := Dh) rfl
    obtain ⟨g, CE, r⟩ := heard_of (tf := tf) X G c e F (F.bindsN fun _ _ _ _ _ _ us hl => match us, hl with | [_], _ => rfl) ⟨by kernel_rfl, by kernel_rfl, by kernel_rfl, by decide +kernel, by rfl, by decide +kernel, by decide +kernel⟩ (by kernel_rfl) (by kernel_rfl)
    exact ⟨g, CE, _, _, _, r⟩
  intro k
  induction k with
  | zero =>
    intro f x ps h1 h2
    match f, h1, h2 with
    | 0, h1, h2 => cases h1; cases h2; exact fin0 X G c fun fd F => FnG.never fun ws S Q E z => sp0 0 ws S Q E z
    | 1, h1, h2 => cases h1; cases h2; exact fin1 X G c fun fd F => FnG.never fun ws S Q E z => sp0 1 ws S Q E z
    | 2, h1, h2 => cases h1; cases h2; exact fin2 X G c fun fd F => FnG.never fun ws S Q E z => sp0 2 ws S Q E z
    | 3, h1, h2 => cases h1; cases h2; exact fin3 X G c fun fd F => FnG.never fun ws S Q E z => sp0 3 ws S Q E z
    | 4, h1, h2 => cases h1; cases h2; exact fin4 X G c fun fd F => FnG.never fun ws S Q E z => sp0 4 ws S Q E z
    | 5, h1, h2 => cases h1; cases h2; exact fin5 X G c fun fd F => FnG.never fun ws S Q E z => sp0 5 ws S Q E z
    | 6, h1, h2 => cases h1; cases h2; exact fin6 X G c fun fd F => FnG.never fun ws S Q E z => sp0 6 ws S Q E z
    | 7, h1, h2 => cases h1; cases h2; exact fin7 X G c fun fd F => FnG.never fun ws S Q E z => sp0 7 ws S Q E z
    | 8, h1, h2 => cases h1; cases h2; exact fin8 X G c fun fd F => FnG.never fun ws S Q E z => sp0 8 ws S Q E z
    | 9, h1, h2 => cases h1; cases h2; exact fin9 X G c fun fd F => FnG.never fun ws S Q E z => sp0 9 ws S Q E z
    | 10, h1, h2 => cases h1; cases h2; exact fin10 X G c fun fd F => FnG.never fun ws S Q E z => sp0 10 ws S Q E z
    | 11, h1, h2 => cases h1; cases h2; exact fin11 X G c fun fd F => FnG.never fun ws S Q E z => sp0 11 ws S Q E z
    | 12, h1, h2 => cases h1; cases h2; exact fin12 X G c fun fd F => FnG.never fun ws S Q E z => sp0 12 ws S Q E z
    | 13, h1, h2 => cases h1; cases h2; exact fin13 X G c fun fd F => FnG.never fun ws S Q E z => sp0 13 ws S Q E z
    | 14, h1, h2 => cases h1; cases h2; exact fin14 X G c fun fd F => FnG.never fun ws S Q E z => sp0 14 ws S Q E z
    | 15, h1, h2 => cases h1; cases h2; exact fin15 X G c fun fd F => FnG.never fun ws S Q E z => sp0 15 ws S Q E z
    | 16, h1, h2 => cases h1; cases h2; exact fin16 X G c fun fd F => FnG.never fun ws S Q E z => sp0 16 ws S Q E z
    | 17, h1, h2 => cases h1; cases h2; exact fin17 X G c fun fd F => FnG.never fun ws S Q E z => sp0 17 ws S Q E z
    | 18, h1, h2 => cases h1; cases h2; exact fin18 X G c fun fd F => FnG.never fun ws S Q E z => sp0 18 ws S Q E z
    | 19, h1, h2 => cases h1; cases h2; exact fin19 X G c fun fd F => FnG.never fun ws S Q E z => sp0 19 ws S Q E z
    | 20, h1, h2 => cases h1; cases h2; exact fin20 X G c fun fd F => FnG.never fun ws S Q E z => sp0 20 ws S Q E z
    | 21, h1, h2 => cases h1; cases h2; exact fin21 X G c fun fd F => FnG.never fun ws S Q E z => sp0 21 ws S Q E z
    | 22, h1, h2 => cases h1; cases h2; exact fin22 X G c fun fd F => FnG.never fun ws S Q E z => sp0 22 ws S Q E z
    | 23, h1, h2 => cases h1; cases h2; exact fin23 X G c fun fd F => FnG.never fun ws S Q E z => sp0 23 ws S Q E z
    | 24, h1, h2 => cases h1; cases h2; exact fin24 X G c fun fd F => FnG.never fun ws S Q E z => sp0 24 ws S Q E z
    | 25, h1, h2 => cases h1; cases h2; exact fin25 X G c fun fd F => FnG.never fun ws S Q E z => sp0 25 ws S Q E z
    | 26, h1, h2 => cases h1; cases h2; exact fin26 X G c fun fd F => FnG.never fun ws S Q E z => sp0 26 ws S Q E z
    | 27, h1, h2 => cases h1; cases h2; exact fin27 X G c fun fd F => FnG.never fun ws S Q E z => sp0 27 ws S Q E z
    | 28, h1, h2 => cases h1; cases h2; exact fin28 X G c fun fd F => FnG.never fun ws S Q E z => sp0 28 ws S Q E z
    | 29, h1, h2 => cases h1; cases h2; exact fin29 X G c fun fd F => FnG.never fun ws S Q E z => sp0 29 ws S Q E z
    | 30, h1, h2 => cases h1; cases h2; exact fin30 X G c fun fd F => FnG.never fun ws S Q E z => sp0 30 ws S Q E z
    | 31, h1, h2 => cases h1; cases h2; exact fin31 X G c fun fd F => FnG.never fun ws S Q E z => sp0 31 ws S Q E z
    | 32, h1, h2 => cases h1; cases h2; exact fin32 X G c fun fd F => FnG.never fun ws S Q E z => sp0 32 ws S Q E z
    | 33, h1, h2 => cases h1; cases h2; exact fin33 X G c fun fd F => FnG.never fun ws S Q E z => sp0 33 ws S Q E z
    | n + 34, h1, _ => cases h1
  | succ k ih =>
    intro f x ps h1 h2
    match f, h1, h2 with
    | 0, h1, h2 => cases h1; cases h2; exact fin0 X G c fun fd F => fnG_of (k := kk k) F sc0 gf (len0 (k + 1)) ck0 (red0 k) (by unfold kk; omega) ih (fun z => by cases z)
    | 1, h1, h2 => cases h1; cases h2; exact fin1 X G c fun fd F => fnG_of (k := kk k) F sc1 gf (len1 (k + 1)) ck1 (red1 k) (by unfold kk; omega) ih (fun z => by cases z)
    | 2, h1, h2 => cases h1; cases h2; exact fin2 X G c fun fd F => fnG_of (k := kk k) F sc2 gf (len2 (k + 1)) ck2 (red2 k) (by unfold kk; omega) ih (fun z => by cases z)
    | 3, h1, h2 => cases h1; cases h2; exact fin3 X G c fun fd F => fnG_of (k := kk k) F sc3 gf (len3 (k + 1)) ck3 (red3 k) (by unfold kk; omega) ih (fun z => by cases z)
    | 4, h1, h2 => cases h1; cases h2; exact fin4 X G c fun fd F => fnG_of (k := kk k) F sc4 gf (len4 (k + 1)) ck4 (red4 k) (by unfold kk; omega) ih (fun z => by cases z)
    | 5, h1, h2 => cases h1; cases h2; exact fin5 X G c fun fd F => fnG_of (k := kk k) F sc5 gf (len5 (k + 1)) ck5 (red5 k) (by unfold kk; omega) ih (fun z => by cases z)
    | 6, h1, h2 => cases h1; cases h2; exact fin6 X G c fun fd F => fnG_of (k := kk k) F sc6 gf (len6 (k + 1)) ck6 (red6 k) (by unfold kk; omega) ih (fun z => by cases z)
    | 7, h1, h2 => cases h1; cases h2; exact fin7 X G c fun fd F => fnG_of (k := kk k) F sc7 gf (len7 (k + 1)) ck7 (red7 k) (by unfold kk; omega) ih (fun z => by cases z)
    | 8, h1, h2 => cases h1; cases h2; exact fin8 X G c fun fd F => fnG_of (k := kk k) F sc8 gf (len8 (k + 1)) ck8 (red8 k) (by unfold kk; omega) ih (fun z => by cases z)
    | 9, h1, h2 => cases h1; cases h2; exact fin9 X G c fun fd F => fnG_of (k := kk k) F sc9 gf (len9 (k + 1)) ck9 (red9 k) (by unfold kk; omega) ih (fun z => by cases z)
    | 10, h1, h2 => cases h1; cases h2; exact fin10 X G c fun fd F => fnG_of (k := kk k) F sc10 gf (len10 (k + 1)) ck10 (red10 k) (by unfold kk; omega) ih (fun z => by cases z)
    | 11, h1, h2 => cases h1; cases h2; exact fin11 X G c fun fd F => fnG_of (k := kk k) F sc11 gf (len11 (k + 1)) ck11 (red11 k) (by unfold kk; omega) ih (fun z => by cases z)
    | 12, h1, h2 => cases h1; cases h2; exact fin12 X G c fun fd F => fnG_of (k := kk k) F sc12 gf (len12 (k + 1)) ck12 (red12 k) (by unfold kk; omega) ih (fun z => by cases z)
    | 13, h1, h2 => cases h1; cases h2; exact fin13 X G c fun fd F => fnG_of (k := kk k) F sc13 gf (len13 (k + 1)) ck13 (red13 k) (by unfold kk; omega) ih (fun z => by cases z)
    | 14, h1, h2 => cases h1; cases h2; exact fin14 X G c fun fd F => fnG_of (k := kk k) F sc14 gf (len14 (k + 1)) ck14 (red14 k) (by unfold kk; omega) ih (fun z => by cases z)
    | 15, h1, h2 => cases h1; cases h2; exact fin15 X G c fun fd F => fnG_of (k := kk k) F sc15 gf (len15 (k + 1)) ck15 (red15 k) (by unfold kk; omega) ih (fun z => by cases z)
    | 16, h1, h2 => cases h1; cases h2; exact fin16 X G c fun fd F => fnG_of (k := kk k) F sc16 gf (len16 (k + 1)) ck16 (red16 k) (by unfold kk; omega) ih (fun z => by cases z)
    | 17, h1, h2 => cases h1; cases h2; exact fin17 X G c fun fd F => fnG_of (k := kk k) F sc17 gf (len17 (k + 1)) ck17 (red17 k) (by unfold kk; omega) ih (fun z => by cases z)
    | 18, h1, h2 => cases h1; cases h2; exact fin18 X G c fun fd F => fnG_of (k := kk k) F sc18 gf (len18 (k + 1)) ck18 (red18 k) (by unfold kk; omega) ih (fun z => by cases z)
    | 19, h1, h2 => cases h1; cases h2; exact fin19 X G c fun fd F => fnG_of (k := kk k) F sc19 gf (len19 (k + 1)) ck19 (red19 k) (by unfold kk; omega) ih (fun z => by cases z)
    | 20, h1, h2 => cases h1; cases h2; exact fin20 X G c fun fd F => fnG_of (k := kk k) F sc20 gf (len20 (k + 1)) ck20 (red20 k) (by unfold kk; omega) ih (fun z => by cases z)
    | 21, h1, h2 => cases h1; cases h2; exact fin21 X G c fun fd F => fnG_of (k := kk k) F sc21 gf (len21 (k + 1)) ck21 (red21 k) (by unfold kk; omega) ih (fun z => by cases z)
    | 22, h1, h2 => cases h1; cases h2; exact fin22 X G c fun fd F => fnG_of (k := kk k) F sc22 gf (len22 (k + 1)) ck22 (red22 k) (by unfold kk; omega) ih (fun z => by cases z)
    | 23, h1, h2 => cases h1; cases h2; exact fin23 X G c fun fd F => fnG_of (k := kk k) F sc23 gf (len23 (k + 1)) ck23 (red23 k) (by unfold kk; omega) ih (fun z => by cases z)
    | 24, h1, h2 => cases h1; cases h2; exact fin24 X G c fun fd F => fnG_of (k := kk k) F sc24 gf (len24 (k + 1)) ck24 (red24 k) (by unfold kk; omega) ih (fun z => by cases z)
    | 25, h1, h2 => cases h1; cases h2; exact fin25 X G c fun fd F => fnG_of (k := kk k) F sc25 gf (len25 (k + 1)) ck25 (red25 k) (by unfold kk; omega) ih (fun z => by cases z)
    | 26, h1, h2 => cases h1; cases h2; exact fin26 X G c fun fd F => fnG_of (k := kk k) F sc26 gf (len26 (k + 1)) ck26 (red26 k) (by unfold kk; omega) ih (fun z => by cases z)
    | 27, h1, h2 => cases h1; cases h2; exact fin27 X G c fun fd F => fnG_of (k := kk k) F sc27 gf (len27 (k + 1)) ck27 (red27 k) (by unfold kk; omega) ih (fun z => by cases z)
    | 28, h1, h2 => cases h1; cases h2; exact fin28 X G c fun fd F => fnG_of (k := kk k) F sc28 gf (len28 (k + 1)) ck28 (red28 k) (by unfold kk; omega) ih (fun z => by cases z)
    | 29, h1, h2 => cases h1; cases h2; exact fin29 X G c fun fd F => fnG_of (k := kk k) F sc29 gf (len29 (k + 1)) ck29 (red29 k) (by unfold kk; omega) ih (fun z => by cases z)
    | 30, h1, h2 => cases h1; cases h2; exact fin30 X G c fun fd F => fnG_of (k := kk k) F sc30 gf (len30 (k + 1)) ck30 (red30 k) (by unfold kk; omega) ih (fun z => by cases z)
    | 31, h1, h2 => cases h1; cases h2; exact fin31 X G c fun fd F => fnG_of (k := kk k) F sc31 gf (len31 (k + 1)) ck31 (red31 k) (by unfold kk; omega) ih (fun _ => lam_of F (by decide +kernel) ne (by decide +kernel) TB hh)
    | 32, h1, h2 => cases h1; cases h2; exact fin32 X G c fun fd F => fnG_of (k := kk k) F sc32 gf (len32 (k + 1)) ck32 (red32 k) (by unfold kk; omega) ih (fun z => by cases z)
    | 33, h1, h2 => cases h1; cases h2; exact fin33 X G c fun fd F => fnG_of (k := kk k) F sc33 gf (len33 (k + 1)) ck33 (red33 k) (by unfold kk; omega) ih (fun z => by cases z)
    | n + 34, h1, _ => cases h1
theorem law_fn (X : K.In h) (G : h.Ns mainGlobals mg) (c : He.SaysD (faAll st) fn K) (e : errB st PG.main.file K = true) (ne : tabsNe tf K = true) (tb : tabB st K = true) (TB : ∀ p ∈ tf.map (He.cT K), LamX.TabB base mg p.1 p.2) {fd : FuncData} (F : FunD K "law" "law" (defArgs (top 49)) (defBody (top 49)) (defScope (top 49)) [] [] (He.fAd K ("law", none)) fd) (k : Nat) : FnG PG w K mg base (kk (k + 1)) (He.fAd K ("law", none)) fd ["script"] (liftSp (geOf st tf PG K mg) (Sp (k + 1) 33)) :=
  fnG_of (k := kk k) F sc33 (gf_of (tf := tf) X G c e tb (by kernel_rfl)) (len33 (k + 1)) ck33 (red33 k) (by unfold kk; omega) (all_defs X G c e ne tb TB k) (fun z => by cases z)
end
end LW
open PySem PySem.W PySem.Calls PyProof.Rows
theorem PySem.Challenge.cw_noughtsbetween_k38_whole_noughts_lifted_holds : PySem.Challenge.rw_noughtsbetween_k38_whole_noughts_lifted.Holds := by
  w_on; o_law
  refine HandSHeadRun.head_any (r := OpenLaw.row PySem.Challenge.rw_noughtsbetween_k38_whole_noughts_lifted) (q := view (OpenLaw.row PySem.Challenge.rw_noughtsbetween_k38_whole_noughts_lifted).prog [49]) (H := LW.hk) (ob := LW.ob) (M := 4000) (loose := LW.loose) (d := HandSHeadRun.topDef (OpenLaw.row PySem.Challenge.rw_noughtsbetween_k38_whole_noughts_lifted).prog 49) (kwd := []) LW.ob_eq
    (by kernel_rfl) (fun s => by kernel_rfl) LW.run (by kernel_rfl) (by kernel_rfl) (by kernel_rfl) (by rfl) (by first | assumption | decide +kernel) (by decide +kernel) ⟨rfl, rfl, rfl, rfl, rfl, by decide +kernel⟩ ?hw ?hc
  case hw => w_witness2
  case hc =>
    refine PW.walk_G (l := PySem.Challenge.rw_noughtsbetween_k38_whole_noughts_lifted) (n := 63) (k := PW.kk LW.top_level) (x := "script") rfl (by decide) (by kernel_rfl) ⟨rfl, by decide +kernel, by decide +kernel⟩ ?F
    intro w mg fa h Y G hmg0
    obtain ⟨K, KX, c⟩ := Y
    have e : (HandSHeadRun.topDef (OpenLaw.row PySem.Challenge.rw_noughtsbetween_k38_whole_noughts_lifted).prog 49).name = ("law" : PySem.Str) := by kernel_rfl
    rw [e] at hmg0
    have c2 := c.t.d
    obtain ⟨m12, m3⟩ := He.ba c.more
    obtain ⟨m1, m2⟩ := He.ba m12
    obtain ⟨fd0, F0⟩ := c2.def_ 33 (d := LW.D33) rfl
    have ea := PW.glo_at KX G c2 (PW.mem_fn (x := "law") (by decide +kernel))
    rw [hmg0] at ea
    cases ea
    refine ⟨K, KX, fd0, LW.tf.map (He.cT K), PW.liftSp (PW.geOf LW.st LW.tf LW.PG K mg) (LW.Sp LW.top_level 33), fun p hp => ?_, fun p hp => ?_, fun p hp => ?_, ?_, ?_, ?_⟩
    · obtain ⟨r, hr, rfl⟩ := List.mem_map.mp hp; exact c.empty r hr
    · obtain ⟨r, hr, rfl⟩ := List.mem_map.mp hp; exact c.out r hr
    · obtain ⟨r, hr, rfl⟩ := List.mem_map.mp hp; exact PySem.W.codeHd_of_K KX (c.hd r hr)
    · exact fun s v => (L2.FunD.bindsA (ps := ["script"]) F0 fun _ _ _ _ _ _ us hl => match us, hl with | [_], _ => rfl) s [v] rfl
    · intro H a ns hl hb hH hF
      refine ⟨[.rol (ns.map PW.Vl.int)], fun _ => none, fun v _ => v = .bl true, fun _ _ => False, .cons ?_ .nil, ⟨fun a ws z => (by cases z), fun p hp => ?_⟩, LW.law_spec ns hl hb, fun w S x H2 q _ rw _ => ?_, fun _ _ _ _ _ z => z.elim⟩
      · unfold PW.RW; exact ⟨a, _, rfl, hF, PW.RWs.ints⟩
      · obtain ⟨r, hr, rfl⟩ := List.mem_map.mp hp; exact LamX.TabS.nil (hH _ (List.mem_map.mpr ⟨r, hr, rfl⟩))
      · subst q; exact PW.rw_bl rw
    · intro base hB hN TB
      exact LW.law_fn KX G c2 m1 m2 m3 TB F0 (LW.top_level - 1)

