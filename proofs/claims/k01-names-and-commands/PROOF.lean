import PyProof.Rows.All
import HandS.ForMost
import HandS.WordsExc
import HandS.Defaults
import HandS.IsInst
import HandS.TupAny
import HandS.StrMore
import HandS.CallLocal
import HandS.HeadHook1
import HandS.HeadHook2
import HandS.HeadHook3
import HandS.HeadHook4
import KE.KUnpackStar
import KE.GoesEnumKw
import KE.GoesEnum
import KE.KRevSl
import HandS.Style
import PySem.Challenge.RW_fencelanes_k01_names_and_commands
import HandS.Head0
import HandS.Head1
import HandS.Head2
import HandS.HeadEnd
set_option Elab.async false
set_option linter.all false
set_option maxRecDepth 100000
set_option autoImplicit false
set_option maxHeartbeats 0
/-! The mirror layer: a def is mirrored by a plain function over values W and a store of mutable objects. -/
namespace Mm
open PySem PySem.Spec PyProof.Rows L2

/-! ### values and the store -/
inductive W where
  | non | bl (b : Bool) | int (i : Int) | str (x : Str) | ty (n : String) | glo (x : Str) | loc (l : Nat)
  | tup (ws : List W) | lst (ws : List W) | arr (ws : List W) | dct (ks : List Key) (ws : List W) | obj (C : Str) (fs : List Str) (ws : List W)
inductive O where
  | lst (ws : List W) | dct (ks : List Key) (ws : List W) | ins (C : Str) (fs : List Str) (ws : List W)
abbrev Sto := List O
abbrev Env := List (Option W)
structure Xn where
  cls : Str
  fs : List (Str × W)
inductive Res (α : Type) where
  | stuck | ok (a : α) (S : Sto) | err (x : Xn) (S : Sto)
abbrev MW (α : Type) := Env → Sto → Res α
abbrev MV := MW W
inductive Fl where
  | next | ret (w : W) | brk | cont
abbrev MS := MW (Fl × Env)
abbrev MF := List W → Sto → Res W

def mBind {α β : Type} (c : MW α) (k : α → MW β) : MW β := fun ρ S => match c ρ S with
  | .stuck => .stuck
  | .ok a S1 => k a ρ S1
  | .err x S1 => .err x S1

/-! ### what stands for what -/
/-- where the store's objects stand; addresses that are being changed elsewhere -/
structure Im where
  f : Nat → Addr
  mu : List Addr
instance : CoeFun Im fun _ => Nat → Addr := ⟨Im.f⟩
/-- tracked, and no object of the store -/
structure Fz (ι : Im) (n : Nat) (H : Hp) (a : Addr) (o : HO) : Prop where
  at_ : H a = some o
  ne : ∀ l, l < n → ι l ≠ a
  mu : a ∉ ι.mu
def KL (K : PySem.W.Frag) (a : Addr) (xs : List V) : Prop := ∃ (o : Obj) (its : Array Value) (n : Nat), K.lookup a = some o ∧ o.cls = .type "list" ∧ o.dict = none ∧ o.data = .seq its n ∧ its.size ≤ sizeLine ∧ Vals xs its.toList
def KT (K : PySem.W.Frag) (a : Addr) (xs : List V) : Prop := ∃ (o : Obj) (its : Array Value) (n : Nat), K.lookup a = some o ∧ o.cls = .type "tuple" ∧ o.data = .seq its n ∧ its.size ≤ sizeLine ∧ Vals xs its.toList
def FzT (K : PySem.W.Frag) (ι : Im) (n : Nat) (H : Hp) (a : Addr) (xs : List V) : Prop := (Fz ι n H a (.tup xs) ∨ ∃ o, Fz ι n H a (.frz o (.tup xs))) ∨ KT K a xs
/-- a list that is never changed: the script, one of the module's top -/
def FzL (K : PySem.W.Frag) (ι : Im) (n : Nat) (H : Hp) (a : Addr) (xs : List V) : Prop := (∃ o, Fz ι n H a (.frz o (.lst xs))) ∨ KL K a xs
theorem FzT.sq {K : PySem.W.Frag} {ι : Im} {n : Nat} {H : Hp} {a : Addr} {xs : List V} (h : FzT K ι n H a xs) : SqT K H a xs := by
  rcases h with (h | ⟨o, h⟩) | h
  · exact .inl (.inl h.at_)
  · exact .inl (.inr ⟨o, h.at_⟩)
  · exact .inr h
theorem FzL.sq {K : PySem.W.Frag} {ι : Im} {n : Nat} {H : Hp} {a : Addr} {xs : List V} (h : FzL K ι n H a xs) : SqL K H a xs := by
  rcases h with ⟨o, h⟩ | h
  · exact .inl (.inr ⟨o, h.at_⟩)
  · exact .inr h

mutual
inductive Rep (K : PySem.W.Frag) (ι : Im) (n : Nat) (H : Hp) : W → V → Prop where
  | non : Rep K ι n H .non .non
  | bl (b : Bool) : Rep K ι n H (.bl b) (.bl b)
  | int (i : Int) : Rep K ι n H (.int i) (.int i)
  | str (x : Str) : Rep K ι n H (.str x) (.str x)
  | ty (x : String) : Rep K ι n H (.ty x) (.ty x)
  | glo (x : Str) : Rep K ι n H (.glo x) (.ref (He.ga K x))
  | loc {l : Nat} (h : l < n) : Rep K ι n H (.loc l) (.ref (ι l))
  | tup {ws : List W} {a : Addr} {xs : List V} (h : FzT K ι n H a xs) (r : Reps K ι n H ws xs) : Rep K ι n H (.tup ws) (.ref a)
  | lst {ws : List W} {a : Addr} {xs : List V} (h : Fz ι n H a (.lst xs)) (r : Reps K ι n H ws xs) : Rep K ι n H (.lst ws) (.ref a)
  | arr {ws : List W} {a : Addr} {xs : List V} (h : FzL K ι n H a xs) (r : Reps K ι n H ws xs) : Rep K ι n H (.arr ws) (.ref a)
  | dct {ks : List Key} {ws : List W} {a : Addr} {xs : List V} (h : Fz ι n H a (.dK (ks.zip xs))) (hl : ks.length = ws.length) (r : Reps K ι n H ws xs) : Rep K ι n H (.dct ks ws) (.ref a)
  | obj {C : Str} {fs : List Str} {ws : List W} {a dx : Addr} {xs : List V} (h : Fz ι n H a (.ins (He.ga K C) dx (fs.zip xs))) (hl : fs.length = ws.length) (r : Reps K ι n H ws xs) : Rep K ι n H (.obj C fs ws) (.ref a)
inductive Reps (K : PySem.W.Frag) (ι : Im) (n : Nat) (H : Hp) : List W → List V → Prop where
  | nil : Reps K ι n H [] []
  | cons {w : W} {v : V} {ws : List W} {vs : List V} (h : Rep K ι n H w v) (r : Reps K ι n H ws vs) : Reps K ι n H (w :: ws) (v :: vs)
end

/-- all that stands for something goes on to do so -/
structure Mv (ι : Im) (n : Nat) (H : Hp) (ι' : Im) (n' : Nat) (H' : Hp) : Prop where
  le : n ≤ n'
  io : ∀ l, l < n → ι' l = ι l
  fz : ∀ a o, Fz ι n H a o → Fz ι' n' H' a o
structure Ext (ι : Im) (n : Nat) (H : Hp) (ι' : Im) (n' : Nat) (H' : Hp) : Prop extends Mv ι n H ι' n' H' where
  mu : ι'.mu = ι.mu
  pr : ∀ a, a ∈ ι.mu → H' a = H a
section
variable {K : PySem.W.Frag} {ι ι1 ι2 : Im} {n n1 n2 : Nat} {H H1 H2 : Hp}
theorem Mv.refl : Mv ι n H ι n H := ⟨Nat.le_refl _, fun _ _ => rfl, fun _ _ h => h⟩
theorem Ext.refl : Ext ι n H ι n H := ⟨Mv.refl, rfl, fun _ _ => rfl⟩
theorem Mv.trans (a : Mv ι n H ι1 n1 H1) (b : Mv ι1 n1 H1 ι2 n2 H2) : Mv ι n H ι2 n2 H2 :=
  ⟨Nat.le_trans a.le b.le, fun l h => (b.io l (Nat.lt_of_lt_of_le h a.le)).trans (a.io l h), fun x o h => b.fz x o (a.fz x o h)⟩
theorem Ext.trans (a : Ext ι n H ι1 n1 H1) (b : Ext ι1 n1 H1 ι2 n2 H2) : Ext ι n H ι2 n2 H2 :=
  ⟨a.toMv.trans b.toMv, b.mu.trans a.mu, fun x h => (b.pr x (a.mu ▸ h)).trans (a.pr x h)⟩
theorem Mv.fzT (e : Mv ι n H ι1 n1 H1) {a : Addr} {xs : List V} (h : FzT K ι n H a xs) : FzT K ι1 n1 H1 a xs := by
  rcases h with (h | ⟨o, h⟩) | h
  · exact .inl (.inl (e.fz _ _ h))
  · exact .inl (.inr ⟨o, e.fz _ _ h⟩)
  · exact .inr h
theorem Mv.fzL (e : Mv ι n H ι1 n1 H1) {a : Addr} {xs : List V} (h : FzL K ι n H a xs) : FzL K ι1 n1 H1 a xs := by
  rcases h with ⟨o, h⟩ | h
  · exact .inl ⟨o, e.fz _ _ h⟩
  · exact .inr h
mutual
theorem Rep.mv (e : Mv ι n H ι1 n1 H1) : ∀ {w : W} {v : V}, Rep K ι n H w v → Rep K ι1 n1 H1 w v
  | _, _, .non => .non
  | _, _, .bl b => .bl b
  | _, _, .int i => .int i
  | _, _, .str x => .str x
  | _, _, .ty x => .ty x
  | _, _, .glo x => .glo x
  | _, _, .loc (l := l) h => by
    rw [← e.io l h]
    exact .loc (Nat.lt_of_lt_of_le h e.le)
  | _, _, .tup h r => .tup (e.fzT h) (Reps.mv e r)
  | _, _, .lst h r => .lst (e.fz _ _ h) (Reps.mv e r)
  | _, _, .arr h r => .arr (e.fzL h) (Reps.mv e r)
  | _, _, .dct h hl r => .dct (e.fz _ _ h) hl (Reps.mv e r)
  | _, _, .obj h hl r => .obj (e.fz _ _ h) hl (Reps.mv e r)
theorem Reps.mv (e : Mv ι n H ι1 n1 H1) : ∀ {ws : List W} {vs : List V}, Reps K ι n H ws vs → Reps K ι1 n1 H1 ws vs
  | _, _, .nil => .nil
  | _, _, .cons h r => .cons (Rep.mv e h) (Reps.mv e r)
end
theorem Rep.mono (e : Ext ι n H ι1 n1 H1) {w : W} {v : V} (h : Rep K ι n H w v) : Rep K ι1 n1 H1 w v := h.mv e.toMv
theorem Reps.mono (e : Ext ι n H ι1 n1 H1) {ws : List W} {vs : List V} (h : Reps K ι n H ws vs) : Reps K ι1 n1 H1 ws vs := h.mv e.toMv
theorem Ext.fzT (e : Ext ι n H ι1 n1 H1) {a : Addr} {xs : List V} (h : FzT K ι n H a xs) : FzT K ι1 n1 H1 a xs := e.toMv.fzT h
theorem Ext.fzL (e : Ext ι n H ι1 n1 H1) {a : Addr} {xs : List V} (h : FzL K ι n H a xs) : FzL K ι1 n1 H1 a xs := e.toMv.fzL h
theorem Reps.length {ws : List W} {vs : List V} (h : Reps K ι n H ws vs) : ws.length = vs.length := by
  induction ws generalizing vs with
  | nil => cases h; rfl
  | cons w ws ih => cases h with | cons a r => simp [ih r]
theorem Reps.get {ws : List W} {vs : List V} (h : Reps K ι n H ws vs) : ∀ {i : Nat} {w : W}, ws[i]? = some w → ∃ v, vs[i]? = some v ∧ Rep K ι n H w v := by
  induction ws generalizing vs with
  | nil => intro i w e; simp at e
  | cons w ws ih =>
    intro i u e
    cases h with
    | @cons _ v _ vs a r =>
      cases i with
      | zero => simp at e; subst e; exact ⟨v, rfl, a⟩
      | succ i => exact ih r (by simpa using e)
theorem Reps.getV {ws : List W} {vs : List V} (h : Reps K ι n H ws vs) : ∀ {i : Nat} {v : V}, vs[i]? = some v → ∃ w, ws[i]? = some w ∧ Rep K ι n H w v := by
  induction ws generalizing vs with
  | nil => intro i w e; cases h; simp at e
  | cons w ws ih =>
    intro i u e
    cases h with
    | @cons _ v _ vs a r =>
      cases i with
      | zero => simp at e; subst e; exact ⟨w, rfl, a⟩
      | succ i => exact ih r (by simpa using e)
theorem Reps.append {ws us : List W} {vs xs : List V} (h : Reps K ι n H ws vs) (h2 : Reps K ι n H us xs) : Reps K ι n H (ws ++ us) (vs ++ xs) := by
  induction ws generalizing vs with
  | nil => cases h; exact h2
  | cons w ws ih => cases h with | cons a r => exact .cons a (ih r)
theorem Reps.drop {ws : List W} {vs : List V} (h : Reps K ι n H ws vs) : ∀ (i : Nat), Reps K ι n H (ws.drop i) (vs.drop i) := by
  induction ws generalizing vs with
  | nil => intro i; cases h; cases i <;> exact .nil
  | cons w ws ih =>
    intro i
    cases h with
    | cons a r =>
      cases i with
      | zero => exact .cons a r
      | succ i => exact ih r i
theorem Reps.take {ws : List W} {vs : List V} (h : Reps K ι n H ws vs) : ∀ (i : Nat), Reps K ι n H (ws.take i) (vs.take i) := by
  induction ws generalizing vs with
  | nil => intro i; cases h; cases i <;> exact .nil
  | cons w ws ih =>
    intro i
    cases h with
    | cons a r =>
      cases i with
      | zero => exact .nil
      | succ i => exact .cons a (ih r i)
theorem Reps.reverse {ws : List W} {vs : List V} (h : Reps K ι n H ws vs) : Reps K ι n H ws.reverse vs.reverse := by
  induction ws generalizing vs with
  | nil => cases h; exact .nil
  | cons w ws ih =>
    cases h with
    | cons a r =>
      rw [List.reverse_cons, List.reverse_cons]
      exact (ih r).append (.cons a .nil)
theorem Reps.set {ws : List W} {vs : List V} {w : W} {v : V} (hw : Rep K ι n H w v) (h : Reps K ι n H ws vs) : ∀ (i : Nat), Reps K ι n H (ws.set i w) (vs.set i v) := by
  induction ws generalizing vs with
  | nil => intro i; cases h; cases i <;> exact .nil
  | cons w ws ih =>
    intro i
    cases h with
    | cons a r =>
      cases i with
      | zero => exact .cons hw r
      | succ i => exact .cons a (ih r i)
theorem Reps.of_mem {ws : List W} {vs : List V} (h : Reps K ι n H ws vs) {w : W} (hm : w ∈ ws) : ∃ v, v ∈ vs ∧ Rep K ι n H w v := by
  obtain ⟨i, hi⟩ := List.getElem?_of_mem hm
  obtain ⟨v, e, r⟩ := h.get hi
  exact ⟨v, List.mem_of_getElem? e, r⟩
end

def RepO (K : PySem.W.Frag) (ι : Im) (n : Nat) (H : Hp) (a : Addr) : O → Prop
  | .lst ws => ∃ xs, H a = some (.lst xs) ∧ Reps K ι n H ws xs
  | .dct ks ws => ∃ xs, H a = some (.dK (ks.zip xs)) ∧ ks.length = ws.length ∧ Reps K ι n H ws xs
  | .ins C fs ws => ∃ dx xs, H a = some (.ins (He.ga K C) dx (fs.zip xs)) ∧ fs.length = ws.length ∧ Reps K ι n H ws xs

structure Rl (K : PySem.W.Frag) (ι : Im) (S : Sto) (H : Hp) : Prop where
  inj : ∀ l m, l < S.length → m < S.length → ι l = ι m → l = m
  obj : ∀ l o, S[l]? = some o → RepO K ι S.length H (ι l) o
  mu : ∀ a, a ∈ ι.mu → ∃ o, H a = some o
  mn : ∀ l, l < S.length → ι l ∉ ι.mu

section
variable {K : PySem.W.Frag} {ι ι' : Im} {n : Nat} {S S' : Sto} {H H' : Hp}
theorem RepO.some {a : Addr} {o : O} (h : RepO K ι n H a o) : ∃ u, H a = some u := by
  cases o with
  | lst ws => obtain ⟨xs, e, _⟩ := h; exact ⟨_, e⟩
  | dct ks ws => obtain ⟨xs, e, _⟩ := h; exact ⟨_, e⟩
  | ins C fs ws => obtain ⟨dx, xs, e, _⟩ := h; exact ⟨_, e⟩
theorem Rl.some (r : Rl K ι S H) {l : Nat} (h : l < S.length) : ∃ u, H (ι l) = some u :=
  (r.obj l _ (List.getElem?_eq_getElem h)).some
theorem Rl.ne (r : Rl K ι S H) {p : Addr} (hp : H p = none) : ∀ l, l < S.length → ι l ≠ p := fun l h e => by
  obtain ⟨u, q⟩ := r.some h
  rw [e, hp] at q
  cases q
theorem Rl.nmu (r : Rl K ι S H) {p : Addr} (hp : H p = none) : p ∉ ι.mu := fun h => by
  obtain ⟨o, q⟩ := r.mu p h
  rw [hp] at q
  cases q
/-- a new frozen object -/
theorem Ext.new (r : Rl K ι S H) {p : Addr} {o : HO} (hp : H p = none) : Ext ι S.length H ι S.length (upd H p o) :=
  ⟨⟨Nat.le_refl _, fun _ _ => rfl, fun a u h => ⟨by rw [upd_ne (ne_of_none h.at_ hp)]; exact h.at_, h.ne, h.mu⟩⟩, rfl, fun a h => upd_ne fun e => r.nmu hp (e ▸ h)⟩
theorem RepO.mv {o : O} {a : Addr} {n' : Nat} (e : Mv ι n H ι' n' H') (ha : H' a = H a) (h : RepO K ι n H a o) : RepO K ι' n' H' a o := by
  cases o with
  | lst ws => obtain ⟨xs, q, z⟩ := h; exact ⟨xs, ha.trans q, z.mv e⟩
  | dct ks ws => obtain ⟨xs, q, y, z⟩ := h; exact ⟨xs, ha.trans q, y, z.mv e⟩
  | ins C fs ws => obtain ⟨dx, xs, q, y, z⟩ := h; exact ⟨dx, xs, ha.trans q, y, z.mv e⟩
theorem RepO.mono {o : O} {a : Addr} {n' : Nat} (e : Ext ι n H ι' n' H') (ha : H' a = H a) (h : RepO K ι n H a o) : RepO K ι' n' H' a o := h.mv e.toMv ha
theorem Rl.new (r : Rl K ι S H) {p : Addr} {o : HO} (hp : H p = none) : Rl K ι S (upd H p o) :=
  ⟨r.inj, fun l u e => by
    have hl : l < S.length := (List.getElem?_eq_some_iff.mp e).1
    exact (r.obj l u e).mono (Ext.new r hp) (upd_ne (r.ne hp l hl)), fun a h => by
    obtain ⟨u, q⟩ := r.mu a h
    exact ⟨u, by rw [upd_ne (ne_of_none q hp)]; exact q⟩, r.mn⟩
theorem Fz.new (r : Rl K ι S H) {p : Addr} {o : HO} (hp : H p = none) : Fz ι S.length (upd H p o) p o := ⟨upd_same, r.ne hp, r.nmu hp⟩
/-- the store's object at l is written -/
theorem Ext.set (r : Rl K ι S H) {l : Nat} {o : HO} (hl : l < S.length) : Ext ι S.length H ι S.length (upd H (ι l) o) :=
  ⟨⟨Nat.le_refl _, fun _ _ => rfl, fun a u h => ⟨by rw [upd_ne (Ne.symm (h.ne l hl))]; exact h.at_, h.ne, h.mu⟩⟩, rfl, fun a h => upd_ne fun e => r.mn l hl (e ▸ h)⟩
theorem Rl.set (r : Rl K ι S H) {l : Nat} {o : HO} {u : O} (hl : l < S.length) (hu : RepO K ι S.length (upd H (ι l) o) (ι l) u) : Rl K ι (S.set l u) (upd H (ι l) o) := by
  refine ⟨fun i j hi hj e => r.inj i j (by simpa using hi) (by simpa using hj) e, fun i q e => ?_, fun a h => ?_, fun i hi => r.mn i (by simpa using hi)⟩
  rotate_left
  · obtain ⟨v, q⟩ := r.mu a h
    exact ⟨v, by rw [upd_ne (show a ≠ ι l from fun z => r.mn l hl (z ▸ h))]; exact q⟩
  rw [List.length_set]
  by_cases h : i = l
  · subst h
    rw [List.getElem?_set_self hl] at e
    cases e
    exact hu
  · rw [List.getElem?_set_ne (Ne.symm h)] at e
    have hi : i < S.length := (List.getElem?_eq_some_iff.mp e).1
    refine (r.obj i q e).mono (Ext.set r hl) (upd_ne fun z => h (r.inj i l hi hl z))
/-- a new object of the store -/
def ιx (ι : Im) (n : Nat) (p : Addr) : Im := ⟨fun l => if l = n then p else ι l, ι.mu⟩
theorem ιx_at {ι : Im} {n : Nat} {p : Addr} : ιx ι n p n = p := if_pos rfl
theorem ιx_lt {ι : Im} {n : Nat} {p : Addr} {l : Nat} (h : l < n) : ιx ι n p l = ι l := if_neg (Nat.ne_of_lt h)
theorem Ext.push (r : Rl K ι S H) {p : Addr} {o : HO} (hp : H p = none) : Ext ι S.length H (ιx ι S.length p) (S.length + 1) (upd H p o) :=
  ⟨⟨Nat.le_succ _, fun l h => ιx_lt h, fun a u h => ⟨by rw [upd_ne (ne_of_none h.at_ hp)]; exact h.at_, fun l hl => by
    by_cases e : l = S.length
    · subst e
      rw [ιx_at]
      exact Ne.symm (ne_of_none h.at_ hp)
    · rw [ιx_lt (by omega)]
      exact h.ne l (by omega), h.mu⟩⟩, rfl, fun a h => upd_ne fun e => r.nmu hp (e ▸ h)⟩
theorem Rl.push (r : Rl K ι S H) {p : Addr} {o : HO} {u : O} (hp : H p = none) (hu : RepO K (ιx ι S.length p) (S.length + 1) (upd H p o) p u) : Rl K (ιx ι S.length p) (S ++ [u]) (upd H p o) := by
  have hn : (S ++ [u]).length = S.length + 1 := by simp
  refine ⟨fun i j hi hj e => ?_, fun i q e => ?_, fun a h => ?_, fun i hi => ?_⟩
  rotate_left 2
  · obtain ⟨v, q⟩ := r.mu a h
    exact ⟨v, by rw [upd_ne (ne_of_none q hp)]; exact q⟩
  · rw [hn] at hi
    by_cases h1 : i = S.length
    · rw [h1, ιx_at]
      exact r.nmu hp
    · rw [ιx_lt (by omega)]
      exact r.mn i (by omega)
  · rw [hn] at hi hj
    by_cases h1 : i = S.length
    · by_cases h2 : j = S.length
      · rw [h1, h2]
      · rw [h1, ιx_at, ιx_lt (by omega)] at e
        exact absurd e.symm (r.ne hp j (by omega))
    · by_cases h2 : j = S.length
      · rw [h2, ιx_at, ιx_lt (by omega)] at e
        exact absurd e (r.ne hp i (by omega))
      · rw [ιx_lt (by omega), ιx_lt (by omega)] at e
        exact r.inj i j (by omega) (by omega) e
  · rw [hn]
    by_cases h1 : i = S.length
    · subst h1
      rw [List.getElem?_append_right (Nat.le_refl _), Nat.sub_self] at e
      cases e
      rw [ιx_at]
      exact hu
    · have hi : i < (S ++ [u]).length := (List.getElem?_eq_some_iff.mp e).1
      rw [hn] at hi
      rw [List.getElem?_append_left (by omega)] at e
      rw [ιx_lt (by omega)]
      exact (r.obj i q e).mono (Ext.push r hp) (upd_ne (r.ne hp i (by omega)))
end

/-! ### slots -/
structure RE (K : PySem.W.Frag) (ι : Im) (n : Nat) (H : Hp) (ρ : Env) (σ : L2.St) : Prop where
  len : ρ.length = σ.length
  at_ : ∀ (i : Nat) (w : W), ρ[i]? = some (some w) → ∃ v, σ[i]? = some (some v) ∧ Rep K ι n H w v
section
variable {K : PySem.W.Frag} {ι ι' : Im} {n n' : Nat} {S S' : Sto} {H H' : Hp} {ρ : Env} {σ : L2.St}
theorem RE.mv (e : Mv ι n H ι' n' H') (h : RE K ι n H ρ σ) : RE K ι' n' H' ρ σ :=
  ⟨h.len, fun i w q => let ⟨v, a, b⟩ := h.at_ i w q; ⟨v, a, b.mv e⟩⟩
theorem RE.mono (e : Ext ι n H ι' n' H') (h : RE K ι n H ρ σ) : RE K ι' n' H' ρ σ := h.mv e.toMv
theorem RE.set (h : RE K ι n H ρ σ) {w : W} {v : V} (r : Rep K ι n H w v) (i : Nat) : RE K ι n H (ρ.set i (some w)) (σ.set i (some v)) := by
  refine ⟨by simpa using h.len, fun j u q => ?_⟩
  by_cases e : j = i
  · subst e
    have hj : j < ρ.length := by
      have := (List.getElem?_eq_some_iff.mp q).1
      simpa using this
    rw [List.getElem?_set_self hj] at q
    cases q
    exact ⟨v, List.getElem?_set_self (h.len ▸ hj), r⟩
  · rw [List.getElem?_set_ne (Ne.symm e)] at q
    rw [List.getElem?_set_ne (Ne.symm e)]
    exact h.at_ j u q
/-- slots forgotten -/
theorem RE.drop (h : RE K ι n H ρ σ) {ρ' : Env} (hl : ρ'.length = ρ.length) (w : ∀ (i : Nat) u, ρ'[i]? = some (some u) → ρ[i]? = some (some u)) : RE K ι n H ρ' σ :=
  ⟨hl.trans h.len, fun i u q => h.at_ i u (w i u q)⟩
end

/-! ### exceptions -/
/-- an exception of a class of the program: its class; its own dict, where it has fields -/
def RepX (K : PySem.W.Frag) (ι : Im) (n : Nat) (H : Hp) (x : Xn) (C : Value) (d : Option Addr) : Prop :=
  C = .ref (He.ga K x.cls) ∧ ((x.fs = [] ∧ d = none) ∨ ∃ a vs, d = some a ∧ Fz ι n H a (.xd ((x.fs.map (·.1)).zip vs)) ∧ Reps K ι n H (x.fs.map (·.2)) vs)

/-! ### what comes of a computation -/
def Post {α : Type} (K : PySem.W.Frag) (E : XK) (r : Res α) (ι : Im) (n : Nat) (H : Hp) (P : α → Sto → (Im) → Hp → Prop) : Prop := match r with
  | .stuck => False
  | .ok a S' => ∀ ι' H', Ext ι n H ι' S'.length H' → Rl K ι' S' H' → P a S' ι' H'
  | .err x S' => ∀ ι' H', Ext ι n H ι' S'.length H' → Rl K ι' S' H' → ∀ C d, RepX K ι' S'.length H' x C d → E C d H'
section
variable {α β : Type} {K : PySem.W.Frag} {E : XK} {ι ι1 : Im} {n n1 : Nat} {H H1 : Hp} {r : Res α} {P P' : α → Sto → (Im) → Hp → Prop} {ρ : Env} {S : Sto}
theorem Post.mono (h : Post K E r ι n H P) (k : ∀ a S' ι' H', Ext ι n H ι' S'.length H' → Rl K ι' S' H' → P a S' ι' H' → P' a S' ι' H') : Post K E r ι n H P' := by
  cases r with
  | stuck => exact h
  | ok a S' => exact fun ι' H' e q => k a S' ι' H' e q (h ι' H' e q)
  | err x S' => exact h
theorem Post.from (h : Post K E r ι n H P) (e : Ext ι n H ι1 n1 H1) : Post K E r ι1 n1 H1 P := by
  cases r with
  | stuck => exact h
  | ok a S' => exact fun ι' H' e' q => h ι' H' (e.trans e') q
  | err x S' => exact fun ι' H' e' q => h ι' H' (e.trans e') q
theorem Post.bind {c : MW α} {k : α → MW β} {P : β → Sto → (Im) → Hp → Prop} (h : Post K E (mBind c k ρ S) ι n H P) :
    Post K E (c ρ S) ι n H fun a S1 ι1 H1 => Post K E (k a ρ S1) ι1 S1.length H1 P := by
  unfold mBind at h
  cases e : c ρ S with
  | stuck => rw [e] at h; exact h
  | ok a S1 => rw [e] at h; exact fun ι1 H1 e1 q => Post.from h e1
  | err x S1 => rw [e] at h; exact h
end

/-! ### readings of computations -/
section
variable (K : PySem.W.Frag) (E : XK)
def tOf (c : MV) : TE := fun σ H Q => ∃ ρ ι S, RE K ι S.length H ρ σ ∧ Rl K ι S H ∧ Post K E (c ρ S) ι S.length H fun w S' ι' H' => ∀ v, Rep K ι' S'.length H' w v → Q v H'
def tOfB (c : MW Bool) : TT := fun σ H Q => ∃ ρ ι S, RE K ι S.length H ρ σ ∧ Rl K ι S H ∧ Post K E (c ρ S) ι S.length H fun b _ _ H' => Q b H'
def tOfA (c : MW (List W)) : TA := fun σ H Q => ∃ ρ ι S, RE K ι S.length H ρ σ ∧ Rl K ι S H ∧ Post K E (c ρ S) ι S.length H fun ws S' ι' H' => ∀ vs, Reps K ι' S'.length H' ws vs → Q vs H'
def flowOk (D : Ends) (p : Fl × Env) (S' : Sto) (ι' : Im) (H' : Hp) : Prop := ∀ σ', RE K ι' S'.length H' p.2 σ' → match p.1 with
  | .next => D.nx σ' H'
  | .ret w => ∀ v, Rep K ι' S'.length H' w v → D.rt v H'
  | .brk => D.bk σ' H'
  | .cont => D.ct σ' H'
def tOfS (c : MS) : TS := fun D σ H => ∃ ρ ι S, RE K ι S.length H ρ σ ∧ Rl K ι S H ∧ Post K E (c ρ S) ι S.length H (flowOk K D)
end

/-! ### the judgements: a piece of syntax and its mirror -/
abbrev CE (X : Cx) (E : XK) (e : Expr) (c : MV) : Prop := PE X e (tOf X.K E c)
abbrev CT (X : Cx) (E : XK) (e : Expr) (c : MW Bool) : Prop := PT X e (tOfB X.K E c)
abbrev CW (X : Cx) (E : XK) (e : Expr) (c : MW Bool) : Prop := PW X e (tOfB X.K E c)
abbrev CA (X : Cx) (E : XK) (es : List Expr) (c : MW (List W)) : Prop := PA X es (tOfA X.K E c)
abbrev CS (X : Cx) (E : XK) (st : Stmt) (c : MS) : Prop := PS X st (tOfS X.K E c)
abbrev CSs (X : Cx) (E : XK) (st : List Stmt) (c : MS) : Prop := PSs X st (tOfS X.K E c)
section
variable {X : Cx} {E : XK} {e : Expr}
theorem PE.weak {t t' : TE} (h : PE X e t) (k : ∀ σ H Q, t' σ H Q → t σ H Q) : PE X e t' := ⟨fun pins s σ H Q I q => h.run pins s σ H Q I (k σ H Q q)⟩
theorem PT.weak {t t' : TT} (h : PT X e t) (k : ∀ σ H Q, t' σ H Q → t σ H Q) : PT X e t' := ⟨fun pins s σ H Q I q => h.run pins s σ H Q I (k σ H Q q)⟩
theorem PW.weak {t t' : TT} (h : PW X e t) (k : ∀ σ H Q, t' σ H Q → t σ H Q) : PW X e t' := ⟨fun whole pins s σ H Q I q => h.run whole pins s σ H Q I (k σ H Q q)⟩
theorem PA.weak {es : List Expr} {t t' : TA} (h : PA X es t) (k : ∀ σ H Q, t' σ H Q → t σ H Q) : PA X es t' := ⟨fun pos pins s σ H Q I q => h.run pos pins s σ H Q I (k σ H Q q)⟩
theorem PS.weak {st : Stmt} {t t' : TS} (h : PS X st t) (k : ∀ D σ H, t' D σ H → t D σ H) : PS X st t' := ⟨fun pins s σ H D I q => h.run pins s σ H D I (k D σ H q)⟩
theorem PSs.weak {st : List Stmt} {t t' : TS} (h : PSs X st t) (k : ∀ D σ H, t' D σ H → t D σ H) : PSs X st t' := ⟨fun pins s σ H D I q => h.run pins s σ H D I (k D σ H q)⟩
theorem PG.weak {t t' : TG} (h : PG X e t) (k : ∀ v σ H Q, t' v σ H Q → t v σ H Q) : PG X e t' := ⟨fun pins s σ H v u Q I r q => h.run pins s σ H v u Q I r (k v σ H Q q)⟩
end
end Mm

/-! The mirror layer: expressions. -/
namespace Mm
open PySem PySem.Spec PyProof.Rows L2

abbrev PostV (K : PySem.W.Frag) (E : XK) (r : Res W) (ι : Im) (n : Nat) (H : Hp) (Q : VK) : Prop := Post K E r ι n H fun w S' ι' H' => ∀ v, Rep K ι' S'.length H' w v → Q v H'
def SimR (K : PySem.W.Frag) (E : XK) (r : R2) (f : W → W → Sto → Res W) : Prop := ∀ (x y : W) (xv yv : V) (ι : Im) (S : Sto) (H : Hp) (Q : VK), Rl K ι S H → Rep K ι S.length H x xv → Rep K ι S.length H y yv → PostV K E (f x y S) ι S.length H Q → r xv yv H Q
def SimU (K : PySem.W.Frag) (E : XK) (r : V → Hp → VK → Prop) (f : W → Sto → Res W) : Prop := ∀ (x : W) (xv : V) (ι : Im) (S : Sto) (H : Hp) (Q : VK), Rl K ι S H → Rep K ι S.length H x xv → PostV K E (f x S) ι S.length H Q → r xv H Q
def SimC (K : PySem.W.Frag) (E : XK) (r : List V → Hp → VK → Prop) (f : MF) : Prop := ∀ (xs : List W) (xv : List V) (ι : Im) (S : Sto) (H : Hp) (Q : VK), Rl K ι S H → Reps K ι S.length H xs xv → PostV K E (f xs S) ι S.length H Q → r xv H Q
def rOr (r r' : R2) : R2 := fun x y H Q => r x y H Q ∨ r' x y H Q
def cOr (r r' : List V → Hp → VK → Prop) : List V → Hp → VK → Prop := fun x H Q => r x H Q ∨ r' x H Q
theorem opr_or {X : Cx} {f : Value → Value → Sem Value} {r r' : R2} (h : OpR X f r) (h' : OpR X f r') : OpR X f (rOr r r') := fun pins s σ H x y v u Q I rx ry q =>
  q.elim (fun q => h pins s σ H x y v u Q I rx ry q) fun q => h' pins s σ H x y v u Q I rx ry q
theorem callr_or {X : Cx} {f : Value} {r r' : List V → Hp → VK → Prop} (h : CallR X f r) (h' : CallR X f r') : CallR X f (cOr r r') := fun pins s σ H xs us Q I rx q =>
  q.elim (fun q => h pins s σ H xs us Q I rx q) fun q => h' pins s σ H xs us Q I rx q
theorem pe_or2 {X : Cx} {e : Expr} {t t' : TE} (h : PE X e t) (h' : PE X e t') : PE X e (fun σ H Q => t σ H Q ∨ t' σ H Q) := ⟨fun pins s σ H Q I q => q.elim (fun q => h.run pins s σ H Q I q) fun q => h'.run pins s σ H Q I q⟩

/-! ### items -/
/-- the items of a list, wherever it stands -/
def seqL (S : Sto) : W → Option (List W)
  | .lst ws => some ws
  | .arr ws => some ws
  | .loc l => match S[l]? with
    | some (.lst ws) => some ws
    | _ => none
  | _ => none
/-- .. of a list that is tracked by itself -/
def seqO (S : Sto) : W → Option (List W)
  | .lst ws => some ws
  | .loc l => match S[l]? with
    | some (.lst ws) => some ws
    | _ => none
  | _ => none
section
variable {K : PySem.W.Frag} {E : XK} {ι : Im} {n : Nat} {S : Sto} {H : Hp} {Q : VK}
theorem seqL_ok (rl : Rl K ι S H) {w : W} {v : V} {ws : List W} (e : seqL S w = some ws) (r : Rep K ι S.length H w v) : ∃ a xs, v = .ref a ∧ SqL K H a xs ∧ Reps K ι S.length H ws xs := by
  cases r with
  | @lst ws' a xs h r => cases e; exact ⟨a, xs, rfl, .inl (.inl h.at_), r⟩
  | @arr ws' a xs h r => cases e; exact ⟨a, xs, rfl, h.sq, r⟩
  | @loc l h =>
    have e' : (match S[l]? with | some (O.lst ws) => some ws | _ => none) = some ws := e
    split at e'
    · rename_i q
      cases e'
      obtain ⟨xs, h1, h2⟩ := rl.obj l _ q
      exact ⟨_, xs, rfl, .inl (.inl h1), h2⟩
    · cases e'
  | _ => cases e
theorem seqO_ok (rl : Rl K ι S H) {w : W} {v : V} {ws : List W} (e : seqO S w = some ws) (r : Rep K ι S.length H w v) : ∃ a xs, v = .ref a ∧ H a = some (.lst xs) ∧ Reps K ι S.length H ws xs := by
  cases r with
  | @lst ws' a xs h r => cases e; exact ⟨a, xs, rfl, h.at_, r⟩
  | @loc l h =>
    have e' : (match S[l]? with | some (O.lst ws) => some ws | _ => none) = some ws := e
    split at e'
    · rename_i q
      cases e'
      obtain ⟨xs, h1, h2⟩ := rl.obj l _ q
      exact ⟨_, xs, rfl, h1, h2⟩
    · cases e'
  | _ => cases e
theorem tup_ok {w : W} {v : V} {ws : List W} (e : w = .tup ws) (r : Rep K ι n H w v) : ∃ a xs, v = .ref a ∧ SqT K H a xs ∧ FzT K ι n H a xs ∧ Reps K ι n H ws xs := by
  subst e
  cases r with
  | @tup _ a xs h r => exact ⟨a, xs, rfl, h.sq, h, r⟩
/-- the end: a value, nothing changed -/
theorem PostV.now {w : W} {v : V} (h : PostV K E (.ok w S) ι S.length H Q) (rl : Rl K ι S H) (r : Rep K ι S.length H w v) : Q v H := h ι H Ext.refl rl v r
/-- the end: a new list, tuple, not of the store -/
theorem PostV.newL {ws : List W} {xs : List V} (h : PostV K E (.ok (.lst ws) S) ι S.length H Q) (rl : Rl K ι S H) (r : Reps K ι S.length H ws xs) : ∀ p, H p = none → Q (.ref p) (upd H p (.lst xs)) := fun p hp =>
  h ι _ (Ext.new rl hp) (rl.new hp) _ (.lst (Fz.new rl hp) (r.mono (Ext.new rl hp)))
theorem PostV.newT {ws : List W} {xs : List V} (h : PostV K E (.ok (.tup ws) S) ι S.length H Q) (rl : Rl K ι S H) (r : Reps K ι S.length H ws xs) : ∀ p, H p = none → Q (.ref p) (upd H p (.tup xs)) := fun p hp =>
  h ι _ (Ext.new rl hp) (rl.new hp) _ (.tup (.inl (.inl (Fz.new rl hp))) (r.mono (Ext.new rl hp)))
theorem PostV.newLoc {ws : List W} {xs : List V} (h : PostV K E (.ok (.loc S.length) (S ++ [.lst ws])) ι S.length H Q) (rl : Rl K ι S H) (r : Reps K ι S.length H ws xs) : ∀ p, H p = none → Q (.ref p) (upd H p (.lst xs)) := fun p hp => by
  have e := Ext.push (o := .lst xs) rl hp
  have hn : (S ++ [O.lst ws]).length = S.length + 1 := by simp
  have rl' := rl.push (o := .lst xs) (u := .lst ws) hp ⟨xs, upd_same, r.mono e⟩
  have q := h (ιx ι S.length p) (upd H p (.lst xs)) (by rw [hn]; exact e) rl' (.ref p)
  refine q ?_
  have z := Rep.loc (K := K) (ι := ιx ι S.length p) (n := (S ++ [O.lst ws]).length) (H := upd H p (.lst xs)) (l := S.length) (by rw [hn]; omega)
  rw [ιx_at] at z
  exact z
end

/-! ### names, constants -/
def mVar (i : Nat) : MV := fun ρ S => match ρ[i]? with
  | some (some w) => .ok w S
  | _ => .stuck
def mC (w : W) : MV := fun _ S => .ok w S
section
variable {X : Cx} {E : XK} {e : Expr}
theorem ce_var (i : Nat) {x : Str} {pos : Pos} (hN : X.N[i]? = some x := by rfl) (hv : Vis X.env.scope x := by first | exact Or.inl rfl | exact Or.inr (Or.inl rfl) | exact Or.inr (Or.inr rfl)) (hd : (x == ("__debug__" : Str)) = false := by decide)
    (hcd : (x == ("__classdict__" : Str)) = false := by decide) : CE X E (.Name x pos) (mVar i) :=
  PE.weak (pe_var hN hv hd hcd) fun σ H Q ⟨ρ, ι, S, re, rl, h⟩ => by
    unfold mVar at h
    split at h
    · rename_i w q
      obtain ⟨v, e, r⟩ := re.at_ i w q
      exact ⟨v, e, h ι H Ext.refl rl v r⟩
    · exact h.elim
theorem ce_c {v : V} {w : W} (h : PE X e (tC v)) (hr : ∀ ι n H, Rep X.K ι n H w v) : CE X E e (mC w) :=
  PE.weak h fun σ H Q ⟨ρ, ι, S, re, rl, h⟩ => h ι H Ext.refl rl v (hr _ _ _)
theorem ce_int {i : Int} {j : Nat} {pos : Pos} : CE X E (.Constant (.int i) j pos) (mC (.int i)) := ce_c pe_int fun _ _ _ => .int i
theorem ce_bl {b : Bool} {j : Nat} {pos : Pos} : CE X E (.Constant (.bool b) j pos) (mC (.bl b)) := ce_c pe_bl fun _ _ _ => .bl b
theorem ce_non {j : Nat} {pos : Pos} : CE X E (.Constant .none j pos) (mC .non) := ce_c pe_non fun _ _ _ => .non
theorem ce_str {x : Str} {j : Nat} {pos : Pos} : CE X E (.Constant (.str x) j pos) (mC (.str x)) := ce_c pe_str fun _ _ _ => .str x
/-- a global: a number, a text; a def; a built-in class -/
theorem ce_gint {x : Str} {i : Int} {pos : Pos} (hg : Gl X x) (hm : ∃ t, X.mg x = some (.int i t)) (hd : (x == ("__debug__" : Str)) = false := by decide) : CE X E (.Name x pos) (mC (.int i)) :=
  hm.elim fun t hm => ce_c (pe_glob (v := .int i) hg hm ⟨t, rfl⟩ hd) fun _ _ _ => .int i
theorem ce_gstr {x z : Str} {pos : Pos} (hg : Gl X x) (hm : ∃ t, X.mg x = some (.str z t)) (hd : (x == ("__debug__" : Str)) = false := by decide) : CE X E (.Name x pos) (mC (.str z)) :=
  hm.elim fun t hm => ce_c (pe_glob (v := .str z) hg hm ⟨t, rfl⟩ hd) fun _ _ _ => .str z
theorem ce_glo {x : Str} {pos : Pos} (hg : Gl X x) (hm : X.mg x = some (.ref (He.ga X.K x))) (hd : (x == ("__debug__" : Str)) = false := by decide) : CE X E (.Name x pos) (mC (.glo x)) :=
  ce_c (pe_glob (v := .ref (He.ga X.K x)) hg hm rfl hd) fun _ _ _ => .glo x
theorem ce_ty {x : Str} {n : String} {pos : Pos} (hg : Gl X x) (hm : X.mg x = none) (hv : bootBuiltins x = some (.type n)) (hn : x ≠ "__name__" := by decide) (hd : (x == ("__debug__" : Str)) = false := by decide) : CE X E (.Name x pos) (mC (.ty n)) :=
  ce_c (pe_bltn (v := .ty n) hg hm hv rfl hn hd) fun _ _ _ => .ty n
end

/-! ### two-place, one-place operators, comparisons -/
def mOp (f : W → W → Sto → Res W) (ca cb : MV) : MV := mBind ca fun x => mBind cb fun y => fun _ S => f x y S
def mUn (f : W → Sto → Res W) (ca : MV) : MV := mBind ca fun x => fun _ S => f x S
section
variable {X : Cx} {E : XK} {a b c : Expr} {ca cb cc : MV} {r r' : R2} {f f' : W → W → Sto → Res W} {K : PySem.W.Frag}
theorem sim_op (hr : SimR K E r f) : ∀ (σ : L2.St) (H : Hp) (Q : VK), tOf K E (mOp f ca cb) σ H Q → tOp r (tOf K E ca) (tOf K E cb) σ H Q := by
  rintro σ H Q ⟨ρ, ι, S, re, rl, h⟩
  refine ⟨ρ, ι, S, re, rl, (Post.bind h).mono fun x S1 ι1 H1 e1 rl1 h1 xv rx => ?_⟩
  refine ⟨ρ, ι1, S1, re.mono e1, rl1, (Post.bind h1).mono fun y S2 ι2 H2 e2 rl2 h2 yv ry => ?_⟩
  exact hr x y xv yv ι2 S2 H2 Q rl2 (rx.mono e2) ry h2
theorem ce_op {op : Operator} {pos : Pos} (ho : OpR X (binaryOp op) r) (hr : SimR X.K E r f) (ha : CE X E a ca) (hb : CE X E b cb) : CE X E (.BinOp a op b pos) (mOp f ca cb) := PE.weak (pe_op ho ha hb) (sim_op hr)
theorem ce_cmp {op : CmpOp} {pos : Pos} (ho : OpR X (compareOp op) r) (hr : SimR X.K E r f) (ha : CE X E a ca) (hb : CE X E b cb) (hm : behindInMarks op b = false) : CE X E (.Compare a [op] [b] pos) (mOp f ca cb) := PE.weak (pe_cmpR ho ha hb hm) (sim_op hr)
theorem ce_ix {pos : Pos} (ho : IxR X r) (hr : SimR X.K E r f) (ha : CE X E a ca) (hb : CE X E b cb) (hs : PlainIx b) : CE X E (.Subscript a b pos) (mOp f ca cb) := PE.weak (pe_ix ho ha hb hs) (sim_op hr)
theorem ce_un {op : UnaryOp} {ru : V → Hp → VK → Prop} {fu : W → Sto → Res W} {pos : Pos} (ho : UnR X (unaryOp op) ru) (hr : SimU X.K E ru fu) (ha : CE X E a ca) : CE X E (.UnaryOp op a pos) (mUn fu ca) :=
  PE.weak (pe_un ho ha) fun σ H Q ⟨ρ, ι, S, re, rl, h⟩ => ⟨ρ, ι, S, re, rl, (Post.bind h).mono fun x S1 ι1 H1 e1 rl1 h1 xv rx => hr x xv ι1 S1 H1 Q rl1 rx h1⟩
/-! tests -/
def mTest (c : MV) : MW Bool := mBind c fun w => fun _ S => match w with
  | .bl b => .ok b S
  | _ => .stuck
theorem sim_test {t : TE} {c : MV} (ht : ∀ (σ : L2.St) (H : Hp) (Q : VK), tOf K E c σ H Q → t σ H Q) : ∀ (σ : L2.St) (H : Hp) (Q : Bool → Hp → Prop), tOfB K E (mTest c) σ H Q → t σ H fun x H' => ∃ k, x = .bl k ∧ Q k H' := by
  rintro σ H Q ⟨ρ, ι, S, re, rl, h⟩
  refine ht σ H _ ⟨ρ, ι, S, re, rl, (Post.bind h).mono fun w S1 ι1 H1 e1 rl1 h1 v rv => ?_⟩
  cases rv with
  | bl b => exact ⟨b, rfl, h1 ι1 H1 Ext.refl rl1⟩
  | _ => exact h1.elim
theorem ct_cmp {op : CmpOp} {pos : Pos} (ho : OpR X (compareOp op) r) (hr : SimR X.K E r f) (ha : CE X E a ca) (hb : CE X E b cb) (hm : behindInMarks op b = false) : CT X E (.Compare a [op] [b] pos) (mTest (mOp f ca cb)) :=
  PT.weak (pt_cmpR ho ha hb hm) (sim_test (sim_op hr))
theorem ct_val {e : Expr} {c : MV} (h : CE X E e c) (he : ∀ whole, isTrue e X.env whole = (do let v ← whole; standAt e.pos; holding [v] (truthy v)) := by intro _; rfl) : CT X E e (mTest c) :=
  PT.weak (pt_val h he) (sim_test fun _ _ _ q => q)
/-! a < b < c -/
def mChain (f f' : W → W → Sto → Res W) (ca cb cc : MV) : MV := mBind ca fun x => mBind cb fun y => mBind (fun _ S => f x y S) fun z => match z with
  | .bl true => mBind cc fun u => fun _ S => f' y u S
  | .bl false => fun _ S => .ok (.bl false) S
  | _ => fun _ _ => .stuck
theorem sim_chain (hr : SimR K E r f) (hr' : SimR K E r' f') : ∀ (σ : L2.St) (H : Hp) (Q : VK), tOf K E (mChain f f' ca cb cc) σ H Q → tChain r r' (tOf K E ca) (tOf K E cb) (tOf K E cc) σ H Q := by
  rintro σ H Q ⟨ρ, ι, S, re, rl, h⟩
  refine ⟨ρ, ι, S, re, rl, (Post.bind h).mono fun x S1 ι1 H1 e1 rl1 h1 xv rx => ?_⟩
  refine ⟨ρ, ι1, S1, re.mono e1, rl1, (Post.bind h1).mono fun y S2 ι2 H2 e2 rl2 h2 yv ry => ?_⟩
  refine hr x y xv yv ι2 S2 H2 _ rl2 (rx.mono e2) ry ((Post.bind h2).mono fun z S3 ι3 H3 e3 rl3 h3 zv rz => ?_)
  cases rz with
  | bl b =>
    cases b with
    | true =>
      refine ⟨true, rfl, ?_⟩
      rw [if_pos rfl]
      refine ⟨ρ, ι3, S3, ((re.mono e1).mono e2).mono e3, rl3, (Post.bind (show Post K E (mBind cc (fun u => fun _ S => f' y u S) ρ S3) ι3 S3.length H3 _ from h3)).mono fun u S4 ι4 H4 e4 rl4 h4 uv ru => ?_⟩
      exact hr' y u yv uv ι4 S4 H4 Q rl4 ((ry.mono e3).mono e4) ru h4
    | false =>
      refine ⟨false, rfl, ?_⟩
      rw [if_neg Bool.false_ne_true]
      exact h3 ι3 H3 Ext.refl rl3 _ (.bl false)
  | _ => exact h3.elim
end
end Mm

/-! The mirror layer: and, or, not, calls, displays. -/
namespace Mm
open PySem PySem.Spec PyProof.Rows L2
section
variable {X : Cx} {E : XK} {a b c : Expr} {ca cb cc : MV} {ba bb : MW Bool} {r r' : R2} {f f' : W → W → Sto → Res W} {K : PySem.W.Frag}
theorem ce_chain {op op' : CmpOp} {pos : Pos} (ho : OpR X (compareOp op) r) (hr : SimR X.K E r f) (ho' : OpR X (compareOp op') r') (hr' : SimR X.K E r' f') (ha : CE X E a ca) (hb : CE X E b cb) (hc : CE X E c cc)
    (hm : lastMarks [op, op'] [b, c] = false := by with_unfolding_all rfl) : CE X E (.Compare a [op, op'] [b, c] pos) (mChain f f' ca cb cc) := PE.weak (pe_chain ho ho' ha hb hc hm) (sim_chain hr hr')
theorem ct_chain {op op' : CmpOp} {pos : Pos} (ho : OpR X (compareOp op) r) (hr : SimR X.K E r f) (ho' : OpR X (compareOp op') r') (hr' : SimR X.K E r' f') (ha : CE X E a ca) (hb : CE X E b cb) (hc : CE X E c cc)
    (hm : lastMarks [op, op'] [b, c] = false := by with_unfolding_all rfl) : CT X E (.Compare a [op, op'] [b, c] pos) (mTest (mChain f f' ca cb cc)) := PT.weak (pt_chain ho ho' ha hb hc hm) (sim_test (sim_chain hr hr'))
/-! ### and, or, not as tests -/
def mAnd (x y : MW Bool) : MW Bool := mBind x fun b => if b = true then y else fun _ S => .ok false S
def mOr (x y : MW Bool) : MW Bool := mBind x fun b => if b = true then fun _ S => .ok true S else y
def mNot (x : MW Bool) : MW Bool := mBind x fun b => fun _ S => .ok (!b) S
theorem cw_and1 {pos : Pos} (h : CT X E a ba) : CW X E (.BoolOp .And [a] pos) ba := pw_and1 h
theorem cw_or1 {pos : Pos} (h : CT X E a ba) : CW X E (.BoolOp .Or [a] pos) ba := pw_or1 h
theorem cw_and {rest : List Expr} {pos : Pos} (ha : CT X E a ba) (hb : CW X E (.BoolOp .And (b :: rest) pos) bb) : CW X E (.BoolOp .And (a :: b :: rest) pos) (mAnd ba bb) :=
  PW.weak (pw_and ha hb) fun σ H Q ⟨ρ, ι, S, re, rl, h⟩ => ⟨ρ, ι, S, re, rl, (Post.bind h).mono fun k S1 ι1 H1 e1 rl1 h1 => by
    cases k with
    | true => rw [if_pos rfl] at h1 ⊢; exact ⟨ρ, ι1, S1, re.mono e1, rl1, h1⟩
    | false => rw [if_neg Bool.false_ne_true] at h1 ⊢; exact h1 ι1 H1 Ext.refl rl1⟩
theorem cw_or {rest : List Expr} {pos : Pos} (ha : CT X E a ba) (hb : CW X E (.BoolOp .Or (b :: rest) pos) bb) : CW X E (.BoolOp .Or (a :: b :: rest) pos) (mOr ba bb) :=
  PW.weak (pw_or ha hb) fun σ H Q ⟨ρ, ι, S, re, rl, h⟩ => ⟨ρ, ι, S, re, rl, (Post.bind h).mono fun k S1 ι1 H1 e1 rl1 h1 => by
    cases k with
    | true => rw [if_pos rfl] at h1 ⊢; exact h1 ι1 H1 Ext.refl rl1
    | false => rw [if_neg Bool.false_ne_true] at h1 ⊢; exact ⟨ρ, ι1, S1, re.mono e1, rl1, h1⟩⟩
theorem cw_t {e : Expr} {x : MW Bool} (h : CW X E e x) : CT X E e x := PW.pt h
theorem ct_not {pos : Pos} (h : CT X E a ba) : CT X E (.UnaryOp .Not a pos) (mNot ba) :=
  PT.weak (pt_not h) fun σ H Q ⟨ρ, ι, S, re, rl, h⟩ => ⟨ρ, ι, S, re, rl, (Post.bind h).mono fun k S1 ι1 H1 e1 rl1 h1 => h1 ι1 H1 Ext.refl rl1⟩
/-! ### .. as values (of truths) -/
def mAndV (x y : MV) : MV := mBind x fun w => match w with
  | .bl true => y
  | .bl false => fun _ S => .ok (.bl false) S
  | _ => fun _ _ => .stuck
def mOrV (x y : MV) : MV := mBind x fun w => match w with
  | .bl true => fun _ S => .ok (.bl true) S
  | .bl false => y
  | _ => fun _ _ => .stuck
def mNotV (x : MV) : MV := mBind x fun w => match w with
  | .bl b => fun _ S => .ok (.bl (!b)) S
  | _ => fun _ _ => .stuck
theorem ce_one {op : BoolOp} {pos : Pos} (h : CE X E a ca) : CE X E (.BoolOp op [a] pos) ca := pe_one h
theorem ce_and {rest : List Expr} {pos : Pos} (ha : CE X E a ca) (hb : CE X E (.BoolOp .And (b :: rest) pos) cb) : CE X E (.BoolOp .And (a :: b :: rest) pos) (mAndV ca cb) :=
  PE.weak (pe_and ha hb) fun σ H Q ⟨ρ, ι, S, re, rl, h⟩ => ⟨ρ, ι, S, re, rl, (Post.bind h).mono fun w S1 ι1 H1 e1 rl1 h1 v rv => by
    cases rv with
    | bl k =>
      cases k with
      | true => exact ⟨true, rfl, by rw [if_pos rfl]; exact ⟨ρ, ι1, S1, re.mono e1, rl1, h1⟩⟩
      | false => exact ⟨false, rfl, by rw [if_neg Bool.false_ne_true]; exact h1 ι1 H1 Ext.refl rl1 _ (.bl false)⟩
    | _ => exact h1.elim⟩
theorem ce_or {rest : List Expr} {pos : Pos} (ha : CE X E a ca) (hb : CE X E (.BoolOp .Or (b :: rest) pos) cb) : CE X E (.BoolOp .Or (a :: b :: rest) pos) (mOrV ca cb) :=
  PE.weak (pe_or ha hb) fun σ H Q ⟨ρ, ι, S, re, rl, h⟩ => ⟨ρ, ι, S, re, rl, (Post.bind h).mono fun w S1 ι1 H1 e1 rl1 h1 v rv => by
    cases rv with
    | bl k =>
      cases k with
      | true => exact ⟨true, rfl, by rw [if_pos rfl]; exact h1 ι1 H1 Ext.refl rl1 _ (.bl true)⟩
      | false => exact ⟨false, rfl, by rw [if_neg Bool.false_ne_true]; exact ⟨ρ, ι1, S1, re.mono e1, rl1, h1⟩⟩
    | _ => exact h1.elim⟩
theorem ce_not {pos : Pos} (ha : CE X E a ca) : CE X E (.UnaryOp .Not a pos) (mNotV ca) :=
  PE.weak (pe_not ha) fun σ H Q ⟨ρ, ι, S, re, rl, h⟩ => ⟨ρ, ι, S, re, rl, (Post.bind h).mono fun w S1 ι1 H1 e1 rl1 h1 v rv => by
    cases rv with
    | bl k => exact ⟨k, rfl, h1 ι1 H1 Ext.refl rl1 _ (.bl _)⟩
    | _ => exact h1.elim⟩
def mIfE (t : MW Bool) (x y : MV) : MV := mBind t fun b => if b = true then x else y
theorem ce_if {e : Expr} {pos : Pos} (hc : CT X E e ba) (ha : CE X E a ca) (hb : CE X E b cb) : CE X E (.IfExp e a b pos) (mIfE ba ca cb) :=
  PE.weak (pe_ifExp hc ha hb) fun σ H Q ⟨ρ, ι, S, re, rl, h⟩ => ⟨ρ, ι, S, re, rl, (Post.bind h).mono fun k S1 ι1 H1 e1 rl1 h1 => by
    cases k with
    | true => rw [if_pos rfl] at h1 ⊢; exact ⟨ρ, ι1, S1, re.mono e1, rl1, h1⟩
    | false => rw [if_neg Bool.false_ne_true] at h1 ⊢; exact ⟨ρ, ι1, S1, re.mono e1, rl1, h1⟩⟩
end
/-! ### arguments, displays, calls -/
def mNil : MW (List W) := fun _ S => .ok [] S
def mCons (c : MV) (t : MW (List W)) : MW (List W) := mBind c fun w => mBind t fun ws => fun _ S => .ok (w :: ws) S
def mTup (t : MW (List W)) : MV := mBind t fun ws => fun _ S => if ws.length ≤ sizeLine then .ok (.tup ws) S else .stuck
def mLst (t : MW (List W)) : MV := mBind t fun ws => fun _ S => if ws.length ≤ sizeLine then .ok (.lst ws) S else .stuck
/-- a list that will be changed -/
def mLstM (t : MW (List W)) : MV := mBind t fun ws => fun _ S => if ws.length ≤ sizeLine then .ok (.loc S.length) (S ++ [.lst ws]) else .stuck
def mCB (f : MF) (t : MW (List W)) : MV := mBind t fun ws => fun _ S => f ws S
def mCall (n : Nat) (f : MF) (t : MW (List W)) : MV := mBind t fun ws => fun _ S => if ws.length = n then f ws S else .stuck
/-- a def's promise, by its mirror -/
def spOf (K : PySem.W.Frag) (n : Nat) (m : MF) : Sp := fun vs H Q E => vs.length = n ∧ ∃ ws ι S, Reps K ι S.length H ws vs ∧ Rl K ι S H ∧ PostV K E (m ws S) ι S.length H Q
section
variable {X : Cx} {E : XK} {e : Expr} {es : List Expr} {c : MV} {t : MW (List W)}
theorem ca_nil : CA X E [] mNil := PA.weak pa_nil fun σ H Q ⟨ρ, ι, S, re, rl, h⟩ => h ι H Ext.refl rl [] .nil
theorem ca_cons (ha : CE X E e c) (hr : CA X E es t) (hs : starEach (e :: es) X.env = (false, eval e X.env) :: starEach es X.env := by rfl) : CA X E (e :: es) (mCons c t) :=
  PA.weak (pa_cons ha hr hs) fun σ H Q ⟨ρ, ι, S, re, rl, h⟩ => ⟨ρ, ι, S, re, rl, (Post.bind h).mono fun w S1 ι1 H1 e1 rl1 h1 v rv =>
    ⟨ρ, ι1, S1, re.mono e1, rl1, (Post.bind h1).mono fun ws S2 ι2 H2 e2 rl2 h2 vs rvs => h2 ι2 H2 Ext.refl rl2 (v :: vs) (.cons (rv.mono e2) rvs)⟩⟩
theorem ce_tup {x1 : Nat} {pos : Pos} (h : CA X E es t) : CE X E (.Tuple es x1 pos) (mTup t) :=
  PE.weak (pe_tup h) fun σ H Q ⟨ρ, ι, S, re, rl, h⟩ => ⟨ρ, ι, S, re, rl, (Post.bind h).mono fun ws S1 ι1 H1 e1 rl1 h1 vs rvs => by
    by_cases z : ws.length ≤ sizeLine
    · rw [if_pos z] at h1
      exact ⟨by rw [← rvs.length]; exact z, PostV.newT h1 rl1 rvs⟩
    · rw [if_neg z] at h1
      exact h1.elim⟩
theorem ce_lst {pos : Pos} (h : CA X E es t) : CE X E (.List es pos) (mLst t) :=
  PE.weak (pe_lst h) fun σ H Q ⟨ρ, ι, S, re, rl, h⟩ => ⟨ρ, ι, S, re, rl, (Post.bind h).mono fun ws S1 ι1 H1 e1 rl1 h1 vs rvs => by
    by_cases z : ws.length ≤ sizeLine
    · rw [if_pos z] at h1
      exact ⟨by rw [← rvs.length]; exact z, PostV.newL h1 rl1 rvs⟩
    · rw [if_neg z] at h1
      exact h1.elim⟩
theorem ce_lstM {pos : Pos} (h : CA X E es t) : CE X E (.List es pos) (mLstM t) :=
  PE.weak (pe_lst h) fun σ H Q ⟨ρ, ι, S, re, rl, h⟩ => ⟨ρ, ι, S, re, rl, (Post.bind h).mono fun ws S1 ι1 H1 e1 rl1 h1 vs rvs => by
    by_cases z : ws.length ≤ sizeLine
    · rw [if_pos z] at h1
      exact ⟨by rw [← rvs.length]; exact z, PostV.newLoc h1 rl1 rvs⟩
    · rw [if_neg z] at h1
      exact h1.elim⟩
theorem ce_dict0 {pos : Pos} : CE X E (.Dict [] [] pos) (mC (.dct [] [])) :=
  PE.weak pe_dnewK fun σ H Q ⟨ρ, ι, S, re, rl, h⟩ => fun p hp => h ι _ (Ext.new rl hp) (rl.new hp) _ (.dct (xs := []) (Fz.new rl hp) rfl .nil)
theorem ce_callB {id : String} {r : List V → Hp → VK → Prop} {f : MF} {x : Str} {p pos : Pos} (hc : CallR X (.builtin id) r) (hr : SimC X.K E r f) (hg : Gl X x) (hm : X.mg x = none) (hv : bootBuiltins x = some (.builtin id)) (ha : CA X E (e :: es) t)
    (hn : x ≠ "__name__" := by decide) (hdb : (x == ("__debug__" : Str)) = false := by decide) (hh : starEach (e :: es) X.env = (false, eval e X.env) :: starEach es X.env := by rfl) (hpl : (backTo pos (starEach es X.env)).any (·.1) = false := by rfl) : CE X E (.Call (.Name x p) (e :: es) [] pos) (mCB f t) :=
  PE.weak (pe_callB hc hg hm hv ha hn hdb hh hpl) fun σ H Q ⟨ρ, ι, S, re, rl, h⟩ => ⟨ρ, ι, S, re, rl, (Post.bind h).mono fun ws S1 ι1 H1 e1 rl1 h1 vs rvs => hr ws vs ι1 S1 H1 Q rl1 rvs h1⟩
theorem ce_callTy {T : String} {r : List V → Hp → VK → Prop} {f : MF} {x : Str} {p pos : Pos} (hc : CallR X (.type T) r) (hr : SimC X.K E r f) (hg : Gl X x) (hm : X.mg x = none) (hv : bootBuiltins x = some (.type T)) (ha : CA X E (e :: es) t)
    (hn : x ≠ "__name__" := by decide) (hdb : (x == ("__debug__" : Str)) = false := by decide) (hh : starEach (e :: es) X.env = (false, eval e X.env) :: starEach es X.env := by rfl) (hpl : (backTo pos (starEach es X.env)).any (·.1) = false := by rfl) : CE X E (.Call (.Name x p) (e :: es) [] pos) (mCB f t) :=
  PE.weak (pe_callTy hc hg hm hv ha hn hdb hh hpl) fun σ H Q ⟨ρ, ι, S, re, rl, h⟩ => ⟨ρ, ι, S, re, rl, (Post.bind h).mono fun ws S1 ι1 H1 e1 rl1 h1 vs rvs => hr ws vs ι1 S1 H1 Q rl1 rvs h1⟩
end
end Mm

/-! The mirror layer: targets, statements, loops. -/
namespace Mm
open PySem PySem.Spec PyProof.Rows L2
/-! ### targets -/
abbrev MG := W → MW Env
abbrev MGs := List W → MW Env
def tOfG (K : PySem.W.Frag) (E : XK) (g : MG) : TG := fun v σ H Q => ∃ w ρ ι S, Rep K ι S.length H w v ∧ RE K ι S.length H ρ σ ∧ Rl K ι S H ∧ Post K E (g w ρ S) ι S.length H fun ρ' S' ι' H' => ∀ σ', RE K ι' S'.length H' ρ' σ' → Q σ' H'
def tOfGs (K : PySem.W.Frag) (E : XK) (g : MGs) : TGs := fun vs σ H Q => ∃ ws ρ ι S, Reps K ι S.length H ws vs ∧ RE K ι S.length H ρ σ ∧ Rl K ι S H ∧ Post K E (g ws ρ S) ι S.length H fun ρ' S' ι' H' => ∀ σ', RE K ι' S'.length H' ρ' σ' → Q σ' H'
abbrev CG (X : Cx) (E : XK) (e : Expr) (g : MG) : Prop := PG X e (tOfG X.K E g)
abbrev CGs (X : Cx) (E : XK) (es : List Expr) (g : MGs) : Prop := PGs X es (tOfGs X.K E g)
theorem PGs.weak {X : Cx} {es : List Expr} {t t' : TGs} (h : PGs X es t) (k : ∀ vs σ H Q, t' vs σ H Q → t vs σ H Q) : PGs X es t' := ⟨fun pins s σ H vs us Q I r q => h.run pins s σ H vs us Q I r (k vs σ H Q q)⟩
/-- continue with other slots -/
def mThen {α : Type} (c : MW Env) (k : MW α) : MW α := fun ρ S => match c ρ S with
  | .stuck => .stuck
  | .ok ρ' S' => k ρ' S'
  | .err x S' => .err x S'
def mgName (i : Nat) : MG := fun w ρ S => .ok (ρ.set i (some w)) S
def mgNil : MGs := fun ws ρ S => match ws with
  | [] => .ok ρ S
  | _ => .stuck
def mgCons (g : MG) (gs : MGs) : MGs := fun ws => match ws with
  | [] => fun _ _ => .stuck
  | w :: ws => mThen (g w) (gs ws)
def mgTup (n : Nat) (gs : MGs) : MG := fun w => match w with
  | .tup ws => if ws.length = n then gs ws else fun _ _ => .stuck
  | _ => fun _ _ => .stuck
/-- o[i] = .. -/
def mgSub (f : W → W → W → Sto → Res Unit) (o i : MV) : MG := fun w => mBind o fun ov => mBind i fun iv => fun ρ S => match f ov iv w S with
  | .stuck => .stuck
  | .ok _ S' => .ok ρ S'
  | .err x S' => .err x S'
def fSetL : W → W → W → Sto → Res Unit := fun o i w S => match o, i with
  | .loc l, .int k => match S[l]? with
    | some (.lst ws) => match ixN ws.length k with
      | some j => .ok () (S.set l (.lst (ws.set j w)))
      | none => .stuck
    | _ => .stuck
  | _, _ => .stuck
def SimSet (K : PySem.W.Frag) (E : XK) (t : TSet) (f : W → W → W → Sto → Res Unit) : Prop := ∀ (o i w : W) (ov iv v : V) (ι : Im) (S : Sto) (H : Hp) (Q : Hp → Prop), Rl K ι S H → Rep K ι S.length H o ov → Rep K ι S.length H i iv → Rep K ι S.length H w v →
  Post K E (f o i w S) ι S.length H (fun _ _ _ H' => Q H') → t ov iv v H Q
section
variable {X : Cx} {E : XK} {K : PySem.W.Frag} {α β : Type} {ι : Im} {n : Nat} {H : Hp} {ρ : Env} {S : Sto}
theorem Post.then {c : MW Env} {k : MW β} {P : β → Sto → (Im) → Hp → Prop} (h : Post K E (mThen c k ρ S) ι n H P) : Post K E (c ρ S) ι n H fun ρ1 S1 ι1 H1 => Post K E (k ρ1 S1) ι1 S1.length H1 P := by
  unfold mThen at h
  cases e : c ρ S with
  | stuck => rw [e] at h; exact h
  | ok a S1 => rw [e] at h; exact fun ι1 H1 e1 q => Post.from h e1
  | err x S1 => rw [e] at h; exact h
theorem cg_name {i : Nat} {x : Str} {pos : Pos} (hN : X.N.Nodup) (hi : X.N[i]? = some x := by rfl) (hx : Loc X.env.scope x := by first | exact Or.inl rfl | exact Or.inr rfl) (hf : X.fn x = true ∨ X.env.scope.names.lookup x = some .local := by first | exact .inl rfl | exact .inr rfl | assumption) : CG X E (.Name x pos) (mgName i) :=
  PG.weak (pg_name hN hi hx hf) fun v σ H Q ⟨w, ρ, ι, S, rw', re, rl, h⟩ => h ι H Ext.refl rl _ (re.set rw' i)
theorem cgs_nil : CGs X E [] mgNil := PGs.weak pgs_nil fun vs σ H Q ⟨ws, ρ, ι, S, rws, re, rl, h⟩ => by
  cases rws with
  | nil => exact ⟨rfl, h ι H Ext.refl rl σ re⟩
  | cons a b => exact h.elim
theorem cgs_cons {e : Expr} {es : List Expr} {g : MG} {gs : MGs} (h1 : CG X E e g) (h2 : CGs X E es gs) (hs : (assignEach (e :: es) X.env).map (·.2) = assign e X.env :: (assignEach es X.env).map (·.2) := by rfl) : CGs X E (e :: es) (mgCons g gs) :=
  PGs.weak (pgs_cons h1 h2 hs) fun vs σ H Q ⟨ws, ρ, ι, S, rws, re, rl, h⟩ => by
    cases rws with
    | nil => exact h.elim
    | @cons w v ws vs a b =>
      refine ⟨v, vs, rfl, w, ρ, ι, S, a, re, rl, (Post.then h).mono fun ρ1 S1 ι1 H1 e1 rl1 q1 σ1 re1 => ?_⟩
      exact ⟨ws, ρ1, ι1, S1, b.mono e1, re1, rl1, q1⟩
theorem cg_tup {es : List Expr} {k : Nat} {gs : MGs} {m : Nat} {pos : Pos} (hc : X.calm = true) (h : CGs X E es gs) (hn : (assignEach es X.env).length = m := by rfl) (hst : (assignEach es X.env).findIdx? (·.1) = none := by rfl) : CG X E (.Tuple es k pos) (mgTup m gs) :=
  PG.weak (pg_tup hc h hn hst) fun v σ H Q ⟨w, ρ, ι, S, rw', re, rl, h⟩ => by
    cases rw' with
    | @tup ws a xs hz r =>
      have h' : Post X.K E ((if ws.length = m then gs ws else fun _ _ => Res.stuck) ρ S) ι S.length H _ := h
      by_cases z : ws.length = m
      · rw [if_pos z] at h'
        exact ⟨a, xs, rfl, hz.sq, by rw [← r.length]; exact z, ws, ρ, ι, S, r, re, rl, h'⟩
      · rw [if_neg z] at h'
        exact h'.elim
    | _ => exact h.elim
theorem cg_sub {o i : Expr} {co ci : MV} {t : TSet} {f : W → W → W → Sto → Res Unit} {pos : Pos} (hs : PSet X t) (hf : SimSet X.K E t f) (ho : CE X E o co) (hi : CE X E i ci)
    (ha : ∀ v, assign (.Subscript o i pos) X.env v = (do
      let ov ← holding [v] (eval o X.env)
      let iv ← holding [v, ov] (eval i X.env)
      standAt pos
      holding [v, ov, iv] (setItem ov iv v)
      release [v, ov, iv] []) := by intro _; rfl) : CG X E (.Subscript o i pos) (mgSub f co ci) :=
  PG.weak (pg_sub ho hi hs ha) fun v σ H Q ⟨w, ρ, ι, S, rw', re, rl, h⟩ => by
    refine ⟨ρ, ι, S, re, rl, (Post.bind h).mono fun ow S1 ι1 H1 e1 rl1 h1 ov ro => ?_⟩
    refine ⟨ρ, ι1, S1, re.mono e1, rl1, (Post.bind h1).mono fun iw S2 ι2 H2 e2 rl2 h2 iv ri => ?_⟩
    refine hf ow iw w ov iv v ι2 S2 H2 _ rl2 (ro.mono e2) ri ((rw'.mono e1).mono e2) ?_
    cases q : f ow iw w S2 with
    | stuck => rw [q] at h2; exact h2
    | ok u S3 => rw [q] at h2; exact fun ι3 H3 e3 rl3 => h2 ι3 H3 e3 rl3 σ (((re.mono e1).mono e2).mono e3)
    | err x S3 => rw [q] at h2; exact h2
theorem sim_setL : SimSet K E rSetL fSetL := by
  intro o i w ov iv v ι S H Q rl ro ri rv h
  cases ro with
  | @loc l hl =>
    cases ri with
    | int k =>
      have h' : Post K E (match S[l]? with
        | some (.lst ws) => (match ixN ws.length k with
          | some j => Res.ok () (S.set l (.lst (ws.set j w)))
          | none => .stuck)
        | _ => .stuck) ι S.length H (fun _ _ _ H' => Q H') := h
      split at h'
      · rename_i ws q
        split at h'
        · rename_i j qj
          obtain ⟨xs, h1, h2⟩ := rl.obj l _ q
          refine ⟨ι l, xs, k, j, rfl, rfl, h1, by rw [← h2.length]; exact qj, ?_⟩
          have e := Ext.set (o := .lst (xs.set j v)) rl hl
          refine h' ι _ (by rw [List.length_set]; exact e) (rl.set hl ⟨_, upd_same, (h2.mono e).set (rv.mono e) j⟩)
        · exact h'.elim
      · exact h'.elim
    | _ => exact h.elim
  | _ => cases ri <;> exact h.elim
end

/-! ### statements -/
def mSeq (c d : MS) : MS := fun ρ S => match c ρ S with
  | .stuck => .stuck
  | .err x S' => .err x S'
  | .ok (.next, ρ') S' => d ρ' S'
  | .ok (f, ρ') S' => .ok (f, ρ') S'
def mNext : MS := fun ρ S => .ok (.next, ρ) S
def mBrk : MS := fun ρ S => .ok (.brk, ρ) S
def mCont : MS := fun ρ S => .ok (.cont, ρ) S
def mRet (c : MV) : MS := mBind c fun w => fun ρ S => .ok (.ret w, ρ) S
def mRetN : MS := fun ρ S => .ok (.ret .non, ρ) S
def mDrop (c : MV) : MS := mBind c fun _ => fun ρ S => .ok (.next, ρ) S
def mIf (t : MW Bool) (c d : MS) : MS := mBind t fun b => if b = true then c else d
def mAsg (c : MV) (g : MG) : MS := mBind c fun w => mThen (g w) mNext
def mSet (i : Nat) (c : MV) : MS := mBind c fun w => fun ρ S => .ok (.next, ρ.set i (some w)) S
def mPar (i j : Nat) (t : MW (List W)) : MS := mBind t fun ws => match ws with
  | [v, w] => fun ρ S => .ok (.next, (ρ.set i (some v)).set j (some w)) S
  | _ => fun _ _ => .stuck
section
variable {X : Cx} {E : XK} {K : PySem.W.Frag} {e : Expr} {c : MV} {t : MW Bool} {st : Stmt} {sts rest : List Stmt} {cs ds : MS} {pos : Pos}
theorem css_nil : CSs X E [] mNext := PSs.weak pss_nil fun D σ H ⟨ρ, ι, S, re, rl, h⟩ => h ι H Ext.refl rl σ re
theorem sim_seq {D : Ends} {ρ : Env} {S : Sto} {ι : Im} {n : Nat} {H : Hp} (h : Post K E (mSeq cs ds ρ S) ι n H (flowOk K D)) :
    Post K E (cs ρ S) ι n H (flowOk K { D with nx := tOfS K E ds D }) := by
  unfold mSeq at h
  cases q : cs ρ S with
  | stuck => rw [q] at h; exact h
  | err x S' => rw [q] at h; exact h
  | ok p S' =>
    rw [q] at h
    obtain ⟨f, ρ'⟩ := p
    cases f with
    | next => exact fun ι' H' e' rl' σ' re' => ⟨ρ', ι', S', re', rl', Post.from h e'⟩
    | ret w => exact h
    | brk => exact h
    | cont => exact h
theorem css_cons (h1 : CS X E st cs) (h2 : CSs X E rest ds) : CSs X E (st :: rest) (mSeq cs ds) :=
  PSs.weak (pss_cons h1 h2) fun D σ H ⟨ρ, ι, S, re, rl, h⟩ => ⟨ρ, ι, S, re, rl, sim_seq h⟩
theorem css_one (h1 : CS X E st cs) : CSs X E [st] cs := pss_one h1
theorem cs_pass : CS X E (.Pass pos) mNext := PS.weak ps_pass fun D σ H ⟨ρ, ι, S, re, rl, h⟩ => h ι H Ext.refl rl σ re
theorem cs_break : CS X E (.Break pos) mBrk := PS.weak ps_break fun D σ H ⟨ρ, ι, S, re, rl, h⟩ => h ι H Ext.refl rl σ re
theorem cs_continue : CS X E (.Continue pos) mCont := PS.weak ps_continue fun D σ H ⟨ρ, ι, S, re, rl, h⟩ => h ι H Ext.refl rl σ re
theorem cs_ret (he : CE X E e c) : CS X E (.Return (some e) pos) (mRet c) := PS.weak (ps_ret he) fun D σ H ⟨ρ, ι, S, re, rl, h⟩ =>
  ⟨ρ, ι, S, re, rl, (Post.bind h).mono fun w S1 ι1 H1 e1 rl1 h1 v rv => h1 ι1 H1 Ext.refl rl1 σ (re.mono e1) v rv⟩
theorem cs_retN : CS X E (.Return none pos) mRetN := PS.weak ps_retN fun D σ H ⟨ρ, ι, S, re, rl, h⟩ => h ι H Ext.refl rl σ re .non .non
theorem cs_expr (he : CE X E e c) (hs : swapsWith e none pos.line X.env = pure false := by rfl) : CS X E (.Expr e pos) (mDrop c) := PS.weak (ps_expr he hs) fun D σ H ⟨ρ, ι, S, re, rl, h⟩ =>
  ⟨ρ, ι, S, re, rl, (Post.bind h).mono fun w S1 ι1 H1 e1 rl1 h1 v rv => h1 ι1 H1 Ext.refl rl1 σ (re.mono e1)⟩
theorem cs_if {x : Expr} {a b : List Stmt} (hc : CT X E x t) (ha : CSs X E a cs) (hb : CSs X E b ds) : CS X E (.If x a b pos) (mIf t cs ds) := PS.weak (ps_if hc ha hb) fun D σ H ⟨ρ, ι, S, re, rl, h⟩ =>
  ⟨ρ, ι, S, re, rl, (Post.bind h).mono fun k S1 ι1 H1 e1 rl1 h1 => by
    cases k with
    | true => rw [if_pos rfl] at h1 ⊢; exact ⟨ρ, ι1, S1, re.mono e1, rl1, h1⟩
    | false => rw [if_neg Bool.false_ne_true] at h1 ⊢; exact ⟨ρ, ι1, S1, re.mono e1, rl1, h1⟩⟩
theorem cs_asg {tg : Expr} {g : MG} (he : CE X E e c) (hg : CG X E tg g) (hs : swapsWithSole [tg] e pos.line X.env = pure false := by rfl) (hw : swappedStores [tg] e X.env = pure none := by rfl) (h1 : (assignEach [tg] X.env).map (·.2) = [assign tg X.env] := by rfl) : CS X E (.Assign [tg] e pos) (mAsg c g) :=
  PS.weak (ps_asg he hg hs hw h1) fun D σ H ⟨ρ, ι, S, re, rl, h⟩ => ⟨ρ, ι, S, re, rl, (Post.bind h).mono fun w S1 ι1 H1 e1 rl1 h1 v rv =>
    ⟨w, ρ, ι1, S1, rv, re.mono e1, rl1, (Post.then h1).mono fun ρ' S' ι' H' e' rl' q σ' re' => q ι' H' Ext.refl rl' σ' re'⟩⟩
theorem cs_set {i : Nat} {x : Str} {pos' : Pos} (hN : X.N.Nodup) (he : CE X E e c) (hi : X.N[i]? = some x := by rfl) (hx : Loc X.env.scope x := by first | exact Or.inl rfl | exact Or.inr rfl) (hs : swapsWith e (some (.Name x pos')) pos.line X.env = pure false := by rfl)
    (hf : X.fn x = true ∨ X.env.scope.names.lookup x = some .local := by first | exact .inl rfl | exact .inr rfl | assumption) : CS X E (.Assign [.Name x pos'] e pos) (mSet i c) :=
  PS.weak (ps_set hN hi hx he hs hf) fun D σ H ⟨ρ, ι, S, re, rl, h⟩ => ⟨ρ, ι, S, re, rl, (Post.bind h).mono fun w S1 ι1 H1 e1 rl1 h1 v rv => h1 ι1 H1 Ext.refl rl1 _ ((re.mono e1).set rv i)⟩
theorem cs_par {i j : Nat} {x y : Str} {a b : Expr} {ta : MW (List W)} {px py pt : Pos} {kt k2 : Nat} {pt2 : Pos} (hc : X.calm = true) (hN : X.N.Nodup) (ha : CA X E [a, b] ta) (hi : X.N[i]? = some x := by rfl) (hj : X.N[j]? = some y := by rfl) (hij : i ≠ j := by decide)
    (hx : X.env.scope.names.lookup x = some .local := by rfl) (hy : X.env.scope.names.lookup y = some .local := by rfl)
    (hw : swappedStores [.Tuple [.Name x px, .Name y py] kt pt] (.Tuple [a, b] k2 pt2) X.env = pure (some [x, y]) := by rfl)
    (hs : swapsWithSole [.Tuple [.Name x px, .Name y py] kt pt] (.Tuple [a, b] k2 pt2) pos.line X.env = pure false := by rfl) :
    CS X E (.Assign [.Tuple [.Name x px, .Name y py] kt pt] (.Tuple [a, b] k2 pt2) pos) (mPar i j ta) :=
  PS.weak (ps_par hc hN hi hj hij hx hy ha hw hs) fun D σ H ⟨ρ, ι, S, re, rl, h⟩ => ⟨ρ, ι, S, re, rl, (Post.bind h).mono fun ws S1 ι1 H1 e1 rl1 h1 vs rvs => by
    cases rvs with
    | nil => exact h1.elim
    | @cons w1 v1 ws1 vs1 a1 b1 =>
      cases b1 with
      | nil => exact h1.elim
      | @cons w2 v2 ws2 vs2 a2 b2 =>
        cases b2 with
        | nil => exact ⟨v1, v2, rfl, h1 ι1 H1 Ext.refl rl1 _ (((re.mono e1).set a1 i).set a2 j)⟩
        | cons _ _ => exact h1.elim⟩
end

/-! ### loops -/
/-- J yields just these, whatever is done meanwhile -/
def Yl (K : PySem.W.Frag) (J : It) (ws : List W) (ι0 : Im) (n0 : Nat) (H0 : Hp) : Prop := ∀ (ι : Im) (S : Sto) (H : Hp), Mv ι0 n0 H0 ι S.length H → Rl K ι S H →
  J.stop ws.length H ∧ ∀ i w, ws[i]? = some w → J.go i H ∧ ∀ x H', J.yld i H x H' → Ext ι S.length H ι S.length H' ∧ Rl K ι S H' ∧ Rep K ι S.length H' w x
def tOfI (K : PySem.W.Frag) (E : XK) (c : MW (List W)) : TI := fun σ H R => ∃ ρ ι S, RE K ι S.length H ρ σ ∧ Rl K ι S H ∧ Post K E (c ρ S) ι S.length H fun ws S' ι' H' => ∀ J, Yl K J ws ι' S'.length H' → R J H'
abbrev CI (X : Cx) (E : XK) (tg iter : Expr) (c : MW (List W)) : Prop := PI X tg iter (tOfI X.K E c)
theorem PI.weak {X : Cx} {tg e : Expr} {t t' : TI} (h : PI X tg e t) (k : ∀ σ H R, t' σ H R → t σ H R) : PI X tg e t' := ⟨fun pins s σ H R I q => h.run pins s σ H R I (k σ H R q)⟩
theorem PI.or {X : Cx} {tg e : Expr} {t t' : TI} (h : PI X tg e t) (h' : PI X tg e t') : PI X tg e (fun σ H R => t σ H R ∨ t' σ H R) := ⟨fun pins s σ H R I q => q.elim (fun q => h.run pins s σ H R I q) fun q => h'.run pins s σ H R I q⟩
def mLoop (g : MG) (b : MS) : List W → MS
  | [] => mNext
  | w :: ws => fun ρ S => match mThen (g w) b ρ S with
    | .stuck => .stuck
    | .err x S' => .err x S'
    | .ok (.next, ρ') S' => mLoop g b ws ρ' S'
    | .ok (.cont, ρ') S' => mLoop g b ws ρ' S'
    | .ok (.brk, ρ') S' => .ok (.next, ρ') S'
    | .ok (.ret w, ρ') S' => .ok (.ret w, ρ') S'
def mFor (ci : MW (List W)) (g : MG) (b : MS) : MS := mBind ci fun ws => mLoop g b ws
section
variable {X : Cx} {E : XK} {K : PySem.W.Frag}
theorem sim_for {ci : MW (List W)} {g : MG} {b : MS} {D : Ends} {σ : L2.St} {H : Hp} (h : tOfS K E (mFor ci g b) D σ H) : tFor (tOfI K E ci) (tOfG K E g) (tOfS K E b) D σ H := by
  obtain ⟨ρ, ι, S, re, rl, h⟩ := h
  refine ⟨ρ, ι, S, re, rl, (Post.bind h).mono fun ws S1 ι1 H1 e1 rl1 h1 J hJ => ?_⟩
  refine ⟨fun i m σ H => ∃ ρ ι S, RE K ι S.length H ρ σ ∧ Rl K ι S H ∧ Ext ι1 S1.length H1 ι S.length H ∧ i + m = ws.length ∧ Post K E (mLoop g b (ws.drop i) ρ S) ι S.length H (flowOk K D), ?_, ?_⟩
  · exact ⟨ws.length, ρ, ι1, S1, re.mono e1, rl1, Ext.refl, Nat.zero_add _, h1⟩
  · rintro i m σ2 H2 ⟨ρ2, ι2, S2, re2, rl2, e2, em, h2⟩
    obtain ⟨hstop, hgo⟩ := hJ ι2 S2 H2 e2.toMv rl2
    by_cases hi : i < ws.length
    · right
      have ed : ws.drop i = ws[i] :: ws.drop (i + 1) := List.drop_eq_getElem_cons hi
      rw [ed] at h2
      obtain ⟨go, yl⟩ := hgo i ws[i] (List.getElem?_eq_getElem hi)
      refine ⟨go, fun σ' H' => ∃ ρ ι S, RE K ι S.length H' ρ σ' ∧ Rl K ι S H' ∧ Ext ι1 S1.length H1 ι S.length H' ∧ Post K E (mLoop g b (ws.drop (i + 1)) ρ S) ι S.length H' (flowOk K D), ?_, ?_⟩
      · rintro σ' H' ⟨ρ3, ι3, S3, re3, rl3, e3, h3⟩
        exact ⟨m - 1, by omega, ρ3, ι3, S3, re3, rl3, e3, by omega, h3⟩
      · intro x H3 hy
        obtain ⟨e3, rl3, rx⟩ := yl x H3 hy
        have h3 : Post K E (match mThen (g ws[i]) b ρ2 S2 with
          | .stuck => Res.stuck
          | .err x S' => .err x S'
          | .ok (.next, ρ') S' => mLoop g b (ws.drop (i + 1)) ρ' S'
          | .ok (.cont, ρ') S' => mLoop g b (ws.drop (i + 1)) ρ' S'
          | .ok (.brk, ρ') S' => .ok (.next, ρ') S'
          | .ok (.ret w, ρ') S' => .ok (.ret w, ρ') S') ι2 S2.length H3 (flowOk K D) := Post.from h2 e3
        refine ⟨ws[i], ρ2, ι2, S2, rx, re2.mono e3, rl3, ?_⟩
        unfold mThen at h3
        cases q : g ws[i] ρ2 S2 with
        | stuck => rw [q] at h3; exact h3
        | err y S' => rw [q] at h3; exact h3
        | ok ρ4 S4 =>
          rw [q] at h3
          intro ι4 H4 e4 rl4 σ4 re4
          refine ⟨ρ4, ι4, S4, re4, rl4, ?_⟩
          cases q2 : b ρ4 S4 with
          | stuck => simp only [q2] at h3; exact h3
          | err y S' => simp only [q2] at h3; exact Post.from (r := Res.err y S') h3 e4
          | ok p S5 =>
            obtain ⟨f, ρ5⟩ := p
            cases f with
            | next =>
              simp only [q2] at h3
              exact fun ι5 H5 e5 rl5 σ5 re5 => ⟨ρ5, ι5, S5, re5, rl5, ((e2.trans e3).trans e4).trans e5, Post.from h3 (e4.trans e5)⟩
            | cont =>
              simp only [q2] at h3
              exact fun ι5 H5 e5 rl5 σ5 re5 => ⟨ρ5, ι5, S5, re5, rl5, ((e2.trans e3).trans e4).trans e5, Post.from h3 (e4.trans e5)⟩
            | brk =>
              simp only [q2] at h3
              exact fun ι5 H5 e5 rl5 σ5 re5 => h3 ι5 H5 (e4.trans e5) rl5 σ5 re5
            | ret w =>
              simp only [q2] at h3
              exact fun ι5 H5 e5 rl5 σ5 re5 => h3 ι5 H5 (e4.trans e5) rl5 σ5 re5
    · left
      have ei : i = ws.length := by omega
      subst ei
      rw [List.drop_length] at h2
      exact ⟨hstop, h2 ι2 H2 Ext.refl rl2 σ2 re2⟩
theorem cs_for {tg iter : Expr} {body : List Stmt} {ci : MW (List W)} {g : MG} {b : MS} {pos : Pos} (hp : PassesOwn (model X.prog X.w) X.A X.env X.xe) (hc : X.calm = true) (hi : CI X E tg iter ci) (hg : CG X E tg g) (hb : CSs X E body b)
    (hs : ∀ x, foldedSetIterable iter X.env x = pure x := by intro _; rfl) : CS X E (.For tg iter body [] pos) (mFor ci g b) := PS.weak (ps_for hp hc hi hg hb hs) fun D σ H h => sim_for h
/-! what is walked -/
def itemsOf : W → Option (List W)
  | .lst ws => some ws
  | .arr ws => some ws
  | .tup ws => some ws
  | .str x => some (x.cps.toList.map fun c => .str ⟨#[c]⟩)
  | _ => none
def mIter (c : MV) : MW (List W) := mBind c fun w => fun _ S => match itemsOf w with
  | some ws => .ok ws S
  | none => .stuck
theorem yl_list {J0 : It} {ι : Im} {n : Nat} {H : Hp} {a : Addr} {xs : List V} {ws : List W} (hs : ∀ ι1 n1 H1, Mv ι n H ι1 n1 H1 → SqL K H1 a xs) (r : Reps K ι n H ws xs) : Yl K (Itl K a) ws ι n H := by
  intro ι1 S1 H1 e1 rl1
  have sq := hs _ _ _ e1
  have r1 := r.mv e1
  refine ⟨⟨xs, sq, by rw [r.length]; exact Nat.le_refl _⟩, fun i w q => ?_⟩
  obtain ⟨v, ev, rv⟩ := r1.get q
  refine ⟨⟨xs, v, sq, ev⟩, fun x H' hy => ?_⟩
  obtain ⟨rfl, hy⟩ := hy
  have : v = x := Option.some.inj (ev.symm.trans (hy xs sq))
  subst this
  exact ⟨Ext.refl, rl1, rv⟩
theorem yl_tup {ι : Im} {n : Nat} {H : Hp} {a : Addr} {xs : List V} {ws : List W} (hs : FzT K ι n H a xs) (r : Reps K ι n H ws xs) : Yl K (Itt K a) ws ι n H := by
  intro ι1 S1 H1 e1 rl1
  have sq := (e1.fzT hs).sq
  have r1 := r.mv e1
  refine ⟨⟨xs, sq, by rw [r.length]; exact Nat.le_refl _⟩, fun i w q => ?_⟩
  obtain ⟨v, ev, rv⟩ := r1.get q
  refine ⟨⟨xs, v, sq, ev⟩, fun x H' hy => ?_⟩
  obtain ⟨rfl, hy⟩ := hy
  have : v = x := Option.some.inj (ev.symm.trans (hy xs sq))
  subst this
  exact ⟨Ext.refl, rl1, rv⟩
theorem yl_str {ι : Im} {n : Nat} {H : Hp} (x : Str) : Yl K (Its x) (x.cps.toList.map fun c => .str ⟨#[c]⟩) ι n H := by
  intro ι1 S1 H1 e1 rl1
  refine ⟨by show x.cps.size ≤ _; simp, fun i w q => ?_⟩
  rw [List.getElem?_map] at q
  obtain ⟨c, ec, rfl⟩ := Option.map_eq_some_iff.mp q
  have hi : i < x.cps.toList.length := (List.getElem?_eq_some_iff.mp ec).1
  refine ⟨by show i < x.cps.size; simpa using hi, fun y H' hy => ?_⟩
  obtain ⟨rfl, d, hd, rfl⟩ := hy
  have e2 : x.cps.toList[i]? = some d := by simpa using hd
  rw [ec] at e2
  cases e2
  exact ⟨Ext.refl, rl1, .str _⟩
theorem yl_range {ι : Im} {n : Nat} {H : Hp} (lo : Int) (m : Nat) : Yl K (Itr lo m) ((List.range m).map fun k => .int (lo + (k : Nat))) ι n H := by
  intro ι1 S1 H1 e1 rl1
  refine ⟨by show m ≤ _; simp, fun i w q => ?_⟩
  rw [List.getElem?_map] at q
  obtain ⟨k, ek, rfl⟩ := Option.map_eq_some_iff.mp q
  have hi : i < m := by simpa using (List.getElem?_eq_some_iff.mp ek).1
  have ek2 : k = i := by
    rw [List.getElem?_range hi] at ek
    exact (Option.some.inj ek).symm
  subst ek2
  refine ⟨hi, fun y H' hy => ?_⟩
  obtain ⟨rfl, rfl⟩ := hy
  exact ⟨Ext.refl, rl1, .int _⟩
theorem ci_any {tg e : Expr} {c : MV} (h : CE X E e c) : CI X E tg e (mIter c) :=
  PI.weak (PI.or (pi_list h) (PI.or (pi_tup h) (pi_str h))) fun σ H R ⟨ρ, ι, S, re, rl, h⟩ => by
    have h' := Post.bind h
    cases q : c ρ S with
    | stuck => rw [q] at h'; exact h'.elim
    | err x S' => exact .inl ⟨ρ, ι, S, re, rl, by rw [q] at h' ⊢; exact h'⟩
    | ok w S' =>
      rw [q] at h'
      cases w with
      | tup ws =>
        refine .inr (.inl ⟨ρ, ι, S, re, rl, ?_⟩)
        rw [q]
        intro ι1 H1 e1 rl1 v rv
        cases rv with
        | @tup _ a xs hz r => exact ⟨a, rfl, ⟨xs, hz.sq⟩, h' ι1 H1 e1 rl1 ι1 H1 Ext.refl rl1 _ (yl_tup hz r)⟩
      | lst ws =>
        refine .inl ⟨ρ, ι, S, re, rl, ?_⟩
        rw [q]
        intro ι1 H1 e1 rl1 v rv
        cases rv with
        | @lst _ a xs hz r => exact ⟨a, rfl, ⟨xs, .inl (.inl hz.at_)⟩, h' ι1 H1 e1 rl1 ι1 H1 Ext.refl rl1 _ (yl_list (J0 := Itl X.K a) (fun _ _ _ e => .inl (.inl (e.fz _ _ hz).at_)) r)⟩
      | arr ws =>
        refine .inl ⟨ρ, ι, S, re, rl, ?_⟩
        rw [q]
        intro ι1 H1 e1 rl1 v rv
        cases rv with
        | @arr _ a xs hz r => exact ⟨a, rfl, ⟨xs, hz.sq⟩, h' ι1 H1 e1 rl1 ι1 H1 Ext.refl rl1 _ (yl_list (J0 := Itl X.K a) (fun _ _ _ e => (e.fzL hz).sq) r)⟩
      | str x =>
        refine .inr (.inr ⟨ρ, ι, S, re, rl, ?_⟩)
        rw [q]
        intro ι1 H1 e1 rl1 v rv
        cases rv with
        | str => exact ⟨x, rfl, h' ι1 H1 e1 rl1 ι1 H1 Ext.refl rl1 _ (yl_str x)⟩
      | non => exact .inl ⟨ρ, ι, S, re, rl, by rw [q]; exact fun ι1 H1 e1 rl1 v rv => (h' ι1 H1 e1 rl1).elim⟩
      | bl b => exact .inl ⟨ρ, ι, S, re, rl, by rw [q]; exact fun ι1 H1 e1 rl1 v rv => (h' ι1 H1 e1 rl1).elim⟩
      | int b => exact .inl ⟨ρ, ι, S, re, rl, by rw [q]; exact fun ι1 H1 e1 rl1 v rv => (h' ι1 H1 e1 rl1).elim⟩
      | ty b => exact .inl ⟨ρ, ι, S, re, rl, by rw [q]; exact fun ι1 H1 e1 rl1 v rv => (h' ι1 H1 e1 rl1).elim⟩
      | glo b => exact .inl ⟨ρ, ι, S, re, rl, by rw [q]; exact fun ι1 H1 e1 rl1 v rv => (h' ι1 H1 e1 rl1).elim⟩
      | loc b => exact .inl ⟨ρ, ι, S, re, rl, by rw [q]; exact fun ι1 H1 e1 rl1 v rv => (h' ι1 H1 e1 rl1).elim⟩
      | dct b d => exact .inl ⟨ρ, ι, S, re, rl, by rw [q]; exact fun ι1 H1 e1 rl1 v rv => (h' ι1 H1 e1 rl1).elim⟩
      | obj b d f => exact .inl ⟨ρ, ι, S, re, rl, by rw [q]; exact fun ι1 H1 e1 rl1 v rv => (h' ι1 H1 e1 rl1).elim⟩
end
end Mm

/-! The mirror layer: list comprehensions; ranges. -/
namespace Mm
open PySem PySem.Spec PyProof.Rows L2
/-! ### the block's own slots -/
def wipeE (ρ : Env) : List Nat → Env
  | [] => ρ
  | v :: vs => (wipeE ρ vs).set v none
theorem wipeE_length (ρ : Env) : ∀ vs : List Nat, (wipeE ρ vs).length = ρ.length
  | [] => rfl
  | v :: vs => by unfold wipeE; rw [List.length_set, wipeE_length ρ vs]
theorem RE.wipe {K : PySem.W.Frag} {ι : Im} {n : Nat} {H : Hp} {ρ : Env} {σ : L2.St} (h : RE K ι n H ρ σ) : ∀ vs : List Nat, RE K ι n H (wipeE ρ vs) (L2.wipe σ vs)
  | [] => h
  | v :: vs => by
    have ih := RE.wipe h vs
    refine ⟨by unfold wipeE L2.wipe; rw [List.length_set, List.length_set]; exact ih.len, fun i w q => ?_⟩
    unfold wipeE at q
    unfold L2.wipe
    by_cases e : v = i
    · subst e
      by_cases hv : v < (wipeE ρ vs).length
      · rw [List.getElem?_set_self hv] at q; cases q
      · rw [List.getElem?_eq_none (by simpa using hv)] at q; cases q
    · rw [List.getElem?_set_ne e] at q ⊢
      exact ih.at_ i w q
/-- a target that stores in some slots alone -/
def tOfGw (K : PySem.W.Frag) (E : XK) (vs : List Nat) (g : MG) : TG := fun v σ H Q => ∃ w ρ ι S, Rep K ι S.length H w v ∧ RE K ι S.length H ρ σ ∧ Rl K ι S H ∧ Post K E (g w ρ S) ι S.length H fun ρ' S' ι' H' => ∀ σ', RE K ι' S'.length H' ρ' σ' → L2.wipe σ' vs = L2.wipe σ vs → Q σ' H'
def tOfGsw (K : PySem.W.Frag) (E : XK) (vs : List Nat) (g : MGs) : TGs := fun xs σ H Q => ∃ ws ρ ι S, Reps K ι S.length H ws xs ∧ RE K ι S.length H ρ σ ∧ Rl K ι S H ∧ Post K E (g ws ρ S) ι S.length H fun ρ' S' ι' H' => ∀ σ', RE K ι' S'.length H' ρ' σ' → L2.wipe σ' vs = L2.wipe σ vs → Q σ' H'
abbrev CGw (X : Cx) (E : XK) (vs : List Nat) (e : Expr) (g : MG) : Prop := PG X e (tOfGw X.K E vs g)
abbrev CGsw (X : Cx) (E : XK) (vs : List Nat) (es : List Expr) (g : MGs) : Prop := PGs X es (tOfGsw X.K E vs g)
theorem wipe_set {i : Nat} {x : Option V} : ∀ {vs : List Nat} {σ : L2.St}, i ∈ vs → L2.wipe (σ.set i x) vs = L2.wipe σ vs
  | [], _, h => by cases h
  | v :: vs, σ, h => by
    unfold L2.wipe
    by_cases e : i ∈ vs
    · rw [wipe_set e]
    · have ei : i = v := by
        rcases List.mem_cons.mp h with z | z
        · exact z
        · exact absurd z e
      subst ei
      apply List.ext_getElem?
      intro j
      by_cases ej : i = j
      · subst ej
        by_cases hl : i < σ.length
        · rw [List.getElem?_set_self (by rw [L2.wipe_length]; simpa using hl), List.getElem?_set_self (by rw [L2.wipe_length]; exact hl)]
        · rw [List.getElem?_eq_none (by rw [List.length_set, L2.wipe_length]; simpa using hl), List.getElem?_eq_none (by rw [List.length_set, L2.wipe_length]; simpa using hl)]
      · rw [List.getElem?_set_ne ej, List.getElem?_set_ne ej]
        by_cases hj : j ∈ vs
        · -- both forgotten
          have both : ∀ (τ : L2.St) (us : List Nat), j ∈ us → (L2.wipe τ us)[j]? = if j < τ.length then some none else none := by
            intro τ us
            induction us with
            | nil => intro z; cases z
            | cons u us ih =>
              intro z
              unfold L2.wipe
              by_cases eu : u = j
              · subst eu
                by_cases hl : u < τ.length
                · rw [List.getElem?_set_self (by rw [L2.wipe_length]; exact hl), if_pos hl]
                · rw [List.getElem?_eq_none (by rw [List.length_set, L2.wipe_length]; omega), if_neg hl]
              · rw [List.getElem?_set_ne eu]
                rcases List.mem_cons.mp z with z | z
                · exact absurd z.symm eu
                · exact ih z
          rw [both _ _ hj, both _ _ hj, List.length_set]
        · rw [L2.wipe_out hj, L2.wipe_out hj, List.getElem?_set_ne ej]
section
variable {X : Cx} {E : XK} {vs : List Nat}
theorem cgw_name {i : Nat} {x : Str} {pos : Pos} (hN : X.N.Nodup) (hv : i ∈ vs := by decide) (hi : X.N[i]? = some x := by rfl) (hx : Loc X.env.scope x := by first | exact Or.inl rfl | exact Or.inr rfl) (hf : X.fn x = true ∨ X.env.scope.names.lookup x = some .local := by first | exact .inl rfl | exact .inr rfl | assumption) : CGw X E vs (.Name x pos) (mgName i) :=
  PG.weak (pg_name hN hi hx hf) fun v σ H Q ⟨w, ρ, ι, S, rw', re, rl, h⟩ => h ι H Ext.refl rl _ (re.set rw' i) (wipe_set hv)
theorem cgsw_nil : CGsw X E vs [] mgNil := PGs.weak pgs_nil fun xs σ H Q ⟨ws, ρ, ι, S, rws, re, rl, h⟩ => by
  cases rws with
  | nil => exact ⟨rfl, h ι H Ext.refl rl σ re rfl⟩
  | cons a b => exact h.elim
theorem cgsw_cons {e : Expr} {es : List Expr} {g : MG} {gs : MGs} (h1 : CGw X E vs e g) (h2 : CGsw X E vs es gs) (hs : (assignEach (e :: es) X.env).map (·.2) = assign e X.env :: (assignEach es X.env).map (·.2) := by rfl) : CGsw X E vs (e :: es) (mgCons g gs) :=
  PGs.weak (pgs_cons h1 h2 hs) fun xs σ H Q ⟨ws, ρ, ι, S, rws, re, rl, h⟩ => by
    cases rws with
    | nil => exact h.elim
    | @cons w v ws xs a b =>
      refine ⟨v, xs, rfl, w, ρ, ι, S, a, re, rl, (Post.then h).mono fun ρ1 S1 ι1 H1 e1 rl1 q1 σ1 re1 hw1 => ?_⟩
      exact ⟨ws, ρ1, ι1, S1, b.mono e1, re1, rl1, q1.mono fun ρ2 S2 ι2 H2 _ _ q2 σ2 re2 hw2 => q2 σ2 re2 (hw2.trans hw1)⟩
theorem cgw_tup {es : List Expr} {k : Nat} {gs : MGs} {m : Nat} {pos : Pos} (hc : X.calm = true) (h : CGsw X E vs es gs) (hn : (assignEach es X.env).length = m := by rfl) (hst : (assignEach es X.env).findIdx? (·.1) = none := by rfl) : CGw X E vs (.Tuple es k pos) (mgTup m gs) :=
  PG.weak (pg_tup hc h hn hst) fun v σ H Q ⟨w, ρ, ι, S, rw', re, rl, h⟩ => by
    cases rw' with
    | @tup ws a xs hz r =>
      have h' : Post X.K E ((if ws.length = m then gs ws else fun _ _ => Res.stuck) ρ S) ι S.length H _ := h
      by_cases z : ws.length = m
      · rw [if_pos z] at h'
        exact ⟨a, xs, rfl, hz.sq, by rw [← r.length]; exact z, ws, ρ, ι, S, r, re, rl, h'⟩
      · rw [if_neg z] at h'
        exact h'.elim
    | _ => exact h.elim
end
/-! ### [e for t in i if c] -/
def mYes : MW Bool := fun _ S => .ok true S
/-- one turn: none where the test fails -/
def mLcTurn (g : MG) (t : MW Bool) (e : MV) (w : W) : MW (Option W) := mThen (g w) (mBind t fun b => if b = true then mBind e fun y => fun _ S => .ok (some y) S else fun _ S => .ok none S)
def mLcLoop (g : MG) (t : MW Bool) (e : MV) (ρ : Env) : List W → List W → Sto → Res (List W)
  | [], acc, S => .ok acc S
  | w :: ws, acc, S => match mLcTurn g t e w ρ S with
    | .stuck => .stuck
    | .err x S' => .err x S'
    | .ok (some y) S' => if acc.length < sizeLine then mLcLoop g t e ρ ws (acc ++ [y]) S' else .stuck
    | .ok none S' => mLcLoop g t e ρ ws acc S'
def mLc (vs : List Nat) (ci : MW (List W)) (g : MG) (t : MW Bool) (e : MV) : MV := mBind ci fun ws => fun ρ S => match mLcLoop g t e (wipeE ρ vs) ws [] S with
  | .stuck => .stuck
  | .err x S' => .err x S'
  | .ok ys S' => .ok (.lst ys) S'
section
variable {X : Cx} {E : XK} {K : PySem.W.Frag} {vs : List Nat}
/-- into the block: D is laid and changed by the block alone -/
def ιd (ι : Im) (D : Addr) : Im := ⟨ι.f, D :: ι.mu⟩
def ιu (ι : Im) (m : List Addr) : Im := ⟨ι.f, m⟩
theorem enter {ι : Im} {S : Sto} {H : Hp} {D : Addr} {o : HO} (rl : Rl K ι S H) (hD : H D = none) : Mv ι S.length H (ιd ι D) S.length (upd H D o) ∧ Rl K (ιd ι D) S (upd H D o) := by
  have mv : Mv ι S.length H (ιd ι D) S.length (upd H D o) := ⟨Nat.le_refl _, fun _ _ => rfl, fun a u h => ⟨by rw [upd_ne (ne_of_none h.at_ hD)]; exact h.at_, h.ne, fun z => by
    rcases List.mem_cons.mp z with z | z
    · exact ne_of_none h.at_ hD z
    · exact h.mu z⟩⟩
  refine ⟨mv, rl.inj, fun l u e => (rl.obj l u e).mv mv (upd_ne (rl.ne hD l (List.getElem?_eq_some_iff.mp e).1)), fun a h => ?_, fun l hl h => ?_⟩
  · rcases List.mem_cons.mp h with z | z
    · subst z; exact ⟨o, upd_same⟩
    · obtain ⟨u, q⟩ := rl.mu a z
      exact ⟨u, by rw [upd_ne (ne_of_none q hD)]; exact q⟩
  · rcases List.mem_cons.mp h with z | z
    · exact rl.ne hD l hl z
    · exact rl.mn l hl z
theorem change {ι : Im} {S : Sto} {H : Hp} {D : Addr} {o : HO} (rl : Rl K ι S H) (hD : D ∈ ι.mu) : Mv ι S.length H ι S.length (upd H D o) ∧ Rl K ι S (upd H D o) := by
  have mv : Mv ι S.length H ι S.length (upd H D o) := ⟨Nat.le_refl _, fun _ _ => rfl, fun a u h => ⟨by rw [upd_ne (show a ≠ D from fun e => h.mu (e ▸ hD))]; exact h.at_, h.ne, h.mu⟩⟩
  refine ⟨mv, rl.inj, fun l u e => (rl.obj l u e).mv mv (upd_ne fun z => rl.mn l (List.getElem?_eq_some_iff.mp e).1 (z ▸ hD)), fun a h => ?_, rl.mn⟩
  by_cases e : a = D
  · subst e; exact ⟨o, upd_same⟩
  · obtain ⟨u, q⟩ := rl.mu a h
    exact ⟨u, by rw [upd_ne e]; exact q⟩
theorem leave {ι : Im} {S : Sto} {H : Hp} {D : Addr} {m : List Addr} (rl : Rl K ι S H) (hm : ι.mu = D :: m) : Mv ι S.length H (ιu ι m) S.length H ∧ Rl K (ιu ι m) S H := by
  have mv : Mv ι S.length H (ιu ι m) S.length H := ⟨Nat.le_refl _, fun _ _ => rfl, fun a u h => ⟨h.at_, h.ne, fun z => h.mu (hm ▸ List.mem_cons_of_mem _ z)⟩⟩
  exact ⟨mv, rl.inj, fun l u e => (rl.obj l u e).mv mv rfl, fun a h => rl.mu a (hm ▸ List.mem_cons_of_mem _ h), fun l hl h => rl.mn l hl (hm ▸ List.mem_cons_of_mem _ h)⟩
theorem sim_lc {ci : MW (List W)} {g : MG} {t : MW Bool} {e : MV} {σ : L2.St} {H : Hp} {Q : VK} (h : tOf K E (mLc vs ci g t e) σ H Q) : tLc (tOfI K E ci) (tOfGw K E vs g) (tOfB K E t) (tOf K E e) vs σ H Q := by
  obtain ⟨ρ, ι, S, re, rl, h⟩ := h
  refine ⟨ρ, ι, S, re, rl, (Post.bind h).mono fun ws S1 ι1 H1 e1 rl1 h1 J hJ D hD => ?_⟩
  have re1 := re.mono e1
  obtain ⟨mv0, rl0⟩ := enter (o := .lst []) rl1 hD
  refine ⟨fun i m H => ∃ ι S acc accV, RE K ι S.length H (wipeE ρ vs) (L2.wipe σ vs) ∧ Rl K ι S H ∧ Mv ι1 S1.length H1 ι S.length H ∧ ι.mu = D :: ι1.mu ∧ (∀ a, a ∈ ι1.mu → H a = H1 a) ∧ H D = some (.lst accV) ∧ Reps K ι S.length H acc accV ∧ i + m = ws.length ∧
    Post K E (match mLcLoop g t e (wipeE ρ vs) (ws.drop i) acc S with
      | .stuck => Res.stuck
      | .err x S' => .err x S'
      | .ok ys S' => .ok (W.lst ys) S') ι1 S1.length H1 (fun w S' ι' H' => ∀ v, Rep K ι' S'.length H' w v → Q v H'), ?_, ?_⟩
  · exact ⟨ws.length, ιd ι1 D, S1, [], [], (re1.mv mv0).wipe vs, rl0, mv0, rfl, fun a h => upd_ne fun z => rl1.nmu hD (z ▸ h), upd_same, .nil, Nat.zero_add _, h1⟩
  · rintro i m H2 ⟨ι2, S2, acc, accV, re2, rl2, mv2, mu2, pr2, hD2, ra2, em, h2⟩
    -- Ext into a block's state, for what is walked
    have toExt : ∀ {ι3 : Im} {S3 : Sto} {H3 : Hp}, Rl K ι3 S3 H3 → Mv ι1 S1.length H1 ι3 S3.length H3 → ι3.mu = D :: ι1.mu → (∀ a, a ∈ ι1.mu → H3 a = H1 a) → Ext ι1 S1.length H1 (ιu ι3 ι1.mu) S3.length H3 ∧ Rl K (ιu ι3 ι1.mu) S3 H3 := fun {ι3 S3 H3} rl3 mv3 mu3 pr3 =>
      ⟨⟨mv3.trans (leave rl3 mu3).1, rfl, pr3⟩, (leave rl3 mu3).2⟩
    obtain ⟨ex2, rlu2⟩ := toExt rl2 mv2 mu2 pr2
    obtain ⟨hstop, hgo⟩ := hJ ι2 S2 H2 mv2 rl2
    by_cases hi : i < ws.length
    · right
      have ed : ws.drop i = ws[i] :: ws.drop (i + 1) := List.drop_eq_getElem_cons hi
      rw [ed] at h2
      obtain ⟨go, yl⟩ := hgo i ws[i] (List.getElem?_eq_getElem hi)
      refine ⟨go, fun H' => ∃ ι S acc accV, RE K ι S.length H' (wipeE ρ vs) (L2.wipe σ vs) ∧ Rl K ι S H' ∧ Mv ι1 S1.length H1 ι S.length H' ∧ ι.mu = D :: ι1.mu ∧ (∀ a, a ∈ ι1.mu → H' a = H1 a) ∧ H' D = some (.lst accV) ∧ Reps K ι S.length H' acc accV ∧
        Post K E (match mLcLoop g t e (wipeE ρ vs) (ws.drop (i + 1)) acc S with
          | .stuck => Res.stuck
          | .err x S' => .err x S'
          | .ok ys S' => .ok (W.lst ys) S') ι1 S1.length H1 (fun w S' ι' H' => ∀ v, Rep K ι' S'.length H' w v → Q v H'), ?_, ?_⟩
      · rintro H' ⟨ι3, S3, acc3, accV3, a1, a2, a3, a4, a5, a6, a7, a8⟩
        exact ⟨m - 1, by omega, ι3, S3, acc3, accV3, a1, a2, a3, a4, a5, a6, a7, by omega, a8⟩
      · intro x H3 hy
        obtain ⟨e3, rl3, rx3⟩ := yl x H3 hy
        have mD : D ∈ ι2.mu := by rw [mu2]; exact List.mem_cons_self
        have h3 : Post K E (match (match mLcTurn g t e ws[i] (wipeE ρ vs) S2 with
            | .stuck => Res.stuck
            | .err x S' => .err x S'
            | .ok (some y) S' => if acc.length < sizeLine then mLcLoop g t e (wipeE ρ vs) (ws.drop (i + 1)) (acc ++ [y]) S' else .stuck
            | .ok none S' => mLcLoop g t e (wipeE ρ vs) (ws.drop (i + 1)) acc S') with
          | .stuck => Res.stuck
          | .err x S' => .err x S'
          | .ok ys S' => .ok (W.lst ys) S') ι1 S1.length H1 (fun w S' ι' H' => ∀ v, Rep K ι' S'.length H' w v → Q v H') := h2
        -- a state of the block that is reached from this one
        have reach : ∀ {ι4 : Im} {S4 : Sto} {H4 : Hp}, Ext ι2 S2.length H3 ι4 S4.length H4 → Mv ι1 S1.length H1 ι4 S4.length H4 ∧ ι4.mu = D :: ι1.mu ∧ (∀ a, a ∈ ι1.mu → H4 a = H1 a) ∧ H4 D = some (.lst accV) ∧ Reps K ι4 S4.length H4 acc accV := fun {ι4 S4 H4} e4 => by
          refine ⟨(mv2.trans e3.toMv).trans e4.toMv, e4.mu.trans mu2, fun a h => ?_, ?_, (ra2.mono e3).mono e4⟩
          · have ha : a ∈ ι2.mu := by rw [mu2]; exact List.mem_cons_of_mem _ h
            rw [e4.pr a ha, e3.pr a ha]
            exact pr2 a h
          · rw [e4.pr D mD, e3.pr D mD]
            exact hD2
        refine ⟨ws[i], wipeE ρ vs, ι2, S2, rx3, re2.mono e3, rl3, ?_⟩
        unfold mLcTurn mThen at h3
        -- errors leave as they are
        have leaveErr : ∀ {y : Xn} {S' : Sto}, Post K E (Res.err (α := W) y S') ι1 S1.length H1 (fun w S' ι' H' => ∀ v, Rep K ι' S'.length H' w v → Q v H') → ∀ {ι4 : Im} {H4 : Hp}, Ext ι2 S2.length H3 ι4 S'.length H4 → Rl K ι4 S' H4 → ∀ C d, RepX K ι4 S'.length H4 y C d → E C d H4 := fun {y S'} hE {ι4 H4} e4 rl4 C d rx => by
          obtain ⟨m4, mu4, pr4, _, _⟩ := reach e4
          obtain ⟨ex4, rlu4⟩ := toExt rl4 m4 mu4 pr4
          refine hE _ H4 ex4 rlu4 C d ?_
          obtain ⟨x1, x2⟩ := rx
          refine ⟨x1, ?_⟩
          rcases x2 with x2 | ⟨a, us, x3, x4, x5⟩
          · exact .inl x2
          · exact .inr ⟨a, us, x3, (leave rl4 mu4).1.fz _ _ x4, x5.mv (leave rl4 mu4).1⟩
        cases q : g ws[i] (wipeE ρ vs) S2 with
        | stuck => rw [q] at h3; exact h3
        | err y S' => rw [q] at h3; exact fun ι4 H4 e4 rl4 C d rx => leaveErr h3 e4 rl4 C d rx
        | ok ρ4 S4 =>
          rw [q] at h3
          intro ι4 H4 e4 rl4 σ4 re4 hw4
          refine ⟨hw4.trans (by
            have z : ∀ (τ : L2.St) (us : List Nat), L2.wipe (L2.wipe τ us) us = L2.wipe τ us := fun τ us => by
              have key : ∀ (as : List Nat) (υ : L2.St), (∀ a, a ∈ as → υ[a]? = some none ∨ υ[a]? = none) → L2.wipe υ as = υ := by
                intro as
                induction as with
                | nil => intro υ _; rfl
                | cons a as ih =>
                  intro υ hυ
                  unfold L2.wipe
                  rw [ih υ fun b hb => hυ b (List.mem_cons_of_mem _ hb)]
                  rcases hυ a List.mem_cons_self with z | z
                  · obtain ⟨hl, hz⟩ := List.getElem?_eq_some_iff.mp z
                    rw [← hz, List.set_getElem_self]
                  · exact List.set_eq_of_length_le (by simpa using z)
              refine key us _ fun a ha => ?_
              cases r : (L2.wipe τ us)[a]? with
              | none => exact .inr rfl
              | some y =>
                cases y with
                | none => exact .inl rfl
                | some v => exact absurd ha (L2.wipe_some r).2
            exact z σ vs), ?_⟩
          unfold mBind at h3
          refine ⟨ρ4, ι4, S4, re4, rl4, ?_⟩
          cases q2 : t ρ4 S4 with
          | stuck => simp only [q2] at h3; exact h3
          | err y S' => simp only [q2] at h3; exact fun ι5 H5 e5 rl5 C d rx => leaveErr h3 (e4.trans e5) rl5 C d rx
          | ok b S5 =>
            simp only [q2] at h3
            intro ι5 H5 e5 rl5
            cases b with
            | false =>
              rw [if_neg Bool.false_ne_true]
              simp only [Bool.false_eq_true, if_false] at h3
              obtain ⟨m5, mu5, pr5, hD5, ra5⟩ := reach (e4.trans e5)
              exact ⟨ι5, S5, acc, accV, ((re2.mono e3).mono e4).mono e5, rl5, m5, mu5, pr5, hD5, ra5, h3⟩
            | true =>
              rw [if_pos rfl]
              simp only [if_true] at h3
              refine ⟨ρ4, ι5, S5, re4.mono e5, rl5, ?_⟩
              cases q3 : e ρ4 S5 with
              | stuck => simp only [q3] at h3; exact h3
              | err y S' => simp only [q3] at h3; exact fun ι6 H6 e6 rl6 C d rx => leaveErr h3 ((e4.trans e5).trans e6) rl6 C d rx
              | ok y S6 =>
                simp only [q3] at h3
                intro ι6 H6 e6 rl6 yv ry
                obtain ⟨m6, mu6, pr6, hD6, ra6⟩ := reach ((e4.trans e5).trans e6)
                by_cases hz : acc.length < sizeLine
                · rw [if_pos hz] at h3
                  refine ⟨accV, hD6, by rw [← ra6.length]; exact hz, ?_⟩
                  have mD6 : D ∈ ι6.mu := by rw [mu6]; exact List.mem_cons_self
                  obtain ⟨mv7, rl7⟩ := change (o := .lst (accV ++ [yv])) rl6 mD6
                  refine ⟨ι6, S6, acc ++ [y], accV ++ [yv], ((((re2.mono e3).mono e4).mono e5).mono e6).mv mv7, rl7, m6.trans mv7, mu6, fun a h => ?_, upd_same, (ra6.mv mv7).append (.cons (ry.mv mv7) .nil), h3⟩
                  rw [upd_ne (show a ≠ D from fun z => rl1.nmu hD (z ▸ h))]
                  exact pr6 a h
                · rw [if_neg hz] at h3
                  exact h3.elim
    · left
      have ei : i = ws.length := by omega
      subst ei
      rw [List.drop_length] at h2
      refine ⟨hstop, ?_⟩
      have h3 := h2 (ιu ι2 ι1.mu) H2 ex2 rlu2 (.ref D)
      refine h3 (.lst ⟨hD2, fun l hl z => rl2.mn l hl (mu2 ▸ z ▸ List.mem_cons_self), fun z => ?_⟩ (ra2.mv (leave rl2 mu2).1))
      exact rl1.nmu hD z
/-- [elt for tg in iter if ..] -/
theorem ce_lc {elt tg iter : Expr} {ifs : List Expr} {scope : Scope} {own : List (Str × Nat)} {pos : Pos} {ci : MW (List W)} {g : MG} {t : MW Bool} {e : MV} (hc : X.calm = true) (hN : X.N.Nodup) (ok : BlkOk X.N X.env.scope scope own) (hi : CI X E tg iter ci)
    (hg : ∀ (s : Shared) (H : Hp) (C : Addr) (cl : List (Str × Addr)) (fp : List Addr), CGw (X.blk s H scope (compEnvC scope cl C X.env) fp) E (own.map (·.2)) tg g)
    (ht : ∀ (s : Shared) (H : Hp) (C : Addr) (cl : List (Str × Addr)) (fp : List Addr), PTs (X.blk s H scope (compEnvC scope cl C X.env) fp) ifs (tOfB X.K E t))
    (he : ∀ (s : Shared) (H : Hp) (C : Addr) (cl : List (Str × Addr)) (fp : List Addr), CE (X.blk s H scope (compEnvC scope cl C X.env) fp) E elt e) (hs : ∀ x, foldedSetIterable iter X.env x = pure x := by intro _; rfl) :
    CE X E (.ListComp elt [⟨tg, iter, ifs, 0⟩] scope pos) (mLc (own.map (·.2)) ci g t e) :=
  PE.weak (pe_lc hc hN hi ok hg ht he hs) fun σ H Q h => sim_lc h
theorem cts_nil {Y : Cx} : PTs Y [] (tOfB K E mYes) := ⟨fun pins s σ H Q I ⟨ρ, ι, S, re, rl, h⟩ => pts_nil.run pins s σ H Q I (h ι H Ext.refl rl)⟩
theorem cts_one {Y : Cx} {c : Expr} {t : MW Bool} (h : PT Y c (tOfB K E t)) : PTs Y [c] (tOfB K E t) := pts_one h
/-- y = [elt for ..] on one line, y a local -/
theorem cs_setLc {i : Nat} {y : Str} {py : Pos} {elt tg iter : Expr} {ifs : List Expr} {scope : Scope} {own : List (Str × Nat)} {pos spos : Pos} {ci : MW (List W)} {g : MG} {t : MW Bool} {e : MV} (hc : X.calm = true) (hN : X.N.Nodup) (hy : X.N[i]? = some y) (hyl : X.env.scope.names.lookup y = some .local)
    (hsw : swapsWith (.ListComp elt [⟨tg, iter, ifs, 0⟩] scope pos) (some (.Name y py)) spos.line X.env = pure true) (ok : BlkOk X.N X.env.scope scope own) (hi : CI X E tg iter ci)
    (hg : ∀ (s : Shared) (H : Hp) (C : Addr) (cl : List (Str × Addr)) (fp : List Addr), CGw (X.blk s H scope (compEnvC scope cl C X.env) fp) E (own.map (·.2)) tg g)
    (ht : ∀ (s : Shared) (H : Hp) (C : Addr) (cl : List (Str × Addr)) (fp : List Addr), PTs (X.blk s H scope (compEnvC scope cl C X.env) fp) ifs (tOfB X.K E t))
    (he : ∀ (s : Shared) (H : Hp) (C : Addr) (cl : List (Str × Addr)) (fp : List Addr), CE (X.blk s H scope (compEnvC scope cl C X.env) fp) E elt e) (hs : ∀ x, foldedSetIterable iter X.env x = pure x := by intro _; rfl) :
    CS X E (.Assign [.Name y py] (.ListComp elt [⟨tg, iter, ifs, 0⟩] scope pos) spos) (mSet i (mLc (own.map (·.2)) ci g t e)) :=
  PS.weak (ps_setLc hc hN hy hyl hsw hi ok hg ht he hs) fun D σ H ⟨ρ, ι, S, re, rl, h⟩ => sim_lc ⟨ρ, ι, S, re, rl, (Post.bind h).mono fun w S1 ι1 H1 e1 rl1 h1 v rv => h1 ι1 H1 Ext.refl rl1 _ ((re.mono e1).set rv i)⟩
/-! ranges -/
def rngW (lo hi : Int) : List W := (List.range (hi - lo).toNat).map fun (k : Nat) => .int (lo + k)
def mRng1 (c : MW (List W)) : MW (List W) := mBind c fun ws => fun _ S => match ws with
  | [.int j] => if -(2 ^ 62) ≤ j ∧ j < 2 ^ 62 then .ok (rngW 0 j) S else .stuck
  | _ => .stuck
def mRng2 (c : MW (List W)) : MW (List W) := mBind c fun ws => fun _ S => match ws with
  | [.int i, .int j] => if -(2 ^ 62) ≤ i ∧ i < 2 ^ 62 ∧ -(2 ^ 62) ≤ j ∧ j < 2 ^ 62 then .ok (rngW i j) S else .stuck
  | _ => .stuck
theorem ci_range1 {tg a : Expr} {ta : MW (List W)} {p pos : Pos} (hg : Gl X "range") (hm : X.mg "range" = none) (ha : CA X E [a] ta) (hs : starEach [a] X.env = [(false, eval a X.env)] := by rfl) : CI X E tg (.Call (.Name "range" p) [a] [] pos) (mRng1 ta) :=
  PI.weak (pi_range1 hg hm ha hs) fun σ H R ⟨ρ, ι, S, re, rl, h⟩ => ⟨ρ, ι, S, re, rl, (Post.bind h).mono fun ws S1 ι1 H1 e1 rl1 h1 vs rvs => by
    cases rvs with
    | nil => exact h1.elim
    | cons a b =>
      cases b with
      | cons _ _ => cases a <;> exact h1.elim
      | nil =>
        cases a with
        | int j =>
          have h2 : Post X.K E (if -(2 ^ 62) ≤ j ∧ j < 2 ^ 62 then Res.ok (rngW 0 j) S1 else .stuck) ι1 S1.length H1 _ := h1
          by_cases z : -(2 ^ 62) ≤ j ∧ j < 2 ^ 62
          · rw [if_pos z] at h2
            refine ⟨j, rfl, z.1, z.2, h2 ι1 H1 Ext.refl rl1 _ ?_⟩
            have y := yl_range (K := X.K) (ι := ι1) (n := S1.length) (H := H1) 0 j.toNat
            rw [show j.toNat = (j - 0).toNat by rw [Int.sub_zero]] at y ⊢
            exact y
          · rw [if_neg z] at h2
            exact h2.elim
        | _ => exact h1.elim⟩
theorem ci_range2 {tg a b : Expr} {ta : MW (List W)} {p pos : Pos} (hg : Gl X "range") (hm : X.mg "range" = none) (ha : CA X E [a, b] ta) (hs : starEach [a, b] X.env = [(false, eval a X.env), (false, eval b X.env)] := by rfl) (hs2 : starEach [b] X.env = [(false, eval b X.env)] := by rfl) : CI X E tg (.Call (.Name "range" p) [a, b] [] pos) (mRng2 ta) :=
  PI.weak (pi_range2 hg hm ha hs hs2) fun σ H R ⟨ρ, ι, S, re, rl, h⟩ => ⟨ρ, ι, S, re, rl, (Post.bind h).mono fun ws S1 ι1 H1 e1 rl1 h1 vs rvs => by
    cases rvs with
    | nil => exact h1.elim
    | cons a b =>
      cases b with
      | nil => cases a <;> exact h1.elim
      | cons b c =>
        cases c with
        | cons _ _ => cases a <;> cases b <;> exact h1.elim
        | nil =>
          cases a with
          | int i =>
            cases b with
            | int j =>
              have h2 : Post X.K E (if -(2 ^ 62) ≤ i ∧ i < 2 ^ 62 ∧ -(2 ^ 62) ≤ j ∧ j < 2 ^ 62 then Res.ok (rngW i j) S1 else .stuck) ι1 S1.length H1 _ := h1
              by_cases z : -(2 ^ 62) ≤ i ∧ i < 2 ^ 62 ∧ -(2 ^ 62) ≤ j ∧ j < 2 ^ 62
              · rw [if_pos z] at h2
                exact ⟨i, j, rfl, z, h2 ι1 H1 Ext.refl rl1 _ (yl_range i (j - i).toNat)⟩
              · rw [if_neg z] at h2
                exact h2.elim
            | _ => exact h1.elim
          | _ => cases b <;> exact h1.elim⟩
end
end Mm

/-! The mirror layer: defs and their calls; what a def leaves behind. -/
namespace Mm
open PySem PySem.Spec PyProof.Rows L2
/-! ### leaving a def: what it made goes out of the store -/
mutual
/-- no object of the store from n on is named -/
def belW (n : Nat) : W → Bool
  | .loc l => decide (l < n)
  | .tup ws => belWs n ws
  | .lst ws => belWs n ws
  | .arr ws => belWs n ws
  | .dct _ ws => belWs n ws
  | .obj _ _ ws => belWs n ws
  | _ => true
def belWs (n : Nat) : List W → Bool
  | [] => true
  | w :: ws => belW n w && belWs n ws
end
def belO (n : Nat) : O → Bool
  | .lst ws => belWs n ws
  | .dct _ ws => belWs n ws
  | .ins _ _ ws => belWs n ws
mutual
/-- a value with the objects from n on written out -/
def frzW (S : Sto) (n : Nat) : Nat → W → Option W
  | 0, _ => none
  | k + 1, .loc l => if l < n then some (.loc l) else match S[l]? with
    | some (.lst ws) => (frzWs S n k ws).map .lst
    | some (.dct ks ws) => (frzWs S n k ws).map (.dct ks)
    | some (.ins C fs ws) => (frzWs S n k ws).map (.obj C fs)
    | none => none
  | k + 1, .tup ws => (frzWs S n k ws).map .tup
  | k + 1, .lst ws => (frzWs S n k ws).map .lst
  | k + 1, .arr ws => (frzWs S n k ws).map .arr
  | k + 1, .dct ks ws => (frzWs S n k ws).map (.dct ks)
  | k + 1, .obj C fs ws => (frzWs S n k ws).map (.obj C fs)
  | _ + 1, w => some w
def frzWs (S : Sto) (n : Nat) : Nat → List W → Option (List W)
  | _, [] => some []
  | 0, _ :: _ => none
  | k + 1, w :: ws => match frzW S n k w, frzWs S n k ws with
    | some u, some us => some (u :: us)
    | _, _ => none
end
/-- nothing in it is written out: it stays as it is -/
def finW (n : Nat) (w : W) (S : Sto) : Res W := if (S.take n).all (belO n) then
    (if belW n w then .ok w (S.take n) else match frzW S n 1000 w with
      | some u => .ok u (S.take n)
      | none => .stuck)
  else .stuck
section
variable {K : PySem.W.Frag} {ι : Im} {n m : Nat} {S : Sto} {H : Hp}
theorem Fz.less {a : Addr} {o : HO} (h : Fz ι m H a o) (le : n ≤ m) : Fz ι n H a o := ⟨h.at_, fun l hl => h.ne l (Nat.lt_of_lt_of_le hl le), h.mu⟩
theorem FzT.less {a : Addr} {xs : List V} (h : FzT K ι m H a xs) (le : n ≤ m) : FzT K ι n H a xs := by
  rcases h with (h | ⟨o, h⟩) | h
  · exact .inl (.inl (h.less le))
  · exact .inl (.inr ⟨o, h.less le⟩)
  · exact .inr h
theorem FzL.less {a : Addr} {xs : List V} (h : FzL K ι m H a xs) (le : n ≤ m) : FzL K ι n H a xs := by
  rcases h with ⟨o, h⟩ | h
  · exact .inl ⟨o, h.less le⟩
  · exact .inr h
mutual
theorem Rep.less (le : n ≤ m) : ∀ {w : W} {v : V}, belW n w = true → Rep K ι m H w v → Rep K ι n H w v
  | _, _, _, .non => .non
  | _, _, _, .bl b => .bl b
  | _, _, _, .int i => .int i
  | _, _, _, .str x => .str x
  | _, _, _, .ty x => .ty x
  | _, _, _, .glo x => .glo x
  | _, _, hb, .loc h => .loc (of_decide_eq_true (by unfold belW at hb; exact hb))
  | _, _, hb, .tup h r => .tup (h.less le) (Reps.less le (by unfold belW at hb; exact hb) r)
  | _, _, hb, .lst h r => .lst (h.less le) (Reps.less le (by unfold belW at hb; exact hb) r)
  | _, _, hb, .arr h r => .arr (h.less le) (Reps.less le (by unfold belW at hb; exact hb) r)
  | _, _, hb, .dct h hl r => .dct (h.less le) hl (Reps.less le (by unfold belW at hb; exact hb) r)
  | _, _, hb, .obj h hl r => .obj (h.less le) hl (Reps.less le (by unfold belW at hb; exact hb) r)
theorem Reps.less (le : n ≤ m) : ∀ {ws : List W} {vs : List V}, belWs n ws = true → Reps K ι m H ws vs → Reps K ι n H ws vs
  | _, _, _, .nil => .nil
  | _, _, hb, .cons h r => by
    unfold belWs at hb
    obtain ⟨h1, h2⟩ := Bool.and_eq_true_iff.mp hb
    exact .cons (Rep.less le h1 h) (Reps.less le h2 r)
end
theorem frzWs_len {S : Sto} {n : Nat} : ∀ {k : Nat} {ws us : List W}, frzWs S n k ws = some us → ws.length = us.length
  | k, [], us, h => by
    unfold frzWs at h
    cases h
    rfl
  | 0, w :: ws, us, h => by unfold frzWs at h; cases h
  | k + 1, w :: ws, us, h => by
    unfold frzWs at h
    cases q : frzW S n k w with
    | none => rw [q] at h; cases h
    | some u =>
      cases q2 : frzWs S n k ws with
      | none => rw [q, q2] at h; cases h
      | some us' =>
        rw [q, q2] at h
        cases h
        simp [frzWs_len q2]
theorem optMap {α β : Type} {o : Option α} {f : α → β} {b : β} (h : o.map f = some b) : ∃ a, o = some a ∧ f a = b := Option.map_eq_some_iff.mp h
mutual
theorem Rep.frz (rl : Rl K ι S H) (le : n ≤ S.length) : ∀ {k : Nat} {w u : W} {v : V}, frzW S n k w = some u → Rep K ι S.length H w v → Rep K ι n H u v
  | 0, w, u, v, h, _ => by unfold frzW at h; cases h
  | k + 1, w, u, v, h, r => by
    cases r with
    | non => unfold frzW at h; cases h; exact .non
    | bl b => unfold frzW at h; cases h; exact .bl b
    | int i => unfold frzW at h; cases h; exact .int i
    | str x => unfold frzW at h; cases h; exact .str x
    | ty x => unfold frzW at h; cases h; exact .ty x
    | glo x => unfold frzW at h; cases h; exact .glo x
    | @loc l hl =>
      unfold frzW at h
      by_cases z : l < n
      · rw [if_pos z] at h
        cases h
        exact .loc z
      · rw [if_neg z] at h
        have ne : ∀ i, i < n → ι i ≠ ι l := fun i hi e => z (by
          have := rl.inj i l (Nat.lt_of_lt_of_le hi le) hl e
          omega)
        split at h
        · rename_i ws q
          obtain ⟨us, h1, rfl⟩ := optMap h
          obtain ⟨xs, o1, o2⟩ := rl.obj l _ q
          exact .lst ⟨o1, ne, rl.mn l hl⟩ (Reps.frz rl le h1 o2)
        · rename_i ks ws q
          obtain ⟨us, h1, rfl⟩ := optMap h
          obtain ⟨xs, o1, o2, o3⟩ := rl.obj l _ q
          exact .dct ⟨o1, ne, rl.mn l hl⟩ (o2.trans (frzWs_len h1)) (Reps.frz rl le h1 o3)
        · rename_i C fs ws q
          obtain ⟨us, h1, rfl⟩ := optMap h
          obtain ⟨dx, xs, o1, o2, o3⟩ := rl.obj l _ q
          exact .obj ⟨o1, ne, rl.mn l hl⟩ (o2.trans (frzWs_len h1)) (Reps.frz rl le h1 o3)
        · cases h
    | tup hz r =>
      unfold frzW at h
      obtain ⟨us, h1, rfl⟩ := optMap h
      exact .tup (hz.less le) (Reps.frz rl le h1 r)
    | lst hz r =>
      unfold frzW at h
      obtain ⟨us, h1, rfl⟩ := optMap h
      exact .lst (hz.less le) (Reps.frz rl le h1 r)
    | arr hz r =>
      unfold frzW at h
      obtain ⟨us, h1, rfl⟩ := optMap h
      exact .arr (hz.less le) (Reps.frz rl le h1 r)
    | dct hz hl r =>
      unfold frzW at h
      obtain ⟨us, h1, rfl⟩ := optMap h
      exact .dct (hz.less le) (hl.trans (frzWs_len h1)) (Reps.frz rl le h1 r)
    | obj hz hl r =>
      unfold frzW at h
      obtain ⟨us, h1, rfl⟩ := optMap h
      exact .obj (hz.less le) (hl.trans (frzWs_len h1)) (Reps.frz rl le h1 r)
theorem Reps.frz (rl : Rl K ι S H) (le : n ≤ S.length) : ∀ {k : Nat} {ws us : List W} {vs : List V}, frzWs S n k ws = some us → Reps K ι S.length H ws vs → Reps K ι n H us vs
  | k, [], us, vs, h, r => by
    unfold frzWs at h
    cases h
    cases r
    exact .nil
  | 0, w :: ws, us, vs, h, _ => by unfold frzWs at h; cases h
  | k + 1, w :: ws, us, vs, h, r => by
    unfold frzWs at h
    cases q : frzW S n k w with
    | none => rw [q] at h; cases h
    | some u =>
      cases q2 : frzWs S n k ws with
      | none => rw [q, q2] at h; cases h
      | some us' =>
        rw [q, q2] at h
        cases h
        cases r with
        | cons a b => exact .cons (Rep.frz rl le q a) (Reps.frz rl le q2 b)
end
theorem Rl.take (rl : Rl K ι S H) (hb : (S.take n).all (belO n) = true) (le : n ≤ S.length) : Rl K ι (S.take n) H := by
  have hl : (S.take n).length = n := by rw [List.length_take]; omega
  refine ⟨fun i j hi hj => rl.inj i j (by omega) (by omega), fun i o e => ?_, rl.mu, fun i hi => rl.mn i (by omega)⟩
  have hi : i < n := by
    have := (List.getElem?_eq_some_iff.mp e).1
    omega
  have e2 : S[i]? = Option.some o := by rw [← e, List.getElem?_take_of_lt hi]
  have ho : belO n o = true := List.all_eq_true.mp hb o (List.mem_of_getElem? e)
  rw [hl]
  have z := rl.obj i o e2
  cases o with
  | lst ws => obtain ⟨xs, a, b⟩ := z; exact ⟨xs, a, b.less le ho⟩
  | dct ks ws => obtain ⟨xs, a, b, c⟩ := z; exact ⟨xs, a, b, c.less le ho⟩
  | ins C fs ws => obtain ⟨dx, xs, a, b, c⟩ := z; exact ⟨dx, xs, a, b, c.less le ho⟩
/-- behind the leaving -/
theorem sim_fin {E : XK} {Q : VK} {w : W} {v : V} {ι0 : Im} {H0 : Hp} (rl : Rl K ι S H) (e : Ext ι0 n H0 ι S.length H) (r : Rep K ι S.length H w v) (h : PostV K E (finW n w S) ι0 n H0 Q) : Q v H := by
  unfold finW at h
  by_cases hb : (S.take n).all (belO n) = true
  · rw [if_pos hb] at h
    have hl : (S.take n).length = n := by rw [List.length_take]; have := e.le; omega
    have e' : Ext ι0 n H0 ι (S.take n).length H := by
      rw [hl]
      exact ⟨⟨Nat.le_refl _, e.io, fun a o z => (e.fz a o z).less e.le⟩, e.mu, e.pr⟩
    have rl' := rl.take hb e.le
    by_cases hw : belW n w = true
    · rw [if_pos hw] at h
      exact h ι H e' rl' v (by rw [hl]; exact r.less e.le hw)
    · rw [if_neg hw] at h
      cases q : frzW S n 1000 w with
      | none => rw [q] at h; exact h.elim
      | some u => rw [q] at h; exact h ι H e' rl' v (by rw [hl]; exact r.frz rl e.le q)
  · rw [if_neg hb] at h
    exact h.elim
end
/-! ### a def -/
def slots (N : Nat) (ws : List W) : Env := ws.map some ++ List.replicate (N - ws.length) none
def mDef (N : Nat) (c : MS) : MF := fun ws S => match c (slots N ws) S with
  | .stuck => .stuck
  | .err x S' => .err x S'
  | .ok (.ret w, _) S' => finW S.length w S'
  | .ok (.next, _) S' => finW S.length .non S'
  | .ok _ _ => .stuck
/-- .. whose new objects stay in the store -/
def mDefK (N : Nat) (c : MS) : MF := fun ws S => match c (slots N ws) S with
  | .stuck => .stuck
  | .err x S' => .err x S'
  | .ok (.ret w, _) S' => .ok w S'
  | .ok (.next, _) S' => .ok .non S'
  | .ok _ _ => .stuck
/-- a def that raises nothing -/
def sp0 (K : PySem.W.Frag) (n : Nat) (m : MF) : Sp := fun vs H Q _ => vs.length = n ∧ ∃ ws ι S, Reps K ι S.length H ws vs ∧ Rl K ι S H ∧ PostV K E0 (m ws S) ι S.length H Q
structure FM (P : Program) (w : World) (K : PySem.W.Frag) (mg : Str → Option Value) (base : Heap) (k : Nat) (x : Str) (n : Nat) (m : MF) : Prop where
  ex : ∃ fd ps, ps.length = n ∧ FnOk P w K mg base CX0 k (He.ga K x) fd ps (sp0 K n m) ∧ Binds K fd ps []
  gl : mg x = some (.ref (He.ga K x))
  kp : PySem.W.keepIn K (.ref (He.ga K x)) = true
section
variable {P : Program} {w : World} {K : PySem.W.Frag} {mg : Str → Option Value} {base : Heap} {x : Str} {n k : Nat} {m : MF}
theorem RE.start {ι : Im} {H : Hp} {ws : List W} {vs : List V} {N : List Str} {S : Sto} (r : Reps K ι S.length H ws vs) : RE K ι S.length H (slots N.length ws) (L2.start N vs) := by
  have hl := r.length
  refine ⟨by unfold slots L2.start; simp [hl], fun i w q => ?_⟩
  unfold slots at q
  unfold L2.start
  by_cases h : i < ws.length
  · rw [List.getElem?_append_left (by simpa using h), List.getElem?_map] at q
    obtain ⟨u, e, q⟩ := Option.map_eq_some_iff.mp q
    cases q
    obtain ⟨v, ev, rv⟩ := r.get e
    refine ⟨v, ?_, rv⟩
    rw [List.getElem?_append_left (by rw [List.length_map, ← hl]; exact h), List.getElem?_map, ev]
    rfl
  · rw [List.getElem?_append_right (by simpa using h)] at q
    have := List.mem_of_getElem? q
    rw [List.mem_replicate] at this
    exact nomatch this.2
/-- the end of a def's body, for both kinds of leaving -/
theorem sim_def {E : XK} {Q : VK} {vs : List V} {ws : List W} {ι : Im} {S : Sto} {H : Hp} {N : List Str} {c : MS} (r : Reps K ι S.length H ws vs) (rl : Rl K ι S H) (h : PostV K E (mDef N.length c ws S) ι S.length H Q) :
    tOfS K E c { nx := fun _ H' => Q .non H', rt := Q } (L2.start N vs) H := by
  refine ⟨_, ι, S, RE.start r, rl, ?_⟩
  unfold mDef at h
  cases q : c (slots N.length ws) S with
  | stuck => rw [q] at h; exact h
  | err y S' => rw [q] at h; exact h
  | ok p S' =>
    rw [q] at h
    obtain ⟨f, ρ⟩ := p
    cases f with
    | next => exact fun ι' H' e' rl' σ' re' => sim_fin rl' e' .non h
    | ret u => exact fun ι' H' e' rl' σ' re' v rv => sim_fin rl' e' rv h
    | brk => exact h.elim
    | cont => exact h.elim
theorem sim_defK {E : XK} {Q : VK} {vs : List V} {ws : List W} {ι : Im} {S : Sto} {H : Hp} {N : List Str} {c : MS} (r : Reps K ι S.length H ws vs) (rl : Rl K ι S H) (h : PostV K E (mDefK N.length c ws S) ι S.length H Q) :
    tOfS K E c { nx := fun _ H' => Q .non H', rt := Q } (L2.start N vs) H := by
  refine ⟨_, ι, S, RE.start r, rl, ?_⟩
  unfold mDefK at h
  cases q : c (slots N.length ws) S with
  | stuck => rw [q] at h; exact h
  | err y S' => rw [q] at h; exact h
  | ok p S' =>
    rw [q] at h
    obtain ⟨f, ρ⟩ := p
    cases f with
    | next => exact fun ι' H' e' rl' σ' re' => h ι' H' e' rl' _ .non
    | ret u => exact fun ι' H' e' rl' σ' re' v rv => h ι' H' e' rl' v rv
    | brk => exact h.elim
    | cont => exact h.elim
/-- THE RULE for a def: from its body's mirror to its promise -/
theorem fm_of {params : Arguments} {body : List Stmt} {scope : Scope} {fd : FuncData} {N ps : List Str} {c : MS} (F : FunD K x x params body scope [] [] (He.ga K x) fd) (gl : mg x = some (.ref (He.ga K x))) (S : FnScope N ps scope) (bd : Binds K fd ps [])
    (hbody : ∀ (cdv : Value) (A : Around) (outer : List PySem.Env) (s : Shared) (H : Hp) (E : XK), Room k (A.deeper (envOfC x scope s.heap.objs.size (He.ga K x) cdv)) →
      CSs (cxOf CX0 P w K mg base N x scope (He.ga K x) cdv A outer s H E).nox E0 body c) : FM P w K mg base (k + 1) x ps.length (mDef N.length c) := by
  refine ⟨⟨fd, ps, rfl, ?_, bd⟩, gl, F.kp⟩
  refine F.ok S (fun vs H Q E h => h.1) fun cdv A outer s H vs Q E hr h => ?_
  obtain ⟨hl, ws, ι, S, r, rl, h⟩ := h
  exact ⟨_, PSs.nox (hbody cdv A outer s H E hr), sim_def r rl h⟩
theorem fm_ofK {params : Arguments} {body : List Stmt} {scope : Scope} {fd : FuncData} {N ps : List Str} {c : MS} (F : FunD K x x params body scope [] [] (He.ga K x) fd) (gl : mg x = some (.ref (He.ga K x))) (S : FnScope N ps scope) (bd : Binds K fd ps [])
    (hbody : ∀ (cdv : Value) (A : Around) (outer : List PySem.Env) (s : Shared) (H : Hp) (E : XK), Room k (A.deeper (envOfC x scope s.heap.objs.size (He.ga K x) cdv)) →
      CSs (cxOf CX0 P w K mg base N x scope (He.ga K x) cdv A outer s H E).nox E0 body c) : FM P w K mg base (k + 1) x ps.length (mDefK N.length c) := by
  refine ⟨⟨fd, ps, rfl, ?_, bd⟩, gl, F.kp⟩
  refine F.ok S (fun vs H Q E h => h.1) fun cdv A outer s H vs Q E hr h => ?_
  obtain ⟨hl, ws, ι, S, r, rl, h⟩ := h
  exact ⟨_, PSs.nox (hbody cdv A outer s H E hr), sim_defK r rl h⟩
end
section
variable {X : Cx} {x : Str} {n k : Nat} {m : MF} {e : Expr} {es : List Expr} {t : MW (List W)}
theorem ce_call {p pos : Pos} (F : FM X.prog X.w X.K X.mg X.base k x n m) (hr : Room k X.A) (hg : Gl X x) (ha : CA X E0 (e :: es) t) (hdb : (x == ("__debug__" : Str)) = false := by decide) (he : starEach (e :: es) X.env = (false, eval e X.env) :: starEach es X.env := by rfl) (hpl : (backTo pos (starEach es X.env)).any (·.1) = false := by rfl) :
    CE X E0 (.Call (.Name x p) (e :: es) [] pos) (mCall n m t) := by
  obtain ⟨⟨fd, ps, hn, ok, bd⟩, gl, kp⟩ := F
  refine PE.weak (pe_call ok hr hg gl kp bd .nil pass0 ha hdb he hpl) fun σ H Q ⟨ρ, ι, S, re, rl, h⟩ => ?_
  refine ⟨ρ, ι, S, re, rl, (Post.bind h).mono fun ws S1 ι1 H1 e1 rl1 h1 vs rvs => ?_⟩
  by_cases z : ws.length = n
  · rw [if_pos z] at h1
    rw [List.append_nil]
    exact ⟨by rw [← rvs.length]; exact z, ws, ι1, S1, rvs, rl1, h1⟩
  · rw [if_neg z] at h1
    exact h1.elim
theorem ce_call0 {p pos : Pos} (F : FM X.prog X.w X.K X.mg X.base k x 0 m) (hr : Room k X.A) (hg : Gl X x) (hdb : (x == ("__debug__" : Str)) = false := by decide) : CE X E0 (.Call (.Name x p) [] [] pos) (mCall 0 m mNil) := by
  obtain ⟨⟨fd, ps, hn, ok, bd⟩, gl, kp⟩ := F
  refine PE.weak (pe_call0 ok hr hg gl kp bd .nil pass0 hdb) fun σ H Q ⟨ρ, ι, S, re, rl, h⟩ => ?_
  exact ⟨rfl, [], ι, S, .nil, rl, h⟩
/-- a call of the def that a slot holds, one of some -/
def mCallA (i n : Nat) (fs : List (Str × MF)) (t : MW (List W)) : MV := mBind (mVar i) fun f => match f with
  | .glo x => (match fs.lookup x with
    | some m => mBind t fun ws => fun _ S => if ws.length = n then m ws S else .stuck
    | none => fun _ _ => .stuck)
  | _ => fun _ _ => .stuck
theorem ce_callA {i : Nat} {fs : List (Str × MF)} {p pos : Pos} (F : ∀ y m, fs.lookup y = some m → FM X.prog X.w X.K X.mg X.base k y n m) (hr : Room k X.A) (ha : CA X E0 (e :: es) t) (hN : X.N[i]? = some x := by rfl) (hv : Vis X.env.scope x := by first | exact Or.inl rfl | exact Or.inr (Or.inl rfl) | exact Or.inr (Or.inr rfl))
    (hdb : (x == ("__debug__" : Str)) = false := by decide) (hcd : (x == ("__classdict__" : Str)) = false := by decide) (he : starEach (e :: es) X.env = (false, eval e X.env) :: starEach es X.env := by rfl) (hpl : (backTo pos (starEach es X.env)).any (·.1) = false := by rfl) :
    CE X E0 (.Call (.Name x p) (e :: es) [] pos) (mCallA i n fs t) := by
  refine ⟨fun pins s σ H Q I ⟨ρ, ι, S, re, rl, h⟩ => ?_⟩
  have h1 := Post.bind h
  unfold mVar at h1
  split at h1
  · rename_i w q
    obtain ⟨v, ev, rv⟩ := re.at_ i w q
    have h2 := h1 ι H Ext.refl rl
    cases rv with
    | glo y =>
      have h3 : Post X.K E0 ((match fs.lookup y with
        | some m => mBind t fun ws => fun _ S => if ws.length = n then m ws S else .stuck
        | none => fun _ _ => .stuck) ρ S) ι S.length H _ := h2
      cases ql : fs.lookup y with
      | none => rw [ql] at h3; exact h3.elim
      | some m' =>
        rw [ql] at h3
        obtain ⟨⟨fd, ps, hn, ok, bd⟩, gl, kp⟩ := F y m' ql
        refine (pe_callL (i := i) (f := He.ga X.K y) (dvs := []) ok hr hN hv kp bd .nil pass0 ha hdb hcd he hpl).run pins s σ H Q I ⟨ev, ?_⟩
        refine ⟨ρ, ι, S, re, rl, (Post.bind h3).mono fun ws S1 ι1 H1 e1 rl1 h4 vs rvs => ?_⟩
        by_cases z : ws.length = n
        · rw [if_pos z] at h4
          rw [List.append_nil]
          exact ⟨by rw [← rvs.length]; exact z, ws, ι1, S1, rvs, rl1, h4⟩
        · rw [if_neg z] at h4
          exact h4.elim
    | _ => exact h2.elim
  · exact h1.elim
end
end Mm

/-! The mirror layer: the built-in operations. -/
namespace Mm
open PySem PySem.Spec PyProof.Rows L2
section
variable {K : PySem.W.Frag} {E : XK}
/-! ### numbers -/
def fSub : W → W → Sto → Res W
  | .int i, .int j, S => .ok (.int (i - j)) S
  | _, _, _ => .stuck
def fMod : W → W → Sto → Res W
  | .int i, .int j, S => if 0 < j then .ok (.int (i % j)) S else .stuck
  | _, _, _ => .stuck
def fDiv : W → W → Sto → Res W
  | .int i, .int j, S => if 0 < j ∧ j < 1073741824 then .ok (.int (i / j)) S else .stuck
  | _, _, _ => .stuck
def fPow : W → W → Sto → Res W
  | .int i, .int j, S => if 0 ≤ j ∧ j ≤ 1000000 ∧ i.natAbs < 2 ^ 64 then .ok (.int (i ^ j.toNat)) S else .stuck
  | _, _, _ => .stuck
def fNeg : W → Sto → Res W
  | .int i, S => .ok (.int (-i)) S
  | _, _ => .stuck
def fLt : W → W → Sto → Res W
  | .int i, .int j, S => .ok (.bl (decide (i < j))) S
  | _, _, _ => .stuck
def fLe : W → W → Sto → Res W
  | .int i, .int j, S => .ok (.bl (decide (i ≤ j))) S
  | _, _, _ => .stuck
def fGt : W → W → Sto → Res W
  | .int i, .int j, S => .ok (.bl (decide (j < i))) S
  | _, _, _ => .stuck
def fGe : W → W → Sto → Res W
  | .int i, .int j, S => .ok (.bl (decide (j ≤ i))) S
  | _, _, _ => .stuck
theorem sim_I0 {g : Int → Int → V} {gW : Int → Int → W} {f : W → W → Sto → Res W} (hf : ∀ i j S, f (.int i) (.int j) S = .ok (gW i j) S) (hn : ∀ x y S, (∀ i j, ¬ (x = .int i ∧ y = .int j)) → f x y S = .stuck) (hr : ∀ i j ι n H, Rep K ι n H (gW i j) (g i j)) : SimR K E (rI0 g) f := by
  intro x y xv yv ι S H Q rl rx ry h
  cases rx with
  | int i =>
    cases ry with
    | int j => rw [hf] at h; exact ⟨i, j, rfl, rfl, PostV.now h rl (hr i j _ _ _)⟩
    | _ => rw [hn _ _ _ (by rintro i j ⟨_, e⟩; cases e)] at h; exact h.elim
  | _ => rw [hn _ _ _ (by rintro i j ⟨e, _⟩; cases e)] at h; exact h.elim
theorem sim_I {C : Int → Int → Prop} {g : Int → Int → V} {gW : Int → Int → W} {f : W → W → Sto → Res W} (hf : ∀ i j S, f (.int i) (.int j) S = .stuck ∨ (C i j ∧ f (.int i) (.int j) S = .ok (gW i j) S)) (hn : ∀ x y S, (∀ i j, ¬ (x = .int i ∧ y = .int j)) → f x y S = .stuck) (hr : ∀ i j ι n H, Rep K ι n H (gW i j) (g i j)) : SimR K E (rI C g) f := by
  intro x y xv yv ι S H Q rl rx ry h
  cases rx with
  | int i =>
    cases ry with
    | int j =>
      rcases hf i j S with q | ⟨c, q⟩
      · rw [q] at h; exact h.elim
      · rw [q] at h; exact ⟨i, j, rfl, rfl, c, PostV.now h rl (hr i j _ _ _)⟩
    | _ => rw [hn _ _ _ (by rintro i j ⟨_, e⟩; cases e)] at h; exact h.elim
  | _ => rw [hn _ _ _ (by rintro i j ⟨e, _⟩; cases e)] at h; exact h.elim
theorem no_int2 {f : W → W → Sto → Res W} (h1 : ∀ i y S, (∀ j, y ≠ .int j) → f (.int i) y S = .stuck) (h2 : ∀ x y S, (∀ i, x ≠ .int i) → f x y S = .stuck) : ∀ x y S, (∀ i j, ¬ (x = .int i ∧ y = .int j)) → f x y S = .stuck := by
  intro x y S h
  by_cases e : ∃ i, x = .int i
  · obtain ⟨i, rfl⟩ := e
    exact h1 i y S fun j e => h i j ⟨rfl, e⟩
  · exact h2 x y S fun i q => e ⟨i, q⟩
theorem sim_sub : SimR K E (rI0 fun i j => .int (i - j)) fSub := sim_I0 (fun _ _ _ => rfl) (no_int2 (fun i y S h => by cases y <;> first | rfl | exact absurd rfl (h _)) (fun x y S h => by cases x <;> first | rfl | exact absurd rfl (h _))) fun i j _ _ _ => .int _
theorem sim_lt : SimR K E (rI0 fun i j => .bl (decide (i < j))) fLt := sim_I0 (fun _ _ _ => rfl) (no_int2 (fun i y S h => by cases y <;> first | rfl | exact absurd rfl (h _)) (fun x y S h => by cases x <;> first | rfl | exact absurd rfl (h _))) fun i j _ _ _ => .bl _
theorem sim_le : SimR K E (rI0 fun i j => .bl (decide (i ≤ j))) fLe := sim_I0 (fun _ _ _ => rfl) (no_int2 (fun i y S h => by cases y <;> first | rfl | exact absurd rfl (h _)) (fun x y S h => by cases x <;> first | rfl | exact absurd rfl (h _))) fun i j _ _ _ => .bl _
theorem sim_gt : SimR K E (rI0 fun i j => .bl (decide (j < i))) fGt := sim_I0 (fun _ _ _ => rfl) (no_int2 (fun i y S h => by cases y <;> first | rfl | exact absurd rfl (h _)) (fun x y S h => by cases x <;> first | rfl | exact absurd rfl (h _))) fun i j _ _ _ => .bl _
theorem sim_ge : SimR K E (rI0 fun i j => .bl (decide (j ≤ i))) fGe := sim_I0 (fun _ _ _ => rfl) (no_int2 (fun i y S h => by cases y <;> first | rfl | exact absurd rfl (h _)) (fun x y S h => by cases x <;> first | rfl | exact absurd rfl (h _))) fun i j _ _ _ => .bl _
theorem sim_mod : SimR K E (rI (fun _ j => 0 < j) fun i j => .int (i % j)) fMod := sim_I (gW := fun i j => .int (i % j)) (fun i j S => by
    by_cases z : 0 < j
    · exact .inr ⟨z, if_pos z⟩
    · exact .inl (if_neg z)) (no_int2 (fun i y S h => by cases y <;> first | rfl | exact absurd rfl (h _)) (fun x y S h => by cases x <;> first | rfl | exact absurd rfl (h _))) fun i j _ _ _ => .int _
theorem sim_div : SimR K E (rI CDiv fun i j => .int (i / j)) fDiv := sim_I (gW := fun i j => .int (i / j)) (fun i j S => by
    by_cases z : 0 < j ∧ j < 1073741824
    · exact .inr ⟨z, if_pos z⟩
    · exact .inl (if_neg z)) (no_int2 (fun i y S h => by cases y <;> first | rfl | exact absurd rfl (h _)) (fun x y S h => by cases x <;> first | rfl | exact absurd rfl (h _))) fun i j _ _ _ => .int _
theorem sim_pow : SimR K E (rI CPow fun i j => .int (i ^ j.toNat)) fPow := sim_I (gW := fun i j => .int (i ^ j.toNat)) (fun i j S => by
    by_cases z : 0 ≤ j ∧ j ≤ 1000000 ∧ i.natAbs < 2 ^ 64
    · exact .inr ⟨z, if_pos z⟩
    · exact .inl (if_neg z)) (no_int2 (fun i y S h => by cases y <;> first | rfl | exact absurd rfl (h _)) (fun x y S h => by cases x <;> first | rfl | exact absurd rfl (h _))) fun i j _ _ _ => .int _
theorem sim_neg : SimU K E (rU fun i => .int (-i)) fNeg := by
  intro x xv ι S H Q rl rx h
  cases rx with
  | int i => exact ⟨i, rfl, PostV.now h rl (.int _)⟩
  | _ => exact h.elim
/-! ### + -/
def fAdd (x y : W) (S : Sto) : Res W := match x, y with
  | .int i, .int j => .ok (.int (i + j)) S
  | .str a, .str b => if a.length + b.length ≤ sizeLine then .ok (.str (a ++ b)) S else .stuck
  | .tup a, .tup b => if a.length + b.length ≤ sizeLine then .ok (.tup (a ++ b)) S else .stuck
  | _, _ => match seqO S x, seqO S y with
    | some a, some b => if a.length + b.length ≤ sizeLine then .ok (.lst (a ++ b)) S else .stuck
    | _, _ => .stuck
def rAddA (K : PySem.W.Frag) : R2 := rOr (rI0 fun i j => .int (i + j)) (rOr (fun x y H Q => ∃ i j, x = .str i ∧ y = .str j ∧ i.length + j.length ≤ sizeLine ∧ Q (.str (i ++ j)) H) (rOr (rCatA K) rCat))
theorem op_addA {X : Cx} : OpR X (binaryOp .Add) (rAddA X.K) := opr_or op_add (opr_or op_add_str (opr_or op_catA op_cat))
theorem sim_catO {x y : W} {xv yv : V} {ι : Im} {S : Sto} {H : Hp} {Q : VK} (rl : Rl K ι S H) (rx : Rep K ι S.length H x xv) (ry : Rep K ι S.length H y yv) (h : PostV K E (match seqO S x, seqO S y with
    | some a, some b => if a.length + b.length ≤ sizeLine then Res.ok (.lst (a ++ b)) S else .stuck
    | _, _ => .stuck) ι S.length H Q) : rCat xv yv H Q := by
  cases q1 : seqO S x with
  | none => rw [q1] at h; exact h.elim
  | some a =>
    cases q2 : seqO S y with
    | none => rw [q1, q2] at h; exact h.elim
    | some b =>
      rw [q1, q2] at h
      have h' : PostV K E (if a.length + b.length ≤ sizeLine then Res.ok (.lst (a ++ b)) S else .stuck) ι S.length H Q := h
      by_cases z : a.length + b.length ≤ sizeLine
      · rw [if_pos z] at h'
        obtain ⟨p, xs, rfl, hx, r1⟩ := seqO_ok rl q1 rx
        obtain ⟨p2, ys, rfl, hy, r2⟩ := seqO_ok rl q2 ry
        exact ⟨p, p2, xs, ys, rfl, rfl, hx, hy, by rw [← r1.length, ← r2.length]; exact z, PostV.newL h' rl (r1.append r2)⟩
      · rw [if_neg z] at h'
        exact h'.elim
theorem sim_add : SimR K E (rAddA K) fAdd := by
  intro x y xv yv ι S H Q rl rx ry h
  have other : rCat xv yv H Q → rAddA K xv yv H Q := fun z => .inr (.inr (.inr z))
  cases rx with
  | int i =>
    cases ry with
    | int j => exact .inl ⟨i, j, rfl, rfl, PostV.now h rl (.int _)⟩
    | _ => exact h.elim
  | str a =>
    cases ry with
    | str b =>
      have h' : PostV K E (if a.length + b.length ≤ sizeLine then Res.ok (.str (a ++ b)) S else .stuck) ι S.length H Q := h
      by_cases z : a.length + b.length ≤ sizeLine
      · rw [if_pos z] at h'
        exact .inr (.inl ⟨a, b, rfl, rfl, z, PostV.now h' rl (.str _)⟩)
      · rw [if_neg z] at h'
        exact h'.elim
    | _ => exact h.elim
  | @tup ws a xs hz r =>
    cases ry with
    | @tup us b ys hz2 r2 =>
      have h' : PostV K E (if ws.length + us.length ≤ sizeLine then Res.ok (.tup (ws ++ us)) S else .stuck) ι S.length H Q := h
      by_cases z : ws.length + us.length ≤ sizeLine
      · rw [if_pos z] at h'
        refine .inr (.inr (.inl ⟨a, b, xs, ys, rfl, rfl, hz.sq, hz2.sq, by rw [← r.length, ← r2.length]; exact z, fun e => ?_, fun e e2 => ?_, fun _ _ => PostV.newT h' rl (r.append r2)⟩))
        · subst e
          cases r
          exact PostV.now h' rl (.tup hz2 r2)
        · subst e2
          cases r2
          rw [List.append_nil] at h'
          exact PostV.now h' rl (.tup hz r)
      · rw [if_neg z] at h'
        exact h'.elim
    | _ => exact h.elim
  | @loc l hl => cases ry <;> exact other (sim_catO rl (.loc hl) (by first | exact .non | exact .bl _ | exact .int _ | exact .str _ | exact .ty _ | exact .glo _ | exact .loc (by assumption) | exact .tup (by assumption) (by assumption) | exact .lst (by assumption) (by assumption) | exact .arr (by assumption) (by assumption) | exact .dct (by assumption) (by assumption) (by assumption) | exact .obj (by assumption) (by assumption) (by assumption)) h)
  | @lst ws a xs hz r => cases ry <;> exact other (sim_catO rl (.lst hz r) (by first | exact .non | exact .bl _ | exact .int _ | exact .str _ | exact .ty _ | exact .glo _ | exact .loc (by assumption) | exact .tup (by assumption) (by assumption) | exact .lst (by assumption) (by assumption) | exact .arr (by assumption) (by assumption) | exact .dct (by assumption) (by assumption) (by assumption) | exact .obj (by assumption) (by assumption) (by assumption)) h)
  | _ => exact h.elim
/-! ### * -/
def repS (x : Str) (n : Nat) : Str := ⟨(List.replicate n x.cps).foldl (· ++ ·) #[]⟩
def fMul (x y : W) (S : Sto) : Res W := match x, y with
  | .int i, .int j => if (-(2 ^ 64) < i ∧ i < 2 ^ 64) ∨ (-(2 ^ 64) < j ∧ j < 2 ^ 64) then .ok (.int (i * j)) S else .stuck
  | .str a, .int j => if 2 ≤ j ∧ j ≤ 100000 ∧ 1 ≤ a.length ∧ a.length ≤ 100 then .ok (.str (repS a j.toNat)) S else .stuck
  | _, _ => .stuck
def rMulS : R2 := fun x y H Q => ∃ (a : Str) (j : Int), x = .str a ∧ y = .int j ∧ (2 ≤ j ∧ j ≤ 100000 ∧ 1 ≤ a.length ∧ a.length ≤ 100) ∧ Q (.str (repS a j.toNat)) H
theorem op_mulS {X : Cx} : OpR X (binaryOp .Mult) rMulS := by
  intro pins s σ H x y v u Q I rx ry h
  obtain ⟨a, j, rfl, rfl, ⟨h1, h2, h3, h4⟩, q⟩ := h
  obtain ⟨t, rfl⟩ := rx
  obtain ⟨t', rfl⟩ := ry
  have hz : a.length * j.toNat ≤ 100 * 100000 := Nat.mul_le_mul h4 (by omega)
  have hl : Builtin.Str.tooLong (a.length * j.toNat) = false := decide_eq_false (by
    show ¬ (a.length * j.toNat > sizeLine)
    have : (100 * 100000 : Nat) ≤ sizeLine := by decide
    omega)
  have n1 : ¬ j < 1 := by omega
  have n2 : (j == 1 || a.length == 0) = false := by
    have e1 : (j == 1) = false := beq_eq_false_iff_ne.mpr (by omega)
    have e2 : (a.length == 0) = false := beq_eq_false_iff_ne.mpr (by omega)
    rw [e1, e2]
    rfl
  refine PySem.P.mul_str ?_ (fun _ _ => ?_) (fun _ _ => hl) ?_
  · rw [decide_eq_false (by omega), decide_eq_false (by omega)]
    rfl
  · intro hgt
    have h5 : (a.length : Int) * j ≤ 100 * 100000 := by
      have : ((a.length * j.toNat : Nat) : Int) ≤ ((100 * 100000 : Nat) : Int) := Int.ofNat_le.mpr hz
      rw [Int.natCast_mul, Int.toNat_of_nonneg (by omega)] at this
      exact this
    have h6 : (2 ^ 63 - 1) / j < (a.length : Int) := hgt
    have h7 : (2 ^ 63 - 1 : Int) < (a.length : Int) * j := Int.lt_mul_of_ediv_lt (by omega) h6
    omega
  · rw [if_neg n1, n2, if_neg Bool.false_ne_true]
    exact ⟨fits_reps hl, .str (repS a j.toNat), H, I.tok _, ⟨_, rfl⟩, q⟩
theorem sim_mul : SimR K E (rOr (rI CMul fun i j => .int (i * j)) rMulS) fMul := by
  intro x y xv yv ι S H Q rl rx ry h
  cases rx with
  | int i =>
    cases ry with
    | int j =>
      have h' : PostV K E (if (-(2 ^ 64) < i ∧ i < 2 ^ 64) ∨ (-(2 ^ 64) < j ∧ j < 2 ^ 64) then Res.ok (.int (i * j)) S else .stuck) ι S.length H Q := h
      by_cases z : (-(2 ^ 64) < i ∧ i < 2 ^ 64) ∨ (-(2 ^ 64) < j ∧ j < 2 ^ 64)
      · rw [if_pos z] at h'
        exact .inl ⟨i, j, rfl, rfl, z, PostV.now h' rl (.int _)⟩
      · rw [if_neg z] at h'
        exact h'.elim
    | _ => exact h.elim
  | str a =>
    cases ry with
    | int j =>
      have h' : PostV K E (if 2 ≤ j ∧ j ≤ 100000 ∧ 1 ≤ a.length ∧ a.length ≤ 100 then Res.ok (.str (repS a j.toNat)) S else .stuck) ι S.length H Q := h
      by_cases z : 2 ≤ j ∧ j ≤ 100000 ∧ 1 ≤ a.length ∧ a.length ≤ 100
      · rw [if_pos z] at h'
        exact .inr ⟨a, j, rfl, rfl, z, PostV.now h' rl (.str _)⟩
      · rw [if_neg z] at h'
        exact h'.elim
    | _ => exact h.elim
  | _ => exact h.elim
theorem op_mulA {X : Cx} : OpR X (binaryOp .Mult) (rOr (rI CMul fun i j => .int (i * j)) rMulS) := opr_or op_mul op_mulS
end
end Mm

/-! The mirror layer: comparisons, built-in calls, items, slices, methods. -/
namespace Mm
open PySem PySem.Spec PyProof.Rows L2
section
variable {K : PySem.W.Frag} {E : XK}
/-! ### == and != -/
/-- of None, truths, numbers, texts (not a truth with a number) -/
def eqS : W → W → Option Bool
  | .non, .non => some true
  | .non, .int _ => some false
  | .int _, .non => some false
  | .non, .bl _ => some false
  | .bl _, .non => some false
  | .non, .str _ => some false
  | .str _, .non => some false
  | .int i, .int j => some (decide (i = j))
  | .bl a, .bl b => some (decide (a = b))
  | .str a, .str b => some (decide (a = b))
  | .int _, .str _ => some false
  | .str _, .int _ => some false
  | .bl _, .str _ => some false
  | .str _, .bl _ => some false
  | _, _ => none
def fEq (x y : W) (S : Sto) : Res W := match x, y with
  | .tup ws, .tup [] => .ok (.bl ws.isEmpty) S
  | x, y => match eqS x y with
    | some b => .ok (.bl b) S
    | none => .stuck
def fNe (x y : W) (S : Sto) : Res W := match eqS x y with
  | some b => .ok (.bl (!b)) S
  | none => .stuck
/-- a tuple against the empty one -/
def rEqT0 (K : PySem.W.Frag) : R2 := fun x y H Q => ∃ a b xs, x = .ref a ∧ y = .ref b ∧ SqT K H a xs ∧ SqT K H b [] ∧ Q (.bl xs.isEmpty) H
theorem empty0 {xs : List V} {its : List Value} (r : Vals xs its) : ((List.range (min its.toArray.size 0)).all (fun _ => true) && its.toArray.size == 0) = xs.isEmpty := by
  cases r <;> simp
theorem op_eqT0 {X : Cx} (hu : X.A.units < cLine) : OpR X (compareOp .Eq) (rEqT0 X.K) := by
  intro pins s σ H x y v u Q I rx ry h
  obtain ⟨a, b, xs, rfl, rfl, ha, hb, q⟩ := h
  cases rx
  cases ry
  obtain ⟨its, r1, ⟨o1, ho1, hc1, n1, hd1⟩, _⟩ := I.tuple ha
  obtain ⟨its2, r2, ⟨o2, ho2, hc2, n2, hd2⟩, _⟩ := I.tuple hb
  cases r2
  refine SeqAt.eq_tupleAt (e := fun _ => true) ⟨o1, ho1, hc1, n1, hd1⟩ ⟨o2, ho2, hc2, n2, hd2⟩ hu (fun j _ h2 => absurd h2 (by simp)) ?_
  have e := empty0 r1
  have e2 : ((List.range (min its.toArray.size ([] : List Value).toArray.size)).all (fun _ => true) && its.toArray.size == ([] : List Value).toArray.size) = xs.isEmpty := e
  rw [e2]
  exact ⟨.bl _, H, I, rfl, q⟩
theorem eqS_ok {x y : W} {xv yv : V} {ι : Im} {n : Nat} {H : Hp} {b : Bool} (rx : Rep K ι n H x xv) (ry : Rep K ι n H y yv) (e : eqS x y = some b) : scal xv yv = true ∧ decide (xv = yv) = b := by
  cases rx <;> cases ry <;> first
    | (cases e; exact ⟨rfl, by first | rfl | simp⟩)
    | (cases e)
theorem sim_eq : SimR K E (rOr (rEqT0 K) rEq) fEq := by
  intro x y xv yv ι S H Q rl rx ry h
  unfold fEq at h
  split at h
  · rename_i ws
    cases rx with
    | @tup _ a xs hz r =>
      cases ry with
      | @tup _ b ys hz2 r2 =>
        cases r2
        refine .inl ⟨a, b, xs, rfl, rfl, hz.sq, hz2.sq, ?_⟩
        have e : ws.isEmpty = xs.isEmpty := by cases r <;> rfl
        rw [← e]
        exact PostV.now h rl (.bl _)
  · split at h
    · rename_i b q
      obtain ⟨h1, h2⟩ := eqS_ok rx ry q
      exact .inr ⟨h1, by rw [h2]; exact PostV.now h rl (.bl b)⟩
    · exact h.elim
theorem op_eqA {X : Cx} (hu : X.A.units < cLine) : OpR X (compareOp .Eq) (rOr (rEqT0 X.K) rEq) := opr_or (op_eqT0 hu) op_eq
theorem sim_ne : SimR K E rNe fNe := by
  intro x y xv yv ι S H Q rl rx ry h
  unfold fNe at h
  split at h
  · rename_i b q
    obtain ⟨h1, h2⟩ := eqS_ok rx ry q
    exact ⟨h1, by rw [h2]; exact PostV.now h rl (.bl _)⟩
  · exact h.elim
/-! ### is None -/
def fIsN : W → W → Sto → Res W
  | .non, .non, S => .ok (.bl true) S
  | _, .non, S => .ok (.bl false) S
  | _, _, _ => .stuck
def fNotN : W → W → Sto → Res W
  | .non, .non, S => .ok (.bl false) S
  | _, .non, S => .ok (.bl true) S
  | _, _, _ => .stuck
theorem sim_isN : SimR K E (fun x y H Q => y = .non ∧ Q (.bl (decide (x = .non))) H) fIsN := by
  intro x y xv yv ι S H Q rl rx ry h
  cases ry with
  | non => cases rx <;> exact ⟨rfl, by first | exact PostV.now h rl (.bl _)⟩
  | _ => cases rx <;> exact h.elim
theorem sim_notN : SimR K E (fun x y H Q => y = .non ∧ Q (.bl (!decide (x = .non))) H) fNotN := by
  intro x y xv yv ι S H Q rl rx ry h
  cases ry with
  | non => cases rx <;> exact ⟨rfl, by first | exact PostV.now h rl (.bl _)⟩
  | _ => cases rx <;> exact h.elim
/-! ### in, not in: one sign in a text; something flat in a list or tuple of flat things -/
def flatW : W → Bool
  | .non => true
  | .bl _ => true
  | .int _ => true
  | .str _ => true
  | _ => false
def eqF : W → W → Bool
  | .non, .non => true
  | .bl a, .bl b => a == b
  | .bl a, .int b => (if a then 1 else 0) == b
  | .int a, .bl b => a == (if b then 1 else 0)
  | .int a, .int b => a == b
  | .str a, .str b => a == b
  | _, _ => false
def seqA (S : Sto) (w : W) : Option (List W) := match w with
  | .tup ws => some ws
  | w => seqL S w
def inW (x y : W) (S : Sto) : Option Bool := match x, y with
  | .str a, .str z => match a.cps.toList with
    | [c] => some (decide (c ∈ z.cps.toList))
    | _ => none
  | x, y => match seqA S y with
    | some ws => if flatW x = true ∧ ws.all flatW = true then some (ws.any fun y => eqF y x) else none
    | none => none
def fIn (x y : W) (S : Sto) : Res W := match inW x y S with
  | some b => .ok (.bl b) S
  | none => .stuck
def fNotIn (x y : W) (S : Sto) : Res W := match inW x y S with
  | some b => .ok (.bl (!b)) S
  | none => .stuck
theorem flat_ok {w : W} {v : V} {ι : Im} {n : Nat} {H : Hp} (r : Rep K ι n H w v) (h : flatW w = true) : flatV v = true := by
  cases r <;> first | rfl | cases h
theorem eqF_ok {x y : W} {xv yv : V} {ι : Im} {n : Nat} {H : Hp} (rx : Rep K ι n H x xv) (ry : Rep K ι n H y yv) (hx : flatW x = true) (hy : flatW y = true) : eqV xv yv = eqF x y := by
  cases rx <;> cases ry <;> first | rfl | cases hx | cases hy
theorem inV_ok {ι : Im} {n : Nat} {H : Hp} {x : W} {xv : V} (rx : Rep K ι n H x xv) (hx : flatW x = true) {ws : List W} {vs : List V} (r : Reps K ι n H ws vs) (h : ws.all flatW = true) : vs.all flatV = true ∧ inV xv vs = ws.any fun y => eqF y x := by
  induction ws generalizing vs with
  | nil => cases r; exact ⟨rfl, rfl⟩
  | cons w ws ih =>
    cases r with
    | cons a b =>
      rw [List.all_cons] at h
      obtain ⟨h1, h2⟩ := Bool.and_eq_true_iff.mp h
      obtain ⟨i1, i2⟩ := ih b h2
      refine ⟨by rw [List.all_cons, flat_ok a h1, i1]; rfl, ?_⟩
      unfold inV at i2 ⊢
      rw [List.any_cons, List.any_cons, eqF_ok a rx h1 hx, i2]
theorem seqA_ok {ι : Im} {S : Sto} {H : Hp} (rl : Rl K ι S H) {w : W} {v : V} {ws : List W} (e : seqA S w = some ws) (r : Rep K ι S.length H w v) : ∃ a xs, v = .ref a ∧ (SqL K H a xs ∨ SqT K H a xs) ∧ Reps K ι S.length H ws xs := by
  unfold seqA at e
  split at e
  · cases e
    cases r with
    | @tup _ a xs h r => exact ⟨a, xs, rfl, .inr h.sq, r⟩
  · obtain ⟨a, xs, h1, h2, h3⟩ := seqL_ok rl e r
    exact ⟨a, xs, h1, .inl h2, h3⟩
def rInS : R2 := fun x y H Q => ∃ (c : Nat) (z : Str), x = .str ⟨#[c]⟩ ∧ y = .str z ∧ Q (.bl (decide (c ∈ z.cps.toList))) H
def rNotInS : R2 := fun x y H Q => ∃ (c : Nat) (z : Str), x = .str ⟨#[c]⟩ ∧ y = .str z ∧ Q (.bl (!decide (c ∈ z.cps.toList))) H
theorem inW_ok {ι : Im} {S : Sto} {H : Hp} (rl : Rl K ι S H) {x y : W} {xv yv : V} {b : Bool} (rx : Rep K ι S.length H x xv) (ry : Rep K ι S.length H y yv) (e : inW x y S = some b) :
    (∃ (c : Nat) (z : Str), xv = .str ⟨#[c]⟩ ∧ yv = .str z ∧ decide (c ∈ z.cps.toList) = b) ∨ ∃ p xs, yv = .ref p ∧ (SqL K H p xs ∨ SqT K H p xs) ∧ flatV xv = true ∧ xs.all flatV = true ∧ inV xv xs = b := by
  unfold inW at e
  split at e
  · rename_i a z
    cases rx
    cases ry
    split at e
    · rename_i c q
      cases e
      have ea : a = ⟨#[c]⟩ := by
        obtain ⟨cs⟩ := a
        have : cs = #[c] := by
          apply Array.toList_inj.mp
          exact q
        rw [this]
      subst ea
      exact .inl ⟨c, z, rfl, rfl, rfl⟩
    · cases e
  · split at e
    · rename_i ws q
      split at e
      · rename_i hc
        cases e
        obtain ⟨a, xs, h1, h2, h3⟩ := seqA_ok rl q ry
        obtain ⟨i1, i2⟩ := inV_ok rx hc.1 h3 hc.2
        exact .inr ⟨a, xs, h1, h2, flat_ok rx hc.1, i1, i2⟩
      · cases e
    · cases e
theorem sim_in : SimR K E (rOr rInS (rIn K false)) fIn := by
  intro x y xv yv ι S H Q rl rx ry h
  unfold fIn at h
  split at h
  · rename_i b q
    rcases inW_ok rl rx ry q with ⟨c, z, h1, h2, h3⟩ | ⟨p, xs, h1, h2, h3, h4, h5⟩
    · exact .inl ⟨c, z, h1, h2, by rw [h3]; exact PostV.now h rl (.bl b)⟩
    · exact .inr ⟨p, xs, h1, h2, h3, h4, by rw [h5]; exact PostV.now h rl (.bl b)⟩
  · exact h.elim
theorem sim_notIn : SimR K E (rOr rNotInS (rIn K true)) fNotIn := by
  intro x y xv yv ι S H Q rl rx ry h
  unfold fNotIn at h
  split at h
  · rename_i b q
    rcases inW_ok rl rx ry q with ⟨c, z, h1, h2, h3⟩ | ⟨p, xs, h1, h2, h3, h4, h5⟩
    · exact .inl ⟨c, z, h1, h2, by rw [h3]; exact PostV.now h rl (.bl _)⟩
    · exact .inr ⟨p, xs, h1, h2, h3, h4, by rw [h5]; exact PostV.now h rl (.bl _)⟩
  · exact h.elim
theorem op_inA {X : Cx} : OpR X (compareOp .In) (rOr rInS (rIn X.K false)) := opr_or op_in_sign op_in_seq
theorem op_notInA {X : Cx} : OpR X (compareOp .NotIn) (rOr rNotInS (rIn X.K true)) := opr_or op_notIn_sign op_notIn_seq
/-! ### isinstance(x, T), T a built-in class -/
def tyW : W → Option String
  | .non => some "NoneType"
  | .bl _ => some "bool"
  | .int _ => some "int"
  | .str _ => some "str"
  | .tup _ => some "tuple"
  | .lst _ => some "list"
  | .arr _ => some "list"
  | .dct _ _ => some "dict"
  | _ => none
/-- the answer, by names -/
def isiB (a b : String) : Option Bool := if a = b then some true else match a, b with
  | "bool", "int" => some true
  | "NoneType", "int" => some false | "NoneType", "bool" => some false | "NoneType", "str" => some false | "NoneType", "tuple" => some false | "NoneType", "list" => some false | "NoneType", "dict" => some false
  | "bool", "str" => some false | "bool", "tuple" => some false | "bool", "list" => some false | "bool", "dict" => some false
  | "int", "bool" => some false | "int", "str" => some false | "int", "tuple" => some false | "int", "list" => some false | "int", "dict" => some false
  | "str", "int" => some false | "str", "bool" => some false | "str", "tuple" => some false | "str", "list" => some false | "str", "dict" => some false
  | "tuple", "int" => some false | "tuple", "bool" => some false | "tuple", "str" => some false | "tuple", "list" => some false | "tuple", "dict" => some false
  | "list", "int" => some false | "list", "bool" => some false | "list", "str" => some false | "list", "tuple" => some false | "list", "dict" => some false
  | "dict", "int" => some false | "dict", "bool" => some false | "dict", "str" => some false | "dict", "tuple" => some false | "dict", "list" => some false
  | _, _ => none
def fIsi : MF := fun ws S => match ws with
  | [x, .ty n] => match tyW x with
    | some m => match isiB m n with
      | some b => .ok (.bl b) S
      | none => .stuck
    | none => .stuck
  | _ => .stuck
theorem tyW_ok {w : W} {v : V} {ι : Im} {n : Nat} {H : Hp} {t : String} (r : Rep K ι n H w v) (e : tyW w = some t) : TyX K H v (.type t) := by
  cases r with
  | non => cases e; exact .base .non
  | bl b => cases e; exact .base (.bl b)
  | int b => cases e; exact .base (.int b)
  | str b => cases e; exact .base (.str b)
  | tup h r =>
    cases e
    rcases h with (h | ⟨o, h⟩) | ⟨o, its, m, h1, h2, _⟩
    · exact .base (.tup h.at_)
    · exact .fTuple h.at_
    · exact .kTuple h1 h2
  | lst h r => cases e; exact .base (.lst h.at_)
  | arr h r =>
    cases e
    rcases h with ⟨o, h⟩ | ⟨o, its, m, h1, h2, _⟩
    · exact .base (.frz h.at_)
    · exact .kList h1 h2
  | dct h hl r => cases e; exact .base (.dK h.at_)
  | _ => cases e
theorem isi_kit {a b : String} {r : Bool} (h : isiB a b = some r) (ha : a ∈ ["NoneType", "bool", "int", "str", "tuple", "list", "dict"]) (hb : b ∈ ["int", "bool", "str", "tuple", "list", "dict"]) : kitB a b = some r := by
  simp only [List.mem_cons, List.not_mem_nil, or_false] at ha hb
  rcases ha with rfl | rfl | rfl | rfl | rfl | rfl | rfl <;> rcases hb with rfl | rfl | rfl | rfl | rfl | rfl <;> (rw [← h]; decide +kernel)
end
end Mm

/-! The mirror layer: built-in calls, items, slices, methods. -/
namespace Mm
open PySem PySem.Spec PyProof.Rows L2
section
variable {K : PySem.W.Frag} {E : XK}
theorem isiB_in {a b : String} {r : Bool} (ne : a ≠ b) (h : isiB a b = some r) : a ∈ ["NoneType", "bool", "int", "str", "tuple", "list", "dict"] ∧ b ∈ ["int", "bool", "str", "tuple", "list", "dict"] := by
  unfold isiB at h
  rw [if_neg ne] at h
  split at h <;> first | (exact ⟨by decide, by decide⟩) | cases h
theorem isi_kit2 {a b : String} {r : Bool} (h : isiB a b = some r) : kitB a b = some r := by
  by_cases e : a = b
  · subst e
    unfold isiB at h
    rw [if_pos rfl] at h
    cases h
    unfold kitB
    rw [if_pos (by simp)]
  · obtain ⟨h1, h2⟩ := isiB_in e h
    exact isi_kit h h1 h2
theorem sim_isi : SimC K E (rIsi K) fIsi := by
  intro xs xv ι S H Q rl r h
  cases r with
  | nil => exact h.elim
  | cons a r =>
    cases r with
    | nil => exact h.elim
    | cons b r =>
      cases r with
      | cons _ _ => cases b <;> exact h.elim
      | nil =>
        cases b with
        | ty n =>
          unfold fIsi at h
          simp only at h
          split at h
          · rename_i m q
            split at h
            · rename_i k q2
              exact ⟨_, _, _, _, k, rfl, .ty n, tyW_ok a q, kit_ty (isi_kit2 q2), PostV.now h rl (.bl k)⟩
            · exact h.elim
          · exact h.elim
        | _ => exact h.elim
/-! ### len, all, any, abs, divmod, max, min, tuple, list -/
def fLen : MF := fun ws S => match ws with
  | [.str x] => if x.length ≤ sizeLine then .ok (.int x.length) S else .stuck
  | [w] => match seqA S w with
    | some ys => .ok (.int ys.length) S
    | none => .stuck
  | _ => .stuck
def rLenA (K : PySem.W.Frag) : List V → Hp → VK → Prop := fun xs H Q => ∃ x n, xs = [x] ∧ LenV K x H n ∧ Q (.int n) H
theorem sim_len : SimC K E (rLenA K) fLen := by
  intro xs xv ι S H Q rl r h
  cases r with
  | nil => exact h.elim
  | @cons w v _ _ a r =>
    cases r with
    | cons _ _ => cases a <;> exact h.elim
    | nil =>
      unfold fLen at h
      split at h
      · rename_i x q
        cases q
        cases a
        split at h
        · rename_i hz
          exact ⟨_, x.length, rfl, ⟨hz, rfl⟩, PostV.now h rl (.int _)⟩
        · exact h.elim
      · rename_i w' hne q
        cases q
        split at h
        · rename_i ys q
          obtain ⟨p, xs, rfl, h2, h3⟩ := seqA_ok rl q a
          refine ⟨_, ys.length, rfl, ?_, PostV.now h rl (.int _)⟩
          rcases h2 with h2 | h2
          · exact .inl ⟨xs, h2, h3.length⟩
          · exact .inr ⟨xs, h2, h3.length⟩
        · exact h.elim
      · exact h.elim
def bools : List W → Option (List Bool)
  | [] => some []
  | .bl b :: ws => (bools ws).map (b :: ·)
  | _ :: _ => none
theorem bools_ok {ι : Im} {n : Nat} {H : Hp} : ∀ {ws : List W} {vs : List V} {bs : List Bool}, bools ws = some bs → Reps K ι n H ws vs → vs = bs.map V.bl
  | [], _, bs, e, r => by
    cases r
    cases e
    rfl
  | w :: ws, _, bs, e, r => by
    cases r with
    | cons a b =>
      cases a with
      | bl k =>
        have e' : (bools ws).map (k :: ·) = some bs := e
        obtain ⟨bs', e1, rfl⟩ := Option.map_eq_some_iff.mp e'
        rw [bools_ok e1 b]
        rfl
      | _ => cases e
def fAll : MF := fun ws S => match ws with
  | [w] => match seqL S w with
    | some ys => match bools ys with
      | some bs => .ok (.bl (bs.all id)) S
      | none => .stuck
    | none => .stuck
  | _ => .stuck
def fAny : MF := fun ws S => match ws with
  | [w] => match seqL S w with
    | some ys => match bools ys with
      | some bs => .ok (.bl (bs.any id)) S
      | none => .stuck
    | none => .stuck
  | _ => .stuck
theorem sim_all : SimC K E (rAll K) fAll := by
  intro xs xv ι S H Q rl r h
  cases r with
  | nil => exact h.elim
  | cons a r =>
    cases r with
    | cons _ _ => exact h.elim
    | nil =>
      unfold fAll at h
      simp only at h
      split at h
      · rename_i ys q
        split at h
        · rename_i bs q2
          obtain ⟨p, vs, rfl, h2, h3⟩ := seqL_ok rl q a
          exact ⟨p, bs, rfl, by rw [← bools_ok q2 h3]; exact h2, PostV.now h rl (.bl _)⟩
        · exact h.elim
      · exact h.elim
theorem sim_any : SimC K E (rAny K) fAny := by
  intro xs xv ι S H Q rl r h
  cases r with
  | nil => exact h.elim
  | cons a r =>
    cases r with
    | cons _ _ => exact h.elim
    | nil =>
      unfold fAny at h
      simp only at h
      split at h
      · rename_i ys q
        split at h
        · rename_i bs q2
          obtain ⟨p, vs, rfl, h2, h3⟩ := seqL_ok rl q a
          exact ⟨p, bs, rfl, by rw [← bools_ok q2 h3]; exact h2, PostV.now h rl (.bl _)⟩
        · exact h.elim
      · exact h.elim
def fAbs : MF := fun ws S => match ws with
  | [.int i] => .ok (.int (if i < 0 then -i else i)) S
  | _ => .stuck
theorem sim_abs : SimC K E (fun xs H Q => ∃ i, xs = [.int i] ∧ Q (.int (if i < 0 then -i else i)) H) fAbs := by
  intro xs xv ι S H Q rl r h
  cases r with
  | nil => exact h.elim
  | cons a r =>
    cases r with
    | cons _ _ => cases a <;> exact h.elim
    | nil =>
      cases a with
      | int i => exact ⟨i, rfl, PostV.now h rl (.int _)⟩
      | _ => exact h.elim
def two (f : Int → Int → Sto → Res W) : MF := fun ws S => match ws with
  | [.int i, .int j] => f i j S
  | _ => .stuck
theorem sim_two {f : Int → Int → Sto → Res W} {r : List V → Hp → VK → Prop} (hr : ∀ (i j : Int) (ι : Im) (S : Sto) (H : Hp) (Q : VK), Rl K ι S H → PostV K E (f i j S) ι S.length H Q → r [.int i, .int j] H Q) : SimC K E r (two f) := by
  intro xs xv ι S H Q rl r' h
  cases r' with
  | nil => exact h.elim
  | cons a r' =>
    cases r' with
    | nil => cases a <;> exact h.elim
    | cons b r' =>
      cases r' with
      | cons _ _ => cases a <;> cases b <;> exact h.elim
      | nil =>
        cases a with
        | int i =>
          cases b with
          | int j => exact hr i j ι S H Q rl h
          | _ => exact h.elim
        | _ => cases b <;> exact h.elim
def fMax2 : MF := two fun i j S => .ok (.int (if j > i then j else i)) S
def fMin2 : MF := two fun i j S => .ok (.int (if j < i then j else i)) S
def fDivmod : MF := two fun i j S => if 0 < j ∧ j < 1073741824 then .ok (.tup [.int (i / j), .int (i % j)]) S else .stuck
theorem sim_max2 : SimC K E (fun xs H Q => ∃ i j, xs = [.int i, .int j] ∧ Q (.int (if j > i then j else i)) H) fMax2 := sim_two fun i j ι S H Q rl h => ⟨i, j, rfl, PostV.now h rl (.int _)⟩
theorem sim_min2 : SimC K E (fun xs H Q => ∃ i j, xs = [.int i, .int j] ∧ Q (.int (if j < i then j else i)) H) fMin2 := sim_two fun i j ι S H Q rl h => ⟨i, j, rfl, PostV.now h rl (.int _)⟩
theorem sim_divmod : SimC K E (fun xs H Q => ∃ i j, xs = [.int i, .int j] ∧ CDiv i j ∧ ∀ p, H p = none → Q (.ref p) (upd H p (.tup [.int (i / j), .int (i % j)]))) fDivmod := sim_two fun i j ι S H Q rl h => by
  by_cases z : 0 < j ∧ j < 1073741824
  · rw [if_pos z] at h
    exact ⟨i, j, rfl, z, PostV.newT h rl (.cons (.int _) (.cons (.int _) .nil))⟩
  · rw [if_neg z] at h
    exact h.elim
def fTuple : MF := fun ws S => match ws with
  | [.tup ys] => .ok (.tup ys) S
  | [w] => match seqL S w with
    | some ys => .ok (.tup ys) S
    | none => .stuck
  | _ => .stuck
theorem sim_tuple : SimC K E (fun xs H Q => ∃ p ys, xs = [.ref p] ∧ ((SqL K H p ys ∧ ∀ l, H l = none → Q (.ref l) (upd H l (.tup ys))) ∨ (SqT K H p ys ∧ Q (.ref p) H))) fTuple := by
  intro xs xv ι S H Q rl r h
  cases r with
  | nil => exact h.elim
  | cons a r =>
    cases r with
    | cons _ _ => cases a <;> exact h.elim
    | nil =>
      unfold fTuple at h
      split at h
      · rename_i ys q
        cases q
        cases a with
        | @tup _ p vs hz r => exact ⟨p, vs, rfl, .inr ⟨hz.sq, PostV.now h rl (.tup hz r)⟩⟩
      · rename_i w' hne q
        cases q
        split at h
        · rename_i ys q
          obtain ⟨p, vs, rfl, h2, h3⟩ := seqL_ok rl q a
          exact ⟨p, vs, rfl, .inl ⟨h2, PostV.newT h rl h3⟩⟩
        · exact h.elim
      · exact h.elim
def fList : MF := fun ws S => match ws with
  | [w] => match seqA S w with
    | some ys => .ok (.lst ys) S
    | none => .stuck
  | _ => .stuck
/-- a list that will be changed -/
def fListM : MF := fun ws S => match ws with
  | [w] => match seqA S w with
    | some ys => .ok (.loc S.length) (S ++ [.lst ys])
    | none => .stuck
  | _ => .stuck
def rListA (K : PySem.W.Frag) : List V → Hp → VK → Prop := fun xs H Q => ∃ p ys, xs = [.ref p] ∧ (SqL K H p ys ∨ SqT K H p ys) ∧ ∀ l, H l = none → Q (.ref l) (upd H l (.lst ys))
theorem sim_list : SimC K E (rListA K) fList := by
  intro xs xv ι S H Q rl r h
  cases r with
  | nil => exact h.elim
  | cons a r =>
    cases r with
    | cons _ _ => exact h.elim
    | nil =>
      unfold fList at h
      simp only at h
      split at h
      · rename_i ys q
        obtain ⟨p, vs, rfl, h2, h3⟩ := seqA_ok rl q a
        exact ⟨p, vs, rfl, h2, PostV.newL h rl h3⟩
      · exact h.elim
theorem sim_listM : SimC K E (rListA K) fListM := by
  intro xs xv ι S H Q rl r h
  cases r with
  | nil => exact h.elim
  | cons a r =>
    cases r with
    | cons _ _ => exact h.elim
    | nil =>
      unfold fListM at h
      simp only at h
      split at h
      · rename_i ys q
        obtain ⟨p, vs, rfl, h2, h3⟩ := seqA_ok rl q a
        exact ⟨p, vs, rfl, h2, PostV.newLoc h rl h3⟩
      · exact h.elim
/-! ### items -/
theorem ixN_get {α β : Type} {xs : List α} {ys : List β} {i : Int} {a : α} (hl : xs.length = ys.length) (h : atI xs i = some a) : ∃ j : Nat, xs[j]? = some a ∧ ∀ b, ys[j]? = some b → atI ys i = some b := by
  unfold atI at h
  obtain ⟨j, hj, h2⟩ := Option.bind_eq_some_iff.mp h
  refine ⟨j, h2, fun b hb => ?_⟩
  unfold atI
  rw [← hl, hj]
  exact hb
theorem Reps.atI {ι : Im} {n : Nat} {H : Hp} {ws : List W} {vs : List V} {i : Int} {w : W} (r : Reps K ι n H ws vs) (h : L2.atI ws i = some w) : ∃ v, L2.atI vs i = some v ∧ Rep K ι n H w v := by
  obtain ⟨j, h1, h2⟩ := ixN_get r.length h
  obtain ⟨v, hv, rv⟩ := r.get h1
  exact ⟨v, h2 v hv, rv⟩
def fIx (x y : W) (S : Sto) : Res W := match x, y with
  | .str z, .int i => if z.length ≤ sizeLine then (match atI z.cps.toList i with
    | some c => .ok (.str ⟨#[c]⟩) S
    | none => .stuck) else .stuck
  | x, .int i => match seqA S x with
    | some ws => (match atI ws i with
      | some w => .ok w S
      | none => .stuck)
    | none => .stuck
  | _, _ => .stuck
theorem sim_ix : SimR K E (rIx K) fIx := by
  intro x y xv yv ι S H Q rl rx ry h
  unfold fIx at h
  split at h
  · rename_i z i
    cases rx
    cases ry
    split at h
    · rename_i hz
      split at h
      · rename_i c q
        exact .inr (.inr ⟨z, i, c, rfl, rfl, hz, q, PostV.now h rl (.str _)⟩)
      · exact h.elim
    · exact h.elim
  · rename_i i hne
    cases ry
    split at h
    · rename_i ws q
      split at h
      · rename_i w q2
        obtain ⟨p, vs, rfl, h2, h3⟩ := seqA_ok rl q rx
        obtain ⟨v, hv, rv⟩ := h3.atI q2
        rcases h2 with h2 | h2
        · exact .inl ⟨p, vs, i, v, rfl, rfl, h2, hv, PostV.now h rl rv⟩
        · exact .inr (.inl ⟨p, vs, i, v, rfl, rfl, h2, hv, PostV.now h rl rv⟩)
      · exact h.elim
    · exact h.elim
  · exact h.elim
/-! ### slices -/
def cutW (xs : List W) (lo hi : Option Int) : List W := (xs.drop (HT.sIx xs.length 0 lo)).take (HT.sIx xs.length xs.length hi - HT.sIx xs.length 0 lo)
def fSl (x : W) (lo hi : Option Int) (S : Sto) : Res W := match x with
  | .str z => if z.length ≤ sizeLine then .ok (.str (cutS z lo hi)) S else .stuck
  | .tup ws => .ok (.tup (cutW ws lo hi)) S
  | x => match seqL S x with
    | some ws => .ok (.lst (cutW ws lo hi)) S
    | none => .stuck
theorem Reps.cut {ι : Im} {n : Nat} {H : Hp} {ws : List W} {vs : List V} (r : Reps K ι n H ws vs) (lo hi : Option Int) : Reps K ι n H (cutW ws lo hi) (cutV vs lo hi) := by
  unfold cutW cutV
  rw [r.length]
  exact (r.drop _).take _
def rSlAny (K : PySem.W.Frag) : V → Option Int → Option Int → Hp → VK → Prop := fun x lo hi H Q => rSlS x lo hi H Q ∨ (rSlA K x lo hi H Q ∨ rSlL K x lo hi H Q)
theorem sl_any {X : Cx} : SlR X (rSlAny X.K) := SlR.or sl_str (SlR.or sl_tupA sl_list)
theorem cutV_all {vs : List V} {lo hi : Option Int} (h : HT.sIx vs.length 0 lo = 0 ∧ HT.sIx vs.length vs.length hi = vs.length) : cutV vs lo hi = vs := by
  unfold cutV
  rw [h.1, h.2]
  simp
theorem sim_sl {x : W} {xv : V} {lo hi : Option Int} {ι : Im} {S : Sto} {H : Hp} {Q : VK} (rl : Rl K ι S H) (rx : Rep K ι S.length H x xv) (h : PostV K E (fSl x lo hi S) ι S.length H Q) : rSlAny K xv lo hi H Q := by
  unfold fSl at h
  split at h
  · rename_i z
    cases rx
    split at h
    · rename_i hz
      exact .inl ⟨z, rfl, hz, PostV.now h rl (.str _)⟩
    · exact h.elim
  · rename_i ws
    cases rx with
    | @tup _ a vs hz r =>
      refine .inr (.inl ⟨a, vs, rfl, hz.sq, fun e => ?_, fun _ => PostV.newT h rl (r.cut lo hi)⟩)
      have rc := r.cut lo hi
      rw [cutV_all e] at rc
      exact PostV.now h rl (.tup hz rc)
  · split at h
    · rename_i ws q
      obtain ⟨p, vs, rfl, h2, h3⟩ := seqL_ok rl q rx
      exact .inr (.inr ⟨p, vs, rfl, h2, PostV.newL h rl (h3.cut lo hi)⟩)
    · exact h.elim
def mNoPart : MW (Option Int) := fun _ S => .ok none S
def mPart (c : MV) : MW (Option Int) := mBind c fun w => fun _ S => match w with
  | .int i => .ok (some i) S
  | _ => .stuck
def mSl (c : MV) (lo hi : MW (Option Int)) : MV := mBind c fun x => mBind lo fun l => mBind hi fun u => fun _ S => fSl x l u S
def tOfO (K : PySem.W.Frag) (E : XK) (c : MW (Option Int)) : TO := fun σ H Q => ∃ ρ ι S, RE K ι S.length H ρ σ ∧ Rl K ι S H ∧ Post K E (c ρ S) ι S.length H fun o _ _ H' => Q o H'
abbrev CO (X : Cx) (E : XK) (e : Option Expr) (c : MW (Option Int)) : Prop := PO X e (tOfO X.K E c)
theorem PO.weak {X : Cx} {e : Option Expr} {t t' : TO} (h : PO X e t) (k : ∀ σ H Q, t' σ H Q → t σ H Q) : PO X e t' := ⟨fun pins s σ H Q I q => h.run pins s σ H Q I (k σ H Q q)⟩
theorem co_none {X : Cx} : CO X E none mNoPart := PO.weak po_none fun σ H Q ⟨ρ, ι, S, re, rl, h⟩ => h ι H Ext.refl rl
theorem co_some {X : Cx} {e : Expr} {c : MV} (h : CE X E e c) : CO X E (some e) (mPart c) := PO.weak (po_some h) fun σ H Q ⟨ρ, ι, S, re, rl, h⟩ => ⟨ρ, ι, S, re, rl, (Post.bind h).mono fun w S1 ι1 H1 e1 rl1 h1 v rv => by
  cases rv with
  | int i => exact ⟨i, rfl, h1 ι1 H1 Ext.refl rl1⟩
  | _ => exact h1.elim⟩
theorem ce_sl {X : Cx} {e : Expr} {lo hi : Option Expr} {c : MV} {cl ch : MW (Option Int)} {p2 pos : Pos} (he : CE X E e c) (hl : CO X E lo cl) (hu : CO X E hi ch) : CE X E (.Subscript e (.Slice lo hi none p2) pos) (mSl c cl ch) :=
  PE.weak (pe_slice sl_any he hl hu) fun σ H Q ⟨ρ, ι, S, re, rl, h⟩ => ⟨ρ, ι, S, re, rl, (Post.bind h).mono fun x S1 ι1 H1 e1 rl1 h1 xv rx =>
    ⟨ρ, ι1, S1, re.mono e1, rl1, (Post.bind h1).mono fun l S2 ι2 H2 e2 rl2 h2 => ⟨ρ, ι2, S2, (re.mono e1).mono e2, rl2, (Post.bind h2).mono fun u S3 ι3 H3 e3 rl3 h3 => sim_sl rl3 ((rx.mono e2).mono e3) h3⟩⟩⟩
end
end Mm

/-! The mirror layer: methods, reversed slices of tuples, dicts of the module. -/
namespace Mm
open PySem PySem.Spec PyProof.Rows L2
section
variable {K : PySem.W.Frag} {E : XK}
/-! ### methods -/
def mM0 (f : W → Sto → Res W) (c : MV) : MV := mBind c fun x => fun _ S => f x S
def mM1 (f : W → W → Sto → Res W) (c d : MV) : MV := mBind c fun x => match x with
  | .str a => mBind d fun y => fun _ S => f (.str a) y S
  | _ => fun _ _ => .stuck
def fIslower : W → Sto → Res W
  | .str a, S => .ok (.bl (Txt.islower a)) S
  | _, _ => .stuck
def fIsdigit : W → Sto → Res W
  | .str a, S => .ok (.bl (Txt.isdigit a)) S
  | _, _ => .stuck
theorem ce_islower {X : Cx} {o : Expr} {c : MV} {apos pos : Pos} (ho : CE X E o c) (hbase : attributeBase o "islower" X.env (eval o X.env) = eval o X.env := by rfl) (hline : (apos.endLine == pos.line) = true := by rfl) : CE X E (.Call (.Attribute o "islower" apos) [] [] pos) (mM0 fIslower c) :=
  PE.weak (pe_m0 PySem.F.slot_str_islower PySem.F.type_str_islower mt_islower ho hbase hline) fun σ H Q ⟨ρ, ι, S, re, rl, h⟩ => ⟨ρ, ι, S, re, rl, (Post.bind h).mono fun x S1 ι1 H1 e1 rl1 h1 xv rx => by
    cases rx with
    | str a => exact ⟨⟨a, rfl⟩, a, rfl, rfl, trivial, PostV.now h1 rl1 (.bl _)⟩
    | _ => exact h1.elim⟩
theorem ce_isdigit {X : Cx} {o : Expr} {c : MV} {apos pos : Pos} (ho : CE X E o c) (hbase : attributeBase o "isdigit" X.env (eval o X.env) = eval o X.env := by rfl) (hline : (apos.endLine == pos.line) = true := by rfl) : CE X E (.Call (.Attribute o "isdigit" apos) [] [] pos) (mM0 fIsdigit c) :=
  PE.weak (pe_m0 PySem.F.slot_str_isdigit PySem.F.type_str_isdigit mt_isdigit ho hbase hline) fun σ H Q ⟨ρ, ι, S, re, rl, h⟩ => ⟨ρ, ι, S, re, rl, (Post.bind h).mono fun x S1 ι1 H1 e1 rl1 h1 xv rx => by
    cases rx with
    | str a => exact ⟨⟨a, rfl⟩, a, rfl, rfl, trivial, PostV.now h1 rl1 (.bl _)⟩
    | _ => exact h1.elim⟩
def textsW : List W → Option (List Str)
  | [] => some []
  | .str x :: ws => (textsW ws).map (x :: ·)
  | _ :: _ => none
theorem textsW_ok {ι : Im} {n : Nat} {H : Hp} : ∀ {ws : List W} {vs : List V} {xs : List Str}, textsW ws = some xs → Reps K ι n H ws vs → vs = xs.map V.str
  | [], _, xs, e, r => by
    cases r
    cases e
    rfl
  | w :: ws, _, xs, e, r => by
    cases r with
    | cons a b =>
      cases a with
      | str k =>
        have e' : (textsW ws).map (k :: ·) = some xs := e
        obtain ⟨xs', e1, rfl⟩ := Option.map_eq_some_iff.mp e'
        rw [textsW_ok e1 b]
        rfl
      | _ => cases e
def fJoin (x y : W) (S : Sto) : Res W := match x with
  | .str a => match seqA S y with
    | some ws => match textsW ws with
      | some ys => if (ys.map (·.length)).sum + ys.length * a.length ≤ 16777216 then .ok (.str (Txt.join a ys)) S else .stuck
      | none => .stuck
    | none => .stuck
  | _ => .stuck
theorem ce_join {X : Cx} {o e : Expr} {c d : MV} {apos pos : Pos} (ho : CE X E o c) (he : CE X E e d) (hs : starEach [e] X.env = [(false, eval e X.env)] := by rfl) (hbase : attributeBase o "join" X.env (eval o X.env) = eval o X.env := by rfl) (hline : (apos.endLine == pos.line) = true := by rfl) :
    CE X E (.Call (.Attribute o "join" apos) [e] [] pos) (mM1 fJoin c d) :=
  PE.weak (pe_join ho he hs hbase hline) fun σ H Q ⟨ρ, ι, S, re, rl, h⟩ => ⟨ρ, ι, S, re, rl, (Post.bind h).mono fun x S1 ι1 H1 e1 rl1 h1 xv rx => by
    cases rx with
    | str a =>
      refine ⟨⟨a, rfl⟩, ρ, ι1, S1, re.mono e1, rl1, (Post.bind h1).mono fun y S2 ι2 H2 e2 rl2 h2 yv ry => ?_⟩
      unfold fJoin at h2
      simp only at h2
      split at h2
      · rename_i ws q
        split at h2
        · rename_i ys q2
          split at h2
          · rename_i hz
            obtain ⟨p, vs, rfl, h3, h4⟩ := seqA_ok rl2 q ry
            refine ⟨a, p, ys, rfl, rfl, ?_, hz, PostV.now h2 rl2 (.str _)⟩
            rw [← textsW_ok q2 h4]
            exact h3
          · exact h2.elim
        · exact h2.elim
      · exact h2.elim
    | _ => exact h1.elim⟩
/-- xs.append(e), xs an object of the store -/
def mAppend (c : MV) (t : MW (List W)) : MV := mBind c fun x => match x with
  | .loc l => (fun ρ S => match S[l]? with
    | some (.lst _) => mBind t (fun us => match us with
      | [w] => (fun _ S' => match S'[l]? with
        | some (.lst ws) => if ws.length < sizeLine then .ok .non (S'.set l (.lst (ws ++ [w]))) else .stuck
        | _ => .stuck)
      | _ => fun _ _ => .stuck) ρ S
    | _ => .stuck)
  | _ => fun _ _ => .stuck
theorem ce_append {X : Cx} {o e : Expr} {es : List Expr} {c : MV} {t : MW (List W)} {apos cpos : Pos} (ho : CE X E o c) (ha : CA X E (e :: es) t)
    (hbase : attributeBase o "append" X.env (eval o X.env) = eval o X.env := by rfl)
    (hfew : ((backTo cpos (starEach (e :: es) X.env)).all (fun x => !x.1) && (backToKw cpos (keywordEach [] X.env)).all (fun x => x.1.isSome) && decide ((e :: es).length + ([] : List Keyword).length + (if ([] : List Keyword).isEmpty then 0 else 1) < 30)) = true := by rfl)
    (hline : (apos.endLine == cpos.line) = true := by rfl) (hs : starEach (e :: es) X.env = (false, eval e X.env) :: starEach es X.env := by rfl) (hplain : (backTo cpos (starEach es X.env)).any (·.1) = false := by rfl) :
    CE X E (.Call (.Attribute o "append" apos) (e :: es) [] cpos) (mAppend c t) :=
  PE.weak (pe_bm PySem.F.plainAttrs_list PySem.F.slot_list_append PySem.F.type_list_append mt_append ho ha hbase hfew hline hs hplain) fun σ H Q ⟨ρ, ι, S, re, rl, h⟩ => ⟨ρ, ι, S, re, rl, (Post.bind h).mono fun x S1 ι1 H1 e1 rl1 h1 xv rx => by
    cases rx with
    | @loc l hl =>
      simp only at h1
      split at h1
      · rename_i ws0 q0
        obtain ⟨xs0, o1, o2⟩ := rl1.obj l _ q0
        refine ⟨.inl ⟨rfl, xs0, .inl (.inl o1)⟩, ρ, ι1, S1, re.mono e1, rl1, (Post.bind h1).mono fun us S2 ι2 H2 e2 rl2 h2 vs rvs => ?_⟩
        cases rvs with
        | nil => exact h2.elim
        | @cons w v _ _ a b =>
          cases b with
          | cons _ _ => exact h2.elim
          | nil =>
            simp only at h2
            split at h2
            · rename_i ws q
              split at h2
              · rename_i hz
                have hl2 : l < S2.length := Nat.lt_of_lt_of_le hl e2.le
                obtain ⟨xs, p1, p2⟩ := rl2.obj l _ q
                have ei := e2.io l hl
                refine ⟨ι1 l, xs, v, rfl, rfl, by rw [← ei]; exact p1, by rw [← p2.length]; exact hz, ?_⟩
                rw [← ei]
                have ex := Ext.set (o := .lst (xs ++ [v])) rl2 hl2
                exact h2 ι2 _ (by rw [List.length_set]; exact ex) (rl2.set hl2 ⟨_, upd_same, (p2.mono ex).append (.cons (a.mono ex) .nil)⟩) _ .non
              · exact h2.elim
            · exact h2.elim
      · exact h1.elim
    | _ => exact h1.elim⟩
end
end Mm

/-! The mirror layer: starred targets. -/
namespace Mm
open PySem PySem.Spec PyProof.Rows L2
section
variable {X : Cx} {E : XK}
/-- what a tuple gives to n targets, the i-th of them starred -/
def starV {α : Type} (xs : List α) (n i : Nat) : List α × List α × List α := (xs.take i, (xs.drop i).take (xs.length + 1 - n), (xs.drop i).drop (xs.length + 1 - n))
theorem unpack_starI {pins : List (Addr × Obj)} {σ : L2.St} {H : Hp} {s : Shared} {l : Addr} {vs : List V} {its : List Value} {n i : Nat} {Q : List Value → Shared → Prop} {EE : Value → Shared → Prop} (I : Inv X pins σ H s) (hh : X.A.handled = none) (hl : IsTup s.heap l its.toArray) (rv : Vals vs its)
    (hi : i < n) (hn : n ≤ vs.length + 1) (hz : vs.length ≤ sizeLine)
    (h : ∀ D s' us, H D = none → Inv X pins σ (upd H D (.lst (starV vs n i).2.1)) s' → Vals ((starV vs n i).1 ++ [.ref D] ++ (starV vs n i).2.2) us → Q us s') : wpAny (model X.prog X.w) X.A (unpackItems (.ref l) n (some i)) Q EE s := by
  have hlen := rv.length
  have hsz : its.toArray.size = vs.length := by rw [List.size_toArray]; exact hlen.symm
  have hll : l < s.heap.objs.size := by obtain ⟨o, ho, _⟩ := hl; exact Heap.lt_size ho
  have hlt : l ≠ s.heap.objs.size := Nat.ne_of_lt hll
  unfold unpackItems notIterableAtAll
  refine wpAny_bind (wpAny_bind (wpAny_specialOf hl.typeIs slot_tuple_iter.lookup (wpAny_pure ?_)))
  simp only [Bool.false_eq_true, if_false]
  refine wpAny_bind (wpAny_holding (iter_tuple hl ?_))
  refine wpAny_bind (wpAny_holding (draw_tuple hlt i 0 _ _ ⟨_, Heap.get?_push_size _ rfl, rfl, rfl⟩ (hl.push _) (by rw [hsz]; omega) fun g1 it1 sb1 => ?_))
  have tup1 : IsTup g1 l its.toArray := (hl.push _).extBut sb1.extBut hlt
  rw [Nat.zero_add] at it1
  obtain ⟨oi, hoi, _⟩ := id it1
  obtain ⟨ol, hol, _⟩ := id tup1
  rw [List.drop_zero]
  have efl : (its.toArray.toList.take i).length = i := by simp; omega
  rw [if_neg (by rw [efl]; omega)]
  refine wpAny_bind (wpAny_holding (PySem.W.kun_collect (s := { s with heap := g1 }) (T := "tuple_iterator") (.inr (.inr (.inr rfl))) (Walks.tuple (A := X.A.in1) hh s.heap.objs.size l hlt its.toArray) (fun j u st => st.1.typeIs) (k := i) (by rw [hsz]; omega) ⟨it1, tup1⟩ (Heap.lt_size hoi) (Heap.lt_size hol)
    (fun g2 tk hk => ?_) (by rw [hsz]; exact hz)))
  have keep : ∀ b o, s.heap.get? b = some o → g2.get? b = some o := fun b o e => hk b o (Nat.ne_of_lt (Heap.lt_size e)) (sb1.extBut b o (Nat.ne_of_lt (Heap.lt_size e)) (Heap.get?_push_of_some _ e))
  have I2 : Inv X pins σ H { s with heap := g2, toks := tk } := I.kept (t' := tk) keep
  have er : (its.toArray.toList.drop i).length = vs.length - i := by simp; omega
  show wpAny _ _ (if (its.toArray.toList.drop i).length < n - 1 - i then _ else _) _ _ _
  rw [if_neg (by rw [er]; omega)]
  have em : (its.toArray.toList.drop i).length - (n - 1 - i) = vs.length + 1 - n := by rw [er]; omega
  show wpAny _ _ (newList ((its.toArray.toList.drop i).take ((its.toArray.toList.drop i).length - (n - 1 - i))) >>= fun d => pure (its.toArray.toList.take i ++ [d] ++ (its.toArray.toList.drop i).drop ((its.toArray.toList.drop i).length - (n - 1 - i)))) _ _ _
  rw [em]
  have el : its.toArray.toList = its := by simp
  rw [el]
  have hsm : ((its.drop i).take (vs.length + 1 - n)).length ≤ sizeLine := by rw [List.length_take, List.length_drop]; omega
  refine wpAny_bind (wpAny_newObj_type (wpAny_pure ?_) (by show _ ≤ sizeLine; rw [List.size_toArray]; exact hsm))
  have rm : Vals (starV vs n i).2.1 ((its.drop i).take (vs.length + 1 - n)) := (rv.drop i).take _
  refine h g2.objs.size _ _ (I2.hok.fresh (Nat.le_refl _)) (I2.laid (t' := tk) (o := .lst (starV vs n i).2.1) (fun b o e => Heap.get?_push_of_some _ e) (Nat.le_refl _) ⟨by rw [rm.length]; exact hsm, _, 0, rm, Heap.get?_push_size _ rfl⟩) ?_
  exact ((rv.take i).append (.cons (show RelV (.ref g2.objs.size) (.ref g2.objs.size) from rfl) .nil)).append ((rv.drop i).drop _)
def gStar (K : PySem.W.Frag) (n i : Nat) (t : TGs) : TG := fun v σ H Q => ∃ a xs, v = .ref a ∧ SqT K H a xs ∧ n ≤ xs.length + 1 ∧ ∀ D, H D = none → t ((starV xs n i).1 ++ [.ref D] ++ (starV xs n i).2.2) σ (upd H D (.lst (starV xs n i).2.1)) Q
theorem pg_star {es : List Expr} {k : Nat} {t : TGs} {n i : Nat} {pos : Pos} (hc : X.calm = true) (h : PGs X es t) (hi : i < n) (hn : (assignEach es X.env).length = n) (hst : (assignEach es X.env).findIdx? (·.1) = some i) : PG X (.Tuple es k pos) (gStar X.K n i t) := by
  refine ⟨fun pins s σ H v u Q I r hw => ?_⟩
  obtain ⟨a, xs, rfl, hq, hl, hw⟩ := hw
  cases r
  obtain ⟨its, rv, ht, hz⟩ := I.tuple hq
  rw [assign_Tuple]
  refine wpAny_bind (wpAny_standAt ?_)
  unfold unpack
  rw [hn, hst]
  refine wpAny_bind (wpAny_holding (unpack_starI I (I.ok.hd hc) ht rv hi hl hz fun D s' us hD I' rus => ?_))
  exact h.run pins s' σ _ _ us Q I' rus (hw D hD)
theorem pgs_star {e : Expr} {es : List Expr} {t : TG} {u : TGs} {p : Pos} (h1 : PG X e t) (h2 : PGs X es u) (hs : (assignEach (.Starred e p :: es) X.env).map (·.2) = assign e X.env :: (assignEach es X.env).map (·.2) := by rfl) : PGs X (.Starred e p :: es) (gCons t u) := by
  refine ⟨fun pins s σ H vs us Q I r h => ?_⟩
  obtain ⟨v, vr, e1, h⟩ := h
  subst e1
  cases r with
  | cons r rr =>
    rw [hs]
    refine assignInOrder_cons (thn (h1.run pins s σ H _ _ _ I r h) fun _ s1 z => ?_)
    obtain ⟨σ1, H1, I1, q1⟩ := z
    exact h2.run pins s1 σ1 H1 _ _ Q I1 rr q1
def mgStar (n i : Nat) (gs : MGs) : MG := fun w => match w with
  | .tup ws => if n ≤ ws.length + 1 then gs ((starV ws n i).1 ++ [.lst (starV ws n i).2.1] ++ (starV ws n i).2.2) else fun _ _ => .stuck
  | _ => fun _ _ => .stuck
theorem cgs_star {e : Expr} {es : List Expr} {g : MG} {gs : MGs} {p : Pos} (h1 : CG X E e g) (h2 : CGs X E es gs) (hs : (assignEach (.Starred e p :: es) X.env).map (·.2) = assign e X.env :: (assignEach es X.env).map (·.2) := by rfl) : CGs X E (.Starred e p :: es) (mgCons g gs) :=
  PGs.weak (pgs_star h1 h2 hs) fun vs σ H Q ⟨ws, ρ, ι, S, rws, re, rl, h⟩ => by
    cases rws with
    | nil => exact h.elim
    | @cons w v ws vs a b =>
      refine ⟨v, vs, rfl, w, ρ, ι, S, a, re, rl, (Post.then h).mono fun ρ1 S1 ι1 H1 e1 rl1 q1 σ1 re1 => ?_⟩
      exact ⟨ws, ρ1, ι1, S1, b.mono e1, re1, rl1, q1⟩
theorem cg_star {es : List Expr} {k : Nat} {gs : MGs} {n i : Nat} {pos : Pos} (hc : X.calm = true) (h : CGs X E es gs) (hi : i < n := by decide) (hn : (assignEach es X.env).length = n := by rfl) (hst : (assignEach es X.env).findIdx? (·.1) = some i := by rfl) : CG X E (.Tuple es k pos) (mgStar n i gs) :=
  PG.weak (pg_star hc h hi hn hst) fun v σ H Q ⟨w, ρ, ι, S, rw', re, rl, h⟩ => by
    cases rw' with
    | @tup ws a xs hz r =>
      have h' : Post X.K E ((if n ≤ ws.length + 1 then gs ((starV ws n i).1 ++ [.lst (starV ws n i).2.1] ++ (starV ws n i).2.2) else fun _ _ => Res.stuck) ρ S) ι S.length H _ := h
      by_cases z : n ≤ ws.length + 1
      · rw [if_pos z] at h'
        refine ⟨a, xs, rfl, hz.sq, by rw [← r.length]; exact z, fun D hD => ?_⟩
        have ex := Ext.new (o := .lst (starV xs n i).2.1) rl hD
        have rm : Reps X.K ι S.length H (starV ws n i).2.1 (starV xs n i).2.1 := by
          unfold starV
          rw [r.length]
          exact (r.drop i).take _
        have rl' : Reps X.K ι S.length H (starV ws n i).2.2 (starV xs n i).2.2 := by
          unfold starV
          rw [r.length]
          exact (r.drop i).drop _
        refine ⟨_, ρ, ι, S, (((r.take i).mono ex).append (.cons (.lst (Fz.new rl hD) (rm.mono ex)) .nil)).append (rl'.mono ex), re.mono ex, rl.new hD, Post.from h' ex⟩
      · rw [if_neg z] at h'
        exact h'.elim
    | _ => exact h.elim
end
end Mm

/-! The mirror layer: zip(a, b, strict=True). -/
namespace Mm
open PySem PySem.Spec PyProof.Rows L2
/-! ### the zip object -/
abbrev ZipS (h : Heap) (z ti tu : Addr) (f0 : Value) : Prop := h.get? z = some { cls := .type "zip", dict := none, data := .fields #[f0, .bool false, .bool true, .ref ti, .ref tu], slots := #[] }
abbrev kwS : List (Str × Value) := [(Str.ofString "strict", .bool true)]
theorem zs_typeCall (a b : Value) : checkTypeCall "zip" ⟨[a, b], kwS⟩ = pure () := by kernel_rfl
theorem zs_newCall (a b : Value) : checkBuiltinCall "zip.__new__" ⟨[.type "zip", a, b], kwS⟩ = pure () := by kernel_rfl
theorem zs_init (o a b : Value) : argsOk "object.__init__" ⟨[o, a, b], kwS⟩ := by unfold argsOk; kernel_rfl
abbrev zsT (h : Heap) (o1 o2 : Obj) : Heap := ((h.push o1).push o2).push { cls := .type "tuple", data := .seq #[.ref h.objs.size, .ref (h.push o1).objs.size] }
abbrev zsU (h : Heap) (o1 o2 : Obj) : Heap := (zsT h o1 o2).push { cls := .type "tuple", data := .seq #[.none, .none] }
abbrev zsZ (h : Heap) (o1 o2 : Obj) : Heap := (zsU h o1 o2).push { cls := .type "zip", data := .fields #[.none, .bool false, .bool true, .ref ((h.push o1).push o2).objs.size, .ref (zsT h o1 o2).objs.size] }
theorem meets_zipS {v1 v2 : Value} {o1 o2 : Obj} {G1 G2 : Heap → Prop} (B1 : Begins v1 o1 G1) (B2 : Begins v2 o2 G2) :
    Meets (Builtin.«zip.__new__» ⟨[.type "zip", v1, v2], kwS⟩) (fun _ R s => (G1 s.heap ∧ G2 s.heap) ∧ R (.ok (.ret (.ref (zsU s.heap o1 o2).objs.size))) { s with heap := zsZ s.heap o1 o2 }) :=
  .of_wp fun prog w A R s h => by
    obtain ⟨hp, gs, dr, tk, os⟩ := s
    obtain ⟨⟨b1, b2⟩, fin⟩ := h
    have hsub := sub_zip
    have it1 : ∀ {A2 : Around} {E2 : Value → Shared → Prop} {Q2 : Value → Shared → Prop}, Q2 (.ref hp.objs.size) ⟨hp.push o1, gs, dr, tk, os⟩ → wpAny (model prog w) A2 (pyIter v1) Q2 E2 ⟨hp, gs, dr, tk, os⟩ := fun q => B1.iter prog w _ _ ⟨hp, gs, dr, tk, os⟩ _ b1 q
    have it2 : ∀ {A2 : Around} {E2 : Value → Shared → Prop} {Q2 : Value → Shared → Prop}, Q2 (.ref (hp.push o1).objs.size) ⟨(hp.push o1).push o2, gs, dr, tk, os⟩ → wpAny (model prog w) A2 (pyIter v2) Q2 E2 ⟨hp.push o1, gs, dr, tk, os⟩ :=
      fun q => B2.iter prog w _ _ ⟨hp.push o1, gs, dr, tk, os⟩ _ (B2.keeps _ _ b2 fun b o' e => Heap.get?_push_of_some _ e) q
    have k1 : (Str.ofString "strict" != ("strict" : Str)) = false := by decide +kernel
    have k2 : (Str.ofString "strict" == ("strict" : Str)) = true := by decide +kernel
    wp_walk using it1, it2
    exact ⟨_, rfl, fin⟩
end Mm

namespace Mm
open PySem PySem.Spec PyProof.Rows L2
section
variable {prog : Program} {w : World} {A : Around} {E : Value → Shared → Prop} {s : Shared} {z ti tu i1 i2 : Addr} {fp1 fp2 : List Addr} {n1 n2 i : Nat} {P1 P2 : Nat → Value → Prop} {St1 St2 : Nat → Heap → Prop} {a1 a2 : Value}
/-- zip(v1, v2, strict=True): its five new cells -/
theorem zipS_begins {v1 v2 : Value} {o1 o2 : Obj} {G1 G2 : Heap → Prop} {Q : Value → Shared → Prop} (B1 : Begins v1 o1 G1) (B2 : Begins v2 o2 G2) (b1 : G1 s.heap) (b2 : G2 s.heap)
    (h : ∀ h', ZipS h' (s.heap.objs.size + 4) (s.heap.objs.size + 2) (s.heap.objs.size + 3) .none → IsTupOf2 h' (s.heap.objs.size + 2) (.ref s.heap.objs.size) (.ref (s.heap.objs.size + 1)) → IsTupOf2 h' (s.heap.objs.size + 3) .none .none →
      h'.get? s.heap.objs.size = some o1 → h'.get? (s.heap.objs.size + 1) = some o2 → (∀ c o, s.heap.get? c = some o → h'.get? c = some o) → Q (.ref (s.heap.objs.size + 4)) { s with heap := h' }) :
    wpAny (model prog w) A (call (.type "zip") [v1, v2] kwS) Q E s := by
  refine callType_newKw F.called_zip (by decide) (zs_typeCall _ _) (zs_newCall _ _) (fun obj => zs_init obj _ _) F.entry_zip_new (meets_zipS B1 B2) ⟨⟨b1, b2⟩, ?_⟩
  have y1 : (s.heap.push o1).objs.size = s.heap.objs.size + 1 := by rw [Heap.size_push]
  have y2 : ((s.heap.push o1).push o2).objs.size = s.heap.objs.size + 2 := by rw [Heap.size_push, y1]
  have y3 : (zsT s.heap o1 o2).objs.size = s.heap.objs.size + 3 := by rw [Heap.size_push, y2]
  have y4 : (zsU s.heap o1 o2).objs.size = s.heap.objs.size + 4 := by rw [Heap.size_push, y3]
  have c4 : (zsZ s.heap o1 o2).get? (zsU s.heap o1 o2).objs.size = some { cls := .type "zip", data := .fields #[.none, .bool false, .bool true, .ref ((s.heap.push o1).push o2).objs.size, .ref (zsT s.heap o1 o2).objs.size] } := Heap.get?_push_size _ rfl
  have c3 : (zsZ s.heap o1 o2).get? (zsT s.heap o1 o2).objs.size = some { cls := .type "tuple", data := .seq #[.none, .none] } := Heap.get?_push_of_some _ (Heap.get?_push_size _ rfl)
  have up : ∀ c o, ((s.heap.push o1).push o2).get? c = some o → (zsZ s.heap o1 o2).get? c = some o := fun c o e => Heap.get?_push_of_some _ (Heap.get?_push_of_some _ (Heap.get?_push_of_some _ e))
  have c2 : (zsZ s.heap o1 o2).get? ((s.heap.push o1).push o2).objs.size = some { cls := .type "tuple", data := .seq #[.ref s.heap.objs.size, .ref (s.heap.push o1).objs.size] } := Heap.get?_push_of_some _ (Heap.get?_push_of_some _ (Heap.get?_push_size _ rfl))
  have c1 : (zsZ s.heap o1 o2).get? (s.heap.push o1).objs.size = some o2 := up _ _ (Heap.get?_push_size _ B2.free)
  have c0 : (zsZ s.heap o1 o2).get? s.heap.objs.size = some o1 := up _ _ (Heap.get?_push_of_some _ (Heap.get?_push_size _ B1.free))
  rw [y4, y3, y2] at c4
  rw [y3] at c3
  rw [y2, y1] at c2
  rw [y1] at c1
  show _ ∧ _
  rw [y4]
  exact ⟨⟨_, c4, rfl⟩, h _ c4 c2 c3 c0 c1 fun c o e => up c o (Heap.get?_push_of_some _ (Heap.get?_push_of_some _ e))⟩
theorem drawS_item {it : Addr} {fp : List Addr} {n : Nat} {P : Nat → Value → Prop} {St : Nat → Heap → Prop} {Q : Option Value → Shared → Prop} (D : Draws prog w A it fp n P St) (hi : i < n) (st : St i s.heap)
    (hQ : ∀ x h' tk, P i x → St (i + 1) h' → Heap.SameBut it s.heap h' → Q (some x) { s with heap := h', toks := tk }) : wpAny (model prog w) A (Builtin.SmallTypes.nextOrEnd (.ref it)) Q E s := by
  unfold Builtin.SmallTypes.nextOrEnd
  exact wpAny_bind (wpAny_attempt (D.item i s _ _ hi st fun x h' tk p st' sb => wpAny_pure (hQ x h' tk p st' sb)))
theorem drawS_end {it : Addr} {fp : List Addr} {n : Nat} {P : Nat → Value → Prop} {St : Nat → Heap → Prop} {Q : Option Value → Shared → Prop} (D : Draws prog w A it fp n P St) (st : St n s.heap)
    (hQ : ∀ h', Heap.ExtBut it s.heap h' → Q none { s with heap := h' }) : wpAny (model prog w) A (Builtin.SmallTypes.nextOrEnd (.ref it)) Q E s := by
  unfold Builtin.SmallTypes.nextOrEnd
  refine wpAny_bind (wpAny_attempt (D.done s _ _ st fun h' e hx he => ?_))
  obtain ⟨o, ho, hc⟩ := he
  refine wpAny_bind (wpAny_isInstance (T := "StopIteration") (b := true) ⟨o, ho, hc⟩ isSubtype_stop ?_)
  exact wpAny_pure (hQ h' hx)
theorem zipS_next_item {Q : Value → Shared → Prop} (S : ZipSep2 z ti tu i1 i2 fp1 fp2) (D1 : Draws prog w A i1 fp1 n1 P1 St1) (D2 : Draws prog w A i2 fp2 n2 P2 St2)
    (hz : ZipS s.heap z ti tu .none) (hti : IsTupOf2 s.heap ti (.ref i1) (.ref i2)) (htu : IsTupOf2 s.heap tu a1 a2) (st1 : St1 i s.heap) (st2 : St2 i s.heap) (lt1 : i < n1) (lt2 : i < n2)
    (hQ : ∀ x1 x2 h' tk, P1 i x1 → P2 i x2 → ZipS h' z ti tu (rawInt s.heap.objs.size) → IsTupOf2 h' tu x1 x2 → St1 (i + 1) h' → St2 (i + 1) h' → IsTupOf2 h' s.heap.objs.size x1 x2 → h'.objs.size = s.heap.objs.size + 1 →
      (∀ c o, c ≠ z → c ≠ tu → c ≠ i1 → c ≠ i2 → s.heap.get? c = some o → h'.get? c = some o) → Q (.ref s.heap.objs.size) { s with heap := h', toks := tk }) :
    wpAny (model prog w) A (Builtin.«zip.__next__» ⟨[.ref z], []⟩) (fun fin s' => ∃ v, fin = .done (.ret v) ∧ Q v s') E s := by
  obtain ⟨hp, g, d, tk0, os⟩ := s
  show wpAny _ _ (field (.ref z) 2 >>= _) _ _ _
  refine wpAny_bind (wpAny_field hz rfl (x := .bool true) rfl ?_)
  show wpAny _ _ (field (.ref z) 3 >>= _) _ _ _
  refine wpAny_bind (wpAny_field hz rfl (x := .ref ti) rfl (wpAny_bind (wpAny_seqItems hti rfl ?_)))
  show wpAny _ _ (Builtin.SmallTypes.ownedTupleIsFree (.ref z) >>= _) _ _ _
  unfold Builtin.SmallTypes.ownedTupleIsFree
  refine wpAny_bind (wpAny_bind (wpAny_field hz rfl (x := .none) rfl (wpAny_pure ?_)))
  simp only [if_true]
  refine wpAny_bind (wpAny_rule (wpAny_bind (wpAny_field hz rfl (x := .ref tu) rfl ?_)))
  refine wpAny_bind (wpAny_setField_rec hz (by simp) fun k0 zk0 sb0 => ?_)
  have zk0' : ZipS k0 z ti tu .ellipsis := zk0
  have sb0' : Heap.SameBut z hp k0 := sb0
  refine wpAny_bind ?_
  simp only [List.zipIdx_cons, List.zipIdx_nil, List.forIn_cons, List.forIn_nil]
  refine wpAny_bind (wpAny_bind (wpAny_onRaise ?_))
  show wpAny _ _ (Builtin.SmallTypes.nextOrEnd (.ref i1)) _ _ ⟨k0, g, d, tk0, os⟩
  refine drawS_item D1 lt1 (D1.over st1 sb0' S.zf1) fun x1 q1 tk1 px1 sn1 sq1 => ?_
  have sq1' : Heap.SameBut i1 k0 q1 := sq1
  have u1 : IsTupOf2 q1 tu a1 a2 := sq1'.extBut _ _ S.Ti1 (sb0'.extBut _ _ S.TOz htu)
  refine wpAny_bind (wpAny_seqItems (s := ⟨q1, g, d, tk1, os⟩) u1 rfl (wpAny_bind (updateSeq_IsTupOf2 (s := ⟨q1, g, d, tk1, os⟩) u1 fun k1 tk1' sb1 => ?_)))
  have u2 : IsTupOf2 k1 tu x1 a2 := tk1'
  have sb1' : Heap.SameBut tu q1 k1 := sb1
  refine wpAny_bind (wpAny_letGo (wpAny_pure ?_))
  refine wpAny_bind (wpAny_bind (wpAny_onRaise ?_))
  show wpAny _ _ (Builtin.SmallTypes.nextOrEnd (.ref i2)) _ _ ⟨k1, g, d, tk1, os⟩
  refine drawS_item D2 lt2 (D2.over (D2.over (D2.over st2 sb0' S.zf2) sq1' S.sep1_2) sb1' S.Tf2) fun x2 q2 tk2 px2 sn2 sq2 => ?_
  have sq2' : Heap.SameBut i2 k1 q2 := sq2
  have u3 : IsTupOf2 q2 tu x1 a2 := sq2'.extBut _ _ S.Ti2 u2
  refine wpAny_bind (wpAny_seqItems (s := ⟨q2, g, d, tk2, os⟩) u3 rfl (wpAny_bind (updateSeq_IsTupOf2 (s := ⟨q2, g, d, tk2, os⟩) u3 fun k2 tk2' sb2 => ?_)))
  have u4 : IsTupOf2 k2 tu x1 x2 := tk2'
  have sb2' : Heap.SameBut tu q2 k2 := sb2
  refine wpAny_bind (wpAny_letGo (wpAny_pure (wpAny_pure ?_)))
  refine wpAny_bind (wpAny_seqItems (s := ⟨k2, g, d, tk2, os⟩) u4 rfl (wpAny_bind (wpAny_newTuple ?_)))
  have sz : k2.objs.size = hp.objs.size := by rw [sb2'.1, sq2'.1, sb1'.1, sq1'.1, sb0'.1]
  have zz : ZipS k2 z ti tu .ellipsis := sb2'.extBut _ _ S.TOz.symm (sq2'.extBut _ _ S.zi2 (sb1'.extBut _ _ S.TOz.symm (sq1'.extBut _ _ S.zi1 zk0')))
  have kk : ∀ c o, c ≠ z → c ≠ tu → c ≠ i1 → c ≠ i2 → hp.get? c = some o → k2.get? c = some o := fun c o cz cT c1 c2 e =>
    sb2'.extBut _ _ cT (sq2'.extBut _ _ c2 (sb1'.extBut _ _ cT (sq1'.extBut _ _ c1 (sb0'.extBut _ _ cz e))))
  have j1 : St1 (i + 1) k2 := D1.over (D1.over (D1.over sn1 sb1' S.Tf1) sq2' S.sep2_1) sb2' S.Tf1
  have j2 : St2 (i + 1) k2 := D2.over sn2 sb2' S.Tf2
  have zlt : z < k2.objs.size := Heap.lt_size zz
  show wpAny _ _ (Builtin.SmallTypes.ownedTupleHandOut (.ref z) (.ref k2.objs.size) >>= _) _ _ ⟨k2.push { cls := .type "tuple", data := .seq #[x1, x2] }, g, d, tk2, os⟩
  unfold Builtin.SmallTypes.ownedTupleHandOut
  have z6 : ZipS (k2.push { cls := .type "tuple", data := .seq #[x1, x2] }) z ti tu .ellipsis := Heap.get?_push_of_some _ zz
  refine wpAny_bind (wpAny_bind (wpAny_setField_rec z6 (by simp) fun k7 z7 sb7 => ?_))
  have z7' : ZipS k7 z ti tu (rawInt k2.objs.size) := z7
  have sb7' : Heap.SameBut z (k2.push { cls := .type "tuple", data := .seq #[x1, x2] }) k7 := sb7
  refine wpAny_setField_rec z7' (by simp) fun k8 z8 sb8 => ?_
  have z8' : ZipS k8 z ti tu (rawInt k2.objs.size) := z8
  have sb8' : Heap.SameBut z k7 k8 := sb8
  have up : ∀ c o, c ≠ z → k2.get? c = some o → k8.get? c = some o := fun c o c1 e => sb8'.extBut _ _ c1 (sb7'.extBut _ _ c1 (Heap.get?_push_of_some _ e))
  have t8 : IsTupOf2 k8 k2.objs.size x1 x2 := sb8'.extBut _ _ (Nat.ne_of_gt zlt) (sb7'.extBut _ _ (Nat.ne_of_gt zlt) (Heap.get?_push_size _ rfl))
  have s8 : k8.objs.size = k2.objs.size + 1 := by rw [sb8'.1, sb7'.1, Heap.size_push]
  rw [sz] at z8' t8 s8
  refine wpAny_pure ⟨_, rfl, ?_⟩
  show Q (.ref k2.objs.size) ⟨k8, g, d, tk2, os⟩
  rw [sz]
  exact hQ x1 x2 k8 tk2 px1 px2 z8' (up _ _ S.TOz u4) (D1.frame _ _ _ j1 fun b hb o e => up b o (fun q => S.zf1 (q ▸ hb)) e) (D2.frame _ _ _ j2 fun b hb o e => up b o (fun q => S.zf2 (q ▸ hb)) e) t8 s8 fun c o cz cT c1 c2 e => up c o cz (kk c o cz cT c1 c2 e)
theorem zipS_next_end {Q : Fin → Shared → Prop} (hh : A.handled = none) (S : ZipSep2 z ti tu i1 i2 fp1 fp2) (D1 : Draws prog w A i1 fp1 n1 P1 St1) (D2 : Draws prog w A i2 fp2 n2 P2 St2)
    (hz : ZipS s.heap z ti tu .none) (hti : IsTupOf2 s.heap ti (.ref i1) (.ref i2)) (st1 : St1 n1 s.heap) (st2 : St2 n2 s.heap)
    (hE : ∀ h' e, (∀ c o, c ≠ z → c ≠ tu → c ≠ i1 → c ≠ i2 → s.heap.get? c = some o → h'.get? c = some o) → (∃ o, h'.get? e = some o ∧ o.cls = .type "StopIteration") → E (.ref e) { s with heap := h' }) :
    wpAny (model prog w) A (Builtin.«zip.__next__» ⟨[.ref z], []⟩) Q E s := by
  obtain ⟨hp, g, d, tk0, os⟩ := s
  show wpAny _ _ (field (.ref z) 2 >>= _) _ _ _
  refine wpAny_bind (wpAny_field hz rfl (x := .bool true) rfl ?_)
  show wpAny _ _ (field (.ref z) 3 >>= _) _ _ _
  refine wpAny_bind (wpAny_field hz rfl (x := .ref ti) rfl (wpAny_bind (wpAny_seqItems hti rfl ?_)))
  show wpAny _ _ (Builtin.SmallTypes.ownedTupleIsFree (.ref z) >>= _) _ _ _
  unfold Builtin.SmallTypes.ownedTupleIsFree
  refine wpAny_bind (wpAny_bind (wpAny_field hz rfl (x := .none) rfl (wpAny_pure ?_)))
  simp only [if_true]
  refine wpAny_bind (wpAny_rule (wpAny_bind (wpAny_field hz rfl (x := .ref tu) rfl ?_)))
  refine wpAny_bind (wpAny_setField_rec hz (by simp) fun k0 zk0 sb0 => ?_)
  have zk0' : ZipS k0 z ti tu .ellipsis := zk0
  have sb0' : Heap.SameBut z hp k0 := sb0
  refine wpAny_bind ?_
  simp only [List.zipIdx_cons, List.zipIdx_nil, List.forIn_cons, List.forIn_nil]
  refine wpAny_bind (wpAny_bind (wpAny_onRaise ?_))
  show wpAny _ _ (Builtin.SmallTypes.nextOrEnd (.ref i1)) _ _ ⟨k0, g, d, tk0, os⟩
  refine drawS_end D1 (D1.over st1 sb0' S.zf1) fun q1 sq1 => ?_
  have sq1' : Heap.ExtBut i1 k0 q1 := sq1
  have zq1 : ZipS q1 z ti tu .ellipsis := sq1' _ _ S.zi1 zk0'
  refine wpAny_bind (wpAny_setField_rec (s := ⟨q1, g, d, tk0, os⟩) zq1 (by simp) fun k1 zk1 sb1 => ?_)
  have sb1' : Heap.SameBut z q1 k1 := sb1
  refine wpAny_bind ?_
  have dec0 : ¬ (0 > 0) := by decide
  with_unfolding_all refine wpAny_bind ?_
  simp only [List.drop_succ_cons, List.drop_zero, List.zipIdx_cons, List.zipIdx_nil, List.forIn_cons, List.forIn_nil]
  have st2' : St2 n2 k1 := D2.frame _ _ _ (D2.frame _ _ _ (D2.over st2 sb0' S.zf2) fun b hb o e => sq1' b o (fun q => S.sep1_2 (q ▸ hb)) e) fun b hb o e => sb1'.extBut b o (fun q => S.zf2 (q ▸ hb)) e
  refine wpAny_bind (wpAny_bind (drawS_end (s := ⟨k1, g, d, tk0, os⟩) D2 st2' fun q2 sq2 => ?_))
  have sq2' : Heap.ExtBut i2 k1 q2 := sq2
  simp only [Option.isSome_none, Bool.false_eq_true, if_false]
  refine wpAny_pure (wpAny_pure (wpAny_bind (wpAny_rule ?_)))
  unfold Builtin.SmallTypes.stopIteration
  simp only [newExc, newTuple]
  refine wpAny_bind (wpAny_bind (wpAny_newObj_type ?_ (by size_fits)))
  refine wpAny_bind (m := firstArgMember _ _) (wpAny_of_eq (a := Value.none) (by first | rfl | (simp only [firstArgMember]; rfl)) ?_)
  refine wpAny_newObj_type ?_ (by size_fits)
  simp only [raiseNew]
  refine wpAny_bind (wpAny_handled ?_)
  rw [hh]
  refine wpAny_bind (wpAny_pure (wpAny_throw ?_))
  refine hE _ _ (fun c o cz cT c1 c2 e => Heap.get?_push_of_some _ (Heap.get?_push_of_some _ (sq2' _ _ c2 (sb1'.extBut _ _ cz (sq1' _ _ c1 (sb0'.extBut _ _ cz e)))))) ⟨_, Heap.get?_push_size _ rfl, rfl⟩
end
end Mm

namespace Mm
open PySem PySem.Spec PyProof.Rows L2
/-! ### a list or a tuple, told by a truth -/
def SqB (k : Bool) (K : PySem.W.Frag) (H : Hp) (a : Addr) (xs : List V) : Prop := match k with
  | true => SqT K H a xs
  | false => SqL K H a xs
def IterB (k : Bool) (h : Heap) (it a : Addr) (i : Nat) : Prop := match k with
  | true => h.IsTupleIter it a i
  | false => h.IsListIter it a i
def SeqB (k : Bool) (h : Heap) (a : Addr) (its : Array Value) : Prop := match k with
  | true => h.IsTuple a its
  | false => h.IsList a its
def iterO (k : Bool) (a : Addr) : Obj := match k with
  | true => { cls := .type "tuple_iterator", data := .fields #[.ref a, .int 0 0] }
  | false => { cls := .type "list_iterator", data := .fields #[.ref a, .int 0 0] }
theorem drawsB {prog : Program} {w : World} {A : Around} (k : Bool) (hh : A.handled = none) (it a : Addr) (hne : a ≠ it) (its : Array Value) : Draws prog w A it [it, a] its.size (fun i v => its[i]? = some v) (fun i h => IterB k h it a i ∧ SeqB k h a its) := by
  cases k
  · exact Draws.list hh it a hne its
  · exact Draws.tuple hh it a hne its
theorem beginsB (k : Bool) (a : Addr) (its : Array Value) : Begins (.ref a) (iterO k a) fun h => SeqB k h a its := by
  cases k
  · exact begins_list a its
  · exact begins_tuple a its
theorem iterB_new {k : Bool} {h : Heap} {it a : Addr} (e : h.get? it = some (iterO k a)) : IterB k h it a 0 := by
  cases k
  · exact ⟨_, e, rfl, rfl⟩
  · exact ⟨_, e, rfl, rfl⟩
theorem IterB.obj {k : Bool} {h : Heap} {it a : Addr} {i : Nat} (x : IterB k h it a i) : ∃ o, h.get? it = some o ∧ ∀ v, o.data ≠ .cell v := by
  cases k
  · obtain ⟨o, e, _, d⟩ := x
    exact ⟨o, e, fun v q => by rw [d] at q; cases q⟩
  · obtain ⟨o, e, _, d⟩ := x
    exact ⟨o, e, fun v q => by rw [d] at q; cases q⟩
theorem IterB.at {k : Bool} {h h' : Heap} {it a : Addr} {i : Nat} (x : IterB k h it a i) (e : ∀ o, h.get? it = some o → h'.get? it = some o) : IterB k h' it a i := by
  cases k
  · exact Heap.IsListIter.at x e
  · exact Heap.IsTupleIter.at x e
theorem SqB.seq {k : Bool} {X : Cx} {pins : List (Addr × Obj)} {σ : L2.St} {H : Hp} {s : Shared} {a : Addr} {xs : List V} (I : Inv X pins σ H s) (h : SqB k X.K H a xs) : ∃ its : List Value, Vals xs its ∧ SeqB k s.heap a its.toArray ∧ a < s.heap.objs.size := by
  cases k
  · obtain ⟨its, rv, p, _⟩ := I.list h
    exact ⟨its, rv, p.isList, p.lt⟩
  · obtain ⟨its, rv, p, _⟩ := I.tuple h
    obtain ⟨o, ho, _⟩ := id p
    exact ⟨its, rv, p, Heap.lt_size ho⟩
theorem SqB.inj {k : Bool} {X : Cx} {pins : List (Addr × Obj)} {σ : L2.St} {H : Hp} {s : Shared} {a : Addr} {xs ys : List V} (I : Inv X pins σ H s) (h : SqB k X.K H a xs) (h' : SqB k X.K H a ys) : xs = ys := by
  cases k
  · exact I.list_inj h h'
  · exact I.tuple_inj h h'
/-- the pairs -/
def ItS (k1 k2 : Bool) (K : PySem.W.Frag) (a b : Addr) : It where
  go := fun i H => ∃ (xs ys : List V) (x y : V), SqB k1 K H a xs ∧ SqB k2 K H b ys ∧ xs[i]? = some x ∧ ys[i]? = some y
  yld := fun i H v H' => ∃ T x y, v = .ref T ∧ H T = none ∧ H' = upd H T (.tup [x, y]) ∧ (∀ xs, SqB k1 K H a xs → xs[i]? = some x) ∧ ∀ ys, SqB k2 K H b ys → ys[i]? = some y
  stop := fun i H => ∃ xs ys : List V, SqB k1 K H a xs ∧ SqB k2 K H b ys ∧ xs.length = i ∧ ys.length = i
structure Apart (z ti tu i1 i2 a b : Addr) : Prop where
  sep : ZipSep2 z ti tu i1 i2 [i1, a] [i2, b]
  ai : a ≠ i1
  bi : b ≠ i2
theorem apart_new (n a b : Nat) (ha : a < n) (hb : b < n) : Apart (n + 4) (n + 2) (n + 3) n (n + 1) a b :=
  ⟨zip_sep2 (N := n) (fp1 := [a]) (fp2 := [b]) (fun c hc => by rw [List.mem_singleton.mp hc]; exact ha) (fun c hc => by rw [List.mem_singleton.mp hc]; exact hb), by show (a : Nat) ≠ n; omega, by show (b : Nat) ≠ n + 1; omega⟩
theorem go_zipS {prog : Program} {w : World} {A : Around} {E : Value → Shared → Prop} {s : Shared} {elts : List Expr} {k : Nat} {pos : Pos} {z ti tu T : Addr} {Q : Unit → Shared → Prop} (hz : ZipS s.heap z ti tu (rawInt T))
    (hQ : ∀ h', ZipS h' z ti tu .none → Heap.SameBut z s.heap h' → Q () { s with heap := h' }) : wpAny (model prog w) A (letOwnedTupleGo (.Tuple elts k pos) (.ref z) (.ref T)) Q E s := by
  unfold letOwnedTupleGo
  refine wpAny_bind (wpAny_load hz ?_)
  simp only
  rw [if_pos (by simp)]
  exact wpAny_bind (wpAny_rule (wpAny_setField_rec hz (by simp) fun h' z' sb => hQ h' z' sb))
theorem next_zipS {prog : Program} {w : World} {A : Around} {E : Value → Shared → Prop} {s : Shared} {z ti tu i1 i2 : Addr} {fp1 fp2 : List Addr} {n1 n2 i : Nat} {P1 P2 : Nat → Value → Prop} {St1 St2 : Nat → Heap → Prop} {a1 a2 : Value} {Q : Option Value → Shared → Prop} (S : ZipSep2 z ti tu i1 i2 fp1 fp2)
    (D1 : Draws prog w A.in1 i1 fp1 n1 P1 St1) (D2 : Draws prog w A.in1 i2 fp2 n2 P2 St2) (hz : ZipS s.heap z ti tu .none) (hti : IsTupOf2 s.heap ti (.ref i1) (.ref i2)) (htu : IsTupOf2 s.heap tu a1 a2) (st1 : St1 i s.heap) (st2 : St2 i s.heap) (lt1 : i < n1) (lt2 : i < n2)
    (hQ : ∀ x1 x2 h' tk, P1 i x1 → P2 i x2 → ZipS h' z ti tu (rawInt s.heap.objs.size) → IsTupOf2 h' tu x1 x2 → St1 (i + 1) h' → St2 (i + 1) h' → IsTupOf2 h' s.heap.objs.size x1 x2 → h'.objs.size = s.heap.objs.size + 1 →
      (∀ c o, c ≠ z → c ≠ tu → c ≠ i1 → c ≠ i2 → s.heap.get? c = some o → h'.get? c = some o) → Q (some (.ref s.heap.objs.size)) { s with heap := h', toks := tk }) : wpAny (model prog w) A (pyNext (.ref z)) Q E s := by
  have ty : s.TypeIs (.ref z) "zip" := ⟨_, hz, rfl⟩
  unfold pyNext
  exact wpAny_bind (wpAny_attempt (wpAny_callSpecial?_slot (name := Str.ofString "__next__") ty F.slot_zip_next (wpAny_call_entry F.slot_zip_next ty F.entry_zip_next
    (zipS_next_item S D1 D2 hz hti htu st1 st2 lt1 lt2 fun x1 x2 h' tk y1 y2 b1 b2 d1 d2 b5 b6 b7 => wpAny_pure (hQ x1 x2 h' tk y1 y2 b1 b2 d1 d2 b5 b6 b7)) (F.args_zip_next_1 _))))
theorem end_zipS {prog : Program} {w : World} {A : Around} {E : Value → Shared → Prop} {s : Shared} {z ti tu i1 i2 : Addr} {fp1 fp2 : List Addr} {n1 n2 : Nat} {P1 P2 : Nat → Value → Prop} {St1 St2 : Nat → Heap → Prop} {Q : Option Value → Shared → Prop} (hh : A.handled = none) (S : ZipSep2 z ti tu i1 i2 fp1 fp2)
    (D1 : Draws prog w A.in1 i1 fp1 n1 P1 St1) (D2 : Draws prog w A.in1 i2 fp2 n2 P2 St2) (hz : ZipS s.heap z ti tu .none) (hti : IsTupOf2 s.heap ti (.ref i1) (.ref i2)) (st1 : St1 n1 s.heap) (st2 : St2 n2 s.heap)
    (hQ : ∀ h', (∀ c o, c ≠ z → c ≠ tu → c ≠ i1 → c ≠ i2 → s.heap.get? c = some o → h'.get? c = some o) → Q none { s with heap := h' }) : wpAny (model prog w) A (pyNext (.ref z)) Q E s := by
  have ty : s.TypeIs (.ref z) "zip" := ⟨_, hz, rfl⟩
  unfold pyNext
  refine wpAny_bind (wpAny_attempt (wpAny_callSpecial?_slot (name := Str.ofString "__next__") ty F.slot_zip_next (wpAny_call_entry F.slot_zip_next ty F.entry_zip_next
    (zipS_next_end (A := A.in1) hh S D1 D2 hz hti st1 st2 fun h' e hk he => ?_) (F.args_zip_next_1 _))))
  obtain ⟨o, ho, hc⟩ := he
  exact wpAny_bind (wpAny_isInstance (T := "StopIteration") (b := true) ⟨o, ho, hc⟩ isSubtype_stop (wpAny_pure (hQ _ hk)))
theorem turn_zipS {P : Program} {w : World} {K : PySem.W.Frag} {elts : List Expr} {kk : Nat} {tpos : Pos} {k1 k2 : Bool} {a b z ti tu i1 i2 : Addr} (D : Apart z ti tu i1 i2 a b) :
    Turn P w K (.Tuple elts kk tpos) (ItS k1 k2 K a b) [z, ti, tu, i1, i2] z (fun i h => ZipS h z ti tu .none ∧ IsTupOf2 h ti (.ref i1) (.ref i2) ∧ (∃ x y, IsTupOf2 h tu x y) ∧ IterB k1 h i1 a i ∧ IterB k2 h i2 b i) where
  mem := by simp
  obj := fun i h st c hc => by
    obtain ⟨hz, h1, ⟨x, y, h2⟩, h3, h4⟩ := st
    simp only [List.mem_cons, List.not_mem_nil, or_false] at hc
    rcases hc with q | q | q | q | q <;> subst q
    · exact ⟨_, hz, fun v q => nomatch q⟩
    · exact ⟨_, h1, fun v q => nomatch q⟩
    · exact ⟨_, h2, fun v q => nomatch q⟩
    · exact h3.obj
    · exact h4.obj
  keep := fun i h h' st k => by
    obtain ⟨hz, h1, ⟨x, y, h2⟩, h3, h4⟩ := st
    exact ⟨k z (by simp) _ hz, k ti (by simp) _ h1, ⟨x, y, k tu (by simp) _ h2⟩, h3.at fun o q => k i1 (by simp) o q, h4.at fun o q => k i2 (by simp) o q⟩
  item := by
    intro X hP hw hK hc i pins s σ H E I hf st hg
    subst hP hw hK
    obtain ⟨hz, hti, ⟨x0, y0, htu⟩, h1, h2⟩ := st
    obtain ⟨xs, ys, x, y, qx, qy, hx, hy⟩ := hg
    obtain ⟨us, rv, p1, _⟩ := qx.seq I
    obtain ⟨us2, rv2, p2, _⟩ := qy.seq I
    obtain ⟨u, hu, ru⟩ := rv.get hx
    obtain ⟨u2, hu2, ru2⟩ := rv2.get hy
    have zl : z < s.heap.objs.size := Heap.lt_size hz
    have lt1 : i < us.toArray.size := by rw [List.size_toArray]; exact (List.getElem?_eq_some_iff.mp hu).1
    have lt2 : i < us2.toArray.size := by rw [List.size_toArray]; exact (List.getElem?_eq_some_iff.mp hu2).1
    refine next_zipS D.sep (drawsB (A := X.A.in1) k1 (I.ok.hd hc) i1 a D.ai us.toArray) (drawsB (A := X.A.in1) k2 (I.ok.hd hc) i2 b D.bi us2.toArray) hz hti htu ⟨h1, p1⟩ ⟨h2, p2⟩ lt1 lt2 fun y1 y2 h' tk e1 e2 z' tu' j1 j2 hT hsz hk => ?_
    have ey1 : y1 = u := by
      have e3 : us[i]? = some y1 := by simpa using e1
      rw [hu] at e3
      exact (Option.some.inj e3).symm
    have ey2 : y2 = u2 := by
      have e3 : us2[i]? = some y2 := by simpa using e2
      rw [hu2] at e3
      exact (Option.some.inj e3).symm
    subst ey1 ey2
    refine ⟨_, rfl, go_zipS (s := { s with heap := h', toks := tk }) z' fun h'' z'' sb => ?_⟩
    have t2 : h''.get? s.heap.objs.size = some { cls := .type "tuple", data := .seq #[y1, y2] } := (sb.2 _ (Nat.ne_of_gt zl)).trans hT
    have new : ObjOk X.prog X.w (upd H s.heap.objs.size (.tup [x, y])) h'' s.heap.objs.size (.tup [x, y]) := ⟨by show 2 ≤ sizeLine; decide, [y1, y2], .cons ru (.cons ru2 .nil), ⟨_, t2, rfl, _, rfl⟩⟩
    have keepc : ∀ c o, c ∉ [z, ti, tu, i1, i2] → s.heap.get? c = some o → h''.get? c = some o := fun c o hb q => by
      simp only [List.mem_cons, List.not_mem_nil, or_false, not_or] at hb
      exact (sb.2 c hb.1).trans (hk c o hb.1 hb.2.2.1 hb.2.2.2.1 hb.2.2.2.2 q)
    have I1 : Inv X pins σ (upd H s.heap.objs.size (.tup [x, y])) { s with heap := h'', toks := tk } := I.turnedNew (t' := tk) (ch := [z, ti, tu, i1, i2]) keepc hf (Nat.le_refl _) new
    refine ⟨.ref s.heap.objs.size, _, I1, rfl, ⟨_, x, y, rfl, I.hok.fresh (Nat.le_refl _), rfl, fun l hl => by rw [hl.inj I qx]; exact hx, fun l hl => by rw [hl.inj I qy]; exact hy⟩, ⟨z'', ?_, ⟨y1, y2, ?_⟩, ?_, ?_⟩, fun c hcm => ?_⟩
    · exact (sb.2 _ D.sep.TIz).trans (hk _ _ D.sep.TIz D.sep.TITO D.sep.TIi1 D.sep.TIi2 hti)
    · exact (sb.2 _ D.sep.TOz).trans tu'
    · exact j1.1.at fun o q => (sb.2 _ D.sep.zi1.symm).trans q
    · exact j2.1.at fun o q => (sb.2 _ D.sep.zi2.symm).trans q
    · have hlt : c < s.heap.objs.size := by
        simp only [List.mem_cons, List.not_mem_nil, or_false] at hcm
        rcases hcm with q | q | q | q | q <;> subst q
        · exact zl
        · exact Heap.lt_size hti
        · exact Heap.lt_size htu
        · obtain ⟨_, e1, _⟩ := h1.obj; exact Heap.lt_size e1
        · obtain ⟨_, e1, _⟩ := h2.obj; exact Heap.lt_size e1
      rw [upd_ne (Nat.ne_of_lt hlt)]
      exact (hf c hcm).1
  done := by
    intro X hP hw hK hc i pins s σ H E I hf st hg
    subst hP hw hK
    obtain ⟨hz, hti, ⟨x0, y0, htu⟩, h1, h2⟩ := st
    obtain ⟨xs, ys, qx, qy, lx, ly⟩ := hg
    obtain ⟨us, rv, p1, _⟩ := qx.seq I
    obtain ⟨us2, rv2, p2, _⟩ := qy.seq I
    have n1 : us.toArray.size = i := by rw [List.size_toArray, ← rv.length]; exact lx
    have n2 : us2.toArray.size = i := by rw [List.size_toArray, ← rv2.length]; exact ly
    refine end_zipS (I.ok.hd hc) D.sep (drawsB (A := X.A.in1) k1 (I.ok.hd hc) i1 a D.ai us.toArray) (drawsB (A := X.A.in1) k2 (I.ok.hd hc) i2 b D.bi us2.toArray) hz hti ⟨by rw [n1]; exact h1, p1⟩ ⟨by rw [n2]; exact h2, p2⟩ fun h' hk => ⟨rfl, ?_⟩
    refine I.turnedL (t' := s.toks) (ch := [z, ti, tu, i1, i2]) (fun c o hb q => ?_) hf
    simp only [List.mem_cons, List.not_mem_nil, or_false, not_or] at hb
    exact hk c o hb.1 hb.2.2.1 hb.2.2.2.1 hb.2.2.2.2 q
  self := fun A i s Q E st h => by
    have ty : s.TypeIs (.ref z) "zip" := ⟨_, st.1, rfl⟩
    refine wpAny_pyIter_slot ty F.slot_zip_iter (wpAny_call_entry F.slot_zip_iter ty F.entry_zip_iter ?_ (F.args_zip_iter_1 _))
    show wpAny _ _ (ret (.ref z)) _ _ s
    exact wpAny_pure ⟨_, rfl, "zip", _, ty, F.slot_zip_next.lookup, h⟩
end Mm

namespace Mm
open PySem PySem.Spec PyProof.Rows L2
section
variable {X : Cx} {E : XK}
theorem callWith_tyKw {M : Model} {A : Around} {EE : Value → Shared → Prop} {s : Shared} {pos : Pos} {T : String} {args : List (Bool × Sem Value)} {kws : List (Option Str × Sem Value)} {Q : Value → Shared → Prop} (h1 : args.any (·.1) = false) (h2 : kws.any (·.1.isNone) = false)
    (h : wpAny M A (evalArgs (.type T) true args kws) (fun a s1 => wpAny M A (call (.type T) a.pos a.kw) Q EE s1) EE s) : wpAny M A (callWith pos (.type T) [] args kws) Q EE s := by
  unfold callWith
  refine wpAny_bind (wpAny_holding (wpAny_mono h (fun a s1 k1 => wpAny_bind (wpAny_standAt ?_)) fun _ _ x => x))
  simp only [h1, h2, Bool.or_false]
  exact wpAny_bind (wpAny_pure (wpAny_bind (wpAny_mono k1 (fun r s2 hr => wpAny_bind (wpAny_holding (wpAny_point (wpAny_pure hr)))) fun _ _ x => x)))
/-- zip(a, b, strict=True), each a list or a tuple -/
def iZipS (K : PySem.W.Frag) (ta : TA) : TI := fun σ H R => ta σ H fun vs H1 => ∃ a b xs ys k1 k2, vs = [.ref a, .ref b] ∧ SqB k1 K H1 a xs ∧ SqB k2 K H1 b ys ∧ R (ItS k1 k2 K a b) H1
theorem pi_zipS {e e2 : Expr} {ta : TA} {p pos tpos kp kp2 : Pos} {j : Nat} {elts : List Expr} {kk : Nat} (hg : Gl X "zip") (hm : X.mg "zip" = none) (ha : PA X [e, e2] ta)
    (hs : starEach [e, e2] X.env = (false, eval e X.env) :: starEach [e2] X.env := by rfl) (hpl : (backTo pos (starEach [e, e2] X.env)).any (·.1) = false := by rfl) (hbt : backTo pos (starEach [e, e2] X.env) = (false, eval e X.env) :: backTo pos (starEach [e2] X.env) := by rfl) :
    PI X (.Tuple elts kk tpos) (.Call (.Name "zip" p) [e, e2] [⟨some "strict", .Constant (.bool true) j kp, kp2⟩] pos) (iZipS X.K ta) := by
  refine ⟨fun pins s σ H R I h => ?_⟩
  refine wpAny_Call_Name_kw (ld_blt I hg hm PyProof.Rows.boot_zip ?_)
  refine callWith_tyKw hpl rfl ?_
  have hA := ha.run pos pins s σ H _ I h
  rw [hbt] at hA ⊢
  refine evalArgs_kwB rfl (thn hA fun us s1 z => ?_)
  obtain ⟨vs, H1, I1, r1, a, b, xs, ys, k1, k2, ex, qx, qy, q⟩ := z
  subst ex
  refine kws_cons (Constant_bool (kws_nil ?_))
  cases r1 with
  | cons r rr =>
    cases rr with
    | cons r' rr =>
      cases rr
      cases r
      cases r'
      obtain ⟨us1, rv1, p1, la⟩ := qx.seq I1
      obtain ⟨us2, rv2, p2, lb⟩ := qy.seq I1
      refine zipS_begins (beginsB k1 a us1.toArray) (beginsB k2 b us2.toArray) p1 p2 fun h' hz hti htu g1 g2 hk => ?_
      have ty : Shared.TypeIs { s1 with heap := h' } (.ref (s1.heap.objs.size + 4)) "zip" := ⟨_, hz, rfl⟩
      have D := apart_new s1.heap.objs.size a b la lb
      have T := turn_zipS (P := X.prog) (w := X.w) (K := X.K) (elts := elts) (kk := kk) (tpos := tpos) (k1 := k1) (k2 := k2) D
      have st : ZipS h' (s1.heap.objs.size + 4) (s1.heap.objs.size + 2) (s1.heap.objs.size + 3) .none ∧ IsTupOf2 h' (s1.heap.objs.size + 2) (.ref s1.heap.objs.size) (.ref (s1.heap.objs.size + 1)) ∧ (∃ x y, IsTupOf2 h' (s1.heap.objs.size + 3) x y) ∧ IterB k1 h' s1.heap.objs.size a 0 ∧ IterB k2 h' (s1.heap.objs.size + 1) b 0 := ⟨hz, hti, ⟨_, _, htu⟩, iterB_new g1, iterB_new g2⟩
      refine T.self X.A 0 { s1 with heap := h' } _ _ st ?_
      have I2 : Inv X pins σ H1 { s1 with heap := h' } := I1.kept (t' := s1.toks) hk
      refine ⟨s1.heap.objs.size + 4, _, _, _, H1, rfl, I2, T, st, fun c hc => ?_, q⟩
      simp only [List.mem_cons, List.not_mem_nil, or_false] at hc
      have hle : s1.heap.objs.size ≤ c := by
        rcases hc with z | z | z | z | z <;> subst z
        · exact Nat.le_add_right _ _
        · exact Nat.le_add_right _ _
        · exact Nat.le_add_right _ _
        · exact Nat.le_refl _
        · exact Nat.le_add_right _ _
      exact I1.fpOk hle (I1.hok.fresh hle)
/-! its mirror: lists and tuples that stand still -/
def still : W → Option (List W)
  | .tup ws => some ws
  | .lst ws => some ws
  | .arr ws => some ws
  | _ => none
def pairs : List W → List W → List W
  | x :: xs, y :: ys => .tup [x, y] :: pairs xs ys
  | _, _ => []
def mZipS (t : MW (List W)) : MW (List W) := mBind t fun ws => fun _ S => match ws with
  | [x, y] => match still x, still y with
    | some xs, some ys => if xs.length = ys.length then .ok (pairs xs ys) S else .stuck
    | _, _ => .stuck
  | _ => .stuck
theorem still_ok {K : PySem.W.Frag} {ι : Im} {n : Nat} {H : Hp} {w : W} {v : V} {ws : List W} (r : Rep K ι n H w v) (e : still w = some ws) : ∃ a xs k, v = .ref a ∧ Reps K ι n H ws xs ∧ ∀ ι' n' H', Mv ι n H ι' n' H' → SqB k K H' a xs := by
  cases r with
  | @tup _ a xs h r => cases e; exact ⟨a, xs, true, rfl, r, fun _ _ _ e => (e.fzT h).sq⟩
  | @lst _ a xs h r => cases e; exact ⟨a, xs, false, rfl, r, fun _ _ _ e => .inl (.inl (e.fz _ _ h).at_)⟩
  | @arr _ a xs h r => cases e; exact ⟨a, xs, false, rfl, r, fun _ _ _ e => (e.fzL h).sq⟩
  | _ => cases e
theorem pairs_get : ∀ {xs ys : List W} {i : Nat} {w : W}, (pairs xs ys)[i]? = some w → ∃ x y, xs[i]? = some x ∧ ys[i]? = some y ∧ w = .tup [x, y]
  | [], _, i, w, h => by cases i <;> cases h
  | _ :: _, [], i, w, h => by cases i <;> cases h
  | x :: xs, y :: ys, 0, w, h => by
    cases h
    exact ⟨x, y, rfl, rfl, rfl⟩
  | x :: xs, y :: ys, i + 1, w, h => pairs_get (xs := xs) (ys := ys) (i := i) h
theorem pairs_len : ∀ {xs ys : List W}, xs.length = ys.length → (pairs xs ys).length = xs.length
  | [], _, _ => rfl
  | x :: xs, [], h => by cases h
  | x :: xs, y :: ys, h => by
    show (pairs xs ys).length + 1 = xs.length + 1
    rw [pairs_len (Nat.succ.inj h)]
theorem yl_zipS {K : PySem.W.Frag} {ι : Im} {n : Nat} {H : Hp} {xs ys : List W} {xv yv : List V} {a b : Addr} {k1 k2 : Bool} (hl : xs.length = ys.length) (rx : Reps K ι n H xs xv) (ry : Reps K ι n H ys yv) (sx : ∀ ι' n' H', Mv ι n H ι' n' H' → SqB k1 K H' a xv) (sy : ∀ ι' n' H', Mv ι n H ι' n' H' → SqB k2 K H' b yv) :
    Yl K (ItS k1 k2 K a b) (pairs xs ys) ι n H := by
  intro ι1 S1 H1 e1 rl1
  have qx := sx _ _ _ e1
  have qy := sy _ _ _ e1
  refine ⟨⟨xv, yv, qx, qy, by rw [pairs_len hl, rx.length], by rw [pairs_len hl, hl, ry.length]⟩, fun i w q => ?_⟩
  obtain ⟨x, y, hx, hy, rfl⟩ := pairs_get q
  obtain ⟨v, ev, rv⟩ := (rx.mv e1).get hx
  obtain ⟨u, eu, ru⟩ := (ry.mv e1).get hy
  refine ⟨⟨xv, yv, v, u, qx, qy, ev, eu⟩, fun z H' hz => ?_⟩
  obtain ⟨T, v', u', rfl, hT, rfl, f1, f2⟩ := hz
  have e3 : v = v' := Option.some.inj (ev.symm.trans (f1 xv qx))
  have e4 : u = u' := Option.some.inj (eu.symm.trans (f2 yv qy))
  subst e3 e4
  have ex := Ext.new (o := .tup [v, u]) rl1 hT
  exact ⟨ex, rl1.new hT, .tup (.inl (.inl (Fz.new rl1 hT))) (.cons (rv.mono ex) (.cons (ru.mono ex) .nil))⟩
theorem ci_zipS {e e2 : Expr} {t : MW (List W)} {p pos tpos kp kp2 : Pos} {j : Nat} {elts : List Expr} {kk : Nat} (hg : Gl X "zip") (hm : X.mg "zip" = none) (ha : CA X E [e, e2] t)
    (hs : starEach [e, e2] X.env = (false, eval e X.env) :: starEach [e2] X.env := by rfl) (hpl : (backTo pos (starEach [e, e2] X.env)).any (·.1) = false := by rfl) (hbt : backTo pos (starEach [e, e2] X.env) = (false, eval e X.env) :: backTo pos (starEach [e2] X.env) := by rfl) :
    CI X E (.Tuple elts kk tpos) (.Call (.Name "zip" p) [e, e2] [⟨some "strict", .Constant (.bool true) j kp, kp2⟩] pos) (mZipS t) :=
  PI.weak (pi_zipS hg hm ha hs hpl hbt) fun σ H R ⟨ρ, ι, S, re, rl, h⟩ => ⟨ρ, ι, S, re, rl, (Post.bind h).mono fun ws S1 ι1 H1 e1 rl1 h1 vs rvs => by
    cases rvs with
    | nil => exact h1.elim
    | @cons x v _ _ a r =>
      cases r with
      | nil => exact h1.elim
      | @cons y u _ _ b r =>
        cases r with
        | cons _ _ => exact h1.elim
        | nil =>
          simp only at h1
          split at h1
          · rename_i xs ys q1 q2
            split at h1
            · rename_i hl
              obtain ⟨p1, xv, k1, rfl, rx, sx⟩ := still_ok a q1
              obtain ⟨p2, yv, k2, rfl, ry, sy⟩ := still_ok b q2
              exact ⟨p1, p2, xv, yv, k1, k2, rfl, sx _ _ _ Mv.refl, sy _ _ _ Mv.refl, h1 ι1 H1 Ext.refl rl1 _ (yl_zipS hl rx ry sx sy)⟩
            · exact h1.elim
          · exact h1.elim⟩
end
end Mm

/-! The mirror layer: dicts with text keys of the module's top; t[::-1]. -/
namespace Mm
open PySem PySem.Spec PyProof.Rows L2
/-! ### what the top has written, by names -/
mutual
def repB (K : PySem.W.Frag) : W → Value → Bool
  | .non, .none => true
  | .bl b, .bool c => b == c
  | .int i, .int j _ => decide (i = j)
  | .str x, .str y _ => decide (x = y)
  | .ty n, .type m => decide (n = m)
  | .glo x, .ref a => decide (a = He.ga K x)
  | .tup ws, .ref a => (match K.lookup a with
    | some ⟨.type c, _, .seq its _, _⟩ => decide (c = "tuple") && (decide (its.size ≤ sizeLine) && repsB K ws its.toList)
    | _ => false)
  | .arr ws, .ref a => (match K.lookup a with
    | some ⟨.type c, none, .seq its _, _⟩ => decide (c = "list") && (decide (its.size ≤ sizeLine) && repsB K ws its.toList)
    | _ => false)
  | _, _ => false
def repsB (K : PySem.W.Frag) : List W → List Value → Bool
  | [], [] => true
  | w :: ws, u :: us => repB K w u && repsB K ws us
  | _, _ => false
end
mutual
theorem repB_ok {K : PySem.W.Frag} : ∀ {w : W} {u : Value}, repB K w u = true → ∃ v, RelV v u ∧ ∀ ι n H, Rep K ι n H w v
  | .non, u, h => by
    cases u <;> unfold repB at h <;> first | exact ⟨.non, rfl, fun _ _ _ => .non⟩ | cases h
  | .bl b, u, h => by
    cases u <;> unfold repB at h <;> first | cases h | (cases eq_of_beq h; exact ⟨.bl b, rfl, fun _ _ _ => .bl b⟩)
  | .int i, u, h => by
    cases u <;> unfold repB at h <;> first | cases h | (cases of_decide_eq_true h; exact ⟨.int i, ⟨_, rfl⟩, fun _ _ _ => .int i⟩)
  | .str x, u, h => by
    cases u <;> unfold repB at h <;> first | cases h | (cases of_decide_eq_true h; exact ⟨.str x, ⟨_, rfl⟩, fun _ _ _ => .str x⟩)
  | .ty n, u, h => by
    cases u <;> unfold repB at h <;> first | cases h | (cases of_decide_eq_true h; exact ⟨.ty n, rfl, fun _ _ _ => .ty n⟩)
  | .glo x, u, h => by
    cases u <;> unfold repB at h <;> first | cases h | (cases of_decide_eq_true h; exact ⟨.ref (He.ga K x), rfl, fun _ _ _ => .glo x⟩)
  | .loc l, u, h => by cases u <;> unfold repB at h <;> cases h
  | .tup ws, u, h => by
    cases u <;> unfold repB at h <;> try cases h
    rename_i a
    split at h
    · rename_i c d its m sl q
      obtain ⟨h1, h2⟩ := Bool.and_eq_true_iff.mp h
      obtain ⟨h3, h4⟩ := Bool.and_eq_true_iff.mp h2
      obtain ⟨vs, rv, rr⟩ := repsB_ok h4
      exact ⟨.ref a, rfl, fun ι n H => .tup (.inr ⟨_, its, m, q, congrArg Value.type (of_decide_eq_true h1), rfl, of_decide_eq_true h3, rv⟩) (rr ι n H)⟩
    · cases h
  | .lst ws, u, h => by cases u <;> unfold repB at h <;> cases h
  | .arr ws, u, h => by
    cases u <;> unfold repB at h <;> try cases h
    rename_i a
    split at h
    · rename_i c its m sl q
      obtain ⟨h1, h2⟩ := Bool.and_eq_true_iff.mp h
      obtain ⟨h3, h4⟩ := Bool.and_eq_true_iff.mp h2
      obtain ⟨vs, rv, rr⟩ := repsB_ok h4
      exact ⟨.ref a, rfl, fun ι n H => .arr (.inr ⟨_, its, m, q, congrArg Value.type (of_decide_eq_true h1), rfl, rfl, of_decide_eq_true h3, rv⟩) (rr ι n H)⟩
    · cases h
  | .dct ks ws, u, h => by cases u <;> unfold repB at h <;> cases h
  | .obj C fs ws, u, h => by cases u <;> unfold repB at h <;> cases h
theorem repsB_ok {K : PySem.W.Frag} : ∀ {ws : List W} {us : List Value}, repsB K ws us = true → ∃ vs, Vals vs us ∧ ∀ ι n H, Reps K ι n H ws vs
  | [], us, h => by
    cases us with
    | nil => exact ⟨[], .nil, fun _ _ _ => .nil⟩
    | cons _ _ => unfold repsB at h; cases h
  | w :: ws, us, h => by
    cases us with
    | nil => unfold repsB at h; cases h
    | cons u us =>
      unfold repsB at h
      obtain ⟨h1, h2⟩ := Bool.and_eq_true_iff.mp h
      obtain ⟨v, a1, a2⟩ := repB_ok h1
      obtain ⟨vs, b1, b2⟩ := repsB_ok h2
      exact ⟨v :: vs, .cons a1 b1, fun ι n H => .cons (a2 ι n H) (b2 ι n H)⟩
end
/-- the module's name x is a dict with these text keys and values -/
structure KDW (K : PySem.W.Frag) (w : World) (x : Str) (kvs : List (Str × W)) : Prop where
  d : ∃ es n, KDict K w (He.ga K x) es n
  at_ : ∀ z v, kvs.lookup z = some v → ∃ u u', PySem.W.nsIn K (He.ga K x) z = some (some u) ∧ RelV u' u ∧ ∀ ι n H, Rep K ι n H v u'
  no : ∀ z, kvs.lookup z = none → PySem.W.nsIn K (He.ga K x) z = some none
def kdwB (K : PySem.W.Frag) (x : Str) (kvs : List (Str × W)) : Bool := kvs.all fun q => match PySem.W.nsIn K (He.ga K x) q.1 with
  | some (some u) => repB K q.2 u
  | _ => false
theorem ns_none {K : PySem.W.Frag} {w : World} {a : Addr} {ks : List Str} (h : He.dicW K a = some (He.keysIn w.params ks)) {z : Str} (hz : z ∉ ks) : PySem.W.nsIn K a z = some none := by
  unfold He.dicW at h
  split at h
  · rename_i c es n sl q
    split at h
    · have e : es.toList.map He.keyOf = He.keysIn w.params ks := Option.some.inj h
      have keys : ∀ d, d ∈ es.toList → ∃ y t, d.key = .str y t ∧ y ∈ ks := by
        intro d hd
        have m : He.keyOf d ∈ es.toList.map He.keyOf := List.mem_map.mpr ⟨d, hd, rfl⟩
        rw [e] at m
        unfold He.keysIn at m
        obtain ⟨k, hk, ek⟩ := List.mem_map.mp m
        unfold He.keyOf at ek
        split at ek
        · rename_i y t qy
          have e3 := congrArg Prod.fst (Option.some.inj ek)
          exact ⟨y, t, qy, by rw [← show k = y from e3]; exact hk⟩
        · cases ek
      unfold PySem.W.nsIn
      rw [q]
      simp only
      have f1 : es.toList.find? (fun d => d.key.isStr z) = none := by
        rw [List.find?_eq_none]
        intro d hd
        obtain ⟨y, t, ek, hy⟩ := keys d hd
        rw [ek]
        intro hh
        have : y = z := by simpa [Value.isStr] using hh
        exact hz (this ▸ hy)
      rw [f1]
      simp only
      rw [if_neg]
      intro hany
      obtain ⟨d, hd, hr⟩ := List.any_eq_true.mp hany
      obtain ⟨y, t, ek, _⟩ := keys d hd
      unfold DictEntry.refKey at hr
      rw [ek] at hr
      cases hr
    · cases h
  · cases h
theorem lookup_mem {α : Type} {z : Str} {v : α} : ∀ {l : List (Str × α)}, l.lookup z = some v → (z, v) ∈ l
  | [], h => by cases h
  | (k, u) :: l, h => by
    rw [List.lookup_cons] at h
    cases q : (z == k) with
    | true =>
      rw [q] at h
      cases h
      rw [eq_of_beq q]
      exact List.mem_cons_self
    | false =>
      rw [q] at h
      exact List.mem_cons_of_mem _ (lookup_mem h)
theorem lookup_no {α : Type} {z : Str} : ∀ {l : List (Str × α)}, l.lookup z = none → z ∉ l.map (·.1)
  | [], _ => by simp
  | (k, u) :: l, h => by
    rw [List.lookup_cons] at h
    cases q : (z == k) with
    | true => rw [q] at h; cases h
    | false =>
      rw [q] at h
      intro hm
      rcases List.mem_cons.mp hm with e | e
      · rw [e] at q
        simp at q
      · exact lookup_no h e
theorem kdw_of {K : PySem.W.Frag} {w : World} {x : Str} {kvs : List (Str × W)} (h1 : He.dicW K (He.ga K x) = some (He.keysIn w.params (kvs.map (·.1)))) (h2 : kdwB K x kvs = true) : KDW K w x kvs := by
  refine ⟨He.dicW_ok h1, fun z v e => ?_, fun z e => ns_none h1 (lookup_no e)⟩
  have h3 := List.all_eq_true.mp h2 (z, v) (lookup_mem e)
  simp only at h3
  split at h3
  · rename_i u q
    obtain ⟨u', a, b⟩ := repB_ok h3
    exact ⟨u, u', q, a, b⟩
  · cases h3
section
variable {X : Cx} {E : XK} {x : Str} {kvs : List (Str × W)}
/-- x[e], x a dict of the top -/
def fItemK (x : Str) (kvs : List (Str × W)) (d k : W) (S : Sto) : Res W := match d, k with
  | .glo y, .str z => if y = x then (match kvs.lookup z with
    | some v => .ok v S
    | none => .stuck) else .stuck
  | _, _ => .stuck
def rItemK (K : PySem.W.Frag) (x : Str) : R2 := fun d k H Q => ∃ (z : Str) (u0 : Value) (v0 : V), d = .ref (He.ga K x) ∧ k = .str z ∧ PySem.W.nsIn K (He.ga K x) z = some (some u0) ∧ RelV v0 u0 ∧ Q v0 H
theorem ix_kd {es : Array DictEntry} {n : Nat} (D : KDict X.K X.w (He.ga X.K x) es n) : IxR X (rItemK X.K x) := by
  intro value slice pins s σ H d k v u Q I rx ry h hs
  obtain ⟨z, u0, v0, rfl, rfl, e, r, q⟩ := h
  cases rx
  exact tail_any (kd_type D I) PySem.F.slot_dict_getitem.lookup (op_item_kd D pins s σ H (.ref (He.ga X.K x)) (.str z) _ _ Q I rfl ry ⟨z, u0, v0, rfl, rfl, e, r, q⟩) hs
theorem sim_itemK (D : KDW X.K X.w x kvs) : SimR X.K E (rItemK X.K x) (fItemK x kvs) := by
  intro d k dv kv ι S H Q rl rx ry h
  cases rx with
  | glo y =>
    cases ry with
    | str z =>
      have h' : PostV X.K E (if y = x then (match kvs.lookup z with
        | some v => Res.ok v S
        | none => .stuck) else .stuck) ι S.length H Q := h
      by_cases e : y = x
      · subst e
        rw [if_pos rfl] at h'
        split at h'
        · rename_i v q
          obtain ⟨u, u', a1, a2, a3⟩ := D.at_ z v q
          exact ⟨z, u, u', rfl, rfl, a1, a2, PostV.now h' rl (a3 _ _ _)⟩
        · exact h'.elim
      · rw [if_neg e] at h'
        exact h'.elim
    | _ => exact h.elim
  | _ => exact h.elim
theorem ce_itemK {a b : Expr} {ca cb : MV} {pos : Pos} (D : KDW X.K X.w x kvs) (ha : CE X E a ca) (hb : CE X E b cb) (hs : PlainIx b) : CE X E (.Subscript a b pos) (mOp (fItemK x kvs) ca cb) :=
  D.d.elim fun es h => h.elim fun n h => ce_ix (ix_kd h) (sim_itemK D) ha hb hs
/-- x.get(e), x a dict of the top -/
def mGetK (kvs : List (Str × W)) (c : MV) : MV := mBind c fun w => fun _ S => match w with
  | .str z => .ok ((kvs.lookup z).getD .non) S
  | _ => .stuck
theorem ce_getK {e : Expr} {c : MV} {p apos cpos : Pos} (D : KDW X.K X.w x kvs) (hg : Gl X x) (hm : X.mg x = some (.ref (He.ga X.K x))) (he : CE X E e c) (m : M1 X (.Name x p) "get" apos e cpos) (hd : (x == ("__debug__" : Str)) = false := by decide) :
    CE X E (.Call (.Attribute (.Name x p) "get" apos) [e] [] cpos) (mGetK kvs c) := by
  obtain ⟨es, n, kd⟩ := D.d
  refine ⟨fun pins s σ H Q I ⟨ρ, ι, S, re, rl, h⟩ => ?_⟩
  refine wpAny_Call_method m.base m.few m.line PySem.F.plainAttrs_dict PySem.F.slot_dict_get PySem.F.type_dict_get (ld_glob I hg hm ?_ hd)
  refine ⟨kd_type kd I, fun b q => ?_, ?_⟩
  · cases q
    exact ⟨_, I.kIn _ _ kd.at_, rfl⟩
  · rw [m.trees]
    refine Calls.callWith_builtin rfl (Calls.evalArgs_plain (Calls.spliced_cons (thn (he.run pins s σ H (fun y H2 => ∃ z, y = .str z ∧ ∀ v, (∃ u, PySem.W.nsIn X.K (He.ga X.K x) z = some u ∧ RelV v (u.getD .none)) → Q v H2) I ?_) fun iv s2 w => Calls.spliced_nil ?_)))
    · refine ⟨ρ, ι, S, re, rl, (Post.bind h).mono fun y S1 ι1 H1 e1 rl1 h1 yv ry => ?_⟩
      cases ry with
      | str z =>
        refine ⟨z, rfl, fun v ⟨u, a1, a2⟩ => ?_⟩
        have h2 : PostV X.K E (.ok ((kvs.lookup z).getD .non) S1) ι1 S1.length H1 Q := h1
        cases q : kvs.lookup z with
        | none =>
          rw [q] at h2
          rw [D.no z q] at a1
          cases a1
          cases RelV.inj (show RelV .non Value.none from rfl) a2
          exact PostV.now h2 rl1 .non
        | some v0 =>
          rw [q] at h2
          obtain ⟨u0, u', b1, b2, b3⟩ := D.at_ z v0 q
          rw [b1] at a1
          cases a1
          cases b2.inj a2
          exact PostV.now h2 rl1 (b3 _ _ _)
      | _ => exact h1.elim
    · obtain ⟨y, H2, I2, ry, z, rfl, fin⟩ := w
      obtain ⟨t, rfl⟩ := ry
      have mp := PySem.W.mapOf_K (prog := X.prog) (w := X.w) I2.kIn kd.at_ kd.lit
      obtain ⟨u, hu⟩ : ∃ u, PySem.W.nsIn X.K (He.ga X.K x) z = some u := by
        cases q : kvs.lookup z with
        | none => exact ⟨_, D.no z q⟩
        | some v0 =>
          obtain ⟨u0, u', b1, _⟩ := D.at_ z v0 q
          exact ⟨_, b1⟩
      refine call_meetsIn PySem.F.slot_dict_get mp.typeIs PySem.F.entry_dict_get (PySem.F.args_dict_get_2 _ _) (meets_dict_get (PySem.strKind X.prog X.w) (He.ga X.K x) (PySem.strKind_is X.prog X.w z t) kd.low) ⟨_, mp, ?_⟩
      rw [PySem.W.find_K kd.at_ hu]
      have rv : ∃ v, RelV v (u.getD .none) := by
        cases u with
        | none => exact ⟨.non, rfl⟩
        | some u0 =>
          cases q : kvs.lookup z with
          | none => rw [D.no z q] at hu; cases hu
          | some v0 =>
            obtain ⟨u1, u', b1, b2, _⟩ := D.at_ z v0 q
            rw [b1] at hu
            cases hu
            exact ⟨u', b2⟩
      obtain ⟨v, rv⟩ := rv
      exact ⟨v, H2, I2.tok _, rv, fin v ⟨u, hu, rv⟩⟩
end
end Mm

/-! The mirror layer: t[::-1] of a tuple. -/
namespace Mm
open PySem PySem.Spec PyProof.Rows L2
section
variable {prog : Program} {w : World} {A : Around} {E : Value → Shared → Prop} {s : Shared}
theorem places_rev (n : Nat) : Builtin.Slice.slicePlaces ((n : Int) - 1) (-1) (-1) = n := by
  unfold Builtin.Slice.slicePlaces
  rw [if_neg (by decide)]
  by_cases h : (n : Int) - 1 > -1
  · rw [if_pos h]
    have e : ((n : Int) - 1 - -1 - 1) / (- -1) + 1 = n := by
      rw [show (- -1 : Int) = 1 by decide, Int.ediv_one]
      omega
    rw [e]
    exact Int.toNat_natCast n
  · rw [if_neg h]
    have : n = 0 := by omega
    subst this
    rfl
theorem fm_ext {α β : Type} {f g : α → Option β} : ∀ {l : List α}, (∀ a, a ∈ l → f a = g a) → l.filterMap f = l.filterMap g
  | [], _ => rfl
  | a :: l, h => by rw [List.filterMap_cons, List.filterMap_cons, h a List.mem_cons_self, fm_ext fun b hb => h b (List.mem_cons_of_mem _ hb)]
theorem pick_rev (xs : List Value) : ((List.range xs.length).filterMap fun (k : Nat) => xs.toArray[(((xs.length : Int) - 1) + (k : Int) * -1).toNat]?) = xs.reverse := by
  have e : ((List.range xs.length).filterMap fun (k : Nat) => xs.toArray[(((xs.length : Int) - 1) + (k : Int) * -1).toNat]?) = (List.range xs.length).filterMap ((fun j : Nat => xs.toArray[j]?) ∘ fun k => xs.length - 1 - k) := by
    refine fm_ext fun k hk => ?_
    have := List.mem_range.mp hk
    rw [show (((xs.length : Int) - 1) + (k : Int) * -1).toNat = xs.length - 1 - k by omega]
    rfl
  rw [e, ← List.filterMap_map, PySem.W.krv_range, List.filterMap_reverse]
  have z := PySem.W.krv_all xs.toArray
  rw [List.size_toArray] at z
  rw [z]
theorem item_tuple_rev {t sl : Addr} {xs : List Value} {vs : Value} {Q : Value → Shared → Prop} (ht : IsTup s.heap t xs.toArray) (hs : s.heap.IsSliceOf sl .none .none vs) (ps : IsPart vs (some (-1))) (hz : xs.length ≤ sizeLine)
    (h : Q (.ref s.heap.objs.size) { s with heap := s.heap.push { cls := .type "tuple", data := .seq xs.reverse.toArray } }) : wpAny (model prog w) A (getItem (.ref t) (.ref sl)) Q E s := by
  obtain ⟨os, hos, hcs, hds⟩ := id hs
  have tys : s.TypeIs (.ref sl) "slice" := ⟨os, hos, hcs⟩
  unfold getItem
  try with_reducible refine wpAny_holding ?_
  first | refine wpAny_bind (wpAny_pure ?_) | skip
  refine wpAny_bind (wpAny_sequenceKey ht.typeIs (by decide) ?_)
  refine wpAny_bind (wpAny_callSpecial?_slot (name := Str.ofString "__getitem__") ht.typeIs PyProof.Rows.slot_tuple_getitem (wpAny_call_entry PyProof.Rows.slot_tuple_getitem ht.typeIs PyProof.Rows.entry_tuple_getitem ?_ (PyProof.Rows.args_tuple_getitem _ _)))
  show wpAny _ _ (Builtin.Tuple.tupleItemsOf (.ref t) >>= _) _ _ s
  refine wpAny_bind (tupleItemsOf_ ht (wpAny_bind (wpAny_typeOf tys ?_)))
  rw [if_pos (by decide)]
  refine wpAny_bind ?_
  unfold Builtin.Slice.sliceApplied Builtin.Slice.sliceFields
  refine wpAny_bind (wpAny_bind (wpAny_field hos hds (x := .none) rfl (wpAny_bind (wpAny_field hos hds (x := .none) rfl (wpAny_bind (wpAny_field hos hds (x := vs) rfl (wpAny_pure ?_)))))))
  refine wpAny_bind (HT.slicePart_ ps ?_)
  show wpAny _ _ (if ((-1 : Int) == 0) = true then _ else _) _ _ s
  rw [if_neg (by decide)]
  refine wpAny_bind (HT.slicePart_ .none (wpAny_bind (HT.slicePart_ .none (wpAny_bind (wpAny_pure ?_)))))
  show wpAny _ _ (pure (((xs.toArray.size : Nat) : Int) - 1, (-1 : Int), Builtin.Slice.slicePlaces (((xs.toArray.size : Nat) : Int) - 1) (-1) (-1))) _ _ s
  rw [places_rev]
  refine wpAny_pure ?_
  simp only
  rw [if_neg (by
    intro q
    rw [Bool.and_eq_true, Bool.and_eq_true] at q
    exact absurd q.1.2 (by decide))]
  have ep : ((List.range xs.toArray.size).filterMap fun (k : Nat) => xs.toArray[(((xs.toArray.size : Nat) : Int) - 1 + (k : Int) * -1).toNat]?) = xs.reverse := by
    rw [List.size_toArray]
    exact pick_rev xs
  rw [ep]
  have fit : sizeOk (.seq xs.reverse.toArray) := by
    show xs.reverse.toArray.size ≤ sizeLine
    rw [List.size_toArray, List.length_reverse]
    exact hz
  first
    | exact wpAny_bind (m := Builtin.Tuple.tupleExact _) (wpAny_newObj_type (wpAny_pure ⟨_, rfl, wpAny_pure h⟩) fit)
    | exact wpAny_bind (m := Builtin.Tuple.tupleExact _) (wpAny_newObj_type (wpAny_bind (wpAny_pure (wpAny_pure ⟨_, rfl, wpAny_pure h⟩))) fit)
    | exact wpAny_bind (wpAny_bind (m := Builtin.Tuple.tupleExact _) (wpAny_newObj_type (wpAny_pure (wpAny_pure ⟨_, rfl, wpAny_pure h⟩)) fit))
    | exact wpAny_bind (wpAny_bind (m := Builtin.Tuple.tupleExact _) (wpAny_newObj_type (wpAny_pure ⟨_, rfl, wpAny_pure h⟩) fit))
end
section
variable {X : Cx} {E : XK}
def tRevT (K : PySem.W.Frag) (te : TE) : TE := fun σ H Q => te σ H fun x H1 => ∃ a xs, x = .ref a ∧ SqT K H1 a xs ∧ ∀ p, H1 p = none → Q (.ref p) (upd H1 p (.tup xs.reverse))
theorem pe_revT {e : Expr} {te : TE} {k : Nat} {p1 p2 p3 pos : Pos} (he : PE X e te) : PE X (.Subscript e (.Slice none none (some (.UnaryOp .USub (.Constant (.int 1) k p1) p2)) p3) pos) (tRevT X.K te) := by
  refine ⟨fun pins s σ H Q I h => ?_⟩
  refine Subscript_ (thn (he.run pins s σ H _ I h) fun v s1 z1 => ?_)
  obtain ⟨x, H1, I1, r1, a, xs, rfl, hx, q⟩ := z1
  cases r1
  have part : PO X (some (.UnaryOp .USub (.Constant (.int 1) k p1) p2)) (tPart (tUn (rU fun i => .int (-i)) (tC (.int 1)))) := po_some (pe_un un_neg pe_int)
  refine wpAny_Slice ?_
  rw [evalPart_none]
  refine wpAny_pure (wpAny_pure ?_)
  refine thn (part.run pins s1 σ H1 (fun o H4 => o = some (-1) ∧ H4 = H1) I1 ⟨1, rfl, -1, rfl, rfl, rfl⟩) fun vs s4 z4 => ?_
  obtain ⟨o, H4, I4, ps, rfl, rfl⟩ := z4
  have I5 : Inv X pins σ H4 { s4 with heap := s4.heap.push { cls := .type "slice", data := .fields #[.none, .none, vs] } } := I4.kept (t' := s4.toks) fun b ob z => Heap.get?_push_of_some _ z
  obtain ⟨its, r, ht, hz⟩ := I5.tuple hx
  refine tail_any (ops := [.ref a, .ref s4.heap.objs.size]) ht.typeIs PyProof.Rows.slot_tuple_getitem.lookup ?_ (by with_unfolding_all rfl)
  refine item_tuple_rev ht (Heap.IsSliceOf.new _ _ _ vs) ps (by rw [← r.length]; exact hz) ?_
  refine ⟨.ref _, _, I5.laid (t' := s4.toks) (o := .tup xs.reverse) (fun b ob z => Heap.get?_push_of_some _ z) (Nat.le_refl _) ?_, rfl, q _ (I5.hok.fresh (Nat.le_refl _))⟩
  exact ⟨by rw [List.length_reverse]; exact hz, its.reverse, r.reverse, ⟨_, Heap.get?_push_size _ rfl, rfl, _, rfl⟩⟩
def mRev (c : MV) : MV := mBind c fun w => fun _ S => match w with
  | .tup ws => .ok (.tup ws.reverse) S
  | w => match seqL S w with
    | some ws => .ok (.lst ws.reverse) S
    | none => .stuck
theorem ce_rev {e : Expr} {c : MV} {k : Nat} {p1 p2 p3 pos : Pos} (he : CE X E e c) : CE X E (.Subscript e (.Slice none none (some (.UnaryOp .USub (.Constant (.int 1) k p1) p2)) p3) pos) (mRev c) :=
  PE.weak (pe_or2 (pe_revT he) (pe_revL he)) fun σ H Q ⟨ρ, ι, S, re, rl, h⟩ => by
    have h' := Post.bind h
    cases q : c ρ S with
    | stuck => rw [q] at h'; exact h'.elim
    | err x S' => exact .inl ⟨ρ, ι, S, re, rl, by rw [q] at h' ⊢; exact h'⟩
    | ok w S' =>
      rw [q] at h'
      by_cases hw : ∃ ws, w = .tup ws
      · obtain ⟨ws, rfl⟩ := hw
        refine .inl ⟨ρ, ι, S, re, rl, ?_⟩
        rw [q]
        intro ι1 H1 e1 rl1 v rv
        cases rv with
        | @tup _ a xs hz r => exact ⟨a, xs, rfl, hz.sq, PostV.newT (h' ι1 H1 e1 rl1) rl1 r.reverse⟩
      · refine .inr ⟨ρ, ι, S, re, rl, ?_⟩
        rw [q]
        intro ι1 H1 e1 rl1 v rv
        have h2 := h' ι1 H1 e1 rl1
        simp only at h2
        split at h2
        · exact absurd ⟨_, rfl⟩ hw
        · split at h2
          · rename_i ws q2
            obtain ⟨a, xs, rfl, h3, h4⟩ := seqL_ok rl1 q2 rv
            exact ⟨a, xs, rfl, h3, PostV.newL h2 rl1 h4.reverse⟩
          · exact h2.elim
end
end Mm

/-! The mirror layer: list + list as an object of the store; levels. -/
namespace Mm
open PySem PySem.Spec PyProof.Rows L2
section
variable {K : PySem.W.Frag} {E : XK}
def fAddM (x y : W) (S : Sto) : Res W := match seqO S x, seqO S y with
  | some a, some b => if a.length + b.length ≤ sizeLine then .ok (.loc S.length) (S ++ [.lst (a ++ b)]) else .stuck
  | _, _ => .stuck
theorem sim_addM : SimR K E (rAddA K) fAddM := by
  intro x y xv yv ι S H Q rl rx ry h
  refine .inr (.inr (.inr ?_))
  unfold fAddM at h
  cases q1 : seqO S x with
  | none => rw [q1] at h; exact h.elim
  | some a =>
    cases q2 : seqO S y with
    | none => rw [q1, q2] at h; exact h.elim
    | some b =>
      rw [q1, q2] at h
      have h' : PostV K E (if a.length + b.length ≤ sizeLine then Res.ok (.loc S.length) (S ++ [.lst (a ++ b)]) else .stuck) ι S.length H Q := h
      by_cases z : a.length + b.length ≤ sizeLine
      · rw [if_pos z] at h'
        obtain ⟨p, xs, rfl, hx, r1⟩ := seqO_ok rl q1 rx
        obtain ⟨p2, ys, rfl, hy, r2⟩ := seqO_ok rl q2 ry
        exact ⟨p, p2, xs, ys, rfl, rfl, hx, hy, by rw [← r1.length, ← r2.length]; exact z, PostV.newLoc h' rl (r1.append r2)⟩
      · rw [if_neg z] at h'
        exact h'.elim
end
theorem FM.mono {P : Program} {w : World} {K : PySem.W.Frag} {mg : Str → Option Value} {base : Heap} {j k : Nat} {x : Str} {n : Nat} {m : MF} (F : FM P w K mg base j x n m) (h : j ≤ k) : FM P w K mg base k x n m := by
  obtain ⟨⟨fd, ps, hn, ok, bd⟩, gl, kp⟩ := F
  exact ⟨⟨fd, ps, hn, ok.mono h, bd⟩, gl, kp⟩
/-- the same rule, for the very function object -/
theorem fnd_of {P : Program} {w : World} {K : PySem.W.Frag} {mg : Str → Option Value} {base : Heap} {x : Str} {k : Nat} {params : Arguments} {body : List Stmt} {scope : Scope} {fd : FuncData} {N ps : List Str} {c : MS} (F : FunD K x x params body scope [] [] (He.ga K x) fd) (S : FnScope N ps scope)
    (hbody : ∀ (cdv : Value) (A : Around) (outer : List PySem.Env) (s : Shared) (H : Hp) (E : XK), Room k (A.deeper (envOfC x scope s.heap.objs.size (He.ga K x) cdv)) →
      CSs (cxOf CX0 P w K mg base N x scope (He.ga K x) cdv A outer s H E).nox E0 body c) : FnOk P w K mg base CX0 (k + 1) (He.ga K x) fd ps (sp0 K ps.length (mDef N.length c)) := by
  refine F.ok S (fun vs H Q E h => h.1) fun cdv A outer s H vs Q E hr h => ?_
  obtain ⟨hl, ws, ι, S, r, rl, h⟩ := h
  exact ⟨_, PSs.nox (hbody cdv A outer s H E hr), sim_def r rl h⟩
/-- the script is a list that nothing changes -/
theorem sp_start {K : PySem.W.Frag} {m : MF} {H : Hp} {a : Addr} {ns : List Int} (hO : Only H) (hS : SqL K H a (ns.map V.int)) (hm : ∃ S', m [.arr (ns.map W.int)] [] = .ok (.bl true) S') (E : XK) : sp0 K 1 m [.ref a] H (fun v _ => v = .bl true) E := by
  obtain ⟨S', e⟩ := hm
  have rs : ∀ (is : List Int), Reps K ⟨fun _ => a, []⟩ 0 H (is.map W.int) (is.map V.int) := by
    intro is
    induction is with
    | nil => exact .nil
    | cons i is ih => exact .cons (.int i) ih
  have hz : FzL K ⟨fun _ => a, []⟩ 0 H a (ns.map V.int) := by
    rcases hS with (h | ⟨o, h⟩) | h
    · rcases hO a with q | ⟨o, xs, q⟩
      · rw [q] at h; cases h
      · rw [q] at h; cases h
    · exact .inl ⟨o, h, fun l hl => absurd hl (Nat.not_lt_zero _), fun hm => by cases hm⟩
    · exact .inr h
  refine ⟨rfl, [.arr (ns.map W.int)], ⟨fun _ => a, []⟩, [], .cons (.arr hz (rs ns)) .nil, ⟨fun l m hl => absurd hl (Nat.not_lt_zero _), fun l o q => by simp at q, fun b hb => (by cases hb), fun l hl => absurd hl (Nat.not_lt_zero _)⟩, ?_⟩
  rw [e]
  intro ι' H' _ _ v rv
  cases rv
  rfl
theorem tab_key {fa : List He.Fa} {fn : List He.DefD} {ts : List He.Tab} {w : World} {K : PySem.W.Frag} (c : He.SaysT fa fn ts w K) (i : Nat) {t : He.Tab} (h : ts[i]? = some t) : He.dicW K (t.1 K) = some (He.keysIn w.params t.2) := by
  have e : ts.map (fun t => He.dicW K (t.1 K)) = ts.map fun t => some (He.keysIn w.params t.2) := congrArg (fun z : He.AlT => z.2) c
  have e2 : (ts.map fun t => He.dicW K (t.1 K))[i]? = (ts.map fun t => some (He.keysIn w.params t.2))[i]? := by rw [e]
  rw [List.getElem?_map, List.getElem?_map, h] at e2
  exact Option.some.inj e2
end Mm

/-! Reckoning with mirrors: what must hold for a mirror to answer so. No program in sight. -/
namespace Mm
open PySem PySem.Spec PyProof.Rows L2
def Sat {α : Type} (r : Res α) (Q : α → Sto → Prop) : Prop := match r with
  | .ok a S => Q a S
  | _ => False
theorem Sat.mono {α : Type} {r : Res α} {Q R : α → Sto → Prop} (h : Sat r Q) (k : ∀ a S, Q a S → R a S) : Sat r R := by
  cases r with
  | ok a S => exact k a S h
  | _ => exact h
theorem sat_eq {α : Type} {r : Res α} {a : α} {S : Sto} (h : r = .ok a S) (Q : α → Sto → Prop) : Sat r Q = Q a S := by rw [h]; rfl
theorem sat_to {α : Type} {r : Res α} {a : α} {S : Sto} (h : Sat r fun b T => b = a ∧ T = S) : r = .ok a S := by
  cases r with
  | ok b T => obtain ⟨rfl, rfl⟩ := h; rfl
  | _ => exact h.elim
theorem sat_ok {α : Type} {a : α} {S : Sto} {Q : α → Sto → Prop} : Sat (.ok a S) Q = Q a S := rfl
theorem sat_stuck {α : Type} {Q : α → Sto → Prop} : Sat (.stuck : Res α) Q = False := rfl
theorem sat_bind {α β : Type} {c : MW α} {k : α → MW β} {ρ : Env} {S : Sto} {Q : β → Sto → Prop} : Sat (mBind c k ρ S) Q = Sat (c ρ S) fun a S1 => Sat (k a ρ S1) Q := by
  unfold mBind
  cases c ρ S <;> rfl
theorem sat_then {α : Type} {c : MW Env} {k : MW α} {ρ : Env} {S : Sto} {Q : α → Sto → Prop} : Sat (mThen c k ρ S) Q = Sat (c ρ S) fun ρ1 S1 => Sat (k ρ1 S1) Q := by
  unfold mThen
  cases c ρ S <;> rfl
theorem sat_ite {α : Type} {p : Prop} [Decidable p] {r r' : Res α} {Q : α → Sto → Prop} : Sat (if p then r else r') Q = if p then Sat r Q else Sat r' Q := by
  by_cases h : p
  · rw [if_pos h, if_pos h]
  · rw [if_neg h, if_neg h]
theorem ite_ap {α β γ : Type} {p : Prop} [Decidable p] {f g : α → β → γ} {a : α} {b : β} : (if p then f else g) a b = if p then f a b else g a b := by
  by_cases h : p
  · rw [if_pos h, if_pos h]
  · rw [if_neg h, if_neg h]
section
variable {ρ : Env} {S : Sto} {Q : W → Sto → Prop} {QB : Bool → Sto → Prop} {QS : Fl × Env → Sto → Prop} {QL : List W → Sto → Prop} {QE : Env → Sto → Prop}
theorem sat_var {i : Nat} {w : W} (h : ρ[i]? = some (some w)) : Sat (mVar i ρ S) Q = Q w S := by unfold mVar; rw [h]; rfl
theorem sat_var0 {w : W} : Sat (mVar 0 (some w :: ρ) S) Q = Q w S := rfl
theorem sat_varS {i : Nat} {o : Option W} : Sat (mVar (i + 1) (o :: ρ) S) Q = Sat (mVar i ρ S) Q := rfl
theorem sat_c {w : W} : Sat (mC w ρ S) Q = Q w S := rfl
theorem sat_op {f : W → W → Sto → Res W} {a b : MV} : Sat (mOp f a b ρ S) Q = Sat (a ρ S) fun x S1 => Sat (b ρ S1) fun y S2 => Sat (f x y S2) Q := by
  unfold mOp; rw [sat_bind]; simp only [sat_bind]
theorem sat_un {f : W → Sto → Res W} {a : MV} : Sat (mUn f a ρ S) Q = Sat (a ρ S) fun x S1 => Sat (f x S1) Q := by
  unfold mUn; rw [sat_bind]
def testK (Q : Bool → Sto → Prop) (w : W) (S : Sto) : Prop := match w with
  | .bl b => Q b S
  | _ => False
theorem testK_bl {b : Bool} : testK QB (.bl b) S = QB b S := rfl
theorem sat_test {a : MV} : Sat (mTest a ρ S) QB = Sat (a ρ S) (testK QB) := by
  unfold mTest; rw [sat_bind]; congr; funext w S1; cases w <;> rfl
def chainK (f' : W → W → Sto → Res W) (cc : MV) (ρ : Env) (y : W) (Q : W → Sto → Prop) (z : W) (S : Sto) : Prop := match z with
  | .bl true => Sat (cc ρ S) fun u S1 => Sat (f' y u S1) Q
  | .bl false => Q (.bl false) S
  | _ => False
theorem chainK_bl {f' : W → W → Sto → Res W} {cc : MV} {y : W} {b : Bool} : chainK f' cc ρ y Q (.bl b) S = if b = true then Sat (cc ρ S) fun u S1 => Sat (f' y u S1) Q else Q (.bl false) S := by cases b <;> rfl
theorem sat_chain {f f' : W → W → Sto → Res W} {a b c : MV} : Sat (mChain f f' a b c ρ S) Q = Sat (a ρ S) fun x S1 => Sat (b ρ S1) fun y S2 => Sat (f x y S2) (chainK f' c ρ y Q) := by
  unfold mChain; rw [sat_bind]; congr; funext x S1; rw [sat_bind]; congr; funext y S2; rw [sat_bind]; congr; funext z S3
  cases z with
  | bl b => cases b <;> first | rfl | exact sat_bind
  | _ => rfl
theorem sat_and {x y : MW Bool} : Sat (mAnd x y ρ S) QB = Sat (x ρ S) fun b S1 => if b = true then Sat (y ρ S1) QB else QB false S1 := by
  unfold mAnd; rw [sat_bind]; congr; funext b S1; cases b <;> rfl
theorem sat_or {x y : MW Bool} : Sat (mOr x y ρ S) QB = Sat (x ρ S) fun b S1 => if b = true then QB true S1 else Sat (y ρ S1) QB := by
  unfold mOr; rw [sat_bind]; congr; funext b S1; cases b <;> rfl
theorem sat_not {x : MW Bool} : Sat (mNot x ρ S) QB = Sat (x ρ S) fun b S1 => QB (!b) S1 := by
  unfold mNot; rw [sat_bind]; rfl
def andK (y : MV) (ρ : Env) (Q : W → Sto → Prop) (w : W) (S : Sto) : Prop := match w with
  | .bl true => Sat (y ρ S) Q
  | .bl false => Q (.bl false) S
  | _ => False
def orK (y : MV) (ρ : Env) (Q : W → Sto → Prop) (w : W) (S : Sto) : Prop := match w with
  | .bl true => Q (.bl true) S
  | .bl false => Sat (y ρ S) Q
  | _ => False
def notK (Q : W → Sto → Prop) (w : W) (S : Sto) : Prop := match w with
  | .bl b => Q (.bl (!b)) S
  | _ => False
theorem andK_bl {y : MV} {b : Bool} : andK y ρ Q (.bl b) S = if b = true then Sat (y ρ S) Q else Q (.bl false) S := by cases b <;> rfl
theorem orK_bl {y : MV} {b : Bool} : orK y ρ Q (.bl b) S = if b = true then Q (.bl true) S else Sat (y ρ S) Q := by cases b <;> rfl
theorem notK_bl {b : Bool} : notK Q (.bl b) S = Q (.bl (!b)) S := rfl
theorem sat_andV {x y : MV} : Sat (mAndV x y ρ S) Q = Sat (x ρ S) (andK y ρ Q) := by
  unfold mAndV; rw [sat_bind]; congr; funext w S1; cases w with
  | bl b => cases b <;> rfl
  | _ => rfl
theorem sat_orV {x y : MV} : Sat (mOrV x y ρ S) Q = Sat (x ρ S) (orK y ρ Q) := by
  unfold mOrV; rw [sat_bind]; congr; funext w S1; cases w with
  | bl b => cases b <;> rfl
  | _ => rfl
theorem sat_notV {x : MV} : Sat (mNotV x ρ S) Q = Sat (x ρ S) (notK Q) := by
  unfold mNotV; rw [sat_bind]; congr; funext w S1; cases w <;> rfl
theorem sat_ifE {t : MW Bool} {x y : MV} : Sat (mIfE t x y ρ S) Q = Sat (t ρ S) fun b S1 => if b = true then Sat (x ρ S1) Q else Sat (y ρ S1) Q := by
  unfold mIfE; rw [sat_bind]; congr; funext b S1; cases b <;> rfl
theorem sat_nil : Sat (mNil ρ S) QL = QL [] S := rfl
theorem sat_cons {c : MV} {t : MW (List W)} : Sat (mCons c t ρ S) QL = Sat (c ρ S) fun w S1 => Sat (t ρ S1) fun ws S2 => QL (w :: ws) S2 := by
  unfold mCons; rw [sat_bind]; simp only [sat_bind]; rfl
theorem sat_tup {t : MW (List W)} : Sat (mTup t ρ S) Q = Sat (t ρ S) fun ws S1 => if ws.length ≤ sizeLine then Q (.tup ws) S1 else False := by
  unfold mTup; rw [sat_bind]; simp only [sat_ite, sat_ok, sat_stuck]
theorem sat_lst {t : MW (List W)} : Sat (mLst t ρ S) Q = Sat (t ρ S) fun ws S1 => if ws.length ≤ sizeLine then Q (.lst ws) S1 else False := by
  unfold mLst; rw [sat_bind]; simp only [sat_ite, sat_ok, sat_stuck]
theorem sat_lstM {t : MW (List W)} : Sat (mLstM t ρ S) Q = Sat (t ρ S) fun ws S1 => if ws.length ≤ sizeLine then Q (.loc S1.length) (S1 ++ [.lst ws]) else False := by
  unfold mLstM; rw [sat_bind]; simp only [sat_ite, sat_ok, sat_stuck]
theorem sat_cb {f : MF} {t : MW (List W)} : Sat (mCB f t ρ S) Q = Sat (t ρ S) fun ws S1 => Sat (f ws S1) Q := by
  unfold mCB; rw [sat_bind]
theorem sat_call {n : Nat} {f : MF} {t : MW (List W)} : Sat (mCall n f t ρ S) Q = Sat (t ρ S) fun ws S1 => if ws.length = n then Sat (f ws S1) Q else False := by
  unfold mCall; rw [sat_bind]; simp only [sat_ite, sat_stuck]
/-! statements -/
def seqK (d : MS) (Q : Fl × Env → Sto → Prop) (p : Fl × Env) (S : Sto) : Prop := match p with
  | (.next, ρ) => Sat (d ρ S) Q
  | p => Q p S
theorem seqK_next {d : MS} : seqK d QS (.next, ρ) S = Sat (d ρ S) QS := rfl
theorem seqK_ret {d : MS} {w : W} : seqK d QS (.ret w, ρ) S = QS (.ret w, ρ) S := rfl
theorem seqK_brk {d : MS} : seqK d QS (.brk, ρ) S = QS (.brk, ρ) S := rfl
theorem seqK_cont {d : MS} : seqK d QS (.cont, ρ) S = QS (.cont, ρ) S := rfl
theorem sat_seq {c d : MS} : Sat (mSeq c d ρ S) QS = Sat (c ρ S) (seqK d QS) := by
  unfold mSeq
  cases c ρ S with
  | ok p S1 => obtain ⟨f, ρ1⟩ := p; cases f <;> rfl
  | _ => rfl
theorem sat_next : Sat (mNext ρ S) QS = QS (.next, ρ) S := rfl
theorem sat_brk : Sat (mBrk ρ S) QS = QS (.brk, ρ) S := rfl
theorem sat_cont : Sat (mCont ρ S) QS = QS (.cont, ρ) S := rfl
theorem sat_ret {c : MV} : Sat (mRet c ρ S) QS = Sat (c ρ S) fun w S1 => QS (.ret w, ρ) S1 := by
  unfold mRet; rw [sat_bind]; rfl
theorem sat_drop {c : MV} : Sat (mDrop c ρ S) QS = Sat (c ρ S) fun _ S1 => QS (.next, ρ) S1 := by
  unfold mDrop; rw [sat_bind]; rfl
theorem sat_if {t : MW Bool} {c d : MS} : Sat (mIf t c d ρ S) QS = Sat (t ρ S) fun b S1 => if b = true then Sat (c ρ S1) QS else Sat (d ρ S1) QS := by
  unfold mIf; rw [sat_bind]; congr; funext b S1; cases b <;> rfl
theorem sat_asg {c : MV} {g : MG} : Sat (mAsg c g ρ S) QS = Sat (c ρ S) fun w S1 => Sat (g w ρ S1) fun ρ1 S2 => QS (.next, ρ1) S2 := by
  unfold mAsg; rw [sat_bind]; congr; funext w S1; rw [sat_then]; rfl
theorem sat_set {i : Nat} {c : MV} : Sat (mSet i c ρ S) QS = Sat (c ρ S) fun w S1 => QS (.next, ρ.set i (some w)) S1 := by
  unfold mSet; rw [sat_bind]; rfl
theorem sat_par {i j : Nat} {c d : MV} : Sat (mPar i j (mCons c (mCons d mNil)) ρ S) QS = Sat (c ρ S) fun v S1 => Sat (d ρ S1) fun w S2 => QS (.next, (ρ.set i (some v)).set j (some w)) S2 := by
  unfold mPar; rw [sat_bind, sat_cons]; simp only [sat_cons, sat_nil]; rfl
theorem sat_gname {i : Nat} {w : W} : Sat (mgName i w ρ S) QE = QE (ρ.set i (some w)) S := rfl
theorem sat_gnil : Sat (mgNil [] ρ S) QE = QE ρ S := rfl
theorem sat_gcons {g : MG} {gs : MGs} {w : W} {ws : List W} : Sat (mgCons g gs (w :: ws) ρ S) QE = Sat (g w ρ S) fun ρ1 S1 => Sat (gs ws ρ1 S1) QE := by
  unfold mgCons; simp only; rw [sat_then]
theorem sat_gtup {n : Nat} {gs : MGs} {ws : List W} : Sat (mgTup n gs (.tup ws) ρ S) QE = if ws.length = n then Sat (gs ws ρ S) QE else False := by
  unfold mgTup; simp only; rw [ite_ap, sat_ite]; rfl
theorem sat_gsub {f : W → W → W → Sto → Res Unit} {o i : MV} {w : W} : Sat (mgSub f o i w ρ S) QE = Sat (o ρ S) fun ov S1 => Sat (i ρ S1) fun iv S2 => Sat (f ov iv w S2) fun _ S3 => QE ρ S3 := by
  unfold mgSub; rw [sat_bind]; congr; funext ov S1; rw [sat_bind]; congr; funext iv S2
  cases f ov iv w S2 <;> rfl
/-! loops -/
theorem sat_for {ci : MW (List W)} {g : MG} {b : MS} : Sat (mFor ci g b ρ S) QS = Sat (ci ρ S) fun ws S1 => Sat (mLoop g b ws ρ S1) QS := by
  unfold mFor; rw [sat_bind]
def loopK (g : MG) (b : MS) (ws : List W) (Q : Fl × Env → Sto → Prop) (p : Fl × Env) (S : Sto) : Prop := match p with
  | (.next, ρ) => Sat (mLoop g b ws ρ S) Q
  | (.cont, ρ) => Sat (mLoop g b ws ρ S) Q
  | (.brk, ρ) => Q (.next, ρ) S
  | (.ret w, ρ) => Q (.ret w, ρ) S
theorem loopK_next {g : MG} {b : MS} {ws : List W} : loopK g b ws QS (.next, ρ) S = Sat (mLoop g b ws ρ S) QS := rfl
theorem loopK_cont {g : MG} {b : MS} {ws : List W} : loopK g b ws QS (.cont, ρ) S = Sat (mLoop g b ws ρ S) QS := rfl
theorem loopK_brk {g : MG} {b : MS} {ws : List W} : loopK g b ws QS (.brk, ρ) S = QS (.next, ρ) S := rfl
theorem loopK_ret {g : MG} {b : MS} {ws : List W} {w : W} : loopK g b ws QS (.ret w, ρ) S = QS (.ret w, ρ) S := rfl
theorem sat_loop0 {g : MG} {b : MS} : Sat (mLoop g b [] ρ S) QS = QS (.next, ρ) S := rfl
theorem sat_loop1 {g : MG} {b : MS} {w : W} {ws : List W} : Sat (mLoop g b (w :: ws) ρ S) QS = Sat (g w ρ S) fun ρ1 S1 => Sat (b ρ1 S1) (loopK g b ws QS) := by
  rw [← sat_then]
  unfold mLoop
  cases mThen (g w) b ρ S with
  | ok p S1 => obtain ⟨f, ρ1⟩ := p; cases f <;> rfl
  | _ => rfl
/-- a loop by an invariant, over the items that are left -/
theorem loop_inv {g : MG} {b : MS} (I : List W → Env → Sto → Prop) (h0 : ∀ ρ S, I [] ρ S → QS (.next, ρ) S)
    (h1 : ∀ w ws ρ S, I (w :: ws) ρ S → Sat (g w ρ S) fun ρ1 S1 => Sat (b ρ1 S1) fun p S2 => match p with
      | (.next, ρ2) => I ws ρ2 S2
      | (.cont, ρ2) => I ws ρ2 S2
      | (.brk, ρ2) => QS (.next, ρ2) S2
      | (.ret u, ρ2) => QS (.ret u, ρ2) S2) : ∀ ws ρ S, I ws ρ S → Sat (mLoop g b ws ρ S) QS := by
  intro ws
  induction ws with
  | nil => exact fun ρ S h => h0 ρ S h
  | cons w ws ih =>
    intro ρ S h
    rw [sat_loop1]
    refine (h1 w ws ρ S h).mono fun ρ1 S1 h2 => h2.mono fun p S2 h3 => ?_
    obtain ⟨f, ρ2⟩ := p
    cases f with
    | next => exact ih ρ2 S2 h3
    | cont => exact ih ρ2 S2 h3
    | brk => exact h3
    | ret u => exact h3
theorem sat_iter {c : MV} : Sat (mIter c ρ S) QL = Sat (c ρ S) fun w S1 => ∃ ws, itemsOf w = some ws ∧ QL ws S1 := by
  unfold mIter; rw [sat_bind]; congr; funext w S1
  cases h : itemsOf w with
  | none => simp [Sat]
  | some ws => simp [Sat]
theorem sat_rng1 {c : MV} : Sat (mRng1 (mCons c mNil) ρ S) QL = Sat (c ρ S) fun w S1 => ∃ j, w = .int j ∧ -(2 ^ 62) ≤ j ∧ j < 2 ^ 62 ∧ QL (rngW 0 j) S1 := by
  unfold mRng1; rw [sat_bind, sat_cons]; congr; funext w S1; rw [sat_nil]
  cases w with
  | int j =>
    simp only
    rw [sat_ite, sat_stuck, sat_ok]
    by_cases h : -(2 ^ 62) ≤ j ∧ j < 2 ^ 62
    · rw [if_pos h]
      exact propext ⟨fun z => ⟨j, rfl, h.1, h.2, z⟩, fun ⟨_, e, _, _, z⟩ => by cases e; exact z⟩
    · rw [if_neg h]
      exact propext ⟨False.elim, fun ⟨_, e, a, b, z⟩ => by cases e; exact h ⟨a, b⟩⟩
  | _ => exact propext ⟨False.elim, fun ⟨_, e, _⟩ => by cases e⟩
/-! comprehensions -/
def lcK (g : MG) (t : MW Bool) (e : MV) (ρ : Env) (ws acc : List W) (Q : List W → Sto → Prop) (o : Option W) (S : Sto) : Prop := match o with
  | some y => if acc.length < sizeLine then Sat (mLcLoop g t e ρ ws (acc ++ [y]) S) Q else False
  | none => Sat (mLcLoop g t e ρ ws acc S) Q
theorem sat_turn {g : MG} {t : MW Bool} {e : MV} {w : W} {Q : Option W → Sto → Prop} : Sat (mLcTurn g t e w ρ S) Q = Sat (g w ρ S) fun ρ1 S1 => Sat (t ρ1 S1) fun b S2 => if b = true then Sat (e ρ1 S2) fun y S3 => Q (some y) S3 else Q none S2 := by
  unfold mLcTurn; rw [sat_then]; congr; funext ρ1 S1; rw [sat_bind]; congr; funext b S2
  cases b
  · rfl
  · rw [if_pos rfl, if_pos rfl, sat_bind]; rfl
theorem sat_lcloop0 {g : MG} {t : MW Bool} {e : MV} {acc : List W} : Sat (mLcLoop g t e ρ [] acc S) QL = QL acc S := rfl
theorem sat_lcloop1 {g : MG} {t : MW Bool} {e : MV} {acc ws : List W} {w : W} : Sat (mLcLoop g t e ρ (w :: ws) acc S) QL = Sat (mLcTurn g t e w ρ S) (lcK g t e ρ ws acc QL) := by
  unfold mLcLoop
  cases mLcTurn g t e w ρ S with
  | ok o S1 =>
    cases o with
    | none => rfl
    | some y => simp only; rw [sat_ite]; rfl
  | _ => rfl
theorem sat_lc {vs : List Nat} {ci : MW (List W)} {g : MG} {t : MW Bool} {e : MV} : Sat (mLc vs ci g t e ρ S) Q = Sat (ci ρ S) fun ws S1 => Sat (mLcLoop g t e (wipeE ρ vs) ws [] S1) fun ys S2 => Q (.lst ys) S2 := by
  unfold mLc; rw [sat_bind]; congr; funext ws S1
  cases mLcLoop g t e (wipeE ρ vs) ws [] S1 <;> rfl
theorem lc_inv {g : MG} {t : MW Bool} {e : MV} (I : List W → List W → Sto → Prop) (h0 : ∀ acc S, I [] acc S → QL acc S)
    (h1 : ∀ w ws acc S, I (w :: ws) acc S → Sat (g w ρ S) fun ρ1 S1 => Sat (t ρ1 S1) fun b S2 => if b = true then Sat (e ρ1 S2) fun y S3 => acc.length < sizeLine ∧ I ws (acc ++ [y]) S3 else I ws acc S2) : ∀ ws acc S, I ws acc S → Sat (mLcLoop g t e ρ ws acc S) QL := by
  intro ws
  induction ws with
  | nil => exact fun acc S h => h0 acc S h
  | cons w ws ih =>
    intro acc S h
    rw [sat_lcloop1, sat_turn]
    refine (h1 w ws acc S h).mono fun ρ1 S1 h2 => h2.mono fun b S2 h3 => ?_
    cases b with
    | false => exact ih acc S2 h3
    | true =>
      rw [if_pos rfl] at h3 ⊢
      refine h3.mono fun y S3 h4 => ?_
      show if acc.length < sizeLine then _ else False
      rw [if_pos h4.1]
      exact ih _ S3 h4.2
theorem sat_yes : Sat (mYes ρ S) QB = QB true S := rfl
/-- a comprehension whose turns leave the store and give a value each -/
theorem lc_map {g : MG} {e : MV} {f : W → W} : ∀ (ws acc : List W) (S : Sto), (∀ w, w ∈ ws → Sat (g w ρ S) fun ρ1 S1 => Sat (e ρ1 S1) fun y S2 => y = f w ∧ S2 = S) → acc.length + ws.length ≤ sizeLine → mLcLoop g mYes e ρ ws acc S = .ok (acc ++ ws.map f) S
  | [], acc, S, _, _ => by simp [mLcLoop]
  | w :: ws, acc, S, h, hz => by
    refine sat_to ?_
    rw [sat_lcloop1, sat_turn]
    refine (h w List.mem_cons_self).mono fun ρ1 S1 h2 => ?_
    rw [sat_yes, if_pos rfl]
    refine h2.mono fun y S2 ⟨e1, e2⟩ => ?_
    subst e1
    subst e2
    have hz' : acc.length + (ws.length + 1) ≤ sizeLine := by simpa using hz
    show if acc.length < sizeLine then _ else False
    rw [if_pos (by omega), lc_map ws (acc ++ [f w]) S2 (fun u hu => h u (List.mem_cons_of_mem _ hu)) (by simp; omega)]
    exact ⟨by simp, rfl⟩
/-! defs -/
def finK (n : Nat) (Q : W → Sto → Prop) (p : Fl × Env) (S : Sto) : Prop := match p.1 with
  | .ret w => Sat (finW n w S) Q
  | .next => Sat (finW n .non S) Q
  | _ => False
theorem finK_ret {n : Nat} {w : W} : finK n Q (.ret w, ρ) S = Sat (finW n w S) Q := rfl
theorem finK_next {n : Nat} : finK n Q (.next, ρ) S = Sat (finW n .non S) Q := rfl
theorem sat_def {N : Nat} {c : MS} {ws : List W} : Sat (mDef N c ws S) Q = Sat (c (slots N ws) S) (finK S.length Q) := by
  unfold mDef
  cases c (slots N ws) S with
  | ok p S1 => obtain ⟨f, ρ1⟩ := p; cases f <;> rfl
  | _ => rfl
def keepK (Q : W → Sto → Prop) (p : Fl × Env) (S : Sto) : Prop := match p.1 with
  | .ret w => Q w S
  | .next => Q .non S
  | _ => False
theorem keepK_ret {w : W} : keepK Q (.ret w, ρ) S = Q w S := rfl
theorem keepK_next : keepK Q (.next, ρ) S = Q .non S := rfl
theorem sat_defK {N : Nat} {c : MS} {ws : List W} : Sat (mDefK N c ws S) Q = Sat (c (slots N ws) S) (keepK Q) := by
  unfold mDefK
  cases c (slots N ws) S with
  | ok p S1 => obtain ⟨f, ρ1⟩ := p; cases f <;> rfl
  | _ => rfl
theorem sat_m0 {f : W → Sto → Res W} {c : MV} : Sat (mM0 f c ρ S) Q = Sat (c ρ S) fun x S1 => Sat (f x S1) Q := by
  unfold mM0; rw [sat_bind]
theorem sat_nopart {Q : Option Int → Sto → Prop} : Sat (mNoPart ρ S) Q = Q none S := rfl
def partK (Q : Option Int → Sto → Prop) (w : W) (S : Sto) : Prop := match w with
  | .int i => Q (some i) S
  | _ => False
theorem partK_int {Q : Option Int → Sto → Prop} {i : Int} : partK Q (.int i) S = Q (some i) S := rfl
theorem sat_part {c : MV} {Q : Option Int → Sto → Prop} : Sat (mPart c ρ S) Q = Sat (c ρ S) (partK Q) := by
  unfold mPart; rw [sat_bind]; congr; funext w S1; cases w <;> rfl
theorem sat_sl {c : MV} {lo hi : MW (Option Int)} : Sat (mSl c lo hi ρ S) Q = Sat (c ρ S) fun x S1 => Sat (lo ρ S1) fun l S2 => Sat (hi ρ S2) fun u S3 => Sat (fSl x l u S3) Q := by
  unfold mSl; rw [sat_bind]; congr; funext w S1; rw [sat_bind]; congr; funext w S1; rw [sat_bind]
end
/-- all of them, for simp -/
theorem satS : type_of% (And.intro @sat_bind (And.intro @sat_then (And.intro @sat_ok (And.intro @sat_stuck (And.intro @sat_ite (And.intro @ite_ap (And.intro @sat_var0 (And.intro @sat_varS (And.intro @sat_c (And.intro @sat_op (And.intro @sat_un (And.intro @testK_bl (And.intro @sat_test (And.intro @chainK_bl (And.intro @sat_chain (And.intro @sat_and (And.intro @sat_or (And.intro @sat_not (And.intro @andK_bl (And.intro @orK_bl (And.intro @notK_bl (And.intro @sat_andV (And.intro @sat_orV (And.intro @sat_notV (And.intro @sat_ifE (And.intro @sat_nil (And.intro @sat_cons (And.intro @sat_tup (And.intro @sat_lst (And.intro @sat_lstM (And.intro @sat_cb (And.intro @sat_call (And.intro @seqK_next (And.intro @seqK_ret (And.intro @seqK_brk (And.intro @seqK_cont (And.intro @sat_seq (And.intro @sat_next (And.intro @sat_brk (And.intro @sat_cont (And.intro @sat_ret (And.intro @sat_drop (And.intro @sat_if (And.intro @sat_asg (And.intro @sat_set (And.intro @sat_par (And.intro @sat_gname (And.intro @sat_gnil (And.intro @sat_gcons (And.intro @sat_gtup (And.intro @sat_gsub (And.intro @sat_for (And.intro @sat_loop0 (And.intro @loopK_next (And.intro @loopK_cont (And.intro @loopK_brk (And.intro @loopK_ret (And.intro @sat_iter (And.intro @sat_rng1 (And.intro @sat_lc (And.intro @sat_lcloop0 (And.intro @sat_yes (And.intro @finK_ret (And.intro @finK_next (And.intro @sat_def (And.intro @keepK_ret (And.intro @keepK_next (And.intro @sat_defK (And.intro @sat_m0 (And.intro @sat_nopart (And.intro @partK_int (And.intro @sat_part @sat_sl)))))))))))))))))))))))))))))))))))))))))))))))))))))))))))))))))))))))) :=
  (And.intro @sat_bind (And.intro @sat_then (And.intro @sat_ok (And.intro @sat_stuck (And.intro @sat_ite (And.intro @ite_ap (And.intro @sat_var0 (And.intro @sat_varS (And.intro @sat_c (And.intro @sat_op (And.intro @sat_un (And.intro @testK_bl (And.intro @sat_test (And.intro @chainK_bl (And.intro @sat_chain (And.intro @sat_and (And.intro @sat_or (And.intro @sat_not (And.intro @andK_bl (And.intro @orK_bl (And.intro @notK_bl (And.intro @sat_andV (And.intro @sat_orV (And.intro @sat_notV (And.intro @sat_ifE (And.intro @sat_nil (And.intro @sat_cons (And.intro @sat_tup (And.intro @sat_lst (And.intro @sat_lstM (And.intro @sat_cb (And.intro @sat_call (And.intro @seqK_next (And.intro @seqK_ret (And.intro @seqK_brk (And.intro @seqK_cont (And.intro @sat_seq (And.intro @sat_next (And.intro @sat_brk (And.intro @sat_cont (And.intro @sat_ret (And.intro @sat_drop (And.intro @sat_if (And.intro @sat_asg (And.intro @sat_set (And.intro @sat_par (And.intro @sat_gname (And.intro @sat_gnil (And.intro @sat_gcons (And.intro @sat_gtup (And.intro @sat_gsub (And.intro @sat_for (And.intro @sat_loop0 (And.intro @loopK_next (And.intro @loopK_cont (And.intro @loopK_brk (And.intro @loopK_ret (And.intro @sat_iter (And.intro @sat_rng1 (And.intro @sat_lc (And.intro @sat_lcloop0 (And.intro @sat_yes (And.intro @finK_ret (And.intro @finK_next (And.intro @sat_def (And.intro @keepK_ret (And.intro @keepK_next (And.intro @sat_defK (And.intro @sat_m0 (And.intro @sat_nopart (And.intro @partK_int (And.intro @sat_part @sat_sl))))))))))))))))))))))))))))))))))))))))))))))))))))))))))))))))))))))))
end Mm

/-! Reckoning with mirrors: the operations. -/
namespace Mm
open PySem PySem.Spec PyProof.Rows L2
section
variable {S : Sto} {Q : W → Sto → Prop} {i j : Int} {ws us : List W} {l : Nat} {z y : Str} {b c : Bool}
theorem ex_o {α : Type} {o : Option α} {P : Prop} {R : α → Prop} (hn : o = none → P = False) (hs : ∀ a, o = some a → P = R a) : P = ∃ a, o = some a ∧ R a := by
  cases o with
  | none => exact (hn rfl).trans (propext ⟨False.elim, fun ⟨_, e, _⟩ => by cases e⟩)
  | some a => exact (hs a rfl).trans (propext ⟨fun h => ⟨a, rfl, h⟩, fun ⟨_, e, h⟩ => by cases e; exact h⟩)
theorem p_ixT : Sat (fIx (.tup ws) (.int i) S) Q = ∃ w, atI ws i = some w ∧ Q w S := ex_o (fun e => by unfold fIx seqA; first | rw [e]; rfl | (unfold seqL; simp only; rw [e]; rfl) | (simp only; rw [e]; rfl)) fun a e => by unfold fIx seqA; first | rw [e]; rfl | (unfold seqL; simp only; rw [e]; rfl) | (simp only; rw [e]; rfl)
theorem p_ixL : Sat (fIx (.lst ws) (.int i) S) Q = ∃ w, atI ws i = some w ∧ Q w S := ex_o (fun e => by unfold fIx seqA; first | rw [e]; rfl | (unfold seqL; simp only; rw [e]; rfl) | (simp only; rw [e]; rfl)) fun a e => by unfold fIx seqA; first | rw [e]; rfl | (unfold seqL; simp only; rw [e]; rfl) | (simp only; rw [e]; rfl)
theorem p_ixA : Sat (fIx (.arr ws) (.int i) S) Q = ∃ w, atI ws i = some w ∧ Q w S := ex_o (fun e => by unfold fIx seqA; first | rw [e]; rfl | (unfold seqL; simp only; rw [e]; rfl) | (simp only; rw [e]; rfl)) fun a e => by unfold fIx seqA; first | rw [e]; rfl | (unfold seqL; simp only; rw [e]; rfl) | (simp only; rw [e]; rfl)
theorem p_ixS : Sat (fIx (.str z) (.int i) S) Q = if z.length ≤ sizeLine then ∃ c, atI z.cps.toList i = some c ∧ Q (.str ⟨#[c]⟩) S else False := by
  show Sat (if z.length ≤ sizeLine then _ else _) Q = _
  rw [sat_ite]
  congr 1
  exact ex_o (fun e => by rw [e]; rfl) fun a e => by rw [e]; rfl
theorem p_ixO : Sat (fIx (.loc l) (.int i) S) Q = ∃ ws, S[l]? = some (.lst ws) ∧ ∃ w, atI ws i = some w ∧ Q w S := by
  show Sat (match seqA S (.loc l) with
    | some ws => (match atI ws i with
      | some w => .ok w S
      | none => .stuck)
    | none => .stuck) Q = _
  unfold seqA seqL
  simp only
  cases h : S[l]? with
  | none => exact propext ⟨False.elim, fun ⟨_, e, _⟩ => by cases e⟩
  | some o =>
    cases o with
    | lst ws => 
      refine Eq.trans (b := ∃ w, atI ws i = some w ∧ Q w S) (ex_o (fun e => ?_) fun a e => ?_) (propext ⟨fun h => ⟨ws, rfl, h⟩, fun ⟨_, e, h⟩ => by cases e; exact h⟩)
      · simp only [e]; rfl
      · simp only [e]; rfl
    | _ => exact propext ⟨False.elim, fun ⟨_, e, _⟩ => by cases e⟩
theorem p_addI : Sat (fAdd (.int i) (.int j) S) Q = Q (.int (i + j)) S := rfl
theorem p_addS : Sat (fAdd (.str z) (.str y) S) Q = if z.length + y.length ≤ sizeLine then Q (.str (z ++ y)) S else False := by
  show Sat (if _ then _ else _) Q = _
  rw [sat_ite]; rfl
theorem p_addT : Sat (fAdd (.tup ws) (.tup us) S) Q = if ws.length + us.length ≤ sizeLine then Q (.tup (ws ++ us)) S else False := by
  show Sat (if _ then _ else _) Q = _
  rw [sat_ite]; rfl
theorem p_addL : Sat (fAdd (.lst ws) (.lst us) S) Q = if ws.length + us.length ≤ sizeLine then Q (.lst (ws ++ us)) S else False := by
  show Sat (if _ then _ else _) Q = _
  rw [sat_ite]; rfl
theorem p_addM : Sat (fAddM (.loc l) (.lst us) S) Q = ∃ ws, S[l]? = some (.lst ws) ∧ ws.length + us.length ≤ sizeLine ∧ Q (.loc S.length) (S ++ [.lst (ws ++ us)]) := by
  unfold fAddM seqO
  simp only
  cases h : S[l]? with
  | none => exact propext ⟨False.elim, fun ⟨_, e, _⟩ => by cases e⟩
  | some o =>
    cases o with
    | lst ws =>
      simp only
      rw [sat_ite]
      by_cases h : ws.length + us.length ≤ sizeLine
      · rw [if_pos h]
        exact propext ⟨fun q => ⟨ws, rfl, h, q⟩, fun ⟨_, e, _, q⟩ => by cases e; exact q⟩
      · rw [if_neg h]
        exact propext ⟨False.elim, fun ⟨_, e, z, _⟩ => by cases e; exact h z⟩
    | _ => exact propext ⟨False.elim, fun ⟨_, e, _⟩ => by cases e⟩
theorem p_sub : Sat (fSub (.int i) (.int j) S) Q = Q (.int (i - j)) S := rfl
theorem p_mul : Sat (fMul (.int i) (.int j) S) Q = if (-(2 ^ 64) < i ∧ i < 2 ^ 64) ∨ (-(2 ^ 64) < j ∧ j < 2 ^ 64) then Q (.int (i * j)) S else False := by
  show Sat (if _ then _ else _) Q = _
  rw [sat_ite]; rfl
theorem p_mulS : Sat (fMul (.str z) (.int j) S) Q = if 2 ≤ j ∧ j ≤ 100000 ∧ 1 ≤ z.length ∧ z.length ≤ 100 then Q (.str (repS z j.toNat)) S else False := by
  show Sat (if _ then _ else _) Q = _
  rw [sat_ite]; rfl
theorem p_mod : Sat (fMod (.int i) (.int j) S) Q = if 0 < j then Q (.int (i % j)) S else False := by
  show Sat (if _ then _ else _) Q = _
  rw [sat_ite]; rfl
theorem p_div : Sat (fDiv (.int i) (.int j) S) Q = if 0 < j ∧ j < 1073741824 then Q (.int (i / j)) S else False := by
  show Sat (if _ then _ else _) Q = _
  rw [sat_ite]; rfl
theorem p_pow : Sat (fPow (.int i) (.int j) S) Q = if 0 ≤ j ∧ j ≤ 1000000 ∧ i.natAbs < 2 ^ 64 then Q (.int (i ^ j.toNat)) S else False := by
  show Sat (if _ then _ else _) Q = _
  rw [sat_ite]; rfl
theorem p_neg : Sat (fNeg (.int i) S) Q = Q (.int (-i)) S := rfl
theorem p_lt : Sat (fLt (.int i) (.int j) S) Q = Q (.bl (decide (i < j))) S := rfl
theorem p_le : Sat (fLe (.int i) (.int j) S) Q = Q (.bl (decide (i ≤ j))) S := rfl
theorem p_gt : Sat (fGt (.int i) (.int j) S) Q = Q (.bl (decide (j < i))) S := rfl
theorem p_ge : Sat (fGe (.int i) (.int j) S) Q = Q (.bl (decide (j ≤ i))) S := rfl
theorem p_eqI : Sat (fEq (.int i) (.int j) S) Q = Q (.bl (decide (i = j))) S := rfl
theorem p_eqB : Sat (fEq (.bl b) (.bl c) S) Q = Q (.bl (decide (b = c))) S := rfl
theorem p_eqS : Sat (fEq (.str z) (.str y) S) Q = Q (.bl (decide (z = y))) S := rfl
theorem p_eqT : Sat (fEq (.tup ws) (.tup []) S) Q = Q (.bl ws.isEmpty) S := rfl
theorem p_neI : Sat (fNe (.int i) (.int j) S) Q = Q (.bl (!decide (i = j))) S := rfl
theorem p_neS : Sat (fNe (.str z) (.str y) S) Q = Q (.bl (!decide (z = y))) S := rfl
theorem p_lenS : Sat (fLen [.str z] S) Q = if z.length ≤ sizeLine then Q (.int z.length) S else False := by
  show Sat (if _ then _ else _) Q = _
  rw [sat_ite]; rfl
theorem p_lenT : Sat (fLen [.tup ws] S) Q = Q (.int ws.length) S := rfl
theorem p_lenL : Sat (fLen [.lst ws] S) Q = Q (.int ws.length) S := rfl
theorem p_lenA : Sat (fLen [.arr ws] S) Q = Q (.int ws.length) S := rfl
theorem p_all : Sat (fAll [.lst ws] S) Q = ∃ bs, bools ws = some bs ∧ Q (.bl (bs.all id)) S := ex_o (fun e => by unfold fAll seqL; simp only [e]; rfl) fun a e => by unfold fAll seqL; simp only [e]; rfl
theorem p_any : Sat (fAny [.lst ws] S) Q = ∃ bs, bools ws = some bs ∧ Q (.bl (bs.any id)) S := ex_o (fun e => by unfold fAny seqL; simp only [e]; rfl) fun a e => by unfold fAny seqL; simp only [e]; rfl
theorem p_abs : Sat (fAbs [.int i] S) Q = Q (.int (if i < 0 then -i else i)) S := rfl
theorem p_max : Sat (fMax2 [.int i, .int j] S) Q = Q (.int (if j > i then j else i)) S := rfl
theorem p_min : Sat (fMin2 [.int i, .int j] S) Q = Q (.int (if j < i then j else i)) S := rfl
theorem p_divmod : Sat (fDivmod [.int i, .int j] S) Q = if 0 < j ∧ j < 1073741824 then Q (.tup [.int (i / j), .int (i % j)]) S else False := by
  show Sat (if _ then _ else _) Q = _
  rw [sat_ite]; rfl
theorem p_tupleT : Sat (fTuple [.tup ws] S) Q = Q (.tup ws) S := rfl
theorem p_tupleL : Sat (fTuple [.lst ws] S) Q = Q (.tup ws) S := rfl
theorem p_listT : Sat (fList [.tup ws] S) Q = Q (.lst ws) S := rfl
theorem p_listL : Sat (fList [.lst ws] S) Q = Q (.lst ws) S := rfl
theorem p_slS {lo hi : Option Int} : Sat (fSl (.str z) lo hi S) Q = if z.length ≤ sizeLine then Q (.str (cutS z lo hi)) S else False := by
  show Sat (if _ then _ else _) Q = _
  rw [sat_ite]; rfl
theorem p_slT {lo hi : Option Int} : Sat (fSl (.tup ws) lo hi S) Q = Q (.tup (cutW ws lo hi)) S := rfl
theorem p_slL {lo hi : Option Int} : Sat (fSl (.lst ws) lo hi S) Q = Q (.lst (cutW ws lo hi)) S := rfl
theorem p_slA {lo hi : Option Int} : Sat (fSl (.arr ws) lo hi S) Q = Q (.lst (cutW ws lo hi)) S := rfl
theorem p_lower : Sat (fIslower (.str z) S) Q = Q (.bl (Txt.islower z)) S := rfl
theorem p_digit : Sat (fIsdigit (.str z) S) Q = Q (.bl (Txt.isdigit z)) S := rfl
theorem p_isN {w : W} : Sat (fIsN w .non S) Q = Q (.bl (match w with | .non => true | _ => false)) S := by cases w <;> rfl
theorem p_notN {w : W} : Sat (fNotN w .non S) Q = Q (.bl (match w with | .non => false | _ => true)) S := by cases w <;> rfl
theorem p_in {x w : W} : Sat (fIn x w S) Q = ∃ b, inW x w S = some b ∧ Q (.bl b) S := ex_o (fun e => by unfold fIn; rw [e]; rfl) fun a e => by unfold fIn; rw [e]; rfl
theorem p_notIn {x w : W} : Sat (fNotIn x w S) Q = ∃ b, inW x w S = some b ∧ Q (.bl (!b)) S := ex_o (fun e => by unfold fNotIn; rw [e]; rfl) fun a e => by unfold fNotIn; rw [e]; rfl
def revK (Q : W → Sto → Prop) (w : W) (S : Sto) : Prop := Sat (match w with
  | .tup ws => .ok (.tup ws.reverse) S
  | w => match seqL S w with
    | some ws => .ok (.lst ws.reverse) S
    | none => .stuck) Q
theorem p_rev {ρ : Env} {c : MV} : Sat (mRev c ρ S) Q = Sat (c ρ S) (revK Q) := by
  unfold mRev; rw [sat_bind]; rfl
theorem p_revT : revK Q (.tup ws) S = Q (.tup ws.reverse) S := rfl
theorem p_revL : revK Q (.lst ws) S = Q (.lst ws.reverse) S := rfl
theorem p_setL {QU : Unit → Sto → Prop} {w : W} : Sat (fSetL (.loc l) (.int i) w S) QU = ∃ ws, S[l]? = some (.lst ws) ∧ ∃ k, ixN ws.length i = some k ∧ QU () (S.set l (.lst (ws.set k w))) := by
  unfold fSetL
  simp only
  cases h : S[l]? with
  | none => exact propext ⟨False.elim, fun ⟨_, e, _⟩ => by cases e⟩
  | some o =>
    cases o with
    | lst ws =>
      simp only
      cases q : ixN ws.length i with
      | none => exact propext ⟨False.elim, fun ⟨_, e, _, f, _⟩ => by cases e; rw [q] at f; cases f⟩
      | some k => exact propext ⟨fun h => ⟨ws, rfl, k, q, h⟩, fun ⟨_, e, _, f, z⟩ => by cases e; rw [q] at f; cases f; exact z⟩
    | _ => exact propext ⟨False.elim, fun ⟨_, e, _⟩ => by cases e⟩
/-- x.append(..): the list stands at l when it is asked for and when it is written -/
theorem p_append {ρ : Env} {c e : MV} : Sat (mAppend c (mCons e mNil) ρ S) Q = Sat (c ρ S) fun x S1 => ∃ l, x = .loc l ∧ (∃ vs, S1[l]? = some (.lst vs)) ∧ Sat (e ρ S1) fun w S2 => ∃ ws, S2[l]? = some (.lst ws) ∧ ws.length < sizeLine ∧ Q .non (S2.set l (.lst (ws ++ [w]))) := by
  unfold mAppend; rw [sat_bind]; congr; funext x S1
  cases x with
  | loc l =>
    simp only
    cases h : S1[l]? with
    | none => exact propext ⟨False.elim, fun ⟨_, e, ⟨_, f⟩, _⟩ => by cases e; rw [h] at f; cases f⟩
    | some o =>
      cases o with
      | lst vs =>
        simp only
        rw [sat_bind, sat_cons]
        simp only [sat_nil]
        have k : ∀ (r : Res W) (R : Prop), Sat r (fun w S2 => Sat (match S2[l]? with
            | some (.lst ws) => if ws.length < sizeLine then Res.ok W.non (S2.set l (.lst (ws ++ [w]))) else .stuck
            | _ => .stuck) Q) = (∃ l_1, W.loc l = W.loc l_1 ∧ (∃ vs, S1[l_1]? = some (O.lst vs)) ∧ Sat r fun w S2 => ∃ ws, S2[l_1]? = some (.lst ws) ∧ ws.length < sizeLine ∧ Q .non (S2.set l_1 (.lst (ws ++ [w])))) := by
          intro r R
          cases r with
          | ok w S2 =>
            simp only [Sat]
            cases h2 : S2[l]? with
            | none => exact propext ⟨False.elim, fun ⟨_, e, _, _, f, _⟩ => by cases e; rw [h2] at f; cases f⟩
            | some o =>
              cases o with
              | lst ws =>
                by_cases z : ws.length < sizeLine
                · simp only [if_pos z]
                  exact propext ⟨fun q => ⟨l, rfl, ⟨vs, h⟩, ws, h2, z, q⟩, fun ⟨_, e, _, _, f, _, q⟩ => by cases e; rw [h2] at f; cases f; exact q⟩
                · simp only [if_neg z]
                  exact propext ⟨False.elim, fun ⟨_, e, _, _, f, y, _⟩ => by cases e; rw [h2] at f; cases f; exact z y⟩
              | _ => exact propext ⟨False.elim, fun ⟨_, e, _, _, f, _⟩ => by cases e; rw [h2] at f; cases f⟩
          | _ => exact propext ⟨False.elim, fun ⟨_, e, _, f⟩ => f⟩
        have k2 := k (e ρ S1) True
        exact k2
      | _ => exact propext ⟨False.elim, fun ⟨_, e, ⟨_, f⟩, _⟩ => by cases e; rw [h] at f; cases f⟩
  | _ => exact propext ⟨False.elim, fun ⟨_, e, _⟩ => by cases e⟩
/-! items at places -/
theorem at0 {α : Type} {a : α} {xs : List α} : atI (a :: xs) 0 = some a := by
  unfold atI ixN
  rw [if_pos (by decide), if_pos (by simp)]
  rfl
theorem atS {α : Type} {a : α} {xs : List α} {i : Int} (h : 0 ≤ i) : atI (a :: xs) (i + 1) = atI xs i := by
  unfold atI ixN
  rw [if_pos (by omega), if_pos h]
  by_cases z : i < xs.length
  · rw [if_pos (by simp; omega), if_pos z]
    show (a :: xs)[(i + 1).toNat]? = xs[i.toNat]?
    rw [show (i + 1).toNat = i.toNat + 1 by omega]
    rfl
  · rw [if_neg (by simp; omega), if_neg z]
    rfl
theorem at1 {α : Type} {a b : α} {xs : List α} : atI (a :: b :: xs) 1 = some b := (atS (i := 0) (by decide)).trans at0
theorem at2 {α : Type} {a b c : α} {xs : List α} : atI (a :: b :: c :: xs) 2 = some c := (atS (i := 1) (by decide)).trans at1
theorem at3 {α : Type} {a b c d : α} {xs : List α} : atI (a :: b :: c :: d :: xs) 3 = some d := (atS (i := 2) (by decide)).trans at2
theorem at_in {α : Type} {xs : List α} {i : Int} (h : 0 ≤ i) (h2 : i < xs.length) : ∃ a, a ∈ xs ∧ atI xs i = some a := by
  unfold atI ixN
  rw [if_pos h, if_pos h2]
  have hl : i.toNat < xs.length := by omega
  exact ⟨xs[i.toNat], List.getElem_mem hl, List.getElem?_eq_getElem hl⟩
end
theorem satP : type_of% (And.intro @p_ixT (And.intro @p_ixL (And.intro @p_ixA (And.intro @p_ixS (And.intro @p_ixO (And.intro @p_addI (And.intro @p_addS (And.intro @p_addT (And.intro @p_addL (And.intro @p_addM (And.intro @p_sub (And.intro @p_mul (And.intro @p_mulS (And.intro @p_mod (And.intro @p_div (And.intro @p_pow (And.intro @p_neg (And.intro @p_lt (And.intro @p_le (And.intro @p_gt (And.intro @p_ge (And.intro @p_eqI (And.intro @p_eqB (And.intro @p_eqS (And.intro @p_eqT (And.intro @p_neI (And.intro @p_neS (And.intro @p_lenS (And.intro @p_lenT (And.intro @p_lenL (And.intro @p_lenA (And.intro @p_all (And.intro @p_any (And.intro @p_abs (And.intro @p_max (And.intro @p_min (And.intro @p_divmod (And.intro @p_tupleT (And.intro @p_tupleL (And.intro @p_listT (And.intro @p_listL (And.intro @p_slS (And.intro @p_slT (And.intro @p_slL (And.intro @p_slA (And.intro @p_lower (And.intro @p_digit (And.intro @p_isN (And.intro @p_notN (And.intro @p_in (And.intro @p_notIn (And.intro @p_rev (And.intro @p_revT (And.intro @p_revL (And.intro @p_setL (And.intro @p_append (And.intro @at0 (And.intro @at1 (And.intro @at2 @at3))))))))))))))))))))))))))))))))))))))))))))))))))))))))))) :=
  (And.intro @p_ixT (And.intro @p_ixL (And.intro @p_ixA (And.intro @p_ixS (And.intro @p_ixO (And.intro @p_addI (And.intro @p_addS (And.intro @p_addT (And.intro @p_addL (And.intro @p_addM (And.intro @p_sub (And.intro @p_mul (And.intro @p_mulS (And.intro @p_mod (And.intro @p_div (And.intro @p_pow (And.intro @p_neg (And.intro @p_lt (And.intro @p_le (And.intro @p_gt (And.intro @p_ge (And.intro @p_eqI (And.intro @p_eqB (And.intro @p_eqS (And.intro @p_eqT (And.intro @p_neI (And.intro @p_neS (And.intro @p_lenS (And.intro @p_lenT (And.intro @p_lenL (And.intro @p_lenA (And.intro @p_all (And.intro @p_any (And.intro @p_abs (And.intro @p_max (And.intro @p_min (And.intro @p_divmod (And.intro @p_tupleT (And.intro @p_tupleL (And.intro @p_listT (And.intro @p_listL (And.intro @p_slS (And.intro @p_slT (And.intro @p_slL (And.intro @p_slA (And.intro @p_lower (And.intro @p_digit (And.intro @p_isN (And.intro @p_notN (And.intro @p_in (And.intro @p_notIn (And.intro @p_rev (And.intro @p_revT (And.intro @p_revL (And.intro @p_setL (And.intro @p_append (And.intro @at0 (And.intro @at1 (And.intro @at2 @at3)))))))))))))))))))))))))))))))))))))))))))))))))))))))))))
end Mm

namespace Mm
open PySem L2
theorem isi_non_int {S : Sto} {Q : W → Sto → Prop} : Sat (fIsi [.non, .ty "int"] S) Q = Q (.bl false) S := rfl
theorem isi_non_bool {S : Sto} {Q : W → Sto → Prop} : Sat (fIsi [.non, .ty "bool"] S) Q = Q (.bl false) S := rfl
theorem isi_non_str {S : Sto} {Q : W → Sto → Prop} : Sat (fIsi [.non, .ty "str"] S) Q = Q (.bl false) S := rfl
theorem isi_non_tuple {S : Sto} {Q : W → Sto → Prop} : Sat (fIsi [.non, .ty "tuple"] S) Q = Q (.bl false) S := rfl
theorem isi_non_list {S : Sto} {Q : W → Sto → Prop} : Sat (fIsi [.non, .ty "list"] S) Q = Q (.bl false) S := rfl
theorem isi_non_dict {S : Sto} {Q : W → Sto → Prop} : Sat (fIsi [.non, .ty "dict"] S) Q = Q (.bl false) S := rfl
theorem isi_bl_int {S : Sto} {Q : W → Sto → Prop} {b : Bool} : Sat (fIsi [.bl b, .ty "int"] S) Q = Q (.bl true) S := rfl
theorem isi_bl_bool {S : Sto} {Q : W → Sto → Prop} {b : Bool} : Sat (fIsi [.bl b, .ty "bool"] S) Q = Q (.bl true) S := rfl
theorem isi_bl_str {S : Sto} {Q : W → Sto → Prop} {b : Bool} : Sat (fIsi [.bl b, .ty "str"] S) Q = Q (.bl false) S := rfl
theorem isi_bl_tuple {S : Sto} {Q : W → Sto → Prop} {b : Bool} : Sat (fIsi [.bl b, .ty "tuple"] S) Q = Q (.bl false) S := rfl
theorem isi_bl_list {S : Sto} {Q : W → Sto → Prop} {b : Bool} : Sat (fIsi [.bl b, .ty "list"] S) Q = Q (.bl false) S := rfl
theorem isi_bl_dict {S : Sto} {Q : W → Sto → Prop} {b : Bool} : Sat (fIsi [.bl b, .ty "dict"] S) Q = Q (.bl false) S := rfl
theorem isi_int_int {S : Sto} {Q : W → Sto → Prop} {i : Int} : Sat (fIsi [.int i, .ty "int"] S) Q = Q (.bl true) S := rfl
theorem isi_int_bool {S : Sto} {Q : W → Sto → Prop} {i : Int} : Sat (fIsi [.int i, .ty "bool"] S) Q = Q (.bl false) S := rfl
theorem isi_int_str {S : Sto} {Q : W → Sto → Prop} {i : Int} : Sat (fIsi [.int i, .ty "str"] S) Q = Q (.bl false) S := rfl
theorem isi_int_tuple {S : Sto} {Q : W → Sto → Prop} {i : Int} : Sat (fIsi [.int i, .ty "tuple"] S) Q = Q (.bl false) S := rfl
theorem isi_int_list {S : Sto} {Q : W → Sto → Prop} {i : Int} : Sat (fIsi [.int i, .ty "list"] S) Q = Q (.bl false) S := rfl
theorem isi_int_dict {S : Sto} {Q : W → Sto → Prop} {i : Int} : Sat (fIsi [.int i, .ty "dict"] S) Q = Q (.bl false) S := rfl
theorem isi_str_int {S : Sto} {Q : W → Sto → Prop} {x : Str} : Sat (fIsi [.str x, .ty "int"] S) Q = Q (.bl false) S := rfl
theorem isi_str_bool {S : Sto} {Q : W → Sto → Prop} {x : Str} : Sat (fIsi [.str x, .ty "bool"] S) Q = Q (.bl false) S := rfl
theorem isi_str_str {S : Sto} {Q : W → Sto → Prop} {x : Str} : Sat (fIsi [.str x, .ty "str"] S) Q = Q (.bl true) S := rfl
theorem isi_str_tuple {S : Sto} {Q : W → Sto → Prop} {x : Str} : Sat (fIsi [.str x, .ty "tuple"] S) Q = Q (.bl false) S := rfl
theorem isi_str_list {S : Sto} {Q : W → Sto → Prop} {x : Str} : Sat (fIsi [.str x, .ty "list"] S) Q = Q (.bl false) S := rfl
theorem isi_str_dict {S : Sto} {Q : W → Sto → Prop} {x : Str} : Sat (fIsi [.str x, .ty "dict"] S) Q = Q (.bl false) S := rfl
theorem isi_tup_int {S : Sto} {Q : W → Sto → Prop} {ws : List W} : Sat (fIsi [.tup ws, .ty "int"] S) Q = Q (.bl false) S := rfl
theorem isi_tup_bool {S : Sto} {Q : W → Sto → Prop} {ws : List W} : Sat (fIsi [.tup ws, .ty "bool"] S) Q = Q (.bl false) S := rfl
theorem isi_tup_str {S : Sto} {Q : W → Sto → Prop} {ws : List W} : Sat (fIsi [.tup ws, .ty "str"] S) Q = Q (.bl false) S := rfl
theorem isi_tup_tuple {S : Sto} {Q : W → Sto → Prop} {ws : List W} : Sat (fIsi [.tup ws, .ty "tuple"] S) Q = Q (.bl true) S := rfl
theorem isi_tup_list {S : Sto} {Q : W → Sto → Prop} {ws : List W} : Sat (fIsi [.tup ws, .ty "list"] S) Q = Q (.bl false) S := rfl
theorem isi_tup_dict {S : Sto} {Q : W → Sto → Prop} {ws : List W} : Sat (fIsi [.tup ws, .ty "dict"] S) Q = Q (.bl false) S := rfl
theorem isi_lst_int {S : Sto} {Q : W → Sto → Prop} {ws : List W} : Sat (fIsi [.lst ws, .ty "int"] S) Q = Q (.bl false) S := rfl
theorem isi_lst_bool {S : Sto} {Q : W → Sto → Prop} {ws : List W} : Sat (fIsi [.lst ws, .ty "bool"] S) Q = Q (.bl false) S := rfl
theorem isi_lst_str {S : Sto} {Q : W → Sto → Prop} {ws : List W} : Sat (fIsi [.lst ws, .ty "str"] S) Q = Q (.bl false) S := rfl
theorem isi_lst_tuple {S : Sto} {Q : W → Sto → Prop} {ws : List W} : Sat (fIsi [.lst ws, .ty "tuple"] S) Q = Q (.bl false) S := rfl
theorem isi_lst_list {S : Sto} {Q : W → Sto → Prop} {ws : List W} : Sat (fIsi [.lst ws, .ty "list"] S) Q = Q (.bl true) S := rfl
theorem isi_lst_dict {S : Sto} {Q : W → Sto → Prop} {ws : List W} : Sat (fIsi [.lst ws, .ty "dict"] S) Q = Q (.bl false) S := rfl
theorem isi_arr_int {S : Sto} {Q : W → Sto → Prop} {ws : List W} : Sat (fIsi [.arr ws, .ty "int"] S) Q = Q (.bl false) S := rfl
theorem isi_arr_bool {S : Sto} {Q : W → Sto → Prop} {ws : List W} : Sat (fIsi [.arr ws, .ty "bool"] S) Q = Q (.bl false) S := rfl
theorem isi_arr_str {S : Sto} {Q : W → Sto → Prop} {ws : List W} : Sat (fIsi [.arr ws, .ty "str"] S) Q = Q (.bl false) S := rfl
theorem isi_arr_tuple {S : Sto} {Q : W → Sto → Prop} {ws : List W} : Sat (fIsi [.arr ws, .ty "tuple"] S) Q = Q (.bl false) S := rfl
theorem isi_arr_list {S : Sto} {Q : W → Sto → Prop} {ws : List W} : Sat (fIsi [.arr ws, .ty "list"] S) Q = Q (.bl true) S := rfl
theorem isi_arr_dict {S : Sto} {Q : W → Sto → Prop} {ws : List W} : Sat (fIsi [.arr ws, .ty "dict"] S) Q = Q (.bl false) S := rfl
theorem isi_dct_int {S : Sto} {Q : W → Sto → Prop} {ks : List Key} {ws : List W} : Sat (fIsi [.dct ks ws, .ty "int"] S) Q = Q (.bl false) S := rfl
theorem isi_dct_bool {S : Sto} {Q : W → Sto → Prop} {ks : List Key} {ws : List W} : Sat (fIsi [.dct ks ws, .ty "bool"] S) Q = Q (.bl false) S := rfl
theorem isi_dct_str {S : Sto} {Q : W → Sto → Prop} {ks : List Key} {ws : List W} : Sat (fIsi [.dct ks ws, .ty "str"] S) Q = Q (.bl false) S := rfl
theorem isi_dct_tuple {S : Sto} {Q : W → Sto → Prop} {ks : List Key} {ws : List W} : Sat (fIsi [.dct ks ws, .ty "tuple"] S) Q = Q (.bl false) S := rfl
theorem isi_dct_list {S : Sto} {Q : W → Sto → Prop} {ks : List Key} {ws : List W} : Sat (fIsi [.dct ks ws, .ty "list"] S) Q = Q (.bl false) S := rfl
theorem isi_dct_dict {S : Sto} {Q : W → Sto → Prop} {ks : List Key} {ws : List W} : Sat (fIsi [.dct ks ws, .ty "dict"] S) Q = Q (.bl true) S := rfl
theorem satI : type_of% (And.intro @isi_non_int (And.intro @isi_non_bool (And.intro @isi_non_str (And.intro @isi_non_tuple (And.intro @isi_non_list (And.intro @isi_non_dict (And.intro @isi_bl_int (And.intro @isi_bl_bool (And.intro @isi_bl_str (And.intro @isi_bl_tuple (And.intro @isi_bl_list (And.intro @isi_bl_dict (And.intro @isi_int_int (And.intro @isi_int_bool (And.intro @isi_int_str (And.intro @isi_int_tuple (And.intro @isi_int_list (And.intro @isi_int_dict (And.intro @isi_str_int (And.intro @isi_str_bool (And.intro @isi_str_str (And.intro @isi_str_tuple (And.intro @isi_str_list (And.intro @isi_str_dict (And.intro @isi_tup_int (And.intro @isi_tup_bool (And.intro @isi_tup_str (And.intro @isi_tup_tuple (And.intro @isi_tup_list (And.intro @isi_tup_dict (And.intro @isi_lst_int (And.intro @isi_lst_bool (And.intro @isi_lst_str (And.intro @isi_lst_tuple (And.intro @isi_lst_list (And.intro @isi_lst_dict (And.intro @isi_arr_int (And.intro @isi_arr_bool (And.intro @isi_arr_str (And.intro @isi_arr_tuple (And.intro @isi_arr_list (And.intro @isi_arr_dict (And.intro @isi_dct_int (And.intro @isi_dct_bool (And.intro @isi_dct_str (And.intro @isi_dct_tuple (And.intro @isi_dct_list @isi_dct_dict))))))))))))))))))))))))))))))))))))))))))))))) :=
  (And.intro @isi_non_int (And.intro @isi_non_bool (And.intro @isi_non_str (And.intro @isi_non_tuple (And.intro @isi_non_list (And.intro @isi_non_dict (And.intro @isi_bl_int (And.intro @isi_bl_bool (And.intro @isi_bl_str (And.intro @isi_bl_tuple (And.intro @isi_bl_list (And.intro @isi_bl_dict (And.intro @isi_int_int (And.intro @isi_int_bool (And.intro @isi_int_str (And.intro @isi_int_tuple (And.intro @isi_int_list (And.intro @isi_int_dict (And.intro @isi_str_int (And.intro @isi_str_bool (And.intro @isi_str_str (And.intro @isi_str_tuple (And.intro @isi_str_list (And.intro @isi_str_dict (And.intro @isi_tup_int (And.intro @isi_tup_bool (And.intro @isi_tup_str (And.intro @isi_tup_tuple (And.intro @isi_tup_list (And.intro @isi_tup_dict (And.intro @isi_lst_int (And.intro @isi_lst_bool (And.intro @isi_lst_str (And.intro @isi_lst_tuple (And.intro @isi_lst_list (And.intro @isi_lst_dict (And.intro @isi_arr_int (And.intro @isi_arr_bool (And.intro @isi_arr_str (And.intro @isi_arr_tuple (And.intro @isi_arr_list (And.intro @isi_arr_dict (And.intro @isi_dct_int (And.intro @isi_dct_bool (And.intro @isi_dct_str (And.intro @isi_dct_tuple (And.intro @isi_dct_list @isi_dct_dict)))))))))))))))))))))))))))))))))))))))))))))))
/-- places of slots, truths -/
theorem ifT {p q : Prop} : (if true = true then p else q) = p := if_pos rfl
theorem ifF {p q : Prop} : (if false = true then p else q) = q := if_neg Bool.false_ne_true
theorem slots1 {N : Nat} {a : W} : slots (N + 1) [a] = some a :: List.replicate N none := rfl
theorem slots2 {N : Nat} {a b : W} : slots (N + 2) [a, b] = some a :: some b :: List.replicate N none := rfl
theorem slots3 {N : Nat} {a b c : W} : slots (N + 3) [a, b, c] = some a :: some b :: some c :: List.replicate N none := rfl
theorem slots4 {N : Nat} {a b c d : W} : slots (N + 4) [a, b, c, d] = some a :: some b :: some c :: some d :: List.replicate N none := rfl
theorem rep0 {α : Type} {a : α} : List.replicate 0 a = [] := rfl
theorem repS1 {α : Type} {a : α} {n : Nat} : List.replicate (n + 1) a = a :: List.replicate n a := rfl
theorem set0 {α : Type} {a b : α} {l : List α} : (a :: l).set 0 b = b :: l := rfl
theorem setS {α : Type} {a b : α} {l : List α} {n : Nat} : (a :: l).set (n + 1) b = a :: l.set n b := rfl
theorem wipe0 {ρ : Env} : wipeE ρ [] = ρ := rfl
theorem wipe1 {ρ : Env} {v : Nat} {vs : List Nat} : wipeE ρ (v :: vs) = (wipeE ρ vs).set v none := rfl
theorem len0 {α : Type} : ([] : List α).length = 0 := rfl
theorem lenS {α : Type} {a : α} {l : List α} : (a :: l).length = l.length + 1 := rfl
theorem ifT2 {p q : Prop} : (if True then p else q) = p := if_pos trivial
theorem ifF2 {p q : Prop} : (if False then p else q) = q := if_neg id
theorem notT : (!true) = false := rfl
theorem notF : (!false) = true := rfl
theorem satE : type_of% (And.intro @ifT (And.intro @ifF (And.intro @slots1 (And.intro @slots2 (And.intro @slots3 (And.intro @slots4 (And.intro @rep0 (And.intro @repS1 (And.intro @set0 (And.intro @setS (And.intro @wipe0 (And.intro @wipe1 (And.intro @len0 (And.intro @lenS (And.intro @ifT2 (And.intro @ifF2 (And.intro @notT @notF))))))))))))))))) :=
  (And.intro @ifT (And.intro @ifF (And.intro @slots1 (And.intro @slots2 (And.intro @slots3 (And.intro @slots4 (And.intro @rep0 (And.intro @repS1 (And.intro @set0 (And.intro @setS (And.intro @wipe0 (And.intro @wipe1 (And.intro @len0 (And.intro @lenS (And.intro @ifT2 (And.intro @ifF2 (And.intro @notT @notF)))))))))))))))))
end Mm

/-! Stores: heaps of draws ahead, a def's own objects behind. -/
namespace Mm
open PySem PySem.Spec PyProof.Rows L2
mutual
theorem belW_up {n : Nat} : ∀ {w : W}, belW 0 w = true → belW n w = true
  | .non, _ => rfl
  | .bl _, _ => rfl
  | .int _, _ => rfl
  | .str _, _ => rfl
  | .ty _, _ => rfl
  | .glo _, _ => rfl
  | .loc l, h => by unfold belW at h; exact absurd (of_decide_eq_true h) (Nat.not_lt_zero l)
  | .tup ws, h => by unfold belW at h ⊢; exact belWs_up h
  | .lst ws, h => by unfold belW at h ⊢; exact belWs_up h
  | .arr ws, h => by unfold belW at h ⊢; exact belWs_up h
  | .dct _ ws, h => by unfold belW at h ⊢; exact belWs_up h
  | .obj _ _ ws, h => by unfold belW at h ⊢; exact belWs_up h
theorem belWs_up {n : Nat} : ∀ {ws : List W}, belWs 0 ws = true → belWs n ws = true
  | [], _ => rfl
  | w :: ws, h => by
    unfold belWs at h ⊢
    obtain ⟨h1, h2⟩ := Bool.and_eq_true_iff.mp h
    exact Bool.and_eq_true_iff.mpr ⟨belW_up h1, belWs_up h2⟩
end
theorem belO_up {n : Nat} {o : O} (h : belO 0 o = true) : belO n o = true := by
  cases o <;> exact belWs_up h
theorem belWs_all {n : Nat} : ∀ {ws : List W}, belWs n ws = ws.all (belW n)
  | [] => rfl
  | w :: ws => by unfold belWs; rw [List.all_cons, belWs_all]
theorem belWs_mem {n : Nat} {ws : List W} (h : belWs n ws = true) {w : W} (m : w ∈ ws) : belW n w = true := by
  rw [belWs_all] at h
  exact List.all_eq_true.mp h w m
theorem belWs_of {n : Nat} {ws : List W} (h : ∀ w, w ∈ ws → belW n w = true) : belWs n ws = true := by
  rw [belWs_all]
  exact List.all_eq_true.mpr h
def HeapO (o : O) : Prop := ∃ a b c : Int, o = .lst [.int a, .int b, .int c]
theorem HeapO.bel {o : O} (h : HeapO o) : belO 0 o = true := by
  obtain ⟨a, b, c, rfl⟩ := h
  rfl
/-- n heaps of draws, then T -/
structure Gd (n : Nat) (T S : Sto) : Prop where
  len : S.length = n + T.length
  own : S.drop n = T
  hp : ∀ j o, j < n → S[j]? = some o → HeapO o
  cl : ∀ o, o ∈ T → belO 0 o = true
section
variable {n : Nat} {T U S : Sto}
theorem Gd.get (g : Gd n T S) (i : Nat) : S[n + i]? = T[i]? := by rw [← g.own, List.getElem?_drop]
theorem Gd.heap (g : Gd n T S) {j : Nat} (h : j < n) : ∃ a b c : Int, S[j]? = some (.lst [.int a, .int b, .int c]) := by
  have hl : j < S.length := by have := g.len; omega
  have e := List.getElem?_eq_getElem hl
  obtain ⟨a, b, c, q⟩ := g.hp j _ h e
  exact ⟨a, b, c, by rw [e, q]⟩
theorem Gd.setH (g : Gd n T S) {j : Nat} (h : j < n) (a b c : Int) : Gd n T (S.set j (.lst [.int a, .int b, .int c])) := by
  refine ⟨by rw [List.length_set]; exact g.len, ?_, fun i o hi e => ?_, g.cl⟩
  · rw [List.drop_set_of_lt h]
    exact g.own
  · by_cases z : j = i
    · subst z
      rw [List.getElem?_set_self (by have := g.len; omega)] at e
      cases e
      exact ⟨a, b, c, rfl⟩
    · rw [List.getElem?_set_ne z] at e
      exact g.hp i o hi e
theorem Gd.push (g : Gd n T S) {o : O} (h : belO 0 o = true) : Gd n (T ++ [o]) (S ++ [o]) := by
  refine ⟨by simp [g.len]; omega, ?_, fun i u hi e => ?_, fun u hu => ?_⟩
  · rw [List.drop_append_of_le_length (by have := g.len; omega), g.own]
  · rw [List.getElem?_append_left (by have := g.len; omega)] at e
    exact g.hp i u hi e
  · rcases List.mem_append.mp hu with z | z
    · exact g.cl u z
    · rw [List.mem_singleton.mp z]
      exact h
theorem Gd.set (g : Gd n T S) {i : Nat} {o : O} (h : belO 0 o = true) : Gd n (T.set i o) (S.set (n + i) o) := by
  refine ⟨by rw [List.length_set, List.length_set]; exact g.len, ?_, fun k u hk e => ?_, fun u hu => ?_⟩
  · rw [List.drop_set, if_neg (by omega), g.own, Nat.add_sub_cancel_left]
  · rw [List.getElem?_set_ne (by omega)] at e
    exact g.hp k u hk e
  · rcases List.mem_or_eq_of_mem_set hu with z | z
    · exact g.cl u z
    · rw [z]
      exact h
theorem Gd.bel (g : Gd n T S) : ∀ o, o ∈ S → belO 0 o = true := by
  intro o ho
  obtain ⟨i, hi⟩ := List.getElem?_of_mem ho
  by_cases h : i < n
  · exact (g.hp i o h hi).bel
  · refine g.cl o ?_
    rw [← g.own]
    exact List.mem_of_getElem? (i := i - n) (by rw [List.getElem?_drop, show n + (i - n) = i by omega]; exact hi)
theorem Gd.cut (g : Gd n (T ++ U) S) : Gd n T (S.take (n + T.length)) := by
  have hl := g.len
  rw [List.length_append] at hl
  refine ⟨by rw [List.length_take]; omega, ?_, fun i o hi e => ?_, fun o ho => g.cl o (List.mem_append_left _ ho)⟩
  · rw [List.drop_take, g.own, Nat.add_sub_cancel_left, List.take_left]
  · rw [List.getElem?_take_of_lt (by omega)] at e
    exact g.hp i o hi e
theorem Gd.same (g : Gd n T S) : S.take (n + T.length) = S := by rw [← g.len, List.take_length]
/-- leaving a def with a value that names no object -/
theorem fin_sat {m : Nat} {w : W} {Q : W → Sto → Prop} (g : Gd n (T ++ U) S) (hm : m = n + T.length) (hw : belW 0 w = true) (k : ∀ S', Gd n T S' → Q w S') : Sat (finW m w S) Q := by
  subst hm
  have gc := g.cut
  unfold finW
  rw [if_pos (by
    rw [List.all_eq_true]
    exact fun o ho => belO_up (gc.bel o ho)), if_pos (belW_up hw)]
  exact k _ gc
theorem fin_sat0 {m : Nat} {w : W} {Q : W → Sto → Prop} (g : Gd n T S) (hm : m = n + T.length) (hw : belW 0 w = true) (k : Q w S) : Sat (finW m w S) Q := by
  subst hm
  unfold finW
  rw [g.same, if_pos (by
    rw [List.all_eq_true]
    exact fun o ho => belO_up (g.bel o ho)), if_pos (belW_up hw)]
  exact k
/-- .. with a list of its own that holds plain values -/
def atomW : W → Bool
  | .non => true | .bl _ => true | .int _ => true | .str _ => true
  | _ => false
theorem frz_atoms {S : Sto} {n : Nat} : ∀ {k : Nat} {ws : List W}, (∀ w, w ∈ ws → atomW w = true) → ws.length < k → frzWs S n k ws = some ws
  | 0, ws, _, h => absurd h (Nat.not_lt_zero _)
  | k + 1, [], _, _ => by unfold frzWs; rfl
  | k + 1, w :: ws, h, hl => by
    have hl' : ws.length < k := by simpa using hl
    unfold frzWs
    rw [frz_atoms (fun u hu => h u (List.mem_cons_of_mem _ hu)) hl']
    have hw := h w List.mem_cons_self
    cases k with
    | zero => exact absurd hl' (Nat.not_lt_zero _)
    | succ k => cases w <;> first | (cases hw; done) | (unfold frzW; rfl)
theorem fin_list {m i : Nat} {ws : List W} {Q : W → Sto → Prop} (g : Gd n (T ++ U) S) (hm : m = n + T.length) (hi : U[i]? = some (.lst ws)) (hw : ∀ w, w ∈ ws → atomW w = true) (hl : ws.length < 900) (k : ∀ S', Gd n T S' → Q (.lst ws) S') : Sat (finW m (.loc (m + i)) S) Q := by
  subst hm
  have gc := g.cut
  unfold finW
  rw [if_pos (by
    rw [List.all_eq_true]
    exact fun o ho => belO_up (gc.bel o ho)), if_neg (by unfold belW; simp)]
  have e : S[n + T.length + i]? = some (.lst ws) := by
    rw [Nat.add_assoc, g.get, List.getElem?_append_right (by omega), Nat.add_sub_cancel_left]
    exact hi
  have f : frzW S (n + T.length) 1000 (.loc (n + T.length + i)) = some (.lst ws) := by
    unfold frzW
    rw [if_neg (by omega), e]
    show (frzWs S (n + T.length) 999 ws).map W.lst = some (W.lst ws)
    rw [frz_atoms hw (by omega)]
    rfl
  rw [f]
  exact k _ gc
end
end Mm

namespace Mm
open PySem PySem.Spec PyProof.Rows L2
/-- nothing in the store names another object -/
def WS (S : Sto) : Prop := ∀ o, o ∈ S → belO 0 o = true
theorem Gd.ws {n : Nat} {T S : Sto} (g : Gd n T S) : WS S := g.bel
theorem fin_ws {S : Sto} {w : W} {Q : W → Sto → Prop} (g : WS S) (hw : belW 0 w = true) : Sat (finW S.length w S) Q = Q w S := by
  refine sat_eq ?_ Q
  unfold finW
  rw [List.take_length, if_pos (by
    rw [List.all_eq_true]
    exact fun o ho => belO_up (g o ho)), if_pos (belW_up hw)]
theorem bools_map {ws : List W} (p : W → Bool) : bools (ws.map fun w => .bl (p w)) = some (ws.map p) := by
  induction ws with
  | nil => rfl
  | cons w ws ih => simp only [List.map, bools, ih]; rfl
/-- a comprehension that leaves the store as it is -/
theorem lc_sat {ρ : Env} {S : Sto} {g : MG} {e : MV} {ws : List W} {R : List W → Sto → Prop} (f : W → W) (h : ∀ w, w ∈ ws → Sat (g w ρ S) fun ρ1 S1 => Sat (e ρ1 S1) fun y S2 => y = f w ∧ S2 = S) (hz : ws.length ≤ sizeLine) (k : R (ws.map f) S) :
    Sat (mLcLoop g mYes e ρ ws [] S) R := by
  rw [lc_map (f := f) ws [] S h (by simpa using hz)]
  exact k
theorem ex_all {ws : List W} {S : Sto} {Q : W → Sto → Prop} (p : W → Bool) (k : Q (.bl (ws.all p)) S) : ∃ bs, bools (ws.map fun w => .bl (p w)) = some bs ∧ Q (.bl (bs.all id)) S :=
  ⟨ws.map p, bools_map p, by rw [List.all_map]; exact k⟩
theorem ex_any {ws : List W} {S : Sto} {Q : W → Sto → Prop} (p : W → Bool) (k : Q (.bl (ws.any p)) S) : ∃ bs, bools (ws.map fun w => .bl (p w)) = some bs ∧ Q (.bl (bs.any id)) S :=
  ⟨ws.map p, bools_map p, by rw [List.any_map]; exact k⟩
/-! ### plain data, with texts of common signs -/
def isLet (c : Nat) : Bool := decide (97 ≤ c) && decide (c ≤ 122)
def isDig (c : Nat) : Bool := decide (48 ≤ c) && decide (c ≤ 57)
def isSgn (c : Nat) : Bool := isLet c || isDig c
def comS (x : Str) : Bool := decide (x.cps.toList.length ≤ 1000) && x.cps.toList.all fun c => decide (c < 128)
mutual
def datW : W → Bool
  | .non => true
  | .bl _ => true
  | .int _ => true
  | .str x => comS x
  | .tup ws => datWs ws
  | .lst ws => datWs ws
  | .dct ks ws => ks.isEmpty && ws.isEmpty
  | _ => false
def datWs : List W → Bool
  | [] => true
  | w :: ws => datW w && datWs ws
end
mutual
theorem datW_bel : ∀ {w : W}, datW w = true → belW 0 w = true
  | .non, _ => rfl
  | .bl _, _ => rfl
  | .int _, _ => rfl
  | .str _, _ => rfl
  | .ty _, h => by unfold datW at h; cases h
  | .glo _, h => by unfold datW at h; cases h
  | .loc l, h => by unfold datW at h; cases h
  | .arr ws, h => by unfold datW at h; cases h
  | .obj _ _ ws, h => by unfold datW at h; cases h
  | .tup ws, h => by unfold datW at h; unfold belW; exact datWs_bel h
  | .lst ws, h => by unfold datW at h; unfold belW; exact datWs_bel h
  | .dct ks ws, h => by
    unfold datW at h
    have := (Bool.and_eq_true_iff.mp h).2
    rw [List.isEmpty_iff] at this
    subst this
    rfl
theorem datWs_bel : ∀ {ws : List W}, datWs ws = true → belWs 0 ws = true
  | [], _ => rfl
  | w :: ws, h => by
    unfold datWs at h
    unfold belWs
    obtain ⟨h1, h2⟩ := Bool.and_eq_true_iff.mp h
    exact Bool.and_eq_true_iff.mpr ⟨datW_bel h1, datWs_bel h2⟩
end
theorem datWs_all : ∀ {ws : List W}, datWs ws = ws.all datW
  | [] => rfl
  | w :: ws => by unfold datWs; rw [List.all_cons, datWs_all]
theorem datWs_mem {ws : List W} (h : datWs ws = true) {w : W} (m : w ∈ ws) : datW w = true := by
  rw [datWs_all] at h
  exact List.all_eq_true.mp h w m
theorem datWs_of {ws : List W} (h : ∀ w, w ∈ ws → datW w = true) : datWs ws = true := by
  rw [datWs_all]
  exact List.all_eq_true.mpr h
theorem low_com : ∀ c, c < 128 → Txt.islower ⟨#[c]⟩ = isLet c := by decide +kernel
theorem dig_com : ∀ c, c < 128 → Txt.isdigit ⟨#[c]⟩ = isDig c := by decide +kernel
theorem cps_letters : ("abcdefghijklmnopqrstuvwxyz" : Str).cps.toList = (List.range 26).map (97 + ·) := by decide +kernel
theorem cps_signs : ("abcdefghijklmnopqrstuvwxyz0123456789" : Str).cps.toList = (List.range 26).map (97 + ·) ++ (List.range 10).map (48 + ·) := by decide +kernel
theorem in_letters {c : Nat} : decide (c ∈ ("abcdefghijklmnopqrstuvwxyz" : Str).cps.toList) = isLet c := by
  rw [cps_letters]
  unfold isLet
  rw [← Bool.decide_and]
  refine decide_eq_decide.mpr ⟨fun h => ?_, fun h => ?_⟩
  · obtain ⟨i, h1, h2⟩ := List.mem_map.mp h
    have := List.mem_range.mp h1
    omega
  · exact List.mem_map.mpr ⟨c - 97, List.mem_range.mpr (by omega), by omega⟩
theorem in_signs {c : Nat} : decide (c ∈ ("abcdefghijklmnopqrstuvwxyz0123456789" : Str).cps.toList) = isSgn c := by
  rw [cps_signs]
  unfold isSgn isLet isDig
  rw [← Bool.decide_and, ← Bool.decide_and, ← Bool.decide_or]
  refine decide_eq_decide.mpr ⟨fun h => ?_, fun h => ?_⟩
  · rcases List.mem_append.mp h with h | h
    · obtain ⟨i, h1, h2⟩ := List.mem_map.mp h
      have := List.mem_range.mp h1
      omega
    · obtain ⟨i, h1, h2⟩ := List.mem_map.mp h
      have := List.mem_range.mp h1
      omega
  · rcases h with h | h
    · exact List.mem_append_left _ (List.mem_map.mpr ⟨c - 97, List.mem_range.mpr (by omega), by omega⟩)
    · exact List.mem_append_right _ (List.mem_map.mpr ⟨c - 48, List.mem_range.mpr (by omega), by omega⟩)
def nmL (cs : List Nat) : Bool := decide (1 ≤ cs.length) && (decide (cs.length ≤ 6) && ((match cs with | c :: _ => isLet c | [] => false) && cs.all isSgn))
def nmW : W → Bool
  | .str x => nmL x.cps.toList
  | _ => false
theorem comS_len {x : Str} (h : comS x = true) : x.length ≤ sizeLine := by
  have := of_decide_eq_true (Bool.and_eq_true_iff.mp h).1
  have e : x.length = x.cps.toList.length := by simp [Str.length]
  rw [e]
  exact Nat.le_trans this (by decide)
theorem Str_len {x : Str} : x.length = x.cps.toList.length := by simp [Str.length]
theorem inW_one {c : Nat} {z : Str} {S : Sto} : inW (.str ⟨#[c]⟩) (.str z) S = some (decide (c ∈ z.cps.toList)) := rfl

section
variable {ρ : Env} {S : Sto} {Q : W → Sto → Prop} {QL : List W → Sto → Prop} {QE : Env → Sto → Prop}
theorem q_star {gs : MGs} {a : W} {ws : List W} : Sat (mgStar 2 1 gs (.tup (a :: ws)) ρ S) QE = Sat (gs [a, .lst ws] ρ S) QE := by
  unfold mgStar
  simp [starV]
theorem q_zip {a b : MV} : Sat (mZipS (mCons a (mCons b mNil)) ρ S) QL = Sat (a ρ S) fun x S1 => Sat (b ρ S1) fun y S2 => ∃ xs, still x = some xs ∧ ∃ ys, still y = some ys ∧ xs.length = ys.length ∧ QL (pairs xs ys) S2 := by
  unfold mZipS; rw [sat_bind, sat_cons]; congr; funext x S1; rw [sat_cons]; congr; funext y S2; rw [sat_nil]
  simp only
  cases hx : still x with
  | none => simp [Sat]
  | some xs =>
    cases hy : still y with
    | none => simp [Sat]
    | some ys =>
      simp only [sat_ite, sat_ok, sat_stuck]
      by_cases h : xs.length = ys.length
      · simp [h]
      · simp [h]
def getK (kvs : List (Str × W)) (Q : W → Sto → Prop) (w : W) (S : Sto) : Prop := match w with
  | .str z => Q ((kvs.lookup z).getD .non) S
  | _ => False
theorem getK_str {kvs : List (Str × W)} {z : Str} : getK kvs Q (.str z) S = Q ((kvs.lookup z).getD .non) S := rfl
theorem q_get {kvs : List (Str × W)} {c : MV} : Sat (mGetK kvs c ρ S) Q = Sat (c ρ S) (getK kvs Q) := by
  unfold mGetK; rw [sat_bind]; congr; funext w S1; cases w <;> rfl
theorem q_item {kvs : List (Str × W)} {x y z : Str} : Sat (fItemK x kvs (.glo y) (.str z) S) Q = if y = x then ∃ v, kvs.lookup z = some v ∧ Q v S else False := by
  show Sat (if y = x then _ else _) Q = _
  rw [sat_ite]
  congr 1
  exact ex_o (fun e => by rw [e]; rfl) fun a e => by rw [e]; rfl
def callK (n : Nat) (fs : List (Str × MF)) (t : MW (List W)) (ρ : Env) (Q : W → Sto → Prop) (w : W) (S : Sto) : Prop := match w with
  | .glo x => ∃ m, fs.lookup x = some m ∧ Sat (t ρ S) fun ws S1 => if ws.length = n then Sat (m ws S1) Q else False
  | _ => False
theorem callK_glo {n : Nat} {fs : List (Str × MF)} {t : MW (List W)} {x : Str} : callK n fs t ρ Q (.glo x) S = ∃ m, fs.lookup x = some m ∧ Sat (t ρ S) fun ws S1 => if ws.length = n then Sat (m ws S1) Q else False := rfl
theorem q_callA {i n : Nat} {fs : List (Str × MF)} {t : MW (List W)} : Sat (mCallA i n fs t ρ S) Q = Sat (mVar i ρ S) (callK n fs t ρ Q) := by
  unfold mCallA; rw [sat_bind]; congr; funext w S1
  cases w with
  | glo x =>
    refine ex_o (fun e => by simp only [e]; rfl) fun m e => ?_
    simp only [e]
    rw [sat_bind]
    simp only [sat_ite, sat_stuck]
  | _ => rfl
theorem q_join {a : Str} {d : MV} : Sat (mM1 fJoin (mC (.str a)) d ρ S) Q = Sat (d ρ S) fun y S1 => Sat (fJoin (.str a) y S1) Q := by
  unfold mM1; rw [sat_bind, sat_c]; simp only; rw [sat_bind]
theorem q_joinL {a : Str} {ws : List W} : Sat (fJoin (.str a) (.lst ws) S) Q = ∃ ys, textsW ws = some ys ∧ if (ys.map (·.length)).sum + ys.length * a.length ≤ 16777216 then Q (.str (Txt.join a ys)) S else False := by
  unfold fJoin seqA seqL
  simp only
  exact ex_o (fun e => by simp only [e]; rfl) fun a e => by simp only [e]; rw [sat_ite]; rfl
theorem fin_bl {S : Sto} {b : Bool} {Q : W → Sto → Prop} (g : WS S) : Sat (finW S.length (.bl b) S) Q = Q (.bl b) S := fin_ws g rfl
theorem fin_int {S : Sto} {b : Int} {Q : W → Sto → Prop} (g : WS S) : Sat (finW S.length (.int b) S) Q = Q (.int b) S := fin_ws g rfl
theorem ex_eq {α : Type} {a : α} {P : α → Prop} : (∃ b, some a = some b ∧ P b) = P a := propext ⟨fun ⟨_, e, h⟩ => by cases e; exact h, fun h => ⟨a, rfl, h⟩⟩
end
theorem sats : type_of% (And.intro satS (And.intro satP (And.intro satI (And.intro satE (And.intro @q_star (And.intro @q_zip (And.intro @getK_str (And.intro @q_get (And.intro @q_item (And.intro @callK_glo (And.intro @q_callA (And.intro @q_join (And.intro @q_joinL (And.intro @inW_one @ex_eq)))))))))))))) := (And.intro satS (And.intro satP (And.intro satI (And.intro satE (And.intro @q_star (And.intro @q_zip (And.intro @getK_str (And.intro @q_get (And.intro @q_item (And.intro @callK_glo (And.intro @q_callA (And.intro @q_join (And.intro @q_joinL (And.intro @inW_one @ex_eq))))))))))))))
end Mm

namespace Lw
open PySem Mm
def kv_PARTS : List (Str × W) := [("name", .glo "is_name"), ("names", .glo "are_names"), ("number", .glo "is_number"), ("value", .glo "is_value"), ("by", .glo "is_by"), ("lane", .glo "is_lane")]
def kv_FORMS : List (Str × W) := [("put", .tup [.str "name", .str "number"]), ("copy", .tup [.str "name", .str "name"]), ("reckon", .tup [.str "name", .str "names", .str "name"]), ("look", .tup [.str "name"]), ("show", .tup [.str "name"]), ("wait", .tup [.str "name", .str "value"]), ("set", .tup [.str "name", .str "by"]), ("give", .tup [.str "name", .str "lane"]), ("take", .tup [.str "name"])]
def c_is_whole : MS := (mRet (mAndV (mCB fIsi (mCons (mVar 0) (mCons (mC (.ty "int")) mNil))) (mNotV (mCB fIsi (mCons (mVar 0) (mCons (mC (.ty "bool")) mNil))))))
def m_is_whole : MF := mDef 1 c_is_whole
def c_is_within : MS := (mRet (mAndV (mCall 1 m_is_whole (mCons (mVar 0) mNil)) (mChain fLe fLe (mVar 1) (mVar 0) (mVar 2))))
def m_is_within : MF := mDef 3 c_is_within
def c_is_name : MS := (mSeq (mIf (mOr (mNot (mTest (mCB fIsi (mCons (mVar 0) (mCons (mC (.ty "str")) mNil))))) (mOr (mNot (mTest (mChain fLe fLe (mC (.int 1)) (mCB fLen (mCons (mVar 0) mNil)) (mC (.int 6))))) (mTest (mOp fNotIn (mOp fIx (mVar 0) (mC (.int 0))) (mC (.str "abcdefghijklmnopqrstuvwxyz")))))) (mRet (mC (.bl false))) mNext)
  (mRet (mCB fAll (mCons (mLc [1] (mIter (mVar 0)) (mgName 1) mYes (mOp fIn (mVar 1) (mC (.str "abcdefghijklmnopqrstuvwxyz0123456789")))) mNil))))
def m_is_name : MF := mDef 2 c_is_name
def c_are_names : MS := (mSeq (mIf (mOr (mNot (mTest (mCB fIsi (mCons (mVar 0) (mCons (mC (.ty "tuple")) mNil))))) (mNot (mTest (mChain fLe fLe (mC (.int 1)) (mCB fLen (mCons (mVar 0) mNil)) (mC (.int 3)))))) (mRet (mC (.bl false))) mNext)
  (mRet (mCB fAll (mCons (mLc [1] (mIter (mVar 0)) (mgName 1) mYes (mCall 1 m_is_name (mCons (mVar 1) mNil))) mNil))))
def m_are_names : MF := mDef 2 c_are_names
def c_is_number : MS := (mRet (mCall 3 m_is_within (mCons (mVar 0) (mCons (mUn fNeg (mC (.int 999999))) (mCons (mC (.int 999999)) mNil)))))
def m_is_number : MF := mDef 1 c_is_number
def c_is_value : MS := (mRet (mCall 3 m_is_within (mCons (mVar 0) (mCons (mC (.int 1)) (mCons (mC (.int 9999)) mNil)))))
def m_is_value : MF := mDef 1 c_is_value
def c_is_by : MS := (mRet (mCall 3 m_is_within (mCons (mVar 0) (mCons (mC (.int 1)) (mCons (mC (.int 99)) mNil)))))
def m_is_by : MF := mDef 1 c_is_by
def c_is_lane : MS := (mRet (mCall 3 m_is_within (mCons (mVar 0) (mCons (mC (.int 0)) (mCons (mOp fSub (mC (.int 6)) (mC (.int 1))) mNil)))))
def m_is_lane : MF := mDef 1 c_is_lane
def fs_is_part : List (Str × MF) := [("is_name", m_is_name), ("are_names", m_are_names), ("is_number", m_is_number), ("is_value", m_is_value), ("is_by", m_is_by), ("is_lane", m_is_lane)]
def c_is_part : MS := (mSeq (mSet 2 (mOp (fItemK "PARTS" kv_PARTS) (mC (.glo "PARTS")) (mVar 0)))
  (mRet (mCallA 2 1 fs_is_part (mCons (mVar 1) mNil))))
def m_is_part : MF := mDef 3 c_is_part
def c_is_command : MS := (mSeq (mIf (mOr (mNot (mTest (mCB fIsi (mCons (mVar 0) (mCons (mC (.ty "tuple")) mNil))))) (mOr (mTest (mOp fEq (mVar 0) (mTup mNil))) (mNot (mTest (mCB fIsi (mCons (mOp fIx (mVar 0) (mC (.int 0))) (mCons (mC (.ty "str")) mNil))))))) (mRet (mC (.bl false))) mNext)
  (mSeq (mAsg (mVar 0) (mgStar 2 1 (mgCons (mgName 2) (mgCons (mgName 3) mgNil))))
  (mSeq (mSet 1 (mGetK kv_FORMS (mVar 2)))
  (mSeq (mIf (mOr (mTest (mOp fIsN (mVar 1) (mC .non))) (mTest (mOp fNe (mCB fLen (mCons (mVar 1) mNil)) (mCB fLen (mCons (mVar 3) mNil))))) (mRet (mC (.bl false))) mNext)
  (mRet (mCB fAll (mCons (mLc [4, 5] (mZipS (mCons (mVar 1) (mCons (mVar 3) mNil))) (mgTup 2 (mgCons (mgName 4) (mgCons (mgName 5) mgNil))) mYes (mCall 2 m_is_part (mCons (mVar 4) (mCons (mVar 5) mNil)))) mNil)))))))
def m_is_command : MF := mDef 6 c_is_command
def c__law_cell : MS := (mSeq (mIf (mTest (mOp fLt (mVar 1) (mCB fLen (mCons (mVar 0) mNil)))) (mRet (mOp fIx (mVar 0) (mVar 1))) mNext)
  (mSeq (mSet 2 (mOp fMod (mOp fMul (mC (.int 50021)) (mOp fAdd (mOp fAdd (mOp fMul (mVar 1) (mVar 1)) (mOp fMul (mC (.int 7)) (mVar 1))) (mC (.int 3)))) (mC (.int 1000000087))))
  (mSeq (mFor (mIter (mSl (mVar 0) mNoPart (mPart (mC (.int 4))))) (mgName 3) (mSet 2 (mOp fMod (mOp fAdd (mOp fMul (mVar 2) (mC (.int 60013))) (mVar 3)) (mC (.int 1000000087)))))
  (mRet (mVar 2)))))
def m__law_cell : MF := mDef 4 c__law_cell
def c__law_heap : MS := (mSeq (mIf (mOr (mTest (mOp fLt (mVar 0) (mC (.int 0)))) (mTest (mOp fGe (mVar 0) (mOp fPow (mC (.int 10)) (mC (.int 18)))))) (mRet (mLstM (mCons (mCB fAbs (mCons (mVar 0) mNil)) (mCons (mOp fAdd (mOp fMul (mOp fMod (mVar 0) (mC (.int 1000000087))) (mC (.int 7919))) (mC (.int 104729))) (mCons (mC (.int 0)) mNil))))) mNext)
  (mRet (mLstM (mCons (mC (.int 0)) (mCons (mOp fAdd (mOp fMul (mOp fMod (mVar 0) (mC (.int 1000000087))) (mC (.int 7919))) (mC (.int 104729))) (mCons (mC (.int 0)) mNil))))))
def m__law_heap : MF := mDefK 1 c__law_heap
def c__law_draw : MS := (mSeq (mAsg (mOp fAdd (mOp fIx (mVar 0) (mC (.int 2))) (mC (.int 1))) (mgSub fSetL (mVar 0) (mC (.int 2))))
  (mSeq (mIf (mTest (mOp fGt (mOp fIx (mVar 0) (mC (.int 0))) (mC (.int 0)))) (mSeq (mAsg (mCB fDivmod (mCons (mOp fIx (mVar 0) (mC (.int 0))) (mCons (mVar 1) mNil))) (mgTup 2 (mgCons (mgSub fSetL (mVar 0) (mC (.int 0))) (mgCons (mgName 3) mgNil))))
  (mRet (mVar 3))) mNext)
  (mSeq (mSet 2 (mOp fMod (mOp fIx (mVar 0) (mC (.int 1))) (mC (.int 1000000087))))
  (mSeq (mAsg (mOp fAdd (mOp fMul (mVar 2) (mOp fAdd (mOp fMod (mVar 2) (mC (.int 52021))) (mC (.int 31013)))) (mOp fMul (mC (.int 90001)) (mOp fIx (mVar 0) (mC (.int 2))))) (mgSub fSetL (mVar 0) (mC (.int 1))))
  (mRet (mOp fMod (mOp fDiv (mOp fMod (mOp fIx (mVar 0) (mC (.int 1))) (mC (.int 1000000087))) (mC (.int 32))) (mVar 1)))))))
def m__law_draw : MF := mDef 4 c__law_draw
def c__law_term_4 : MS := (mSeq (mSet 5 (mOp fAdd (mLst (mCons (mVar 4) mNil)) (mLc [6] (mIter (mVar 3)) (mgName 6) mYes (mOp fAdd (mSl (mVar 4) mNoPart (mPart (mC (.int 5)))) (mVar 6)))))
  (mRet (mOp fIx (mLc [7] (mIter (mVar 5)) (mgName 7) (mTest (mOp fNotIn (mVar 7) (mVar 1))) (mVar 7)) (mC (.int 0)))))
def c__law_term : MS := (mSeq (mSet 2 (mLst (mCons (mC (.str "put")) (mCons (mC (.str "copy")) (mCons (mC (.str "reckon")) (mCons (mC (.str "look")) (mCons (mC (.str "show")) (mCons (mC (.str "wait")) (mCons (mC (.str "set")) (mCons (mC (.str "give")) (mCons (mC (.str "take")) (mCons (mC (.str "room")) (mCons (mC (.str "lane")) (mCons (mC (.str "at")) (mCons (mC (.str "of")) (mCons (mC (.str "none")) mNil))))))))))))))))
  (mSeq (mSet 3 (mC (.str "abcdefghijklmnopqrstuvwxyz0123456789")))
  (mSeq (mSet 4 (mOp fIx (mOp fAdd (mVar 2) (mLst (mCons (mC (.str "ok")) (mCons (mC (.str "begin")) mNil)))) (mCall 2 m__law_draw (mCons (mVar 0) (mCons (mC (.int 16)) mNil)))))
  (mSeq (mIf (mTest (mOp fGt (mCall 2 m__law_draw (mCons (mVar 0) (mCons (mC (.int 4)) mNil))) (mC (.int 0)))) (mSeq (mSet 4 (mOp fIx (mVar 3) (mCall 2 m__law_draw (mCons (mVar 0) (mCons (mC (.int 26)) mNil)))))
  (mSet 4 (mOp fAdd (mVar 4) (mM1 fJoin (mC (.str "")) (mLc [8] (mRng1 (mCons (mCall 2 m__law_draw (mCons (mVar 0) (mCons (mC (.int 6)) mNil))) mNil)) (mgName 8) mYes (mOp fIx (mVar 3) (mCall 2 m__law_draw (mCons (mVar 0) (mCons (mC (.int 36)) mNil))))))))) mNext)
  c__law_term_4))))
def m__law_term : MF := mDef 9 c__law_term
def c__law_terms : MS := (mSeq (mSet 2 (mLstM mNil))
  (mSeq (mFor (mRng1 (mCons (mVar 1) mNil)) (mgName 3) (mDrop (mAppend (mVar 2) (mCons (mCall 2 m__law_term (mCons (mVar 0) (mCons (mVar 2) mNil))) mNil))))
  (mRet (mVar 2))))
def m__law_terms : MF := mDef 4 c__law_terms
def c__law_number : MS := (mSeq (mSet 1 (mCall 2 m__law_draw (mCons (mVar 0) (mCons (mOp fIx (mLst (mCons (mC (.int 10)) (mCons (mC (.int 1000)) (mCons (mC (.int 1000000)) mNil)))) (mCall 2 m__law_draw (mCons (mVar 0) (mCons (mC (.int 3)) mNil)))) mNil))))
  (mRet (mOp fIx (mLst (mCons (mVar 1) (mCons (mVar 1) (mCons (mOp fSub (mC (.int 0)) (mVar 1)) mNil)))) (mCall 2 m__law_draw (mCons (mVar 0) (mCons (mC (.int 3)) mNil))))))
def m__law_number : MF := mDef 2 c__law_number
def c__law_named : MS := (mSeq (mIf (mOr (mNot (mTest (mCB fIsi (mCons (mVar 0) (mCons (mC (.ty "str")) mNil))))) (mOr (mTest (mOp fLt (mCB fLen (mCons (mVar 0) mNil)) (mC (.int 1)))) (mTest (mOp fGt (mCB fLen (mCons (mVar 0) mNil)) (mC (.int 6)))))) (mRet (mC (.bl false))) mNext)
  (mRet (mAndV (mM0 fIslower (mOp fIx (mVar 0) (mC (.int 0)))) (mCB fAll (mCons (mLc [1] (mIter (mVar 0)) (mgName 1) mYes (mOrV (mM0 fIslower (mVar 1)) (mM0 fIsdigit (mVar 1)))) mNil)))))
def m__law_named : MF := mDef 2 c__law_named
def c__law_in : MS := (mRet (mAndV (mCB fIsi (mCons (mVar 0) (mCons (mC (.ty "int")) mNil))) (mAndV (mNotV (mCB fIsi (mCons (mVar 0) (mCons (mC (.ty "bool")) mNil)))) (mChain fLe fLe (mVar 1) (mVar 0) (mVar 2)))))
def m__law_in : MF := mDef 3 c__law_in
def c__law_due : MS := (mSeq (mIf (mOr (mNot (mTest (mCB fIsi (mCons (mVar 0) (mCons (mC (.ty "tuple")) mNil))))) (mOr (mTest (mOp fLt (mCB fLen (mCons (mVar 0) mNil)) (mC (.int 2)))) (mOr (mNot (mTest (mCB fIsi (mCons (mOp fIx (mVar 0) (mC (.int 0))) (mCons (mC (.ty "str")) mNil))))) (mNot (mTest (mCall 1 m__law_named (mCons (mOp fIx (mVar 0) (mC (.int 1))) mNil))))))) (mRet (mC (.bl false))) mNext)
  (mSeq (mSet 1 (mSl (mVar 0) (mPart (mC (.int 2))) mNoPart))
  (mSeq (mIf (mTest (mOp fIn (mOp fIx (mVar 0) (mC (.int 0))) (mLst (mCons (mC (.str "look")) (mCons (mC (.str "show")) (mCons (mC (.str "take")) mNil)))))) (mRet (mOp fEq (mVar 1) (mTup mNil))) mNext)
  (mSeq (mIf (mTest (mOp fEq (mOp fIx (mVar 0) (mC (.int 0))) (mC (.str "reckon")))) (mSeq (mIf (mOr (mTest (mOp fNe (mCB fLen (mCons (mVar 1) mNil)) (mC (.int 2)))) (mOr (mNot (mTest (mCB fIsi (mCons (mOp fIx (mVar 1) (mC (.int 0))) (mCons (mC (.ty "tuple")) mNil))))) (mTest (mOp fNotIn (mCB fLen (mCons (mOp fIx (mVar 1) (mC (.int 0))) mNil)) (mLst (mCons (mC (.int 1)) (mCons (mC (.int 2)) (mCons (mC (.int 3)) mNil)))))))) (mRet (mC (.bl false))) mNext)
  (mRet (mAndV (mCB fAll (mCons (mLc [2] (mIter (mOp fIx (mVar 1) (mC (.int 0)))) (mgName 2) mYes (mCall 1 m__law_named (mCons (mVar 2) mNil))) mNil)) (mCall 1 m__law_named (mCons (mOp fIx (mVar 1) (mC (.int 1))) mNil))))) mNext)
  (mSeq (mIf (mTest (mOp fNe (mCB fLen (mCons (mVar 1) mNil)) (mC (.int 1)))) (mRet (mC (.bl false))) mNext)
  (mSeq (mIf (mTest (mOp fEq (mOp fIx (mVar 0) (mC (.int 0))) (mC (.str "copy")))) (mRet (mCall 1 m__law_named (mCons (mOp fIx (mVar 1) (mC (.int 0))) mNil))) mNext)
  (mSeq (mIf (mTest (mOp fEq (mOp fIx (mVar 0) (mC (.int 0))) (mC (.str "put")))) (mRet (mCall 3 m__law_in (mCons (mOp fIx (mVar 1) (mC (.int 0))) (mCons (mUn fNeg (mC (.int 999999))) (mCons (mC (.int 999999)) mNil))))) mNext)
  (mSeq (mIf (mTest (mOp fEq (mOp fIx (mVar 0) (mC (.int 0))) (mC (.str "wait")))) (mRet (mCall 3 m__law_in (mCons (mOp fIx (mVar 1) (mC (.int 0))) (mCons (mC (.int 1)) (mCons (mC (.int 9999)) mNil))))) mNext)
  (mRet (mOrV (mAndV (mOp fEq (mOp fIx (mVar 0) (mC (.int 0))) (mC (.str "set"))) (mCall 3 m__law_in (mCons (mOp fIx (mVar 1) (mC (.int 0))) (mCons (mC (.int 1)) (mCons (mC (.int 99)) mNil))))) (mAndV (mOp fEq (mOp fIx (mVar 0) (mC (.int 0))) (mC (.str "give"))) (mCall 3 m__law_in (mCons (mOp fIx (mVar 1) (mC (.int 0))) (mCons (mC (.int 0)) (mCons (mC (.int 5)) mNil)))))))))))))))
def m__law_due : MF := mDef 3 c__law_due
def c__law_odd_term : MS := (mSeq (mSet 2 (mLst (mCons (mC (.str "")) (mCons (mC (.str "A")) (mCons (mOp fAdd (mVar 1) (mC (.str "A"))) (mCons (mOp fAdd (mC (.str "1")) (mSl (mVar 1) mNoPart (mPart (mC (.int 5))))) (mCons (mOp fAdd (mC (.str "_")) (mSl (mVar 1) mNoPart (mPart (mC (.int 5))))) (mCons (mSl (mOp fMul (mVar 1) (mC (.int 7))) mNoPart (mPart (mC (.int 7)))) (mCons (mOp fAdd (mSl (mVar 1) mNoPart (mPart (mC (.int 5)))) (mC (.str " "))) (mCons (mOp fAdd (mC (.str " ")) (mSl (mVar 1) mNoPart (mPart (mC (.int 5))))) mNil))))))))))
  (mSeq (mSet 2 (mOp fAdd (mVar 2) (mLst (mCons (mC .non) (mCons (mC (.int 7)) (mCons (mLst (mCons (mVar 1) mNil)) (mCons (mTup (mCons (mVar 1) mNil)) (mCons (mOp fAdd (mSl (mVar 1) mNoPart (mPart (mC (.int 3)))) (mC (.str "-"))) (mCons (mC (.bl true)) (mCons (mC (.dct [] [])) (mCons (mTup (mCons (mLst mNil) mNil)) (mCons (mC (.str "9")) (mCons (mOp fAdd (mSl (mVar 1) mNoPart (mPart (mC (.int 5)))) (mC (.str "9"))) mNil)))))))))))))
  (mSeq (mSet 2 (mOp fAdd (mVar 2) (mLst (mCons (mSl (mOp fAdd (mVar 1) (mC (.str "00000"))) mNoPart (mPart (mC (.int 6)))) (mCons (mC (.int 0)) mNil)))))
  (mRet (mOp fIx (mVar 2) (mCall 2 m__law_draw (mCons (mVar 0) (mCons (mC (.int 20)) mNil))))))))
def m__law_odd_term : MF := mDef 3 c__law_odd_term
def c__law_good : MS := (mSeq (mSet 1 (mCall 2 m__law_terms (mCons (mVar 0) (mCons (mC (.int 5)) mNil))))
  (mSeq (mSet 2 (mLst (mCons (mC (.int 0)) (mCons (mC (.int 999999)) (mCons (mUn fNeg (mC (.int 999999))) (mCons (mCall 1 m__law_number (mCons (mVar 0) mNil)) mNil))))))
  (mSeq (mSet 3 (mLstM (mCons (mTup (mCons (mC (.str "put")) (mCons (mOp fIx (mVar 1) (mC (.int 0))) (mCons (mOp fIx (mVar 2) (mCall 2 m__law_draw (mCons (mVar 0) (mCons (mC (.int 4)) mNil)))) mNil)))) (mCons (mTup (mCons (mC (.str "copy")) (mCons (mOp fIx (mVar 1) (mC (.int 0))) (mCons (mOp fIx (mVar 1) (mCall 2 m__law_draw (mCons (mVar 0) (mCons (mC (.int 2)) mNil)))) mNil)))) mNil))))
  (mSeq (mSet 4 (mCB fTuple (mCons (mLc [5] (mRng1 (mCons (mOp fAdd (mC (.int 1)) (mCall 2 m__law_draw (mCons (mVar 0) (mCons (mC (.int 3)) mNil)))) mNil)) (mgName 5) mYes (mOp fIx (mVar 1) (mCall 2 m__law_draw (mCons (mVar 0) (mCons (mC (.int 5)) mNil))))) mNil)))
  (mSeq (mDrop (mAppend (mVar 3) (mCons (mTup (mCons (mC (.str "reckon")) (mCons (mOp fIx (mVar 1) (mC (.int 0))) (mCons (mVar 4) (mCons (mOp fIx (mVar 1) (mC (.int 1))) mNil))))) mNil)))
  (mSeq (mSet 3 (mOp fAddM (mVar 3) (mLst (mCons (mTup (mCons (mC (.str "look")) (mCons (mOp fIx (mVar 1) (mC (.int 0))) mNil))) (mCons (mTup (mCons (mC (.str "show")) (mCons (mOp fIx (mVar 1) (mC (.int 0))) mNil))) (mCons (mTup (mCons (mC (.str "take")) (mCons (mOp fIx (mVar 1) (mC (.int 0))) mNil))) (mCons (mTup (mCons (mC (.str "give")) (mCons (mOp fIx (mVar 1) (mC (.int 0))) (mCons (mCall 2 m__law_draw (mCons (mVar 0) (mCons (mC (.int 6)) mNil))) mNil)))) mNil)))))))
  (mSeq (mDrop (mAppend (mVar 3) (mCons (mTup (mCons (mC (.str "wait")) (mCons (mOp fIx (mVar 1) (mC (.int 0))) (mCons (mOp fIx (mLst (mCons (mC (.int 1)) (mCons (mC (.int 9999)) (mCons (mOp fAdd (mC (.int 1)) (mCall 2 m__law_draw (mCons (mVar 0) (mCons (mC (.int 9999)) mNil)))) mNil)))) (mCall 2 m__law_draw (mCons (mVar 0) (mCons (mC (.int 3)) mNil)))) mNil)))) mNil)))
  (mSeq (mDrop (mAppend (mVar 3) (mCons (mTup (mCons (mC (.str "set")) (mCons (mOp fIx (mVar 1) (mC (.int 0))) (mCons (mOp fIx (mLst (mCons (mC (.int 1)) (mCons (mC (.int 99)) (mCons (mOp fAdd (mC (.int 1)) (mCall 2 m__law_draw (mCons (mVar 0) (mCons (mC (.int 99)) mNil)))) mNil)))) (mCall 2 m__law_draw (mCons (mVar 0) (mCons (mC (.int 3)) mNil)))) mNil)))) mNil)))
  (mRet (mOp fIx (mVar 3) (mCall 2 m__law_draw (mCons (mVar 0) (mCons (mC (.int 9)) mNil)))))))))))))
def m__law_good : MF := mDef 6 c__law_good
def c__law_bent : MS := (mSeq (mPar 3 4 (mCons (mCall 2 m__law_draw (mCons (mVar 0) (mCons (mCB fLen (mCons (mVar 1) mNil)) mNil))) (mCons (mCall 2 m__law_draw (mCons (mVar 0) (mCons (mC (.int 9)) mNil))) mNil)))
  (mSeq (mSet 2 (mLst (mCons (mUn fNeg (mC (.int 1000000))) (mCons (mC (.int 1000000)) (mCons (mC (.int 0)) (mCons (mC (.int 100)) (mCons (mC (.int 10000)) (mCons (mC (.int 6)) (mCons (mUn fNeg (mC (.int 1))) (mCons (mC (.bl true)) (mCons (mC (.bl false)) (mCons (mC .non) (mCons (mC (.str "5")) (mCons (mC (.str "x")) (mCons (mC (.str "set")) (mCons (mC (.str "look")) (mCons (mTup mNil) (mCons (mTup (mCons (mC (.str "a")) mNil)) (mCons (mLst (mCons (mC (.str "a")) mNil)) mNil)))))))))))))))))))
  (mSeq (mSet 2 (mOp fAdd (mVar 2) (mLst (mCons (mC (.dct [] [])) (mCons (mLst mNil) (mCons (mTup (mCons (mC (.str "a")) (mCons (mC (.str "b")) (mCons (mC (.str "c")) (mCons (mC (.str "d")) mNil))))) (mCons (mTup (mCons (mC (.str "a")) (mCons (mC (.int 5)) mNil))) (mCons (mTup (mCons (mC (.str "a")) (mCons (mC (.str "B")) mNil))) (mCons (mLst (mCons (mC (.str "a")) (mCons (mC (.str "b")) mNil))) (mCons (mC (.str "puts")) (mCons (mC (.str "Put")) (mCons (mTup (mCons (mC (.str "put")) mNil)) mNil))))))))))))
  (mSeq (mSet 2 (mOp fAdd (mVar 2) (mLst (mCons (mOp fPow (mC (.int 10)) (mC (.int 12))) (mCons (mTup (mCons (mC (.str "a")) (mCons (mC (.str "b")) mNil))) mNil)))))
  (mSeq (mIf (mTest (mOp fEq (mVar 4) (mC (.int 0)))) (mRet (mOp fAdd (mSl (mVar 1) mNoPart (mPart (mVar 3))) (mSl (mVar 1) (mPart (mOp fAdd (mVar 3) (mC (.int 1)))) mNoPart))) mNext)
  (mSeq (mIf (mTest (mOp fEq (mVar 4) (mC (.int 1)))) (mRet (mOp fAdd (mOp fAdd (mSl (mVar 1) mNoPart (mPart (mVar 3))) (mSl (mVar 1) (mPart (mVar 3)) (mPart (mOp fAdd (mVar 3) (mC (.int 1)))))) (mSl (mVar 1) (mPart (mVar 3)) mNoPart))) mNext)
  (mSeq (mIf (mTest (mOp fEq (mVar 4) (mC (.int 2)))) (mRet (mOp fIx (mLst (mCons (mCB fList (mCons (mVar 1) mNil)) (mCons (mTup (mCons (mVar 1) mNil)) (mCons (mOp fIx (mVar 1) (mC (.int 0))) (mCons (mC .non) (mCons (mC (.dct [] [])) (mCons (mRev (mVar 1)) (mCons (mTup mNil) (mCons (mC (.int 0)) mNil))))))))) (mCall 2 m__law_draw (mCons (mVar 0) (mCons (mC (.int 8)) mNil))))) mNext)
  (mSeq (mIf (mAnd (mTest (mOp fLt (mVar 4) (mC (.int 5)))) (mTest (mOp fGt (mVar 3) (mC (.int 0))))) (mRet (mOp fAdd (mOp fAdd (mSl (mVar 1) mNoPart (mPart (mVar 3))) (mTup (mCons (mCall 2 m__law_odd_term (mCons (mVar 0) (mCons (mOp fIx (mVar 1) (mC (.int 1))) mNil))) mNil))) (mSl (mVar 1) (mPart (mOp fAdd (mVar 3) (mC (.int 1)))) mNoPart))) mNext)
  (mRet (mOp fAdd (mOp fAdd (mSl (mVar 1) mNoPart (mPart (mVar 3))) (mTup (mCons (mOp fIx (mVar 2) (mCall 2 m__law_draw (mCons (mVar 0) (mCons (mC (.int 28)) mNil)))) mNil))) (mSl (mVar 1) (mPart (mOp fAdd (mVar 3) (mC (.int 1)))) mNoPart)))))))))))
def m__law_bent : MF := mDef 5 c__law_bent
def c__law_told : MS := (mRet (mAndV (mCB fIsi (mCons (mVar 0) (mCons (mC (.ty "bool")) mNil))) (mOp fEq (mVar 0) (mVar 1))))
def m__law_told : MF := mDef 2 c__law_told
def c__law_right : MS := (mSeq (mFor (mRng1 (mCons (mC (.int 4)) mNil)) (mgName 1) (mSeq (mSet 2 (mCall 1 m__law_good (mCons (mVar 0) mNil)))
  (mSeq (mIf (mOr (mNot (mTest (mCall 1 m__law_due (mCons (mVar 2) mNil)))) (mNot (mTest (mCall 2 m__law_told (mCons (mCall 1 m_is_command (mCons (mVar 2) mNil)) (mCons (mC (.bl true)) mNil)))))) (mRet (mC (.bl false))) mNext)
  (mSeq (mFor (mRng1 (mCons (mC (.int 6)) mNil)) (mgName 3) (mSeq (mSet 6 (mCall 2 m__law_bent (mCons (mVar 0) (mCons (mVar 2) mNil))))
  (mIf (mOr (mNot (mTest (mCall 2 m__law_told (mCons (mCall 1 m_is_command (mCons (mVar 6) mNil)) (mCons (mCall 1 m__law_due (mCons (mVar 6) mNil)) mNil))))) (mNot (mTest (mCall 2 m__law_told (mCons (mCall 1 m_is_command (mCons (mVar 2) mNil)) (mCons (mC (.bl true)) mNil)))))) (mRet (mC (.bl false))) mNext)))
  (mSeq (mSet 4 (mCall 2 m__law_odd_term (mCons (mVar 0) (mCons (mOp fIx (mVar 2) (mC (.int 1))) mNil))))
  (mFor (mIter (mLst (mCons (mOp fIx (mVar 2) (mC (.int 1))) (mCons (mVar 4) (mCons (mVar 2) (mCons (mSl (mVar 2) (mPart (mC (.int 1))) (mPart (mC (.int 2)))) mNil)))))) (mgName 5) (mIf (mNot (mTest (mCall 2 m__law_told (mCons (mCall 1 m_is_name (mCons (mVar 5) mNil)) (mCons (mCall 1 m__law_named (mCons (mVar 5) mNil)) mNil))))) (mRet (mC (.bl false))) mNext)))))))
  (mRet (mC (.bl true))))
def m__law_right : MF := mDef 7 c__law_right
def c_law : MS := (mRet (mCB fAll (mCons (mLc [1] (mRng1 (mCons (mCB fMax2 (mCons (mC (.int 3)) (mCons (mCB fMin2 (mCons (mCB fLen (mCons (mVar 0) mNil)) (mCons (mC (.int 12)) mNil))) mNil))) mNil)) (mgName 1) mYes (mCall 1 m__law_right (mCons (mCall 1 m__law_heap (mCons (mCall 2 m__law_cell (mCons (mVar 0) (mCons (mVar 1) mNil))) mNil)) mNil))) mNil)))
def m_law : MF := mDef 2 c_law
end Lw

namespace Lw
open PySem PySem.Spec PyProof.Rows L2 Mm
def top (i : Nat) : Stmt := PySem.Challenge.pw_fencelanes_k01_names_and_commands.main.body.getD i (.Pass ⟨0, 0, 0, 0⟩)
abbrev s_is_whole : Stmt := top 9
abbrev N_is_whole : List Str := ["thing"]
theorem sc_is_whole : FnScope N_is_whole ["thing"] (defScope s_is_whole) := ⟨rfl, rfl, rfl, by decide +kernel, rfl, by decide +kernel, by decide +kernel⟩
abbrev s_is_within : Stmt := top 10
abbrev N_is_within : List Str := ["thing", "low", "high"]
theorem sc_is_within : FnScope N_is_within ["thing", "low", "high"] (defScope s_is_within) := ⟨rfl, rfl, rfl, by decide +kernel, rfl, by decide +kernel, by decide +kernel⟩
abbrev s_is_name : Stmt := top 11
abbrev N_is_name : List Str := ["thing", "sign"]
theorem sc_is_name : FnScope N_is_name ["thing"] (defScope s_is_name) := ⟨rfl, rfl, rfl, by decide +kernel, rfl, by decide +kernel, by decide +kernel⟩
abbrev s_are_names : Stmt := top 12
abbrev N_are_names : List Str := ["thing", "part"]
theorem sc_are_names : FnScope N_are_names ["thing"] (defScope s_are_names) := ⟨rfl, rfl, rfl, by decide +kernel, rfl, by decide +kernel, by decide +kernel⟩
abbrev s_is_number : Stmt := top 13
abbrev N_is_number : List Str := ["thing"]
theorem sc_is_number : FnScope N_is_number ["thing"] (defScope s_is_number) := ⟨rfl, rfl, rfl, by decide +kernel, rfl, by decide +kernel, by decide +kernel⟩
abbrev s_is_value : Stmt := top 14
abbrev N_is_value : List Str := ["thing"]
theorem sc_is_value : FnScope N_is_value ["thing"] (defScope s_is_value) := ⟨rfl, rfl, rfl, by decide +kernel, rfl, by decide +kernel, by decide +kernel⟩
abbrev s_is_by : Stmt := top 15
abbrev N_is_by : List Str := ["thing"]
theorem sc_is_by : FnScope N_is_by ["thing"] (defScope s_is_by) := ⟨rfl, rfl, rfl, by decide +kernel, rfl, by decide +kernel, by decide +kernel⟩
abbrev s_is_lane : Stmt := top 16
abbrev N_is_lane : List Str := ["thing"]
theorem sc_is_lane : FnScope N_is_lane ["thing"] (defScope s_is_lane) := ⟨rfl, rfl, rfl, by decide +kernel, rfl, by decide +kernel, by decide +kernel⟩
abbrev s_is_part : Stmt := top 19
abbrev N_is_part : List Str := ["kind", "part", "ask"]
theorem sc_is_part : FnScope N_is_part ["kind", "part"] (defScope s_is_part) := ⟨rfl, rfl, rfl, by decide +kernel, rfl, by decide +kernel, by decide +kernel⟩
abbrev s_is_command : Stmt := top 20
abbrev N_is_command : List Str := ["thing", "form", "word", "parts", "kind", "part"]
theorem sc_is_command : FnScope N_is_command ["thing"] (defScope s_is_command) := ⟨rfl, rfl, rfl, by decide +kernel, rfl, by decide +kernel, by decide +kernel⟩
abbrev s__law_cell : Stmt := top 22
abbrev N__law_cell : List Str := ["_law_script", "_law_k", "_law_mixed", "_law_cell_here"]
theorem sc__law_cell : FnScope N__law_cell ["_law_script", "_law_k"] (defScope s__law_cell) := ⟨rfl, rfl, rfl, by decide +kernel, rfl, by decide +kernel, by decide +kernel⟩
abbrev s__law_heap : Stmt := top 23
abbrev N__law_heap : List Str := ["_law_cell_here"]
theorem sc__law_heap : FnScope N__law_heap ["_law_cell_here"] (defScope s__law_heap) := ⟨rfl, rfl, rfl, by decide +kernel, rfl, by decide +kernel, by decide +kernel⟩
abbrev s__law_draw : Stmt := top 24
abbrev N__law_draw : List Str := ["_law_heap_here", "_law_many", "_law_state", "_law_digit"]
theorem sc__law_draw : FnScope N__law_draw ["_law_heap_here", "_law_many"] (defScope s__law_draw) := ⟨rfl, rfl, rfl, by decide +kernel, rfl, by decide +kernel, by decide +kernel⟩
abbrev s__law_term : Stmt := top 25
abbrev N__law_term : List Str := ["_law_heap_here", "_law_known", "_law_menu", "_law_signs", "_law_found", "_law_spare", "_law_sign", "_law_term_here", "_law_k"]
theorem sc__law_term : FnScope N__law_term ["_law_heap_here", "_law_known"] (defScope s__law_term) := ⟨rfl, rfl, rfl, by decide +kernel, rfl, by decide +kernel, by decide +kernel⟩
abbrev s__law_terms : Stmt := top 26
abbrev N__law_terms : List Str := ["_law_heap_here", "_law_many", "_law_found", "_law_k"]
theorem sc__law_terms : FnScope N__law_terms ["_law_heap_here", "_law_many"] (defScope s__law_terms) := ⟨rfl, rfl, rfl, by decide +kernel, rfl, by decide +kernel, by decide +kernel⟩
abbrev s__law_number : Stmt := top 27
abbrev N__law_number : List Str := ["_law_heap_here", "_law_much"]
theorem sc__law_number : FnScope N__law_number ["_law_heap_here"] (defScope s__law_number) := ⟨rfl, rfl, rfl, by decide +kernel, rfl, by decide +kernel, by decide +kernel⟩
abbrev s__law_named : Stmt := top 28
abbrev N__law_named : List Str := ["_law_thing", "_law_sign"]
theorem sc__law_named : FnScope N__law_named ["_law_thing"] (defScope s__law_named) := ⟨rfl, rfl, rfl, by decide +kernel, rfl, by decide +kernel, by decide +kernel⟩
abbrev s__law_in : Stmt := top 29
abbrev N__law_in : List Str := ["_law_thing", "_law_low", "_law_high"]
theorem sc__law_in : FnScope N__law_in ["_law_thing", "_law_low", "_law_high"] (defScope s__law_in) := ⟨rfl, rfl, rfl, by decide +kernel, rfl, by decide +kernel, by decide +kernel⟩
abbrev s__law_due : Stmt := top 30
abbrev N__law_due : List Str := ["_law_thing", "_law_rest", "_law_term_here"]
theorem sc__law_due : FnScope N__law_due ["_law_thing"] (defScope s__law_due) := ⟨rfl, rfl, rfl, by decide +kernel, rfl, by decide +kernel, by decide +kernel⟩
abbrev s__law_odd_term : Stmt := top 31
abbrev N__law_odd_term : List Str := ["_law_heap_here", "_law_term_here", "_law_some"]
theorem sc__law_odd_term : FnScope N__law_odd_term ["_law_heap_here", "_law_term_here"] (defScope s__law_odd_term) := ⟨rfl, rfl, rfl, by decide +kernel, rfl, by decide +kernel, by decide +kernel⟩
abbrev s__law_good : Stmt := top 32
abbrev N__law_good : List Str := ["_law_heap_here", "_law_terms_here", "_law_numbers", "_law_some", "_law_sources", "_law_k"]
theorem sc__law_good : FnScope N__law_good ["_law_heap_here"] (defScope s__law_good) := ⟨rfl, rfl, rfl, by decide +kernel, rfl, by decide +kernel, by decide +kernel⟩
abbrev s__law_bent : Stmt := top 33
abbrev N__law_bent : List Str := ["_law_heap_here", "_law_deed", "_law_odd", "_law_at", "_law_way"]
theorem sc__law_bent : FnScope N__law_bent ["_law_heap_here", "_law_deed"] (defScope s__law_bent) := ⟨rfl, rfl, rfl, by decide +kernel, rfl, by decide +kernel, by decide +kernel⟩
abbrev s__law_told : Stmt := top 34
abbrev N__law_told : List Str := ["_law_found", "_law_due_here"]
theorem sc__law_told : FnScope N__law_told ["_law_found", "_law_due_here"] (defScope s__law_told) := ⟨rfl, rfl, rfl, by decide +kernel, rfl, by decide +kernel, by decide +kernel⟩
abbrev s__law_right : Stmt := top 35
abbrev N__law_right : List Str := ["_law_heap_here", "_law_turn", "_law_deed", "_law_more", "_law_odd", "_law_term_here", "_law_bent_here"]
theorem sc__law_right : FnScope N__law_right ["_law_heap_here"] (defScope s__law_right) := ⟨rfl, rfl, rfl, by decide +kernel, rfl, by decide +kernel, by decide +kernel⟩
abbrev s_law : Stmt := top 36
abbrev N_law : List Str := ["_law_script", "_law_k"]
theorem sc_law : FnScope N_law ["_law_script"] (defScope s_law) := ⟨rfl, rfl, rfl, by decide +kernel, rfl, by decide +kernel, by decide +kernel⟩
structure Txt (K : PySem.W.Frag) (mg : Str → Option Value) (w : World) : Prop where
  n_abs : mg "abs" = none
  n_all : mg "all" = none
  n_bool : mg "bool" = none
  n_divmod : mg "divmod" = none
  n_int : mg "int" = none
  n_isinstance : mg "isinstance" = none
  n_len : mg "len" = none
  n_list : mg "list" = none
  n_max : mg "max" = none
  n_min : mg "min" = none
  n_range : mg "range" = none
  n_str : mg "str" = none
  n_tuple : mg "tuple" = none
  n_zip : mg "zip" = none
  i_MOST_SIGNS : ∃ t, mg "MOST_SIGNS" = some (.int 6 t)
  i_MOST_LANES : ∃ t, mg "MOST_LANES" = some (.int 6 t)
  i_MOST_NUMBER : ∃ t, mg "MOST_NUMBER" = some (.int 999999 t)
  i_MOST_VALUE : ∃ t, mg "MOST_VALUE" = some (.int 9999 t)
  i_MOST_BY : ∃ t, mg "MOST_BY" = some (.int 99 t)
  i_MOST_FROMS : ∃ t, mg "MOST_FROMS" = some (.int 3 t)
  s_LETTERS : ∃ t, mg "LETTERS" = some (.str "abcdefghijklmnopqrstuvwxyz" t)
  s_SIGNS : ∃ t, mg "SIGNS" = some (.str "abcdefghijklmnopqrstuvwxyz0123456789" t)
  g_is_whole : mg "is_whole" = some (.ref (He.ga K "is_whole"))
  g_is_within : mg "is_within" = some (.ref (He.ga K "is_within"))
  g_is_name : mg "is_name" = some (.ref (He.ga K "is_name"))
  g_are_names : mg "are_names" = some (.ref (He.ga K "are_names"))
  g_is_number : mg "is_number" = some (.ref (He.ga K "is_number"))
  g_is_value : mg "is_value" = some (.ref (He.ga K "is_value"))
  g_is_by : mg "is_by" = some (.ref (He.ga K "is_by"))
  g_is_lane : mg "is_lane" = some (.ref (He.ga K "is_lane"))
  g_is_part : mg "is_part" = some (.ref (He.ga K "is_part"))
  g_is_command : mg "is_command" = some (.ref (He.ga K "is_command"))
  g__law_cell : mg "_law_cell" = some (.ref (He.ga K "_law_cell"))
  g__law_heap : mg "_law_heap" = some (.ref (He.ga K "_law_heap"))
  g__law_draw : mg "_law_draw" = some (.ref (He.ga K "_law_draw"))
  g__law_term : mg "_law_term" = some (.ref (He.ga K "_law_term"))
  g__law_terms : mg "_law_terms" = some (.ref (He.ga K "_law_terms"))
  g__law_number : mg "_law_number" = some (.ref (He.ga K "_law_number"))
  g__law_named : mg "_law_named" = some (.ref (He.ga K "_law_named"))
  g__law_in : mg "_law_in" = some (.ref (He.ga K "_law_in"))
  g__law_due : mg "_law_due" = some (.ref (He.ga K "_law_due"))
  g__law_odd_term : mg "_law_odd_term" = some (.ref (He.ga K "_law_odd_term"))
  g__law_good : mg "_law_good" = some (.ref (He.ga K "_law_good"))
  g__law_bent : mg "_law_bent" = some (.ref (He.ga K "_law_bent"))
  g__law_told : mg "_law_told" = some (.ref (He.ga K "_law_told"))
  g__law_right : mg "_law_right" = some (.ref (He.ga K "_law_right"))
  g_law : mg "law" = some (.ref (He.ga K "law"))
  g_PARTS : mg "PARTS" = some (.ref (He.ga K "PARTS"))
  g_FORMS : mg "FORMS" = some (.ref (He.ga K "FORMS"))
  d_is_whole : ∃ fd, FunD K "is_whole" "is_whole" (defArgs s_is_whole) (defBody s_is_whole) (defScope s_is_whole) [] [] (He.ga K "is_whole") fd
  d_is_within : ∃ fd, FunD K "is_within" "is_within" (defArgs s_is_within) (defBody s_is_within) (defScope s_is_within) [] [] (He.ga K "is_within") fd
  d_is_name : ∃ fd, FunD K "is_name" "is_name" (defArgs s_is_name) (defBody s_is_name) (defScope s_is_name) [] [] (He.ga K "is_name") fd
  d_are_names : ∃ fd, FunD K "are_names" "are_names" (defArgs s_are_names) (defBody s_are_names) (defScope s_are_names) [] [] (He.ga K "are_names") fd
  d_is_number : ∃ fd, FunD K "is_number" "is_number" (defArgs s_is_number) (defBody s_is_number) (defScope s_is_number) [] [] (He.ga K "is_number") fd
  d_is_value : ∃ fd, FunD K "is_value" "is_value" (defArgs s_is_value) (defBody s_is_value) (defScope s_is_value) [] [] (He.ga K "is_value") fd
  d_is_by : ∃ fd, FunD K "is_by" "is_by" (defArgs s_is_by) (defBody s_is_by) (defScope s_is_by) [] [] (He.ga K "is_by") fd
  d_is_lane : ∃ fd, FunD K "is_lane" "is_lane" (defArgs s_is_lane) (defBody s_is_lane) (defScope s_is_lane) [] [] (He.ga K "is_lane") fd
  d_is_part : ∃ fd, FunD K "is_part" "is_part" (defArgs s_is_part) (defBody s_is_part) (defScope s_is_part) [] [] (He.ga K "is_part") fd
  d_is_command : ∃ fd, FunD K "is_command" "is_command" (defArgs s_is_command) (defBody s_is_command) (defScope s_is_command) [] [] (He.ga K "is_command") fd
  d__law_cell : ∃ fd, FunD K "_law_cell" "_law_cell" (defArgs s__law_cell) (defBody s__law_cell) (defScope s__law_cell) [] [] (He.ga K "_law_cell") fd
  d__law_heap : ∃ fd, FunD K "_law_heap" "_law_heap" (defArgs s__law_heap) (defBody s__law_heap) (defScope s__law_heap) [] [] (He.ga K "_law_heap") fd
  d__law_draw : ∃ fd, FunD K "_law_draw" "_law_draw" (defArgs s__law_draw) (defBody s__law_draw) (defScope s__law_draw) [] [] (He.ga K "_law_draw") fd
  d__law_term : ∃ fd, FunD K "_law_term" "_law_term" (defArgs s__law_term) (defBody s__law_term) (defScope s__law_term) [] [] (He.ga K "_law_term") fd
  d__law_terms : ∃ fd, FunD K "_law_terms" "_law_terms" (defArgs s__law_terms) (defBody s__law_terms) (defScope s__law_terms) [] [] (He.ga K "_law_terms") fd
  d__law_number : ∃ fd, FunD K "_law_number" "_law_number" (defArgs s__law_number) (defBody s__law_number) (defScope s__law_number) [] [] (He.ga K "_law_number") fd
  d__law_named : ∃ fd, FunD K "_law_named" "_law_named" (defArgs s__law_named) (defBody s__law_named) (defScope s__law_named) [] [] (He.ga K "_law_named") fd
  d__law_in : ∃ fd, FunD K "_law_in" "_law_in" (defArgs s__law_in) (defBody s__law_in) (defScope s__law_in) [] [] (He.ga K "_law_in") fd
  d__law_due : ∃ fd, FunD K "_law_due" "_law_due" (defArgs s__law_due) (defBody s__law_due) (defScope s__law_due) [] [] (He.ga K "_law_due") fd
  d__law_odd_term : ∃ fd, FunD K "_law_odd_term" "_law_odd_term" (defArgs s__law_odd_term) (defBody s__law_odd_term) (defScope s__law_odd_term) [] [] (He.ga K "_law_odd_term") fd
  d__law_good : ∃ fd, FunD K "_law_good" "_law_good" (defArgs s__law_good) (defBody s__law_good) (defScope s__law_good) [] [] (He.ga K "_law_good") fd
  d__law_bent : ∃ fd, FunD K "_law_bent" "_law_bent" (defArgs s__law_bent) (defBody s__law_bent) (defScope s__law_bent) [] [] (He.ga K "_law_bent") fd
  d__law_told : ∃ fd, FunD K "_law_told" "_law_told" (defArgs s__law_told) (defBody s__law_told) (defScope s__law_told) [] [] (He.ga K "_law_told") fd
  d__law_right : ∃ fd, FunD K "_law_right" "_law_right" (defArgs s__law_right) (defBody s__law_right) (defScope s__law_right) [] [] (He.ga K "_law_right") fd
  d_law : ∃ fd, FunD K "law" "law" (defArgs s_law) (defBody s_law) (defScope s_law) [] [] (He.ga K "law") fd
  kd_PARTS : KDW K w "PARTS" kv_PARTS
  kd_FORMS : KDW K w "FORMS" kv_FORMS
theorem bb_abs : bootBuiltins "abs" = some (.builtin "abs") := by decide +kernel
theorem bb_all : bootBuiltins "all" = some (.builtin "all") := by decide +kernel
theorem bb_bool : bootBuiltins "bool" = some (.type "bool") := by decide +kernel
theorem bb_divmod : bootBuiltins "divmod" = some (.builtin "divmod") := by decide +kernel
theorem bb_int : bootBuiltins "int" = some (.type "int") := by decide +kernel
theorem bb_isinstance : bootBuiltins "isinstance" = some (.builtin "isinstance") := by decide +kernel
theorem bb_len : bootBuiltins "len" = some (.builtin "len") := by decide +kernel
theorem bb_list : bootBuiltins "list" = some (.type "list") := by decide +kernel
theorem bb_max : bootBuiltins "max" = some (.builtin "max") := by decide +kernel
theorem bb_min : bootBuiltins "min" = some (.builtin "min") := by decide +kernel
theorem bb_str : bootBuiltins "str" = some (.type "str") := by decide +kernel
theorem bb_tuple : bootBuiltins "tuple" = some (.type "tuple") := by decide +kernel
end Lw

namespace Lw
open PySem PySem.Spec PyProof.Rows L2 Mm
theorem ok_is_whole {P : Program} {w : World} {K : PySem.W.Frag} {mg : Str → Option Value} {base : Heap} (T : Txt K mg w) : FM P w K mg base 1 "is_whole" 1 m_is_whole := by
  obtain ⟨fd, F⟩ := T.d_is_whole
  refine fm_of (N := N_is_whole) F T.g_is_whole sc_is_whole (FunD.bindsN F fun _ _ _ _ _ _ us hl => match us, hl with | [_], _ => rfl) fun cdv A outer s H E hr => ?_
  exact (css_one (cs_ret (ce_and (ce_callB call_isi sim_isi (by rfl) T.n_isinstance bb_isinstance (ca_cons (ce_var 0) (ca_cons (ce_ty (by rfl) T.n_int bb_int) ca_nil))) (ce_one (ce_not (ce_callB call_isi sim_isi (by rfl) T.n_isinstance bb_isinstance (ca_cons (ce_var 0) (ca_cons (ce_ty (by rfl) T.n_bool bb_bool) ca_nil))))))))
theorem ok_is_within {P : Program} {w : World} {K : PySem.W.Frag} {mg : Str → Option Value} {base : Heap} (T : Txt K mg w) : FM P w K mg base 2 "is_within" 3 m_is_within := by
  obtain ⟨fd, F⟩ := T.d_is_within
  refine fm_of (N := N_is_within) F T.g_is_within sc_is_within (FunD.bindsN F fun _ _ _ _ _ _ us hl => match us, hl with | [_, _, _], _ => rfl) fun cdv A outer s H E hr => ?_
  exact (css_one (cs_ret (ce_and (ce_call (ok_is_whole T) (hr.mono (by decide)) (by rfl) (ca_cons (ce_var 0) ca_nil)) (ce_one (ce_chain op_le sim_le op_le sim_le (ce_var 1) (ce_var 0) (ce_var 2))))))
theorem ok_is_name {P : Program} {w : World} {K : PySem.W.Frag} {mg : Str → Option Value} {base : Heap} (T : Txt K mg w) : FM P w K mg base 1 "is_name" 1 m_is_name := by
  obtain ⟨fd, F⟩ := T.d_is_name
  refine fm_of (N := N_is_name) F T.g_is_name sc_is_name (FunD.bindsN F fun _ _ _ _ _ _ us hl => match us, hl with | [_], _ => rfl) fun cdv A outer s H E hr => ?_
  exact (css_cons (cs_if (cw_t (cw_or (ct_not (ct_val (ce_callB call_isi sim_isi (by rfl) T.n_isinstance bb_isinstance (ca_cons (ce_var 0) (ca_cons (ce_ty (by rfl) T.n_str bb_str) ca_nil))))) (cw_or (ct_not (ct_chain op_le sim_le op_le sim_le ce_int (ce_callB call_len sim_len (by rfl) T.n_len bb_len (ca_cons (ce_var 0) ca_nil)) (ce_gint (by rfl) T.i_MOST_SIGNS))) (cw_or1 (ct_cmp op_notInA sim_notIn (ce_ix ix_seq sim_ix (ce_var 0) ce_int (fun _ _ => rfl)) (ce_gstr (by rfl) T.s_LETTERS) (by rfl)))))) (css_one (cs_ret ce_bl)) css_nil)
    (css_one (cs_ret (ce_callB (cr_all rfl) sim_all (by rfl) T.n_all bb_all (ca_cons (ce_lc (own := [("sign", 1)]) rfl sc_is_name.nd (blkOk_by (own := [("sign", 1)]) (N := N_is_name) (sc := defScope s_is_name) (by decide +kernel)) (ci_any (ce_var 0)) (fun _ _ _ _ _ => (cgw_name (i := 1) sc_is_name.nd)) (fun _ _ _ _ _ => cts_nil) (fun _ _ _ _ _ => (ce_cmp op_inA sim_in (ce_var 1) (ce_gstr (by rfl) T.s_SIGNS) (by rfl)))) ca_nil)))))
theorem ok_are_names {P : Program} {w : World} {K : PySem.W.Frag} {mg : Str → Option Value} {base : Heap} (T : Txt K mg w) : FM P w K mg base 2 "are_names" 1 m_are_names := by
  obtain ⟨fd, F⟩ := T.d_are_names
  refine fm_of (N := N_are_names) F T.g_are_names sc_are_names (FunD.bindsN F fun _ _ _ _ _ _ us hl => match us, hl with | [_], _ => rfl) fun cdv A outer s H E hr => ?_
  exact (css_cons (cs_if (cw_t (cw_or (ct_not (ct_val (ce_callB call_isi sim_isi (by rfl) T.n_isinstance bb_isinstance (ca_cons (ce_var 0) (ca_cons (ce_ty (by rfl) T.n_tuple bb_tuple) ca_nil))))) (cw_or1 (ct_not (ct_chain op_le sim_le op_le sim_le ce_int (ce_callB call_len sim_len (by rfl) T.n_len bb_len (ca_cons (ce_var 0) ca_nil)) (ce_gint (by rfl) T.i_MOST_FROMS)))))) (css_one (cs_ret ce_bl)) css_nil)
    (css_one (cs_ret (ce_callB (cr_all rfl) sim_all (by rfl) T.n_all bb_all (ca_cons (ce_lc (own := [("part", 1)]) rfl sc_are_names.nd (blkOk_by (own := [("part", 1)]) (N := N_are_names) (sc := defScope s_are_names) (by decide +kernel)) (ci_any (ce_var 0)) (fun _ _ _ _ _ => (cgw_name (i := 1) sc_are_names.nd)) (fun _ _ _ _ _ => cts_nil) (fun _ _ _ _ _ => (ce_call (ok_is_name T) (hr.mono (by decide)) (by rfl) (ca_cons (ce_var 1) ca_nil)))) ca_nil)))))
theorem ok_is_number {P : Program} {w : World} {K : PySem.W.Frag} {mg : Str → Option Value} {base : Heap} (T : Txt K mg w) : FM P w K mg base 3 "is_number" 1 m_is_number := by
  obtain ⟨fd, F⟩ := T.d_is_number
  refine fm_of (N := N_is_number) F T.g_is_number sc_is_number (FunD.bindsN F fun _ _ _ _ _ _ us hl => match us, hl with | [_], _ => rfl) fun cdv A outer s H E hr => ?_
  exact (css_one (cs_ret (ce_call (ok_is_within T) (hr.mono (by decide)) (by rfl) (ca_cons (ce_var 0) (ca_cons (ce_un un_neg sim_neg (ce_gint (by rfl) T.i_MOST_NUMBER)) (ca_cons (ce_gint (by rfl) T.i_MOST_NUMBER) ca_nil))))))
theorem ok_is_value {P : Program} {w : World} {K : PySem.W.Frag} {mg : Str → Option Value} {base : Heap} (T : Txt K mg w) : FM P w K mg base 3 "is_value" 1 m_is_value := by
  obtain ⟨fd, F⟩ := T.d_is_value
  refine fm_of (N := N_is_value) F T.g_is_value sc_is_value (FunD.bindsN F fun _ _ _ _ _ _ us hl => match us, hl with | [_], _ => rfl) fun cdv A outer s H E hr => ?_
  exact (css_one (cs_ret (ce_call (ok_is_within T) (hr.mono (by decide)) (by rfl) (ca_cons (ce_var 0) (ca_cons ce_int (ca_cons (ce_gint (by rfl) T.i_MOST_VALUE) ca_nil))))))
theorem ok_is_by {P : Program} {w : World} {K : PySem.W.Frag} {mg : Str → Option Value} {base : Heap} (T : Txt K mg w) : FM P w K mg base 3 "is_by" 1 m_is_by := by
  obtain ⟨fd, F⟩ := T.d_is_by
  refine fm_of (N := N_is_by) F T.g_is_by sc_is_by (FunD.bindsN F fun _ _ _ _ _ _ us hl => match us, hl with | [_], _ => rfl) fun cdv A outer s H E hr => ?_
  exact (css_one (cs_ret (ce_call (ok_is_within T) (hr.mono (by decide)) (by rfl) (ca_cons (ce_var 0) (ca_cons ce_int (ca_cons (ce_gint (by rfl) T.i_MOST_BY) ca_nil))))))
theorem ok_is_lane {P : Program} {w : World} {K : PySem.W.Frag} {mg : Str → Option Value} {base : Heap} (T : Txt K mg w) : FM P w K mg base 3 "is_lane" 1 m_is_lane := by
  obtain ⟨fd, F⟩ := T.d_is_lane
  refine fm_of (N := N_is_lane) F T.g_is_lane sc_is_lane (FunD.bindsN F fun _ _ _ _ _ _ us hl => match us, hl with | [_], _ => rfl) fun cdv A outer s H E hr => ?_
  exact (css_one (cs_ret (ce_call (ok_is_within T) (hr.mono (by decide)) (by rfl) (ca_cons (ce_var 0) (ca_cons ce_int (ca_cons (ce_op op_sub sim_sub (ce_gint (by rfl) T.i_MOST_LANES) ce_int) ca_nil))))))
theorem held_is_part_ {P : Program} {w : World} {K : PySem.W.Frag} {mg : Str → Option Value} {base : Heap} (T : Txt K mg w) : ∀ y m, fs_is_part.lookup y = some m → FM P w K mg base 3 y 1 m := by
  intro y m h
  have h2 := lookup_mem h
  simp only [fs_is_part, List.mem_cons, List.not_mem_nil, or_false, Prod.mk.injEq] at h2
  rcases h2 with ⟨rfl, rfl⟩ | ⟨rfl, rfl⟩ | ⟨rfl, rfl⟩ | ⟨rfl, rfl⟩ | ⟨rfl, rfl⟩ | ⟨rfl, rfl⟩
  · exact (ok_is_name T).mono (by decide)
  · exact (ok_are_names T).mono (by decide)
  · exact (ok_is_number T).mono (by decide)
  · exact (ok_is_value T).mono (by decide)
  · exact (ok_is_by T).mono (by decide)
  · exact (ok_is_lane T).mono (by decide)
theorem ok_is_part {P : Program} {w : World} {K : PySem.W.Frag} {mg : Str → Option Value} {base : Heap} (T : Txt K mg w) : FM P w K mg base 4 "is_part" 2 m_is_part := by
  obtain ⟨fd, F⟩ := T.d_is_part
  refine fm_of (N := N_is_part) F T.g_is_part sc_is_part (FunD.bindsN F fun _ _ _ _ _ _ us hl => match us, hl with | [_, _], _ => rfl) fun cdv A outer s H E hr => ?_
  exact (css_cons (cs_set (i := 2) sc_is_part.nd (ce_itemK T.kd_PARTS (ce_glo (by rfl) T.g_PARTS) (ce_var 0) (fun _ _ => rfl)))
    (css_one (cs_ret (ce_callA (i := 2) (held_is_part_ T) (hr.mono (by decide)) (ca_cons (ce_var 1) ca_nil)))))
theorem ok_is_command {P : Program} {w : World} {K : PySem.W.Frag} {mg : Str → Option Value} {base : Heap} (T : Txt K mg w) : FM P w K mg base 5 "is_command" 1 m_is_command := by
  obtain ⟨fd, F⟩ := T.d_is_command
  refine fm_of (N := N_is_command) F T.g_is_command sc_is_command (FunD.bindsN F fun _ _ _ _ _ _ us hl => match us, hl with | [_], _ => rfl) fun cdv A outer s H E hr => ?_
  exact (css_cons (cs_if (cw_t (cw_or (ct_not (ct_val (ce_callB call_isi sim_isi (by rfl) T.n_isinstance bb_isinstance (ca_cons (ce_var 0) (ca_cons (ce_ty (by rfl) T.n_tuple bb_tuple) ca_nil))))) (cw_or (ct_cmp (op_eqA hr.units0) sim_eq (ce_var 0) (ce_tup ca_nil) (nomark _)) (cw_or1 (ct_not (ct_val (ce_callB call_isi sim_isi (by rfl) T.n_isinstance bb_isinstance (ca_cons (ce_ix ix_seq sim_ix (ce_var 0) ce_int (fun _ _ => rfl)) (ca_cons (ce_ty (by rfl) T.n_str bb_str) ca_nil))))))))) (css_one (cs_ret ce_bl)) css_nil)
    (css_cons (cs_asg (ce_var 0) (cg_star rfl (cgs_cons (cg_name (i := 2) sc_is_command.nd) (cgs_star (cg_name (i := 3) sc_is_command.nd) cgs_nil))))
    (css_cons (cs_set (i := 1) sc_is_command.nd (ce_getK T.kd_FORMS (by rfl) T.g_FORMS (ce_var 2) ⟨rfl, rfl, rfl, rfl⟩))
    (css_cons (cs_if (cw_t (cw_or (ct_cmp op_isN sim_isN (ce_var 1) ce_non (nomark _)) (cw_or1 (ct_cmp op_ne sim_ne (ce_callB call_len sim_len (by rfl) T.n_len bb_len (ca_cons (ce_var 1) ca_nil)) (ce_callB call_len sim_len (by rfl) T.n_len bb_len (ca_cons (ce_var 3) ca_nil)) (nomark _))))) (css_one (cs_ret ce_bl)) css_nil)
    (css_one (cs_ret (ce_callB (cr_all rfl) sim_all (by rfl) T.n_all bb_all (ca_cons (ce_lc (own := [("kind", 4), ("part", 5)]) rfl sc_is_command.nd (blkOk_by (own := [("kind", 4), ("part", 5)]) (N := N_is_command) (sc := defScope s_is_command) (by decide +kernel)) (ci_zipS (by rfl) T.n_zip (ca_cons (ce_var 1) (ca_cons (ce_var 3) ca_nil))) (fun _ _ _ _ _ => (cgw_tup rfl (cgsw_cons (cgw_name (i := 4) sc_is_command.nd) (cgsw_cons (cgw_name (i := 5) sc_is_command.nd) cgsw_nil)))) (fun _ _ _ _ _ => cts_nil) (fun _ _ _ _ _ => (ce_call (ok_is_part T) (hr.mono (by decide)) (by rfl) (ca_cons (ce_var 4) (ca_cons (ce_var 5) ca_nil))))) ca_nil))))))))
theorem ok__law_cell {P : Program} {w : World} {K : PySem.W.Frag} {mg : Str → Option Value} {base : Heap} (T : Txt K mg w) : FM P w K mg base 1 "_law_cell" 2 m__law_cell := by
  obtain ⟨fd, F⟩ := T.d__law_cell
  refine fm_of (N := N__law_cell) F T.g__law_cell sc__law_cell (FunD.bindsN F fun _ _ _ _ _ _ us hl => match us, hl with | [_, _], _ => rfl) fun cdv A outer s H E hr => ?_
  exact (css_cons (cs_if (ct_cmp op_lt sim_lt (ce_var 1) (ce_callB call_len sim_len (by rfl) T.n_len bb_len (ca_cons (ce_var 0) ca_nil)) (nomark _)) (css_one (cs_ret (ce_ix ix_seq sim_ix (ce_var 0) (ce_var 1) (fun _ _ => rfl)))) css_nil)
    (css_cons (cs_set (i := 2) sc__law_cell.nd (ce_op op_mod sim_mod (ce_op op_mulA sim_mul ce_int (ce_op op_addA sim_add (ce_op op_addA sim_add (ce_op op_mulA sim_mul (ce_var 1) (ce_var 1)) (ce_op op_mulA sim_mul ce_int (ce_var 1))) ce_int)) ce_int))
    (css_cons (cs_for PassesOwn.never rfl (ci_any (ce_sl (ce_var 0) co_none (co_some ce_int))) (cg_name (i := 3) sc__law_cell.nd) (css_one (cs_set (i := 2) sc__law_cell.nd (ce_op op_mod sim_mod (ce_op op_addA sim_add (ce_op op_mulA sim_mul (ce_var 2) ce_int) (ce_var 3)) ce_int))))
    (css_one (cs_ret (ce_var 2))))))
theorem ok__law_heap {P : Program} {w : World} {K : PySem.W.Frag} {mg : Str → Option Value} {base : Heap} (T : Txt K mg w) : FM P w K mg base 1 "_law_heap" 1 m__law_heap := by
  obtain ⟨fd, F⟩ := T.d__law_heap
  refine fm_ofK (N := N__law_heap) F T.g__law_heap sc__law_heap (FunD.bindsN F fun _ _ _ _ _ _ us hl => match us, hl with | [_], _ => rfl) fun cdv A outer s H E hr => ?_
  exact (css_cons (cs_if (cw_t (cw_or (ct_cmp op_lt sim_lt (ce_var 0) ce_int (nomark _)) (cw_or1 (ct_cmp op_ge sim_ge (ce_var 0) (ce_op op_pow sim_pow ce_int ce_int) (nomark _))))) (css_one (cs_ret (ce_lstM (ca_cons (ce_callB call_abs sim_abs (by rfl) T.n_abs bb_abs (ca_cons (ce_var 0) ca_nil)) (ca_cons (ce_op op_addA sim_add (ce_op op_mulA sim_mul (ce_op op_mod sim_mod (ce_var 0) ce_int) ce_int) ce_int) (ca_cons ce_int ca_nil)))))) css_nil)
    (css_one (cs_ret (ce_lstM (ca_cons ce_int (ca_cons (ce_op op_addA sim_add (ce_op op_mulA sim_mul (ce_op op_mod sim_mod (ce_var 0) ce_int) ce_int) ce_int) (ca_cons ce_int ca_nil)))))))
theorem ok__law_draw {P : Program} {w : World} {K : PySem.W.Frag} {mg : Str → Option Value} {base : Heap} (T : Txt K mg w) : FM P w K mg base 1 "_law_draw" 2 m__law_draw := by
  obtain ⟨fd, F⟩ := T.d__law_draw
  refine fm_of (N := N__law_draw) F T.g__law_draw sc__law_draw (FunD.bindsN F fun _ _ _ _ _ _ us hl => match us, hl with | [_, _], _ => rfl) fun cdv A outer s H E hr => ?_
  exact (css_cons (cs_asg (ce_op op_addA sim_add (ce_ix ix_seq sim_ix (ce_var 0) ce_int (fun _ _ => rfl)) ce_int) (cg_sub set_list sim_setL (ce_var 0) ce_int))
    (css_cons (cs_if (ct_cmp op_gt sim_gt (ce_ix ix_seq sim_ix (ce_var 0) ce_int (fun _ _ => rfl)) ce_int (nomark _)) (css_cons (cs_asg (ce_callB call_divmod sim_divmod (by rfl) T.n_divmod bb_divmod (ca_cons (ce_ix ix_seq sim_ix (ce_var 0) ce_int (fun _ _ => rfl)) (ca_cons (ce_var 1) ca_nil))) (cg_tup rfl (cgs_cons (cg_sub set_list sim_setL (ce_var 0) ce_int) (cgs_cons (cg_name (i := 3) sc__law_draw.nd) cgs_nil))))
    (css_one (cs_ret (ce_var 3)))) css_nil)
    (css_cons (cs_set (i := 2) sc__law_draw.nd (ce_op op_mod sim_mod (ce_ix ix_seq sim_ix (ce_var 0) ce_int (fun _ _ => rfl)) ce_int))
    (css_cons (cs_asg (ce_op op_addA sim_add (ce_op op_mulA sim_mul (ce_var 2) (ce_op op_addA sim_add (ce_op op_mod sim_mod (ce_var 2) ce_int) ce_int)) (ce_op op_mulA sim_mul ce_int (ce_ix ix_seq sim_ix (ce_var 0) ce_int (fun _ _ => rfl)))) (cg_sub set_list sim_setL (ce_var 0) ce_int))
    (css_one (cs_ret (ce_op op_mod sim_mod (ce_op op_fdiv sim_div (ce_op op_mod sim_mod (ce_ix ix_seq sim_ix (ce_var 0) ce_int (fun _ _ => rfl)) ce_int) ce_int) (ce_var 1))))))))
theorem ok__law_term {P : Program} {w : World} {K : PySem.W.Frag} {mg : Str → Option Value} {base : Heap} (T : Txt K mg w) : FM P w K mg base 2 "_law_term" 2 m__law_term := by
  obtain ⟨fd, F⟩ := T.d__law_term
  refine fm_of (N := N__law_term) F T.g__law_term sc__law_term (FunD.bindsN F fun _ _ _ _ _ _ us hl => match us, hl with | [_, _], _ => rfl) fun cdv A outer s H E hr => ?_
  exact (css_cons (cs_set (i := 2) sc__law_term.nd (ce_lst (ca_cons ce_str (ca_cons ce_str (ca_cons ce_str (ca_cons ce_str (ca_cons ce_str (ca_cons ce_str (ca_cons ce_str (ca_cons ce_str (ca_cons ce_str (ca_cons ce_str (ca_cons ce_str (ca_cons ce_str (ca_cons ce_str (ca_cons ce_str ca_nil))))))))))))))))
    (css_cons (cs_set (i := 3) sc__law_term.nd ce_str)
    (css_cons (cs_set (i := 4) sc__law_term.nd (ce_ix ix_seq sim_ix (ce_op op_addA sim_add (ce_var 2) (ce_lst (ca_cons ce_str (ca_cons ce_str ca_nil)))) (ce_call (ok__law_draw T) (hr.mono (by decide)) (by rfl) (ca_cons (ce_var 0) (ca_cons ce_int ca_nil))) (fun _ _ => rfl)))
    (css_cons (cs_if (ct_cmp op_gt sim_gt (ce_call (ok__law_draw T) (hr.mono (by decide)) (by rfl) (ca_cons (ce_var 0) (ca_cons ce_int ca_nil))) ce_int (nomark _)) (css_cons (cs_set (i := 4) sc__law_term.nd (ce_ix ix_seq sim_ix (ce_var 3) (ce_call (ok__law_draw T) (hr.mono (by decide)) (by rfl) (ca_cons (ce_var 0) (ca_cons ce_int ca_nil))) (fun _ _ => rfl)))
    (css_one (cs_set (i := 4) sc__law_term.nd (ce_op op_addA sim_add (ce_var 4) (ce_join ce_str (ce_lc (own := [("_law_k", 8)]) rfl sc__law_term.nd (blkOk_by (own := [("_law_k", 8)]) (N := N__law_term) (sc := defScope s__law_term) (by decide +kernel)) (ci_range1 (by rfl) T.n_range (ca_cons (ce_call (ok__law_draw T) (hr.mono (by decide)) (by rfl) (ca_cons (ce_var 0) (ca_cons ce_int ca_nil))) ca_nil)) (fun _ _ _ _ _ => (cgw_name (i := 8) sc__law_term.nd)) (fun _ _ _ _ _ => cts_nil) (fun _ _ _ _ _ => (ce_ix ix_seq sim_ix (ce_var 3) (ce_call (ok__law_draw T) (hr.mono (by decide)) (by rfl) (ca_cons (ce_var 0) (ca_cons ce_int ca_nil))) (fun _ _ => rfl))))))))) css_nil)
    (css_cons (cs_set (i := 5) sc__law_term.nd (ce_op op_addA sim_add (ce_lst (ca_cons (ce_var 4) ca_nil)) (ce_lc (own := [("_law_sign", 6)]) rfl sc__law_term.nd (blkOk_by (own := [("_law_sign", 6)]) (N := N__law_term) (sc := defScope s__law_term) (by decide +kernel)) (ci_any (ce_var 3)) (fun _ _ _ _ _ => (cgw_name (i := 6) sc__law_term.nd)) (fun _ _ _ _ _ => cts_nil) (fun _ _ _ _ _ => (ce_op op_addA sim_add (ce_sl (ce_var 4) co_none (co_some ce_int)) (ce_var 6))))))
    (css_one (cs_ret (ce_ix ix_seq sim_ix (ce_lc (own := [("_law_term_here", 7)]) rfl sc__law_term.nd (blkOk_by (own := [("_law_term_here", 7)]) (N := N__law_term) (sc := defScope s__law_term) (by decide +kernel)) (ci_any (ce_var 5)) (fun _ _ _ _ _ => (cgw_name (i := 7) sc__law_term.nd)) (fun _ _ _ _ _ => (cts_one (ct_cmp op_notInA sim_notIn (ce_var 7) (ce_var 1) (by rfl)))) (fun _ _ _ _ _ => (ce_var 7))) ce_int (fun _ _ => rfl)))))))))
theorem ok__law_terms {P : Program} {w : World} {K : PySem.W.Frag} {mg : Str → Option Value} {base : Heap} (T : Txt K mg w) : FM P w K mg base 3 "_law_terms" 2 m__law_terms := by
  obtain ⟨fd, F⟩ := T.d__law_terms
  refine fm_of (N := N__law_terms) F T.g__law_terms sc__law_terms (FunD.bindsN F fun _ _ _ _ _ _ us hl => match us, hl with | [_, _], _ => rfl) fun cdv A outer s H E hr => ?_
  exact (css_cons (cs_set (i := 2) sc__law_terms.nd (ce_lstM ca_nil))
    (css_cons (cs_for PassesOwn.never rfl (ci_range1 (by rfl) T.n_range (ca_cons (ce_var 1) ca_nil)) (cg_name (i := 3) sc__law_terms.nd) (css_one (cs_expr (ce_append (ce_var 2) (ca_cons (ce_call (ok__law_term T) (hr.mono (by decide)) (by rfl) (ca_cons (ce_var 0) (ca_cons (ce_var 2) ca_nil))) ca_nil)))))
    (css_one (cs_ret (ce_var 2)))))
theorem ok__law_number {P : Program} {w : World} {K : PySem.W.Frag} {mg : Str → Option Value} {base : Heap} (T : Txt K mg w) : FM P w K mg base 2 "_law_number" 1 m__law_number := by
  obtain ⟨fd, F⟩ := T.d__law_number
  refine fm_of (N := N__law_number) F T.g__law_number sc__law_number (FunD.bindsN F fun _ _ _ _ _ _ us hl => match us, hl with | [_], _ => rfl) fun cdv A outer s H E hr => ?_
  exact (css_cons (cs_set (i := 1) sc__law_number.nd (ce_call (ok__law_draw T) (hr.mono (by decide)) (by rfl) (ca_cons (ce_var 0) (ca_cons (ce_ix ix_seq sim_ix (ce_lst (ca_cons ce_int (ca_cons ce_int (ca_cons ce_int ca_nil)))) (ce_call (ok__law_draw T) (hr.mono (by decide)) (by rfl) (ca_cons (ce_var 0) (ca_cons ce_int ca_nil))) (fun _ _ => rfl)) ca_nil))))
    (css_one (cs_ret (ce_ix ix_seq sim_ix (ce_lst (ca_cons (ce_var 1) (ca_cons (ce_var 1) (ca_cons (ce_op op_sub sim_sub ce_int (ce_var 1)) ca_nil)))) (ce_call (ok__law_draw T) (hr.mono (by decide)) (by rfl) (ca_cons (ce_var 0) (ca_cons ce_int ca_nil))) (fun _ _ => rfl)))))
theorem ok__law_named {P : Program} {w : World} {K : PySem.W.Frag} {mg : Str → Option Value} {base : Heap} (T : Txt K mg w) : FM P w K mg base 1 "_law_named" 1 m__law_named := by
  obtain ⟨fd, F⟩ := T.d__law_named
  refine fm_of (N := N__law_named) F T.g__law_named sc__law_named (FunD.bindsN F fun _ _ _ _ _ _ us hl => match us, hl with | [_], _ => rfl) fun cdv A outer s H E hr => ?_
  exact (css_cons (cs_if (cw_t (cw_or (ct_not (ct_val (ce_callB call_isi sim_isi (by rfl) T.n_isinstance bb_isinstance (ca_cons (ce_var 0) (ca_cons (ce_ty (by rfl) T.n_str bb_str) ca_nil))))) (cw_or (ct_cmp op_lt sim_lt (ce_callB call_len sim_len (by rfl) T.n_len bb_len (ca_cons (ce_var 0) ca_nil)) ce_int (nomark _)) (cw_or1 (ct_cmp op_gt sim_gt (ce_callB call_len sim_len (by rfl) T.n_len bb_len (ca_cons (ce_var 0) ca_nil)) ce_int (nomark _)))))) (css_one (cs_ret ce_bl)) css_nil)
    (css_one (cs_ret (ce_and (ce_islower (ce_ix ix_seq sim_ix (ce_var 0) ce_int (fun _ _ => rfl))) (ce_one (ce_callB (cr_all rfl) sim_all (by rfl) T.n_all bb_all (ca_cons (ce_lc (own := [("_law_sign", 1)]) rfl sc__law_named.nd (blkOk_by (own := [("_law_sign", 1)]) (N := N__law_named) (sc := defScope s__law_named) (by decide +kernel)) (ci_any (ce_var 0)) (fun _ _ _ _ _ => (cgw_name (i := 1) sc__law_named.nd)) (fun _ _ _ _ _ => cts_nil) (fun _ _ _ _ _ => (ce_or (ce_islower (ce_var 1)) (ce_one (ce_isdigit (ce_var 1)))))) ca_nil)))))))
theorem ok__law_in {P : Program} {w : World} {K : PySem.W.Frag} {mg : Str → Option Value} {base : Heap} (T : Txt K mg w) : FM P w K mg base 1 "_law_in" 3 m__law_in := by
  obtain ⟨fd, F⟩ := T.d__law_in
  refine fm_of (N := N__law_in) F T.g__law_in sc__law_in (FunD.bindsN F fun _ _ _ _ _ _ us hl => match us, hl with | [_, _, _], _ => rfl) fun cdv A outer s H E hr => ?_
  exact (css_one (cs_ret (ce_and (ce_callB call_isi sim_isi (by rfl) T.n_isinstance bb_isinstance (ca_cons (ce_var 0) (ca_cons (ce_ty (by rfl) T.n_int bb_int) ca_nil))) (ce_and (ce_not (ce_callB call_isi sim_isi (by rfl) T.n_isinstance bb_isinstance (ca_cons (ce_var 0) (ca_cons (ce_ty (by rfl) T.n_bool bb_bool) ca_nil)))) (ce_one (ce_chain op_le sim_le op_le sim_le (ce_var 1) (ce_var 0) (ce_var 2)))))))
theorem ok__law_due {P : Program} {w : World} {K : PySem.W.Frag} {mg : Str → Option Value} {base : Heap} (T : Txt K mg w) : FM P w K mg base 2 "_law_due" 1 m__law_due := by
  obtain ⟨fd, F⟩ := T.d__law_due
  refine fm_of (N := N__law_due) F T.g__law_due sc__law_due (FunD.bindsN F fun _ _ _ _ _ _ us hl => match us, hl with | [_], _ => rfl) fun cdv A outer s H E hr => ?_
  exact (css_cons (cs_if (cw_t (cw_or (ct_not (ct_val (ce_callB call_isi sim_isi (by rfl) T.n_isinstance bb_isinstance (ca_cons (ce_var 0) (ca_cons (ce_ty (by rfl) T.n_tuple bb_tuple) ca_nil))))) (cw_or (ct_cmp op_lt sim_lt (ce_callB call_len sim_len (by rfl) T.n_len bb_len (ca_cons (ce_var 0) ca_nil)) ce_int (nomark _)) (cw_or (ct_not (ct_val (ce_callB call_isi sim_isi (by rfl) T.n_isinstance bb_isinstance (ca_cons (ce_ix ix_seq sim_ix (ce_var 0) ce_int (fun _ _ => rfl)) (ca_cons (ce_ty (by rfl) T.n_str bb_str) ca_nil))))) (cw_or1 (ct_not (ct_val (ce_call (ok__law_named T) (hr.mono (by decide)) (by rfl) (ca_cons (ce_ix ix_seq sim_ix (ce_var 0) ce_int (fun _ _ => rfl)) ca_nil))))))))) (css_one (cs_ret ce_bl)) css_nil)
    (css_cons (cs_set (i := 1) sc__law_due.nd (ce_sl (ce_var 0) (co_some ce_int) co_none))
    (css_cons (cs_if (ct_cmp op_inA sim_in (ce_ix ix_seq sim_ix (ce_var 0) ce_int (fun _ _ => rfl)) (ce_lst (ca_cons ce_str (ca_cons ce_str (ca_cons ce_str ca_nil)))) (by rfl)) (css_one (cs_ret (ce_cmp (op_eqA hr.units0) sim_eq (ce_var 1) (ce_tup ca_nil) (nomark _)))) css_nil)
    (css_cons (cs_if (ct_cmp (op_eqA hr.units0) sim_eq (ce_ix ix_seq sim_ix (ce_var 0) ce_int (fun _ _ => rfl)) ce_str (nomark _)) (css_cons (cs_if (cw_t (cw_or (ct_cmp op_ne sim_ne (ce_callB call_len sim_len (by rfl) T.n_len bb_len (ca_cons (ce_var 1) ca_nil)) ce_int (nomark _)) (cw_or (ct_not (ct_val (ce_callB call_isi sim_isi (by rfl) T.n_isinstance bb_isinstance (ca_cons (ce_ix ix_seq sim_ix (ce_var 1) ce_int (fun _ _ => rfl)) (ca_cons (ce_ty (by rfl) T.n_tuple bb_tuple) ca_nil))))) (cw_or1 (ct_cmp op_notInA sim_notIn (ce_callB call_len sim_len (by rfl) T.n_len bb_len (ca_cons (ce_ix ix_seq sim_ix (ce_var 1) ce_int (fun _ _ => rfl)) ca_nil)) (ce_lst (ca_cons ce_int (ca_cons ce_int (ca_cons ce_int ca_nil)))) (by rfl)))))) (css_one (cs_ret ce_bl)) css_nil)
    (css_one (cs_ret (ce_and (ce_callB (cr_all rfl) sim_all (by rfl) T.n_all bb_all (ca_cons (ce_lc (own := [("_law_term_here", 2)]) rfl sc__law_due.nd (blkOk_by (own := [("_law_term_here", 2)]) (N := N__law_due) (sc := defScope s__law_due) (by decide +kernel)) (ci_any (ce_ix ix_seq sim_ix (ce_var 1) ce_int (fun _ _ => rfl))) (fun _ _ _ _ _ => (cgw_name (i := 2) sc__law_due.nd)) (fun _ _ _ _ _ => cts_nil) (fun _ _ _ _ _ => (ce_call (ok__law_named T) (hr.mono (by decide)) (by rfl) (ca_cons (ce_var 2) ca_nil)))) ca_nil)) (ce_one (ce_call (ok__law_named T) (hr.mono (by decide)) (by rfl) (ca_cons (ce_ix ix_seq sim_ix (ce_var 1) ce_int (fun _ _ => rfl)) ca_nil))))))) css_nil)
    (css_cons (cs_if (ct_cmp op_ne sim_ne (ce_callB call_len sim_len (by rfl) T.n_len bb_len (ca_cons (ce_var 1) ca_nil)) ce_int (nomark _)) (css_one (cs_ret ce_bl)) css_nil)
    (css_cons (cs_if (ct_cmp (op_eqA hr.units0) sim_eq (ce_ix ix_seq sim_ix (ce_var 0) ce_int (fun _ _ => rfl)) ce_str (nomark _)) (css_one (cs_ret (ce_call (ok__law_named T) (hr.mono (by decide)) (by rfl) (ca_cons (ce_ix ix_seq sim_ix (ce_var 1) ce_int (fun _ _ => rfl)) ca_nil)))) css_nil)
    (css_cons (cs_if (ct_cmp (op_eqA hr.units0) sim_eq (ce_ix ix_seq sim_ix (ce_var 0) ce_int (fun _ _ => rfl)) ce_str (nomark _)) (css_one (cs_ret (ce_call (ok__law_in T) (hr.mono (by decide)) (by rfl) (ca_cons (ce_ix ix_seq sim_ix (ce_var 1) ce_int (fun _ _ => rfl)) (ca_cons (ce_un un_neg sim_neg ce_int) (ca_cons ce_int ca_nil)))))) css_nil)
    (css_cons (cs_if (ct_cmp (op_eqA hr.units0) sim_eq (ce_ix ix_seq sim_ix (ce_var 0) ce_int (fun _ _ => rfl)) ce_str (nomark _)) (css_one (cs_ret (ce_call (ok__law_in T) (hr.mono (by decide)) (by rfl) (ca_cons (ce_ix ix_seq sim_ix (ce_var 1) ce_int (fun _ _ => rfl)) (ca_cons ce_int (ca_cons ce_int ca_nil)))))) css_nil)
    (css_one (cs_ret (ce_or (ce_and (ce_cmp (op_eqA hr.units0) sim_eq (ce_ix ix_seq sim_ix (ce_var 0) ce_int (fun _ _ => rfl)) ce_str (nomark _)) (ce_one (ce_call (ok__law_in T) (hr.mono (by decide)) (by rfl) (ca_cons (ce_ix ix_seq sim_ix (ce_var 1) ce_int (fun _ _ => rfl)) (ca_cons ce_int (ca_cons ce_int ca_nil)))))) (ce_one (ce_and (ce_cmp (op_eqA hr.units0) sim_eq (ce_ix ix_seq sim_ix (ce_var 0) ce_int (fun _ _ => rfl)) ce_str (nomark _)) (ce_one (ce_call (ok__law_in T) (hr.mono (by decide)) (by rfl) (ca_cons (ce_ix ix_seq sim_ix (ce_var 1) ce_int (fun _ _ => rfl)) (ca_cons ce_int (ca_cons ce_int ca_nil))))))))))))))))))
theorem ok__law_odd_term {P : Program} {w : World} {K : PySem.W.Frag} {mg : Str → Option Value} {base : Heap} (T : Txt K mg w) : FM P w K mg base 2 "_law_odd_term" 2 m__law_odd_term := by
  obtain ⟨fd, F⟩ := T.d__law_odd_term
  refine fm_of (N := N__law_odd_term) F T.g__law_odd_term sc__law_odd_term (FunD.bindsN F fun _ _ _ _ _ _ us hl => match us, hl with | [_, _], _ => rfl) fun cdv A outer s H E hr => ?_
  exact (css_cons (cs_set (i := 2) sc__law_odd_term.nd (ce_lst (ca_cons ce_str (ca_cons ce_str (ca_cons (ce_op op_addA sim_add (ce_var 1) ce_str) (ca_cons (ce_op op_addA sim_add ce_str (ce_sl (ce_var 1) co_none (co_some ce_int))) (ca_cons (ce_op op_addA sim_add ce_str (ce_sl (ce_var 1) co_none (co_some ce_int))) (ca_cons (ce_sl (ce_op op_mulA sim_mul (ce_var 1) ce_int) co_none (co_some ce_int)) (ca_cons (ce_op op_addA sim_add (ce_sl (ce_var 1) co_none (co_some ce_int)) ce_str) (ca_cons (ce_op op_addA sim_add ce_str (ce_sl (ce_var 1) co_none (co_some ce_int))) ca_nil))))))))))
    (css_cons (cs_set (i := 2) sc__law_odd_term.nd (ce_op op_addA sim_add (ce_var 2) (ce_lst (ca_cons ce_non (ca_cons ce_int (ca_cons (ce_lst (ca_cons (ce_var 1) ca_nil)) (ca_cons (ce_tup (ca_cons (ce_var 1) ca_nil)) (ca_cons (ce_op op_addA sim_add (ce_sl (ce_var 1) co_none (co_some ce_int)) ce_str) (ca_cons ce_bl (ca_cons ce_dict0 (ca_cons (ce_tup (ca_cons (ce_lst ca_nil) ca_nil)) (ca_cons ce_str (ca_cons (ce_op op_addA sim_add (ce_sl (ce_var 1) co_none (co_some ce_int)) ce_str) ca_nil)))))))))))))
    (css_cons (cs_set (i := 2) sc__law_odd_term.nd (ce_op op_addA sim_add (ce_var 2) (ce_lst (ca_cons (ce_sl (ce_op op_addA sim_add (ce_var 1) ce_str) co_none (co_some ce_int)) (ca_cons ce_int ca_nil)))))
    (css_one (cs_ret (ce_ix ix_seq sim_ix (ce_var 2) (ce_call (ok__law_draw T) (hr.mono (by decide)) (by rfl) (ca_cons (ce_var 0) (ca_cons ce_int ca_nil))) (fun _ _ => rfl)))))))
theorem ok__law_good {P : Program} {w : World} {K : PySem.W.Frag} {mg : Str → Option Value} {base : Heap} (T : Txt K mg w) : FM P w K mg base 4 "_law_good" 1 m__law_good := by
  obtain ⟨fd, F⟩ := T.d__law_good
  refine fm_of (N := N__law_good) F T.g__law_good sc__law_good (FunD.bindsN F fun _ _ _ _ _ _ us hl => match us, hl with | [_], _ => rfl) fun cdv A outer s H E hr => ?_
  exact (css_cons (cs_set (i := 1) sc__law_good.nd (ce_call (ok__law_terms T) (hr.mono (by decide)) (by rfl) (ca_cons (ce_var 0) (ca_cons ce_int ca_nil))))
    (css_cons (cs_set (i := 2) sc__law_good.nd (ce_lst (ca_cons ce_int (ca_cons ce_int (ca_cons (ce_un un_neg sim_neg ce_int) (ca_cons (ce_call (ok__law_number T) (hr.mono (by decide)) (by rfl) (ca_cons (ce_var 0) ca_nil)) ca_nil))))))
    (css_cons (cs_set (i := 3) sc__law_good.nd (ce_lstM (ca_cons (ce_tup (ca_cons ce_str (ca_cons (ce_ix ix_seq sim_ix (ce_var 1) ce_int (fun _ _ => rfl)) (ca_cons (ce_ix ix_seq sim_ix (ce_var 2) (ce_call (ok__law_draw T) (hr.mono (by decide)) (by rfl) (ca_cons (ce_var 0) (ca_cons ce_int ca_nil))) (fun _ _ => rfl)) ca_nil)))) (ca_cons (ce_tup (ca_cons ce_str (ca_cons (ce_ix ix_seq sim_ix (ce_var 1) ce_int (fun _ _ => rfl)) (ca_cons (ce_ix ix_seq sim_ix (ce_var 1) (ce_call (ok__law_draw T) (hr.mono (by decide)) (by rfl) (ca_cons (ce_var 0) (ca_cons ce_int ca_nil))) (fun _ _ => rfl)) ca_nil)))) ca_nil))))
    (css_cons (cs_set (i := 4) sc__law_good.nd (ce_callTy call_tuple_of sim_tuple (by rfl) T.n_tuple bb_tuple (ca_cons (ce_lc (own := [("_law_k", 5)]) rfl sc__law_good.nd (blkOk_by (own := [("_law_k", 5)]) (N := N__law_good) (sc := defScope s__law_good) (by decide +kernel)) (ci_range1 (by rfl) T.n_range (ca_cons (ce_op op_addA sim_add ce_int (ce_call (ok__law_draw T) (hr.mono (by decide)) (by rfl) (ca_cons (ce_var 0) (ca_cons ce_int ca_nil)))) ca_nil)) (fun _ _ _ _ _ => (cgw_name (i := 5) sc__law_good.nd)) (fun _ _ _ _ _ => cts_nil) (fun _ _ _ _ _ => (ce_ix ix_seq sim_ix (ce_var 1) (ce_call (ok__law_draw T) (hr.mono (by decide)) (by rfl) (ca_cons (ce_var 0) (ca_cons ce_int ca_nil))) (fun _ _ => rfl)))) ca_nil)))
    (css_cons (cs_expr (ce_append (ce_var 3) (ca_cons (ce_tup (ca_cons ce_str (ca_cons (ce_ix ix_seq sim_ix (ce_var 1) ce_int (fun _ _ => rfl)) (ca_cons (ce_var 4) (ca_cons (ce_ix ix_seq sim_ix (ce_var 1) ce_int (fun _ _ => rfl)) ca_nil))))) ca_nil)))
    (css_cons (cs_set (i := 3) sc__law_good.nd (ce_op op_addA sim_addM (ce_var 3) (ce_lst (ca_cons (ce_tup (ca_cons ce_str (ca_cons (ce_ix ix_seq sim_ix (ce_var 1) ce_int (fun _ _ => rfl)) ca_nil))) (ca_cons (ce_tup (ca_cons ce_str (ca_cons (ce_ix ix_seq sim_ix (ce_var 1) ce_int (fun _ _ => rfl)) ca_nil))) (ca_cons (ce_tup (ca_cons ce_str (ca_cons (ce_ix ix_seq sim_ix (ce_var 1) ce_int (fun _ _ => rfl)) ca_nil))) (ca_cons (ce_tup (ca_cons ce_str (ca_cons (ce_ix ix_seq sim_ix (ce_var 1) ce_int (fun _ _ => rfl)) (ca_cons (ce_call (ok__law_draw T) (hr.mono (by decide)) (by rfl) (ca_cons (ce_var 0) (ca_cons ce_int ca_nil))) ca_nil)))) ca_nil)))))))
    (css_cons (cs_expr (ce_append (ce_var 3) (ca_cons (ce_tup (ca_cons ce_str (ca_cons (ce_ix ix_seq sim_ix (ce_var 1) ce_int (fun _ _ => rfl)) (ca_cons (ce_ix ix_seq sim_ix (ce_lst (ca_cons ce_int (ca_cons ce_int (ca_cons (ce_op op_addA sim_add ce_int (ce_call (ok__law_draw T) (hr.mono (by decide)) (by rfl) (ca_cons (ce_var 0) (ca_cons ce_int ca_nil)))) ca_nil)))) (ce_call (ok__law_draw T) (hr.mono (by decide)) (by rfl) (ca_cons (ce_var 0) (ca_cons ce_int ca_nil))) (fun _ _ => rfl)) ca_nil)))) ca_nil)))
    (css_cons (cs_expr (ce_append (ce_var 3) (ca_cons (ce_tup (ca_cons ce_str (ca_cons (ce_ix ix_seq sim_ix (ce_var 1) ce_int (fun _ _ => rfl)) (ca_cons (ce_ix ix_seq sim_ix (ce_lst (ca_cons ce_int (ca_cons ce_int (ca_cons (ce_op op_addA sim_add ce_int (ce_call (ok__law_draw T) (hr.mono (by decide)) (by rfl) (ca_cons (ce_var 0) (ca_cons ce_int ca_nil)))) ca_nil)))) (ce_call (ok__law_draw T) (hr.mono (by decide)) (by rfl) (ca_cons (ce_var 0) (ca_cons ce_int ca_nil))) (fun _ _ => rfl)) ca_nil)))) ca_nil)))
    (css_one (cs_ret (ce_ix ix_seq sim_ix (ce_var 3) (ce_call (ok__law_draw T) (hr.mono (by decide)) (by rfl) (ca_cons (ce_var 0) (ca_cons ce_int ca_nil))) (fun _ _ => rfl))))))))))))
theorem ok__law_bent {P : Program} {w : World} {K : PySem.W.Frag} {mg : Str → Option Value} {base : Heap} (T : Txt K mg w) : FM P w K mg base 3 "_law_bent" 2 m__law_bent := by
  obtain ⟨fd, F⟩ := T.d__law_bent
  refine fm_of (N := N__law_bent) F T.g__law_bent sc__law_bent (FunD.bindsN F fun _ _ _ _ _ _ us hl => match us, hl with | [_, _], _ => rfl) fun cdv A outer s H E hr => ?_
  exact (css_cons (cs_par (i := 3) (j := 4) rfl sc__law_bent.nd (ca_cons (ce_call (ok__law_draw T) (hr.mono (by decide)) (by rfl) (ca_cons (ce_var 0) (ca_cons (ce_callB call_len sim_len (by rfl) T.n_len bb_len (ca_cons (ce_var 1) ca_nil)) ca_nil))) (ca_cons (ce_call (ok__law_draw T) (hr.mono (by decide)) (by rfl) (ca_cons (ce_var 0) (ca_cons ce_int ca_nil))) ca_nil)))
    (css_cons (cs_set (i := 2) sc__law_bent.nd (ce_lst (ca_cons (ce_un un_neg sim_neg ce_int) (ca_cons ce_int (ca_cons ce_int (ca_cons ce_int (ca_cons ce_int (ca_cons ce_int (ca_cons (ce_un un_neg sim_neg ce_int) (ca_cons ce_bl (ca_cons ce_bl (ca_cons ce_non (ca_cons ce_str (ca_cons ce_str (ca_cons ce_str (ca_cons ce_str (ca_cons (ce_tup ca_nil) (ca_cons (ce_tup (ca_cons ce_str ca_nil)) (ca_cons (ce_lst (ca_cons ce_str ca_nil)) ca_nil)))))))))))))))))))
    (css_cons (cs_set (i := 2) sc__law_bent.nd (ce_op op_addA sim_add (ce_var 2) (ce_lst (ca_cons ce_dict0 (ca_cons (ce_lst ca_nil) (ca_cons (ce_tup (ca_cons ce_str (ca_cons ce_str (ca_cons ce_str (ca_cons ce_str ca_nil))))) (ca_cons (ce_tup (ca_cons ce_str (ca_cons ce_int ca_nil))) (ca_cons (ce_tup (ca_cons ce_str (ca_cons ce_str ca_nil))) (ca_cons (ce_lst (ca_cons ce_str (ca_cons ce_str ca_nil))) (ca_cons ce_str (ca_cons ce_str (ca_cons (ce_tup (ca_cons ce_str ca_nil)) ca_nil))))))))))))
    (css_cons (cs_set (i := 2) sc__law_bent.nd (ce_op op_addA sim_add (ce_var 2) (ce_lst (ca_cons (ce_op op_pow sim_pow ce_int ce_int) (ca_cons (ce_tup (ca_cons ce_str (ca_cons ce_str ca_nil))) ca_nil)))))
    (css_cons (cs_if (ct_cmp (op_eqA hr.units0) sim_eq (ce_var 4) ce_int (nomark _)) (css_one (cs_ret (ce_op op_addA sim_add (ce_sl (ce_var 1) co_none (co_some (ce_var 3))) (ce_sl (ce_var 1) (co_some (ce_op op_addA sim_add (ce_var 3) ce_int)) co_none)))) css_nil)
    (css_cons (cs_if (ct_cmp (op_eqA hr.units0) sim_eq (ce_var 4) ce_int (nomark _)) (css_one (cs_ret (ce_op op_addA sim_add (ce_op op_addA sim_add (ce_sl (ce_var 1) co_none (co_some (ce_var 3))) (ce_sl (ce_var 1) (co_some (ce_var 3)) (co_some (ce_op op_addA sim_add (ce_var 3) ce_int)))) (ce_sl (ce_var 1) (co_some (ce_var 3)) co_none)))) css_nil)
    (css_cons (cs_if (ct_cmp (op_eqA hr.units0) sim_eq (ce_var 4) ce_int (nomark _)) (css_one (cs_ret (ce_ix ix_seq sim_ix (ce_lst (ca_cons (ce_callTy call_list_of sim_list (by rfl) T.n_list bb_list (ca_cons (ce_var 1) ca_nil)) (ca_cons (ce_tup (ca_cons (ce_var 1) ca_nil)) (ca_cons (ce_ix ix_seq sim_ix (ce_var 1) ce_int (fun _ _ => rfl)) (ca_cons ce_non (ca_cons ce_dict0 (ca_cons (ce_rev (ce_var 1)) (ca_cons (ce_tup ca_nil) (ca_cons ce_int ca_nil))))))))) (ce_call (ok__law_draw T) (hr.mono (by decide)) (by rfl) (ca_cons (ce_var 0) (ca_cons ce_int ca_nil))) (fun _ _ => rfl)))) css_nil)
    (css_cons (cs_if (cw_t (cw_and (ct_cmp op_lt sim_lt (ce_var 4) ce_int (nomark _)) (cw_and1 (ct_cmp op_gt sim_gt (ce_var 3) ce_int (nomark _))))) (css_one (cs_ret (ce_op op_addA sim_add (ce_op op_addA sim_add (ce_sl (ce_var 1) co_none (co_some (ce_var 3))) (ce_tup (ca_cons (ce_call (ok__law_odd_term T) (hr.mono (by decide)) (by rfl) (ca_cons (ce_var 0) (ca_cons (ce_ix ix_seq sim_ix (ce_var 1) ce_int (fun _ _ => rfl)) ca_nil))) ca_nil))) (ce_sl (ce_var 1) (co_some (ce_op op_addA sim_add (ce_var 3) ce_int)) co_none)))) css_nil)
    (css_one (cs_ret (ce_op op_addA sim_add (ce_op op_addA sim_add (ce_sl (ce_var 1) co_none (co_some (ce_var 3))) (ce_tup (ca_cons (ce_ix ix_seq sim_ix (ce_var 2) (ce_call (ok__law_draw T) (hr.mono (by decide)) (by rfl) (ca_cons (ce_var 0) (ca_cons ce_int ca_nil))) (fun _ _ => rfl)) ca_nil))) (ce_sl (ce_var 1) (co_some (ce_op op_addA sim_add (ce_var 3) ce_int)) co_none))))))))))))
theorem ok__law_told {P : Program} {w : World} {K : PySem.W.Frag} {mg : Str → Option Value} {base : Heap} (T : Txt K mg w) : FM P w K mg base 1 "_law_told" 2 m__law_told := by
  obtain ⟨fd, F⟩ := T.d__law_told
  refine fm_of (N := N__law_told) F T.g__law_told sc__law_told (FunD.bindsN F fun _ _ _ _ _ _ us hl => match us, hl with | [_, _], _ => rfl) fun cdv A outer s H E hr => ?_
  exact (css_one (cs_ret (ce_and (ce_callB call_isi sim_isi (by rfl) T.n_isinstance bb_isinstance (ca_cons (ce_var 0) (ca_cons (ce_ty (by rfl) T.n_bool bb_bool) ca_nil))) (ce_one (ce_cmp (op_eqA hr.units0) sim_eq (ce_var 0) (ce_var 1) (nomark _))))))
theorem ok__law_right {P : Program} {w : World} {K : PySem.W.Frag} {mg : Str → Option Value} {base : Heap} (T : Txt K mg w) : FM P w K mg base 6 "_law_right" 1 m__law_right := by
  obtain ⟨fd, F⟩ := T.d__law_right
  refine fm_of (N := N__law_right) F T.g__law_right sc__law_right (FunD.bindsN F fun _ _ _ _ _ _ us hl => match us, hl with | [_], _ => rfl) fun cdv A outer s H E hr => ?_
  exact (css_cons (cs_for PassesOwn.never rfl (ci_range1 (by rfl) T.n_range (ca_cons ce_int ca_nil)) (cg_name (i := 1) sc__law_right.nd) (css_cons (cs_set (i := 2) sc__law_right.nd (ce_call (ok__law_good T) (hr.mono (by decide)) (by rfl) (ca_cons (ce_var 0) ca_nil)))
    (css_cons (cs_if (cw_t (cw_or (ct_not (ct_val (ce_call (ok__law_due T) (hr.mono (by decide)) (by rfl) (ca_cons (ce_var 2) ca_nil)))) (cw_or1 (ct_not (ct_val (ce_call (ok__law_told T) (hr.mono (by decide)) (by rfl) (ca_cons (ce_call (ok_is_command T) (hr.mono (by decide)) (by rfl) (ca_cons (ce_var 2) ca_nil)) (ca_cons ce_bl ca_nil)))))))) (css_one (cs_ret ce_bl)) css_nil)
    (css_cons (cs_for PassesOwn.never rfl (ci_range1 (by rfl) T.n_range (ca_cons ce_int ca_nil)) (cg_name (i := 3) sc__law_right.nd) (css_cons (cs_set (i := 6) sc__law_right.nd (ce_call (ok__law_bent T) (hr.mono (by decide)) (by rfl) (ca_cons (ce_var 0) (ca_cons (ce_var 2) ca_nil))))
    (css_one (cs_if (cw_t (cw_or (ct_not (ct_val (ce_call (ok__law_told T) (hr.mono (by decide)) (by rfl) (ca_cons (ce_call (ok_is_command T) (hr.mono (by decide)) (by rfl) (ca_cons (ce_var 6) ca_nil)) (ca_cons (ce_call (ok__law_due T) (hr.mono (by decide)) (by rfl) (ca_cons (ce_var 6) ca_nil)) ca_nil))))) (cw_or1 (ct_not (ct_val (ce_call (ok__law_told T) (hr.mono (by decide)) (by rfl) (ca_cons (ce_call (ok_is_command T) (hr.mono (by decide)) (by rfl) (ca_cons (ce_var 2) ca_nil)) (ca_cons ce_bl ca_nil)))))))) (css_one (cs_ret ce_bl)) css_nil))))
    (css_cons (cs_set (i := 4) sc__law_right.nd (ce_call (ok__law_odd_term T) (hr.mono (by decide)) (by rfl) (ca_cons (ce_var 0) (ca_cons (ce_ix ix_seq sim_ix (ce_var 2) ce_int (fun _ _ => rfl)) ca_nil))))
    (css_one (cs_for PassesOwn.never rfl (ci_any (ce_lst (ca_cons (ce_ix ix_seq sim_ix (ce_var 2) ce_int (fun _ _ => rfl)) (ca_cons (ce_var 4) (ca_cons (ce_var 2) (ca_cons (ce_sl (ce_var 2) (co_some ce_int) (co_some ce_int)) ca_nil)))))) (cg_name (i := 5) sc__law_right.nd) (css_one (cs_if (ct_not (ct_val (ce_call (ok__law_told T) (hr.mono (by decide)) (by rfl) (ca_cons (ce_call (ok_is_name T) (hr.mono (by decide)) (by rfl) (ca_cons (ce_var 5) ca_nil)) (ca_cons (ce_call (ok__law_named T) (hr.mono (by decide)) (by rfl) (ca_cons (ce_var 5) ca_nil)) ca_nil))))) (css_one (cs_ret ce_bl)) css_nil)))))))))
    (css_one (cs_ret ce_bl)))
theorem ok_law {P : Program} {w : World} {K : PySem.W.Frag} {mg : Str → Option Value} {base : Heap} (T : Txt K mg w) : FM P w K mg base 7 "law" 1 m_law := by
  obtain ⟨fd, F⟩ := T.d_law
  refine fm_of (N := N_law) F T.g_law sc_law (FunD.bindsN F fun _ _ _ _ _ _ us hl => match us, hl with | [_], _ => rfl) fun cdv A outer s H E hr => ?_
  exact (css_one (cs_ret (ce_callB (cr_all rfl) sim_all (by rfl) T.n_all bb_all (ca_cons (ce_lc (own := [("_law_k", 1)]) rfl sc_law.nd (blkOk_by (own := [("_law_k", 1)]) (N := N_law) (sc := defScope s_law) (by decide +kernel)) (ci_range1 (by rfl) T.n_range (ca_cons (ce_callB (call_max2 rfl) sim_max2 (by rfl) T.n_max bb_max (ca_cons ce_int (ca_cons (ce_callB (call_min2 rfl) sim_min2 (by rfl) T.n_min bb_min (ca_cons (ce_callB call_len sim_len (by rfl) T.n_len bb_len (ca_cons (ce_var 0) ca_nil)) (ca_cons ce_int ca_nil))) ca_nil))) ca_nil)) (fun _ _ _ _ _ => (cgw_name (i := 1) sc_law.nd)) (fun _ _ _ _ _ => cts_nil) (fun _ _ _ _ _ => (ce_call (ok__law_right T) (hr.mono (by decide)) (by rfl) (ca_cons (ce_call (ok__law_heap T) (hr.mono (by decide)) (by rfl) (ca_cons (ce_call (ok__law_cell T) (hr.mono (by decide)) (by rfl) (ca_cons (ce_var 0) (ca_cons (ce_var 1) ca_nil))) ca_nil)) ca_nil)))) ca_nil))))
theorem fn_law {P : Program} {w : World} {K : PySem.W.Frag} {mg : Str → Option Value} {base : Heap} {fd : FuncData} (T : Txt K mg w) (F : FunD K "law" "law" (defArgs s_law) (defBody s_law) (defScope s_law) [] [] (He.ga K "law") fd) : FnOk P w K mg base CX0 7 (He.ga K "law") fd ["_law_script"] (sp0 K 1 m_law) := by
  refine fnd_of (N := N_law) F sc_law fun cdv A outer s H E hr => ?_
  exact (css_one (cs_ret (ce_callB (cr_all rfl) sim_all (by rfl) T.n_all bb_all (ca_cons (ce_lc (own := [("_law_k", 1)]) rfl sc_law.nd (blkOk_by (own := [("_law_k", 1)]) (N := N_law) (sc := defScope s_law) (by decide +kernel)) (ci_range1 (by rfl) T.n_range (ca_cons (ce_callB (call_max2 rfl) sim_max2 (by rfl) T.n_max bb_max (ca_cons ce_int (ca_cons (ce_callB (call_min2 rfl) sim_min2 (by rfl) T.n_min bb_min (ca_cons (ce_callB call_len sim_len (by rfl) T.n_len bb_len (ca_cons (ce_var 0) ca_nil)) (ca_cons ce_int ca_nil))) ca_nil))) ca_nil)) (fun _ _ _ _ _ => (cgw_name (i := 1) sc_law.nd)) (fun _ _ _ _ _ => cts_nil) (fun _ _ _ _ _ => (ce_call (ok__law_right T) (hr.mono (by decide)) (by rfl) (ca_cons (ce_call (ok__law_heap T) (hr.mono (by decide)) (by rfl) (ca_cons (ce_call (ok__law_cell T) (hr.mono (by decide)) (by rfl) (ca_cons (ce_var 0) (ca_cons (ce_var 1) ca_nil))) ca_nil)) ca_nil)))) ca_nil))))
end Lw

namespace Lw
open PySem PySem.Spec PyProof.Rows L2 Mm
def e_is_whole : He.DefD := ⟨("is_whole", none), "is_whole", "is_whole", defArgs s_is_whole, defBody s_is_whole, defScope s_is_whole, [], []⟩
def e_is_within : He.DefD := ⟨("is_within", none), "is_within", "is_within", defArgs s_is_within, defBody s_is_within, defScope s_is_within, [], []⟩
def e_is_name : He.DefD := ⟨("is_name", none), "is_name", "is_name", defArgs s_is_name, defBody s_is_name, defScope s_is_name, [], []⟩
def e_are_names : He.DefD := ⟨("are_names", none), "are_names", "are_names", defArgs s_are_names, defBody s_are_names, defScope s_are_names, [], []⟩
def e_is_number : He.DefD := ⟨("is_number", none), "is_number", "is_number", defArgs s_is_number, defBody s_is_number, defScope s_is_number, [], []⟩
def e_is_value : He.DefD := ⟨("is_value", none), "is_value", "is_value", defArgs s_is_value, defBody s_is_value, defScope s_is_value, [], []⟩
def e_is_by : He.DefD := ⟨("is_by", none), "is_by", "is_by", defArgs s_is_by, defBody s_is_by, defScope s_is_by, [], []⟩
def e_is_lane : He.DefD := ⟨("is_lane", none), "is_lane", "is_lane", defArgs s_is_lane, defBody s_is_lane, defScope s_is_lane, [], []⟩
def e_is_part : He.DefD := ⟨("is_part", none), "is_part", "is_part", defArgs s_is_part, defBody s_is_part, defScope s_is_part, [], []⟩
def e_is_command : He.DefD := ⟨("is_command", none), "is_command", "is_command", defArgs s_is_command, defBody s_is_command, defScope s_is_command, [], []⟩
def e__law_cell : He.DefD := ⟨("_law_cell", none), "_law_cell", "_law_cell", defArgs s__law_cell, defBody s__law_cell, defScope s__law_cell, [], []⟩
def e__law_heap : He.DefD := ⟨("_law_heap", none), "_law_heap", "_law_heap", defArgs s__law_heap, defBody s__law_heap, defScope s__law_heap, [], []⟩
def e__law_draw : He.DefD := ⟨("_law_draw", none), "_law_draw", "_law_draw", defArgs s__law_draw, defBody s__law_draw, defScope s__law_draw, [], []⟩
def e__law_term : He.DefD := ⟨("_law_term", none), "_law_term", "_law_term", defArgs s__law_term, defBody s__law_term, defScope s__law_term, [], []⟩
def e__law_terms : He.DefD := ⟨("_law_terms", none), "_law_terms", "_law_terms", defArgs s__law_terms, defBody s__law_terms, defScope s__law_terms, [], []⟩
def e__law_number : He.DefD := ⟨("_law_number", none), "_law_number", "_law_number", defArgs s__law_number, defBody s__law_number, defScope s__law_number, [], []⟩
def e__law_named : He.DefD := ⟨("_law_named", none), "_law_named", "_law_named", defArgs s__law_named, defBody s__law_named, defScope s__law_named, [], []⟩
def e__law_in : He.DefD := ⟨("_law_in", none), "_law_in", "_law_in", defArgs s__law_in, defBody s__law_in, defScope s__law_in, [], []⟩
def e__law_due : He.DefD := ⟨("_law_due", none), "_law_due", "_law_due", defArgs s__law_due, defBody s__law_due, defScope s__law_due, [], []⟩
def e__law_odd_term : He.DefD := ⟨("_law_odd_term", none), "_law_odd_term", "_law_odd_term", defArgs s__law_odd_term, defBody s__law_odd_term, defScope s__law_odd_term, [], []⟩
def e__law_good : He.DefD := ⟨("_law_good", none), "_law_good", "_law_good", defArgs s__law_good, defBody s__law_good, defScope s__law_good, [], []⟩
def e__law_bent : He.DefD := ⟨("_law_bent", none), "_law_bent", "_law_bent", defArgs s__law_bent, defBody s__law_bent, defScope s__law_bent, [], []⟩
def e__law_told : He.DefD := ⟨("_law_told", none), "_law_told", "_law_told", defArgs s__law_told, defBody s__law_told, defScope s__law_told, [], []⟩
def e__law_right : He.DefD := ⟨("_law_right", none), "_law_right", "_law_right", defArgs s__law_right, defBody s__law_right, defScope s__law_right, [], []⟩
def e_law : He.DefD := ⟨("law", none), "law", "law", defArgs s_law, defBody s_law, defScope s_law, [], []⟩
def fn : List He.DefD := ([e_is_whole, e_is_within, e_is_name, e_are_names, e_is_number, e_is_value, e_is_by, e_is_lane, e_is_part, e_is_command, e__law_cell, e__law_heap, e__law_draw, e__law_term, e__law_terms, e__law_number] : List He.DefD) ++ ([e__law_named, e__law_in, e__law_due, e__law_odd_term, e__law_good, e__law_bent, e__law_told, e__law_right, e_law] : List He.DefD)
def fa : List He.Fa := ([.glo "is_whole", .glo "is_within", .glo "is_name", .glo "are_names", .glo "is_number", .glo "is_value", .glo "is_by", .glo "is_lane", .glo "is_part", .glo "is_command", .glo "_law_cell", .glo "_law_heap", .glo "_law_draw", .glo "_law_term", .glo "_law_terms", .glo "_law_number"] : List He.Fa) ++ ([.glo "_law_named", .glo "_law_in", .glo "_law_due", .glo "_law_odd_term", .glo "_law_good", .glo "_law_bent", .glo "_law_told", .glo "_law_right", .glo "law", .glo "PARTS", .glo "FORMS", .free "abs", .free "all", .free "bool", .free "divmod", .free "int"] : List He.Fa) ++ ([.free "isinstance", .free "len", .free "list", .free "max", .free "min", .free "range", .free "str", .free "tuple", .free "zip", .int "MOST_SIGNS" 6, .int "MOST_LANES" 6, .int "MOST_NUMBER" 999999, .int "MOST_VALUE" 9999, .int "MOST_BY" 99, .int "MOST_FROMS" 3, .str "LETTERS" "abcdefghijklmnopqrstuvwxyz"] : List He.Fa) ++ ([.str "SIGNS" "abcdefghijklmnopqrstuvwxyz0123456789"] : List He.Fa)
def ts : List He.Tab := [(fun K => He.ga K "PARTS", kv_PARTS.map (·.1)), (fun K => He.ga K "FORMS", kv_FORMS.map (·.1))]
def ex (K : PySem.W.Frag) : Bool := kdwB K "PARTS" kv_PARTS && kdwB K "FORMS" kv_FORMS
def loose : List PySem.Str := (["is_whole", "is_within", "is_name", "are_names", "is_number", "is_value", "is_by", "is_lane", "is_part", "is_command", "_law_cell", "_law_heap", "_law_draw", "_law_term", "_law_terms", "_law_number"] : List PySem.Str) ++ (["_law_named", "_law_in", "_law_due", "_law_odd_term", "_law_good", "_law_bent", "_law_told", "_law_right", "PARTS", "FORMS", "MOST_SIGNS", "MOST_LANES", "MOST_NUMBER", "MOST_VALUE", "MOST_BY", "MOST_FROMS"] : List PySem.Str) ++ (["LETTERS", "SIGNS"] : List PySem.Str)
abbrev R : PySem.W.OpenRow := PySem.W.OpenLaw.row PySem.Challenge.rw_fencelanes_k01_names_and_commands
abbrev hk : PySem.W.Hook := He.hookX 4 fa fn ts [] ex
def ob (s : PySem.W.SharedT) : He.AlX := He.obsX 4 fa fn ts [] ex (HandSHeadRun.getT s)
theorem ob_eq (s : PySem.W.SharedT) : ob s = hk.obs s.abs := He.obsX_eq (HandSHeadRun.getT_eq s)
theorem runF (w : World) : HandSHeadRun.RunEq R (PySem.W.view R.prog [36]) hk ob 3000 loose (w.withFollow "special-get-raises" false) := by
  intro os
  kernel_rfl
theorem runT (w : World) : HandSHeadRun.RunEq R (PySem.W.view R.prog [36]) hk ob 3000 loose (w.withFollow "special-get-raises" true) := by
  intro os
  kernel_rfl
theorem run (w : World) : HandSHeadRun.RunEq R (PySem.W.view R.prog [36]) hk ob 3000 loose w :=
  PySem.W.byRow2 "special-get-raises" (P := fun w => HandSHeadRun.RunEq R (PySem.W.view R.prog [36]) hk ob 3000 loose w) runF runT w
theorem txt_of {K : PySem.W.Frag} {mg : Str → Option Value} {w : World} {h : Heap} (X : K.In h) (G : h.Ns mainGlobals mg) (c : He.SaysX fa fn ts [] ex w h K) : Txt K mg w where
  n_abs := He.free_ok X G (c.t.d.fact 27 (f := .free "abs") rfl)
  n_all := He.free_ok X G (c.t.d.fact 28 (f := .free "all") rfl)
  n_bool := He.free_ok X G (c.t.d.fact 29 (f := .free "bool") rfl)
  n_divmod := He.free_ok X G (c.t.d.fact 30 (f := .free "divmod") rfl)
  n_int := He.free_ok X G (c.t.d.fact 31 (f := .free "int") rfl)
  n_isinstance := He.free_ok X G (c.t.d.fact 32 (f := .free "isinstance") rfl)
  n_len := He.free_ok X G (c.t.d.fact 33 (f := .free "len") rfl)
  n_list := He.free_ok X G (c.t.d.fact 34 (f := .free "list") rfl)
  n_max := He.free_ok X G (c.t.d.fact 35 (f := .free "max") rfl)
  n_min := He.free_ok X G (c.t.d.fact 36 (f := .free "min") rfl)
  n_range := He.free_ok X G (c.t.d.fact 37 (f := .free "range") rfl)
  n_str := He.free_ok X G (c.t.d.fact 38 (f := .free "str") rfl)
  n_tuple := He.free_ok X G (c.t.d.fact 39 (f := .free "tuple") rfl)
  n_zip := He.free_ok X G (c.t.d.fact 40 (f := .free "zip") rfl)
  i_MOST_SIGNS := He.int_ok X G (c.t.d.fact 41 (f := .int "MOST_SIGNS" 6) rfl)
  i_MOST_LANES := He.int_ok X G (c.t.d.fact 42 (f := .int "MOST_LANES" 6) rfl)
  i_MOST_NUMBER := He.int_ok X G (c.t.d.fact 43 (f := .int "MOST_NUMBER" 999999) rfl)
  i_MOST_VALUE := He.int_ok X G (c.t.d.fact 44 (f := .int "MOST_VALUE" 9999) rfl)
  i_MOST_BY := He.int_ok X G (c.t.d.fact 45 (f := .int "MOST_BY" 99) rfl)
  i_MOST_FROMS := He.int_ok X G (c.t.d.fact 46 (f := .int "MOST_FROMS" 3) rfl)
  s_LETTERS := He.str_ok X G (c.t.d.fact 47 (f := .str "LETTERS" "abcdefghijklmnopqrstuvwxyz") rfl)
  s_SIGNS := He.str_ok X G (c.t.d.fact 48 (f := .str "SIGNS" "abcdefghijklmnopqrstuvwxyz0123456789") rfl)
  g_is_whole := He.glo_ok X G (c.t.d.fact 0 (f := .glo "is_whole") rfl)
  g_is_within := He.glo_ok X G (c.t.d.fact 1 (f := .glo "is_within") rfl)
  g_is_name := He.glo_ok X G (c.t.d.fact 2 (f := .glo "is_name") rfl)
  g_are_names := He.glo_ok X G (c.t.d.fact 3 (f := .glo "are_names") rfl)
  g_is_number := He.glo_ok X G (c.t.d.fact 4 (f := .glo "is_number") rfl)
  g_is_value := He.glo_ok X G (c.t.d.fact 5 (f := .glo "is_value") rfl)
  g_is_by := He.glo_ok X G (c.t.d.fact 6 (f := .glo "is_by") rfl)
  g_is_lane := He.glo_ok X G (c.t.d.fact 7 (f := .glo "is_lane") rfl)
  g_is_part := He.glo_ok X G (c.t.d.fact 8 (f := .glo "is_part") rfl)
  g_is_command := He.glo_ok X G (c.t.d.fact 9 (f := .glo "is_command") rfl)
  g__law_cell := He.glo_ok X G (c.t.d.fact 10 (f := .glo "_law_cell") rfl)
  g__law_heap := He.glo_ok X G (c.t.d.fact 11 (f := .glo "_law_heap") rfl)
  g__law_draw := He.glo_ok X G (c.t.d.fact 12 (f := .glo "_law_draw") rfl)
  g__law_term := He.glo_ok X G (c.t.d.fact 13 (f := .glo "_law_term") rfl)
  g__law_terms := He.glo_ok X G (c.t.d.fact 14 (f := .glo "_law_terms") rfl)
  g__law_number := He.glo_ok X G (c.t.d.fact 15 (f := .glo "_law_number") rfl)
  g__law_named := He.glo_ok X G (c.t.d.fact 16 (f := .glo "_law_named") rfl)
  g__law_in := He.glo_ok X G (c.t.d.fact 17 (f := .glo "_law_in") rfl)
  g__law_due := He.glo_ok X G (c.t.d.fact 18 (f := .glo "_law_due") rfl)
  g__law_odd_term := He.glo_ok X G (c.t.d.fact 19 (f := .glo "_law_odd_term") rfl)
  g__law_good := He.glo_ok X G (c.t.d.fact 20 (f := .glo "_law_good") rfl)
  g__law_bent := He.glo_ok X G (c.t.d.fact 21 (f := .glo "_law_bent") rfl)
  g__law_told := He.glo_ok X G (c.t.d.fact 22 (f := .glo "_law_told") rfl)
  g__law_right := He.glo_ok X G (c.t.d.fact 23 (f := .glo "_law_right") rfl)
  g_law := He.glo_ok X G (c.t.d.fact 24 (f := .glo "law") rfl)
  g_PARTS := He.glo_ok X G (c.t.d.fact 25 (f := .glo "PARTS") rfl)
  g_FORMS := He.glo_ok X G (c.t.d.fact 26 (f := .glo "FORMS") rfl)
  d_is_whole := c.t.d.def_ 0 (d := e_is_whole) rfl
  d_is_within := c.t.d.def_ 1 (d := e_is_within) rfl
  d_is_name := c.t.d.def_ 2 (d := e_is_name) rfl
  d_are_names := c.t.d.def_ 3 (d := e_are_names) rfl
  d_is_number := c.t.d.def_ 4 (d := e_is_number) rfl
  d_is_value := c.t.d.def_ 5 (d := e_is_value) rfl
  d_is_by := c.t.d.def_ 6 (d := e_is_by) rfl
  d_is_lane := c.t.d.def_ 7 (d := e_is_lane) rfl
  d_is_part := c.t.d.def_ 8 (d := e_is_part) rfl
  d_is_command := c.t.d.def_ 9 (d := e_is_command) rfl
  d__law_cell := c.t.d.def_ 10 (d := e__law_cell) rfl
  d__law_heap := c.t.d.def_ 11 (d := e__law_heap) rfl
  d__law_draw := c.t.d.def_ 12 (d := e__law_draw) rfl
  d__law_term := c.t.d.def_ 13 (d := e__law_term) rfl
  d__law_terms := c.t.d.def_ 14 (d := e__law_terms) rfl
  d__law_number := c.t.d.def_ 15 (d := e__law_number) rfl
  d__law_named := c.t.d.def_ 16 (d := e__law_named) rfl
  d__law_in := c.t.d.def_ 17 (d := e__law_in) rfl
  d__law_due := c.t.d.def_ 18 (d := e__law_due) rfl
  d__law_odd_term := c.t.d.def_ 19 (d := e__law_odd_term) rfl
  d__law_good := c.t.d.def_ 20 (d := e__law_good) rfl
  d__law_bent := c.t.d.def_ 21 (d := e__law_bent) rfl
  d__law_told := c.t.d.def_ 22 (d := e__law_told) rfl
  d__law_right := c.t.d.def_ 23 (d := e__law_right) rfl
  d_law := c.t.d.def_ 24 (d := e_law) rfl
  kd_PARTS := kdw_of (tab_key c.t 0 (t := (fun K => He.ga K "PARTS", kv_PARTS.map (·.1))) rfl) (Bool.and_eq_true_iff.mp (show (kdwB K "PARTS" kv_PARTS && kdwB K "FORMS" kv_FORMS) = true from c.more)).1
  kd_FORMS := kdw_of (tab_key c.t 1 (t := (fun K => He.ga K "FORMS", kv_FORMS.map (·.1))) rfl) (Bool.and_eq_true_iff.mp (show (kdwB K "PARTS" kv_PARTS && kdwB K "FORMS" kv_FORMS) = true from c.more)).2
end Lw

namespace Lw
open PySem Mm L2
theorem ix3a {a b c : W} : ixN [a, b, c].length 0 = some 0 := rfl
theorem ix3b {a b c : W} : ixN [a, b, c].length 1 = some 1 := rfl
theorem ix3c {a b c : W} : ixN [a, b, c].length 2 = some 2 := rfl
theorem draw_sat {n j : Nat} {T S : Sto} {many : Int} {Q : W → Sto → Prop} (g : Gd n T S) (hj : j < n) (h1 : 0 < many) (h2 : many < 1073741824) (k : ∀ r S', Gd n T S' → 0 ≤ r → r < many → Q (.int r) S') : Sat (m__law_draw [.loc j, .int many] S) Q := by
  obtain ⟨a, b, c, e⟩ := g.heap hj
  have hl : j < S.length := by have := g.len; omega
  simp only [m__law_draw, c__law_draw, satS, satP, satE]
  simp only [e, Option.some.injEq, O.lst.injEq, exists_eq_left', satS, satP, ix3a, ix3b, ix3c, List.getElem?_set_self hl, List.getElem?_set_self, List.length_set, hl, List.set_set, List.set_cons_zero, List.set_cons_succ]
  by_cases ha : 0 < a
  · rw [if_pos (decide_eq_true ha), if_pos ⟨h1, h2⟩, if_pos (show [W.int (a / many), W.int (a % many)].length = 2 from rfl)]
    have g' := g.setH hj (a / many) b (c + 1)
    exact fin_sat0 g' (by rw [g.len]) rfl (k _ _ g' (Int.emod_nonneg _ (by omega)) (Int.emod_lt_of_pos _ h1))
  · rw [if_neg (by simpa using ha), if_pos (by decide), if_pos (by decide), if_pos (by left; omega), if_pos (by left; decide), if_pos (by decide), if_pos (by decide), if_pos h1]
    have g' := g.setH hj a (b % 1000000087 * (b % 1000000087 % 52021 + 31013) + 90001 * (c + 1)) (c + 1)
    exact fin_sat0 g' (by rw [g.len]) rfl (k _ _ g' (Int.emod_nonneg _ (by omega)) (Int.emod_lt_of_pos _ h1))
def sgnW : W → Bool
  | .str x => (match x.cps.toList with
    | [c] => isSgn c
    | _ => false)
  | _ => false
theorem all_sgn {cs : List Nat} : (cs.map fun c => W.str ⟨#[c]⟩).all sgnW = cs.all isSgn := by
  rw [List.all_map]
  rfl
theorem is_name_ok {w : W} {S : Sto} (g : WS S) (h : datW w = true) : m_is_name [w] S = .ok (.bl (nmW w)) S := by
  refine sat_to ?_
  cases w with
  | str x =>
    have hz := comS_len (x := x) h
    simp only [m_is_name, c_is_name, sats, if_pos hz, fin_bl g, in_letters, itemsOf, nmW, nmL]
    rw [Str_len]
    rw [Str_len] at hz
    cases q : x.cps.toList with
    | nil => simp
    | cons c cs =>
      rw [q] at hz
      simp only [at0, Option.some.injEq, exists_eq_left']
      by_cases h6 : (c :: cs).length ≤ 6
      · cases hc : isLet c with
        | false => simp [h6]
        | true =>
          have h6' : ((c :: cs).length : Int) ≤ 6 := by omega
          simp only [h6, h6', decide_true, notT, notF, ifT, ifF]
          rw [if_pos (by simp; omega)]
          refine lc_sat (fun w => .bl (sgnW w)) (fun w hw => ?_) (by rw [List.length_map]; exact hz) ?_
          · obtain ⟨d, _, rfl⟩ := List.mem_map.mp hw
            simp only [sats, in_signs, sgnW, and_self]
          · refine ⟨_, bools_map sgnW, ?_⟩
            rw [List.all_map, fin_bl g]
            exact ⟨by rw [show (id ∘ sgnW) = sgnW from rfl, all_sgn]; simp, rfl⟩
      · have h6' : ¬((c :: cs).length : Int) ≤ 6 := by omega
        simp only [h6, h6', decide_false, notT, notF, ifT, ifF]
        simp
  | non => simp only [m_is_name, c_is_name, sats, fin_bl g, nmW, and_self]
  | bl b => simp only [m_is_name, c_is_name, sats, fin_bl g, nmW, and_self]
  | int i => simp only [m_is_name, c_is_name, sats, fin_bl g, nmW, and_self]
  | tup ws => simp only [m_is_name, c_is_name, sats, fin_bl g, nmW, and_self]
  | lst ws => simp only [m_is_name, c_is_name, sats, fin_bl g, nmW, and_self]
  | dct ks ws => simp only [m_is_name, c_is_name, sats, fin_bl g, nmW, and_self]
  | _ => unfold datW at h; cases h

/-! ### the package's questions -/
def whW : W → Bool
  | .int _ => true
  | _ => false
def inR (lo hi : Int) : W → Bool
  | .int i => decide (lo ≤ i) && decide (i ≤ hi)
  | _ => false
theorem sat_whole {w : W} {S : Sto} {Q : W → Sto → Prop} (g : WS S) (h : datW w = true) : Sat (m_is_whole [w] S) Q = Q (.bl (whW w)) S := by
  refine sat_eq (sat_to ?_) Q
  cases w with
  | non => simp only [m_is_whole, c_is_whole, sats, fin_bl g, whW, and_self]
  | bl b => simp only [m_is_whole, c_is_whole, sats, fin_bl g, whW, and_self]
  | int i => simp only [m_is_whole, c_is_whole, sats, fin_bl g, whW, and_self]
  | str x => simp only [m_is_whole, c_is_whole, sats, fin_bl g, whW, and_self]
  | tup ws => simp only [m_is_whole, c_is_whole, sats, fin_bl g, whW, and_self]
  | lst ws => simp only [m_is_whole, c_is_whole, sats, fin_bl g, whW, and_self]
  | dct ks ws => simp only [m_is_whole, c_is_whole, sats, fin_bl g, whW, and_self]
  | _ => unfold datW at h; cases h
theorem sat_within {w : W} {lo hi : Int} {S : Sto} {Q : W → Sto → Prop} (g : WS S) (h : datW w = true) : Sat (m_is_within [w, .int lo, .int hi] S) Q = Q (.bl (inR lo hi w)) S := by
  refine sat_eq (sat_to ?_) Q
  simp only [m_is_within, c_is_within, sats, sat_whole g h]
  cases w with
  | int i =>
    simp only [whW, sats, inR]
    by_cases z : lo ≤ i
    · simp only [z, decide_true, sats, fin_bl g, Bool.true_and, and_self]
    · simp only [z, decide_false, sats, fin_bl g, Bool.false_and, Bool.false_eq_true, and_self]
  | _ => simp only [whW, sats, inR, fin_bl g, Bool.false_eq_true, and_self]
theorem sat_in {w : W} {lo hi : Int} {S : Sto} {Q : W → Sto → Prop} (g : WS S) (h : datW w = true) : Sat (m__law_in [w, .int lo, .int hi] S) Q = Q (.bl (inR lo hi w)) S := by
  refine sat_eq (sat_to ?_) Q
  cases w with
  | int i =>
    simp only [m__law_in, c__law_in, sats, inR]
    by_cases z : lo ≤ i
    · simp only [z, decide_true, sats, fin_bl g, Bool.true_and, and_self]
    · simp only [z, decide_false, sats, fin_bl g, Bool.false_and, Bool.false_eq_true, and_self]
  | non => simp only [m__law_in, c__law_in, sats, inR, fin_bl g, and_self]
  | bl b => simp only [m__law_in, c__law_in, sats, inR, fin_bl g, and_self]
  | str x => simp only [m__law_in, c__law_in, sats, inR, fin_bl g, and_self]
  | tup ws => simp only [m__law_in, c__law_in, sats, inR, fin_bl g, and_self]
  | lst ws => simp only [m__law_in, c__law_in, sats, inR, fin_bl g, and_self]
  | dct ks ws => simp only [m__law_in, c__law_in, sats, inR, fin_bl g, and_self]
  | _ => unfold datW at h; cases h
theorem sat_name {w : W} {S : Sto} {Q : W → Sto → Prop} (g : WS S) (h : datW w = true) : Sat (m_is_name [w] S) Q = Q (.bl (nmW w)) S := sat_eq (is_name_ok g h) Q
def nmsW : W → Bool
  | .tup ws => decide (1 ≤ ws.length) && (decide (ws.length ≤ 3) && ws.all nmW)
  | _ => false
theorem sat_names {w : W} {S : Sto} {Q : W → Sto → Prop} (g : WS S) (h : datW w = true) : Sat (m_are_names [w] S) Q = Q (.bl (nmsW w)) S := by
  refine sat_eq (sat_to ?_) Q
  cases w with
  | tup ws =>
    simp only [m_are_names, c_are_names, sats, fin_bl g, itemsOf, nmsW]
    by_cases h1 : 1 ≤ ws.length
    · by_cases h3 : ws.length ≤ 3
      · have h1' : (1 : Int) ≤ ws.length := by omega
        have h3' : (ws.length : Int) ≤ 3 := by omega
        simp only [h1, h3, h1', h3', decide_true, sats]
        refine lc_sat (fun w => .bl (nmW w)) (fun w hw => ?_) (Nat.le_trans h3 (by decide)) ?_
        · simp only [sats, sat_name g (datWs_mem h hw), and_self]
        · refine ⟨_, bools_map nmW, ?_⟩
          rw [List.all_map, fin_bl g]
          exact ⟨by rw [show (id ∘ nmW) = nmW from rfl]; simp, rfl⟩
      · have h3' : ¬(ws.length : Int) ≤ 3 := by omega
        have h1' : (1 : Int) ≤ ws.length := by omega
        simp [h1, h3, h1', h3', sats]
    · have h1' : ¬(1 : Int) ≤ ws.length := by omega
      simp [h1, h1', sats]
  | non => simp only [m_are_names, c_are_names, sats, nmsW, fin_bl g, and_self]
  | bl b => simp only [m_are_names, c_are_names, sats, nmsW, fin_bl g, and_self]
  | int b => simp only [m_are_names, c_are_names, sats, nmsW, fin_bl g, and_self]
  | str x => simp only [m_are_names, c_are_names, sats, nmsW, fin_bl g, and_self]
  | lst ws => simp only [m_are_names, c_are_names, sats, nmsW, fin_bl g, and_self]
  | dct ks ws => simp only [m_are_names, c_are_names, sats, nmsW, fin_bl g, and_self]
  | _ => unfold datW at h; cases h
theorem sat_number {w : W} {S : Sto} {Q : W → Sto → Prop} (g : WS S) (h : datW w = true) : Sat (m_is_number [w] S) Q = Q (.bl (inR (-999999) 999999 w)) S := by
  simp only [m_is_number, c_is_number, sats, sat_within g h, fin_bl g]
theorem sat_value {w : W} {S : Sto} {Q : W → Sto → Prop} (g : WS S) (h : datW w = true) : Sat (m_is_value [w] S) Q = Q (.bl (inR 1 9999 w)) S := by
  simp only [m_is_value, c_is_value, sats, sat_within g h, fin_bl g]
theorem sat_by {w : W} {S : Sto} {Q : W → Sto → Prop} (g : WS S) (h : datW w = true) : Sat (m_is_by [w] S) Q = Q (.bl (inR 1 99 w)) S := by
  simp only [m_is_by, c_is_by, sats, sat_within g h, fin_bl g]
theorem sat_lane {w : W} {S : Sto} {Q : W → Sto → Prop} (g : WS S) (h : datW w = true) : Sat (m_is_lane [w] S) Q = Q (.bl (inR 0 5 w)) S := by
  simp only [m_is_lane, c_is_lane, sats, sat_within g h, fin_bl g, Int.reduceSub]
end Lw

namespace Lw
open PySem Mm L2
theorem lkp_name : kv_PARTS.lookup ("name" : Str) = some (.glo "is_name") := by rfl
theorem lkf_name : fs_is_part.lookup ("is_name" : Str) = some m_is_name := by rfl
theorem sat_part_name {w : W} {S : Sto} {Q : W → Sto → Prop} (g : WS S) (h : datW w = true) : Sat (m_is_part [.str "name", w] S) Q = Q (.bl (nmW w)) S := by
  simp only [m_is_part, c_is_part, sats, lkp_name, lkf_name, sat_name g h, fin_bl g]
theorem lkp_names : kv_PARTS.lookup ("names" : Str) = some (.glo "are_names") := by rfl
theorem lkf_names : fs_is_part.lookup ("are_names" : Str) = some m_are_names := by rfl
theorem sat_part_names {w : W} {S : Sto} {Q : W → Sto → Prop} (g : WS S) (h : datW w = true) : Sat (m_is_part [.str "names", w] S) Q = Q (.bl (nmsW w)) S := by
  simp only [m_is_part, c_is_part, sats, lkp_names, lkf_names, sat_names g h, fin_bl g]
theorem lkp_number : kv_PARTS.lookup ("number" : Str) = some (.glo "is_number") := by rfl
theorem lkf_number : fs_is_part.lookup ("is_number" : Str) = some m_is_number := by rfl
theorem sat_part_number {w : W} {S : Sto} {Q : W → Sto → Prop} (g : WS S) (h : datW w = true) : Sat (m_is_part [.str "number", w] S) Q = Q (.bl (inR (-999999) 999999 w)) S := by
  simp only [m_is_part, c_is_part, sats, lkp_number, lkf_number, sat_number g h, fin_bl g]
theorem lkp_value : kv_PARTS.lookup ("value" : Str) = some (.glo "is_value") := by rfl
theorem lkf_value : fs_is_part.lookup ("is_value" : Str) = some m_is_value := by rfl
theorem sat_part_value {w : W} {S : Sto} {Q : W → Sto → Prop} (g : WS S) (h : datW w = true) : Sat (m_is_part [.str "value", w] S) Q = Q (.bl (inR 1 9999 w)) S := by
  simp only [m_is_part, c_is_part, sats, lkp_value, lkf_value, sat_value g h, fin_bl g]
theorem lkp_by : kv_PARTS.lookup ("by" : Str) = some (.glo "is_by") := by rfl
theorem lkf_by : fs_is_part.lookup ("is_by" : Str) = some m_is_by := by rfl
theorem sat_part_by {w : W} {S : Sto} {Q : W → Sto → Prop} (g : WS S) (h : datW w = true) : Sat (m_is_part [.str "by", w] S) Q = Q (.bl (inR 1 99 w)) S := by
  simp only [m_is_part, c_is_part, sats, lkp_by, lkf_by, sat_by g h, fin_bl g]
theorem lkp_lane : kv_PARTS.lookup ("lane" : Str) = some (.glo "is_lane") := by rfl
theorem lkf_lane : fs_is_part.lookup ("is_lane" : Str) = some m_is_lane := by rfl
theorem sat_part_lane {w : W} {S : Sto} {Q : W → Sto → Prop} (g : WS S) (h : datW w = true) : Sat (m_is_part [.str "lane", w] S) Q = Q (.bl (inR 0 5 w)) S := by
  simp only [m_is_part, c_is_part, sats, lkp_lane, lkf_lane, sat_lane g h, fin_bl g]
/-- what is a command -/
def cmdW : W → Bool
  | .tup (.str x :: ws) =>
    if x = "put" then (match ws with
      | [a, b] => nmW a && (inR (-999999) 999999 b)
      | _ => false)
    else if x = "copy" then (match ws with
      | [a, b] => nmW a && (nmW b)
      | _ => false)
    else if x = "reckon" then (match ws with
      | [a, b, c] => nmW a && (nmsW b && (nmW c))
      | _ => false)
    else if x = "look" then (match ws with
      | [a] => nmW a
      | _ => false)
    else if x = "show" then (match ws with
      | [a] => nmW a
      | _ => false)
    else if x = "wait" then (match ws with
      | [a, b] => nmW a && (inR 1 9999 b)
      | _ => false)
    else if x = "set" then (match ws with
      | [a, b] => nmW a && (inR 1 99 b)
      | _ => false)
    else if x = "give" then (match ws with
      | [a, b] => nmW a && (inR 0 5 b)
      | _ => false)
    else if x = "take" then (match ws with
      | [a] => nmW a
      | _ => false)
    else false
  | _ => false
theorem lk_put : kv_FORMS.lookup ("put" : Str) = some (.tup [.str "name", .str "number"]) := by rfl
theorem lk_copy : kv_FORMS.lookup ("copy" : Str) = some (.tup [.str "name", .str "name"]) := by rfl
theorem lk_reckon : kv_FORMS.lookup ("reckon" : Str) = some (.tup [.str "name", .str "names", .str "name"]) := by rfl
theorem lk_look : kv_FORMS.lookup ("look" : Str) = some (.tup [.str "name"]) := by rfl
theorem lk_show : kv_FORMS.lookup ("show" : Str) = some (.tup [.str "name"]) := by rfl
theorem lk_wait : kv_FORMS.lookup ("wait" : Str) = some (.tup [.str "name", .str "value"]) := by rfl
theorem lk_set : kv_FORMS.lookup ("set" : Str) = some (.tup [.str "name", .str "by"]) := by rfl
theorem lk_give : kv_FORMS.lookup ("give" : Str) = some (.tup [.str "name", .str "lane"]) := by rfl
theorem lk_take : kv_FORMS.lookup ("take" : Str) = some (.tup [.str "name"]) := by rfl
theorem lk_none {x : Str} (h0 : ¬x = ("put" : Str)) (h1 : ¬x = ("copy" : Str)) (h2 : ¬x = ("reckon" : Str)) (h3 : ¬x = ("look" : Str)) (h4 : ¬x = ("show" : Str)) (h5 : ¬x = ("wait" : Str)) (h6 : ¬x = ("set" : Str)) (h7 : ¬x = ("give" : Str)) (h8 : ¬x = ("take" : Str)) : kv_FORMS.lookup x = none := by
  simp only [kv_FORMS, List.lookup, beq_eq_false_iff_ne.mpr h0, beq_eq_false_iff_ne.mpr h1, beq_eq_false_iff_ne.mpr h2, beq_eq_false_iff_ne.mpr h3, beq_eq_false_iff_ne.mpr h4, beq_eq_false_iff_ne.mpr h5, beq_eq_false_iff_ne.mpr h6, beq_eq_false_iff_ne.mpr h7, beq_eq_false_iff_ne.mpr h8]
end Lw

namespace Lw
open PySem Mm L2
theorem ne_put_copy : (("put" : Str) = "copy") = False := eq_false (by decide +kernel)
theorem ne_put_reckon : (("put" : Str) = "reckon") = False := eq_false (by decide +kernel)
theorem ne_put_look : (("put" : Str) = "look") = False := eq_false (by decide +kernel)
theorem ne_put_show : (("put" : Str) = "show") = False := eq_false (by decide +kernel)
theorem ne_put_wait : (("put" : Str) = "wait") = False := eq_false (by decide +kernel)
theorem ne_put_set : (("put" : Str) = "set") = False := eq_false (by decide +kernel)
theorem ne_put_give : (("put" : Str) = "give") = False := eq_false (by decide +kernel)
theorem ne_put_take : (("put" : Str) = "take") = False := eq_false (by decide +kernel)
theorem ne_copy_put : (("copy" : Str) = "put") = False := eq_false (by decide +kernel)
theorem ne_copy_reckon : (("copy" : Str) = "reckon") = False := eq_false (by decide +kernel)
theorem ne_copy_look : (("copy" : Str) = "look") = False := eq_false (by decide +kernel)
theorem ne_copy_show : (("copy" : Str) = "show") = False := eq_false (by decide +kernel)
theorem ne_copy_wait : (("copy" : Str) = "wait") = False := eq_false (by decide +kernel)
theorem ne_copy_set : (("copy" : Str) = "set") = False := eq_false (by decide +kernel)
theorem ne_copy_give : (("copy" : Str) = "give") = False := eq_false (by decide +kernel)
theorem ne_copy_take : (("copy" : Str) = "take") = False := eq_false (by decide +kernel)
theorem ne_reckon_put : (("reckon" : Str) = "put") = False := eq_false (by decide +kernel)
theorem ne_reckon_copy : (("reckon" : Str) = "copy") = False := eq_false (by decide +kernel)
theorem ne_reckon_look : (("reckon" : Str) = "look") = False := eq_false (by decide +kernel)
theorem ne_reckon_show : (("reckon" : Str) = "show") = False := eq_false (by decide +kernel)
theorem ne_reckon_wait : (("reckon" : Str) = "wait") = False := eq_false (by decide +kernel)
theorem ne_reckon_set : (("reckon" : Str) = "set") = False := eq_false (by decide +kernel)
theorem ne_reckon_give : (("reckon" : Str) = "give") = False := eq_false (by decide +kernel)
theorem ne_reckon_take : (("reckon" : Str) = "take") = False := eq_false (by decide +kernel)
theorem ne_look_put : (("look" : Str) = "put") = False := eq_false (by decide +kernel)
theorem ne_look_copy : (("look" : Str) = "copy") = False := eq_false (by decide +kernel)
theorem ne_look_reckon : (("look" : Str) = "reckon") = False := eq_false (by decide +kernel)
theorem ne_look_show : (("look" : Str) = "show") = False := eq_false (by decide +kernel)
theorem ne_look_wait : (("look" : Str) = "wait") = False := eq_false (by decide +kernel)
theorem ne_look_set : (("look" : Str) = "set") = False := eq_false (by decide +kernel)
theorem ne_look_give : (("look" : Str) = "give") = False := eq_false (by decide +kernel)
theorem ne_look_take : (("look" : Str) = "take") = False := eq_false (by decide +kernel)
theorem ne_show_put : (("show" : Str) = "put") = False := eq_false (by decide +kernel)
theorem ne_show_copy : (("show" : Str) = "copy") = False := eq_false (by decide +kernel)
theorem ne_show_reckon : (("show" : Str) = "reckon") = False := eq_false (by decide +kernel)
theorem ne_show_look : (("show" : Str) = "look") = False := eq_false (by decide +kernel)
theorem ne_show_wait : (("show" : Str) = "wait") = False := eq_false (by decide +kernel)
theorem ne_show_set : (("show" : Str) = "set") = False := eq_false (by decide +kernel)
theorem ne_show_give : (("show" : Str) = "give") = False := eq_false (by decide +kernel)
theorem ne_show_take : (("show" : Str) = "take") = False := eq_false (by decide +kernel)
theorem ne_wait_put : (("wait" : Str) = "put") = False := eq_false (by decide +kernel)
theorem ne_wait_copy : (("wait" : Str) = "copy") = False := eq_false (by decide +kernel)
theorem ne_wait_reckon : (("wait" : Str) = "reckon") = False := eq_false (by decide +kernel)
theorem ne_wait_look : (("wait" : Str) = "look") = False := eq_false (by decide +kernel)
theorem ne_wait_show : (("wait" : Str) = "show") = False := eq_false (by decide +kernel)
theorem ne_wait_set : (("wait" : Str) = "set") = False := eq_false (by decide +kernel)
theorem ne_wait_give : (("wait" : Str) = "give") = False := eq_false (by decide +kernel)
theorem ne_wait_take : (("wait" : Str) = "take") = False := eq_false (by decide +kernel)
theorem ne_set_put : (("set" : Str) = "put") = False := eq_false (by decide +kernel)
theorem ne_set_copy : (("set" : Str) = "copy") = False := eq_false (by decide +kernel)
theorem ne_set_reckon : (("set" : Str) = "reckon") = False := eq_false (by decide +kernel)
theorem ne_set_look : (("set" : Str) = "look") = False := eq_false (by decide +kernel)
theorem ne_set_show : (("set" : Str) = "show") = False := eq_false (by decide +kernel)
theorem ne_set_wait : (("set" : Str) = "wait") = False := eq_false (by decide +kernel)
theorem ne_set_give : (("set" : Str) = "give") = False := eq_false (by decide +kernel)
theorem ne_set_take : (("set" : Str) = "take") = False := eq_false (by decide +kernel)
theorem ne_give_put : (("give" : Str) = "put") = False := eq_false (by decide +kernel)
theorem ne_give_copy : (("give" : Str) = "copy") = False := eq_false (by decide +kernel)
theorem ne_give_reckon : (("give" : Str) = "reckon") = False := eq_false (by decide +kernel)
theorem ne_give_look : (("give" : Str) = "look") = False := eq_false (by decide +kernel)
theorem ne_give_show : (("give" : Str) = "show") = False := eq_false (by decide +kernel)
theorem ne_give_wait : (("give" : Str) = "wait") = False := eq_false (by decide +kernel)
theorem ne_give_set : (("give" : Str) = "set") = False := eq_false (by decide +kernel)
theorem ne_give_take : (("give" : Str) = "take") = False := eq_false (by decide +kernel)
theorem ne_take_put : (("take" : Str) = "put") = False := eq_false (by decide +kernel)
theorem ne_take_copy : (("take" : Str) = "copy") = False := eq_false (by decide +kernel)
theorem ne_take_reckon : (("take" : Str) = "reckon") = False := eq_false (by decide +kernel)
theorem ne_take_look : (("take" : Str) = "look") = False := eq_false (by decide +kernel)
theorem ne_take_show : (("take" : Str) = "show") = False := eq_false (by decide +kernel)
theorem ne_take_wait : (("take" : Str) = "wait") = False := eq_false (by decide +kernel)
theorem ne_take_set : (("take" : Str) = "set") = False := eq_false (by decide +kernel)
theorem ne_take_give : (("take" : Str) = "give") = False := eq_false (by decide +kernel)
theorem keysNe : type_of% (And.intro @ne_put_copy (And.intro @ne_put_reckon (And.intro @ne_put_look (And.intro @ne_put_show (And.intro @ne_put_wait (And.intro @ne_put_set (And.intro @ne_put_give (And.intro @ne_put_take (And.intro @ne_copy_put (And.intro @ne_copy_reckon (And.intro @ne_copy_look (And.intro @ne_copy_show (And.intro @ne_copy_wait (And.intro @ne_copy_set (And.intro @ne_copy_give (And.intro @ne_copy_take (And.intro @ne_reckon_put (And.intro @ne_reckon_copy (And.intro @ne_reckon_look (And.intro @ne_reckon_show (And.intro @ne_reckon_wait (And.intro @ne_reckon_set (And.intro @ne_reckon_give (And.intro @ne_reckon_take (And.intro @ne_look_put (And.intro @ne_look_copy (And.intro @ne_look_reckon (And.intro @ne_look_show (And.intro @ne_look_wait (And.intro @ne_look_set (And.intro @ne_look_give (And.intro @ne_look_take (And.intro @ne_show_put (And.intro @ne_show_copy (And.intro @ne_show_reckon (And.intro @ne_show_look (And.intro @ne_show_wait (And.intro @ne_show_set (And.intro @ne_show_give (And.intro @ne_show_take (And.intro @ne_wait_put (And.intro @ne_wait_copy (And.intro @ne_wait_reckon (And.intro @ne_wait_look (And.intro @ne_wait_show (And.intro @ne_wait_set (And.intro @ne_wait_give (And.intro @ne_wait_take (And.intro @ne_set_put (And.intro @ne_set_copy (And.intro @ne_set_reckon (And.intro @ne_set_look (And.intro @ne_set_show (And.intro @ne_set_wait (And.intro @ne_set_give (And.intro @ne_set_take (And.intro @ne_give_put (And.intro @ne_give_copy (And.intro @ne_give_reckon (And.intro @ne_give_look (And.intro @ne_give_show (And.intro @ne_give_wait (And.intro @ne_give_set (And.intro @ne_give_take (And.intro @ne_take_put (And.intro @ne_take_copy (And.intro @ne_take_reckon (And.intro @ne_take_look (And.intro @ne_take_show (And.intro @ne_take_wait (And.intro @ne_take_set @ne_take_give))))))))))))))))))))))))))))))))))))))))))))))))))))))))))))))))))))))) :=
  (And.intro @ne_put_copy (And.intro @ne_put_reckon (And.intro @ne_put_look (And.intro @ne_put_show (And.intro @ne_put_wait (And.intro @ne_put_set (And.intro @ne_put_give (And.intro @ne_put_take (And.intro @ne_copy_put (And.intro @ne_copy_reckon (And.intro @ne_copy_look (And.intro @ne_copy_show (And.intro @ne_copy_wait (And.intro @ne_copy_set (And.intro @ne_copy_give (And.intro @ne_copy_take (And.intro @ne_reckon_put (And.intro @ne_reckon_copy (And.intro @ne_reckon_look (And.intro @ne_reckon_show (And.intro @ne_reckon_wait (And.intro @ne_reckon_set (And.intro @ne_reckon_give (And.intro @ne_reckon_take (And.intro @ne_look_put (And.intro @ne_look_copy (And.intro @ne_look_reckon (And.intro @ne_look_show (And.intro @ne_look_wait (And.intro @ne_look_set (And.intro @ne_look_give (And.intro @ne_look_take (And.intro @ne_show_put (And.intro @ne_show_copy (And.intro @ne_show_reckon (And.intro @ne_show_look (And.intro @ne_show_wait (And.intro @ne_show_set (And.intro @ne_show_give (And.intro @ne_show_take (And.intro @ne_wait_put (And.intro @ne_wait_copy (And.intro @ne_wait_reckon (And.intro @ne_wait_look (And.intro @ne_wait_show (And.intro @ne_wait_set (And.intro @ne_wait_give (And.intro @ne_wait_take (And.intro @ne_set_put (And.intro @ne_set_copy (And.intro @ne_set_reckon (And.intro @ne_set_look (And.intro @ne_set_show (And.intro @ne_set_wait (And.intro @ne_set_give (And.intro @ne_set_take (And.intro @ne_give_put (And.intro @ne_give_copy (And.intro @ne_give_reckon (And.intro @ne_give_look (And.intro @ne_give_show (And.intro @ne_give_wait (And.intro @ne_give_set (And.intro @ne_give_take (And.intro @ne_take_put (And.intro @ne_take_copy (And.intro @ne_take_reckon (And.intro @ne_take_look (And.intro @ne_take_show (And.intro @ne_take_wait (And.intro @ne_take_set @ne_take_give)))))))))))))))))))))))))))))))))))))))))))))))))))))))))))))))))))))))
theorem cmd_put {ws : List W} {S : Sto} (g : WS S) (h : datWs ws = true) : Sat (m_is_command [.tup (.str "put" :: ws)] S) fun b T => b = .bl (cmdW (.tup (.str "put" :: ws))) ∧ T = S := by
  simp only [m_is_command, c_is_command, sats, List.isEmpty_cons, Bool.false_eq_true, lk_put, Option.getD_some, fin_bl g, still]
  rcases ws with _ | ⟨a, _ | ⟨b, _ | ⟨c, _ | ⟨d, ws⟩⟩⟩⟩
  · simp [sats, fin_bl g, cmdW, keysNe]
  · simp [sats, fin_bl g, cmdW, keysNe]
  · simp only [datWs, Bool.and_eq_true] at h
    simp [sats, fin_bl g, cmdW, keysNe, pairs, sat_lcloop1, sat_turn, lcK, sat_part_name g h.1, sat_part_number g h.2.1, sizeLine, bools]
  · simp [sats, fin_bl g, cmdW, keysNe]
  · simp [sats, fin_bl g, cmdW, keysNe]
    omega
theorem cmd_copy {ws : List W} {S : Sto} (g : WS S) (h : datWs ws = true) : Sat (m_is_command [.tup (.str "copy" :: ws)] S) fun b T => b = .bl (cmdW (.tup (.str "copy" :: ws))) ∧ T = S := by
  simp only [m_is_command, c_is_command, sats, List.isEmpty_cons, Bool.false_eq_true, lk_copy, Option.getD_some, fin_bl g, still]
  rcases ws with _ | ⟨a, _ | ⟨b, _ | ⟨c, _ | ⟨d, ws⟩⟩⟩⟩
  · simp [sats, fin_bl g, cmdW, keysNe]
  · simp [sats, fin_bl g, cmdW, keysNe]
  · simp only [datWs, Bool.and_eq_true] at h
    simp [sats, fin_bl g, cmdW, keysNe, pairs, sat_lcloop1, sat_turn, lcK, sat_part_name g h.1, sat_part_name g h.2.1, sizeLine, bools]
  · simp [sats, fin_bl g, cmdW, keysNe]
  · simp [sats, fin_bl g, cmdW, keysNe]
    omega
theorem cmd_reckon {ws : List W} {S : Sto} (g : WS S) (h : datWs ws = true) : Sat (m_is_command [.tup (.str "reckon" :: ws)] S) fun b T => b = .bl (cmdW (.tup (.str "reckon" :: ws))) ∧ T = S := by
  simp only [m_is_command, c_is_command, sats, List.isEmpty_cons, Bool.false_eq_true, lk_reckon, Option.getD_some, fin_bl g, still]
  rcases ws with _ | ⟨a, _ | ⟨b, _ | ⟨c, _ | ⟨d, ws⟩⟩⟩⟩
  · simp [sats, fin_bl g, cmdW, keysNe]
  · simp [sats, fin_bl g, cmdW, keysNe]
  · simp [sats, fin_bl g, cmdW, keysNe]
  · simp only [datWs, Bool.and_eq_true] at h
    simp [sats, fin_bl g, cmdW, keysNe, pairs, sat_lcloop1, sat_turn, lcK, sat_part_name g h.1, sat_part_names g h.2.1, sat_part_name g h.2.2.1, sizeLine, bools]
  · simp [sats, fin_bl g, cmdW, keysNe]
    omega
theorem cmd_look {ws : List W} {S : Sto} (g : WS S) (h : datWs ws = true) : Sat (m_is_command [.tup (.str "look" :: ws)] S) fun b T => b = .bl (cmdW (.tup (.str "look" :: ws))) ∧ T = S := by
  simp only [m_is_command, c_is_command, sats, List.isEmpty_cons, Bool.false_eq_true, lk_look, Option.getD_some, fin_bl g, still]
  rcases ws with _ | ⟨a, _ | ⟨b, _ | ⟨c, _ | ⟨d, ws⟩⟩⟩⟩
  · simp [sats, fin_bl g, cmdW, keysNe]
  · simp only [datWs, Bool.and_eq_true] at h
    simp [sats, fin_bl g, cmdW, keysNe, pairs, sat_lcloop1, sat_turn, lcK, sat_part_name g h.1, sizeLine, bools]
  · simp [sats, fin_bl g, cmdW, keysNe]
  · simp [sats, fin_bl g, cmdW, keysNe]
  · simp [sats, fin_bl g, cmdW, keysNe]
    omega
theorem cmd_show {ws : List W} {S : Sto} (g : WS S) (h : datWs ws = true) : Sat (m_is_command [.tup (.str "show" :: ws)] S) fun b T => b = .bl (cmdW (.tup (.str "show" :: ws))) ∧ T = S := by
  simp only [m_is_command, c_is_command, sats, List.isEmpty_cons, Bool.false_eq_true, lk_show, Option.getD_some, fin_bl g, still]
  rcases ws with _ | ⟨a, _ | ⟨b, _ | ⟨c, _ | ⟨d, ws⟩⟩⟩⟩
  · simp [sats, fin_bl g, cmdW, keysNe]
  · simp only [datWs, Bool.and_eq_true] at h
    simp [sats, fin_bl g, cmdW, keysNe, pairs, sat_lcloop1, sat_turn, lcK, sat_part_name g h.1, sizeLine, bools]
  · simp [sats, fin_bl g, cmdW, keysNe]
  · simp [sats, fin_bl g, cmdW, keysNe]
  · simp [sats, fin_bl g, cmdW, keysNe]
    omega
theorem cmd_wait {ws : List W} {S : Sto} (g : WS S) (h : datWs ws = true) : Sat (m_is_command [.tup (.str "wait" :: ws)] S) fun b T => b = .bl (cmdW (.tup (.str "wait" :: ws))) ∧ T = S := by
  simp only [m_is_command, c_is_command, sats, List.isEmpty_cons, Bool.false_eq_true, lk_wait, Option.getD_some, fin_bl g, still]
  rcases ws with _ | ⟨a, _ | ⟨b, _ | ⟨c, _ | ⟨d, ws⟩⟩⟩⟩
  · simp [sats, fin_bl g, cmdW, keysNe]
  · simp [sats, fin_bl g, cmdW, keysNe]
  · simp only [datWs, Bool.and_eq_true] at h
    simp [sats, fin_bl g, cmdW, keysNe, pairs, sat_lcloop1, sat_turn, lcK, sat_part_name g h.1, sat_part_value g h.2.1, sizeLine, bools]
  · simp [sats, fin_bl g, cmdW, keysNe]
  · simp [sats, fin_bl g, cmdW, keysNe]
    omega
theorem cmd_set {ws : List W} {S : Sto} (g : WS S) (h : datWs ws = true) : Sat (m_is_command [.tup (.str "set" :: ws)] S) fun b T => b = .bl (cmdW (.tup (.str "set" :: ws))) ∧ T = S := by
  simp only [m_is_command, c_is_command, sats, List.isEmpty_cons, Bool.false_eq_true, lk_set, Option.getD_some, fin_bl g, still]
  rcases ws with _ | ⟨a, _ | ⟨b, _ | ⟨c, _ | ⟨d, ws⟩⟩⟩⟩
  · simp [sats, fin_bl g, cmdW, keysNe]
  · simp [sats, fin_bl g, cmdW, keysNe]
  · simp only [datWs, Bool.and_eq_true] at h
    simp [sats, fin_bl g, cmdW, keysNe, pairs, sat_lcloop1, sat_turn, lcK, sat_part_name g h.1, sat_part_by g h.2.1, sizeLine, bools]
  · simp [sats, fin_bl g, cmdW, keysNe]
  · simp [sats, fin_bl g, cmdW, keysNe]
    omega
theorem cmd_give {ws : List W} {S : Sto} (g : WS S) (h : datWs ws = true) : Sat (m_is_command [.tup (.str "give" :: ws)] S) fun b T => b = .bl (cmdW (.tup (.str "give" :: ws))) ∧ T = S := by
  simp only [m_is_command, c_is_command, sats, List.isEmpty_cons, Bool.false_eq_true, lk_give, Option.getD_some, fin_bl g, still]
  rcases ws with _ | ⟨a, _ | ⟨b, _ | ⟨c, _ | ⟨d, ws⟩⟩⟩⟩
  · simp [sats, fin_bl g, cmdW, keysNe]
  · simp [sats, fin_bl g, cmdW, keysNe]
  · simp only [datWs, Bool.and_eq_true] at h
    simp [sats, fin_bl g, cmdW, keysNe, pairs, sat_lcloop1, sat_turn, lcK, sat_part_name g h.1, sat_part_lane g h.2.1, sizeLine, bools]
  · simp [sats, fin_bl g, cmdW, keysNe]
  · simp [sats, fin_bl g, cmdW, keysNe]
    omega
theorem cmd_take {ws : List W} {S : Sto} (g : WS S) (h : datWs ws = true) : Sat (m_is_command [.tup (.str "take" :: ws)] S) fun b T => b = .bl (cmdW (.tup (.str "take" :: ws))) ∧ T = S := by
  simp only [m_is_command, c_is_command, sats, List.isEmpty_cons, Bool.false_eq_true, lk_take, Option.getD_some, fin_bl g, still]
  rcases ws with _ | ⟨a, _ | ⟨b, _ | ⟨c, _ | ⟨d, ws⟩⟩⟩⟩
  · simp [sats, fin_bl g, cmdW, keysNe]
  · simp only [datWs, Bool.and_eq_true] at h
    simp [sats, fin_bl g, cmdW, keysNe, pairs, sat_lcloop1, sat_turn, lcK, sat_part_name g h.1, sizeLine, bools]
  · simp [sats, fin_bl g, cmdW, keysNe]
  · simp [sats, fin_bl g, cmdW, keysNe]
  · simp [sats, fin_bl g, cmdW, keysNe]
    omega
theorem sat_command {w : W} {S : Sto} {Q : W → Sto → Prop} (g : WS S) (h : datW w = true) : Sat (m_is_command [w] S) Q = Q (.bl (cmdW w)) S := by
  refine sat_eq (sat_to ?_) Q
  cases w with
  | tup us =>
    rcases us with _ | ⟨a, ws⟩
    · simp [m_is_command, c_is_command, sats, fin_bl g, cmdW]
    · have hd : datW a = true ∧ datWs ws = true := by simpa [datW, datWs] using h
      cases a with
      | str x =>
        by_cases h0 : x = ("put" : Str)
        · subst h0; exact cmd_put g hd.2
        by_cases h1 : x = ("copy" : Str)
        · subst h1; exact cmd_copy g hd.2
        by_cases h2 : x = ("reckon" : Str)
        · subst h2; exact cmd_reckon g hd.2
        by_cases h3 : x = ("look" : Str)
        · subst h3; exact cmd_look g hd.2
        by_cases h4 : x = ("show" : Str)
        · subst h4; exact cmd_show g hd.2
        by_cases h5 : x = ("wait" : Str)
        · subst h5; exact cmd_wait g hd.2
        by_cases h6 : x = ("set" : Str)
        · subst h6; exact cmd_set g hd.2
        by_cases h7 : x = ("give" : Str)
        · subst h7; exact cmd_give g hd.2
        by_cases h8 : x = ("take" : Str)
        · subst h8; exact cmd_take g hd.2
        simp only [m_is_command, c_is_command, sats, List.isEmpty_cons, Bool.false_eq_true, lk_none h0 h1 h2 h3 h4 h5 h6 h7 h8, Option.getD_none, fin_bl g, still, cmdW]
        simp [h0, h1, h2, h3, h4, h5, h6, h7, h8]
      | non => simp [m_is_command, c_is_command, sats, fin_bl g, cmdW]
      | bl x => simp [m_is_command, c_is_command, sats, fin_bl g, cmdW]
      | int x => simp [m_is_command, c_is_command, sats, fin_bl g, cmdW]
      | tup x => simp [m_is_command, c_is_command, sats, fin_bl g, cmdW]
      | lst x => simp [m_is_command, c_is_command, sats, fin_bl g, cmdW]
      | dct x y => simp [m_is_command, c_is_command, sats, fin_bl g, cmdW]
      | _ => have := hd.1; unfold datW at this; cases this
  | non => simp [m_is_command, c_is_command, sats, fin_bl g, cmdW]
  | bl x => simp [m_is_command, c_is_command, sats, fin_bl g, cmdW]
  | int x => simp [m_is_command, c_is_command, sats, fin_bl g, cmdW]
  | str x => simp [m_is_command, c_is_command, sats, fin_bl g, cmdW]
  | lst x => simp [m_is_command, c_is_command, sats, fin_bl g, cmdW]
  | dct x y => simp [m_is_command, c_is_command, sats, fin_bl g, cmdW]
  | _ => unfold datW at h; cases h
end Lw

namespace Lw
open PySem Mm L2
theorem cut2 {a b : W} {ws : List W} : cutW (a :: b :: ws) (some 2) none = ws := by
  unfold cutW HT.sIx
  simp
theorem sat_named {w : W} {S : Sto} {Q : W → Sto → Prop} (g : WS S) (h : datW w = true) : Sat (m__law_named [w] S) Q = Q (.bl (nmW w)) S := by
  refine sat_eq (sat_to ?_) Q
  cases w with
  | str x =>
    have hz := comS_len (x := x) h
    have hc : ∀ c, c ∈ x.cps.toList → c < 128 := fun c hc => of_decide_eq_true (List.all_eq_true.mp (Bool.and_eq_true_iff.mp h).2 c hc)
    simp only [m__law_named, c__law_named, sats, if_pos hz, fin_bl g, itemsOf, nmW, nmL]
    rw [Str_len]
    rw [Str_len] at hz
    cases q : x.cps.toList with
    | nil => simp
    | cons c cs =>
      rw [q] at hz hc
      simp only [at0, ex_eq]
      have h1 : ¬((c :: cs).length : Int) < 1 := by simp; omega
      by_cases h6 : (c :: cs).length ≤ 6
      · have h6' : ¬(6 : Int) < (c :: cs).length := by omega
        rw [low_com c (hc c List.mem_cons_self)]
        cases hl : isLet c with
        | false => simp [h6, h6', h1, sats, fin_bl g]
        | true =>
          simp only [h1, h6, h6', decide_true, decide_false, ifT, ifF, Bool.false_eq_true, ifF2, ex_eq, sat_andV, sat_m0, sat_c, sat_lc, p_lower, andK_bl]
          refine lc_sat (fun w => .bl (sgnW w)) (fun w hw => ?_) (by rw [List.length_map]; exact hz) ?_
          · obtain ⟨d, hd, rfl⟩ := List.mem_map.mp hw
            simp only [sats, sgnW, low_com d (hc d hd), dig_com d (hc d hd), isSgn]
            cases isLet d <;> simp [sats]
          · refine ⟨_, bools_map sgnW, ?_⟩
            rw [List.all_map, fin_bl g]
            exact ⟨by rw [show (id ∘ sgnW) = sgnW from rfl, all_sgn]; simp, rfl⟩
      · have h6' : (6 : Int) < (c :: cs).length := by omega
        simp only [h1, h6, h6', decide_true, decide_false, ifT, ifF, fin_bl g]
        simp
  | non => simp only [m__law_named, c__law_named, sats, fin_bl g, nmW, and_self]
  | bl b => simp only [m__law_named, c__law_named, sats, fin_bl g, nmW, and_self]
  | int i => simp only [m__law_named, c__law_named, sats, fin_bl g, nmW, and_self]
  | tup ws => simp only [m__law_named, c__law_named, sats, fin_bl g, nmW, and_self]
  | lst ws => simp only [m__law_named, c__law_named, sats, fin_bl g, nmW, and_self]
  | dct ks ws => simp only [m__law_named, c__law_named, sats, fin_bl g, nmW, and_self]
  | _ => unfold datW at h; cases h
theorem sat_told {a b : Bool} {S : Sto} {Q : W → Sto → Prop} (g : WS S) : Sat (m__law_told [.bl a, .bl b] S) Q = Q (.bl (decide (a = b))) S := by
  simp only [m__law_told, c__law_told, sats, fin_bl g]
theorem in3 {x : Str} {S : Sto} : inW (.str x) (.lst [.str "look", .str "show", .str "take"]) S = some (decide (("look" : Str) = x) || (decide (("show" : Str) = x) || decide (("take" : Str) = x))) := by
  show some _ = some _
  simp only [List.any, eqF, Bool.or_false]
  rfl
theorem in123 {i : Int} {S : Sto} : inW (.int i) (.lst [.int 1, .int 2, .int 3]) S = some (decide ((1 : Int) = i) || (decide ((2 : Int) = i) || decide ((3 : Int) = i))) := by
  show some _ = some _
  simp only [List.any, eqF, Bool.or_false]
  rfl
def dueTail : W → Prop := fun _ => True
theorem cmd_bad {x : Str} {a : W} {ws : List W} (hn : nmW a = false) : cmdW (.tup (.str x :: a :: ws)) = false := by
  unfold cmdW
  rcases ws with _ | ⟨b, _ | ⟨c, _ | ⟨d, ws⟩⟩⟩ <;> simp [hn]
theorem dec_eq {p : Prop} [Decidable p] (h : p = True) : decide p = true := decide_eq_true (h ▸ trivial)
theorem due_put {a : W} {ws : List W} {S : Sto} (g : WS S) (ha : datW a = true) (h : datWs ws = true) (hn : nmW a = true) : Sat (m__law_due [.tup (.str "put" :: a :: ws)] S) fun b T => b = .bl (cmdW (.tup (.str "put" :: a :: ws))) ∧ T = S := by
  have e1 : ¬(((ws.length + 1 + 1 : Nat)) : Int) < 2 := by omega
  simp only [m__law_due, c__law_due, sizeLine, sats, sat_named g ha, fin_bl g, cut2, in3, hn, e1, decide_false, keysNe, decide_true, Bool.or_true, Bool.or_false, Bool.true_or, Bool.false_or, in123]
  rcases ws with _ | ⟨b, _ | ⟨c, _ | ⟨d, ws⟩⟩⟩
  · simp [sats, fin_bl g, cmdW, keysNe, hn]
  · simp only [datWs, Bool.and_eq_true] at h
    simp [sats, fin_bl g, cmdW, keysNe, hn, sat_in g h.1, sat_named g h.1]
  · simp [sats, fin_bl g, cmdW, keysNe, hn]
  · simp [sats, fin_bl g, cmdW, keysNe, hn]
    try omega
theorem due_copy {a : W} {ws : List W} {S : Sto} (g : WS S) (ha : datW a = true) (h : datWs ws = true) (hn : nmW a = true) : Sat (m__law_due [.tup (.str "copy" :: a :: ws)] S) fun b T => b = .bl (cmdW (.tup (.str "copy" :: a :: ws))) ∧ T = S := by
  have e1 : ¬(((ws.length + 1 + 1 : Nat)) : Int) < 2 := by omega
  simp only [m__law_due, c__law_due, sizeLine, sats, sat_named g ha, fin_bl g, cut2, in3, hn, e1, decide_false, keysNe, decide_true, Bool.or_true, Bool.or_false, Bool.true_or, Bool.false_or, in123]
  rcases ws with _ | ⟨b, _ | ⟨c, _ | ⟨d, ws⟩⟩⟩
  · simp [sats, fin_bl g, cmdW, keysNe, hn]
  · simp only [datWs, Bool.and_eq_true] at h
    simp [sats, fin_bl g, cmdW, keysNe, hn, sat_in g h.1, sat_named g h.1]
  · simp [sats, fin_bl g, cmdW, keysNe, hn]
  · simp [sats, fin_bl g, cmdW, keysNe, hn]
    try omega
theorem due_reckon {a : W} {ws : List W} {S : Sto} (g : WS S) (ha : datW a = true) (h : datWs ws = true) (hn : nmW a = true) : Sat (m__law_due [.tup (.str "reckon" :: a :: ws)] S) fun b T => b = .bl (cmdW (.tup (.str "reckon" :: a :: ws))) ∧ T = S := by
  have e1 : ¬(((ws.length + 1 + 1 : Nat)) : Int) < 2 := by omega
  simp only [m__law_due, c__law_due, sizeLine, sats, sat_named g ha, fin_bl g, cut2, in3, hn, e1, decide_false, keysNe, decide_true, Bool.or_true, Bool.or_false, Bool.true_or, Bool.false_or, in123]
  rcases ws with _ | ⟨b, _ | ⟨c, _ | ⟨d, ws⟩⟩⟩
  · simp [sats, fin_bl g, cmdW, keysNe, hn]
  · simp [sats, fin_bl g, cmdW, keysNe, hn]
  · simp only [datWs, Bool.and_eq_true] at h
    cases b with
    | tup us =>
      have hu : datWs us = true := by simpa [datW] using h.1
      simp only [sats, fin_bl g, cmdW, keysNe, hn, in123, itemsOf, nmsW]
      by_cases h3 : 1 ≤ us.length ∧ us.length ≤ 3
      · have e3 : (decide ((1 : Int) = us.length) || (decide ((2 : Int) = us.length) || decide ((3 : Int) = us.length))) = true := by simp; omega
        simp only [e3, sats]
        refine lc_sat (fun w => .bl (nmW w)) (fun w hw => ?_) (Nat.le_trans h3.2 (by decide)) ?_
        · simp only [sats, sat_named g (datWs_mem hu hw), and_self]
        · refine ⟨_, bools_map nmW, ?_⟩
          rw [List.all_map, show (id ∘ nmW) = nmW from rfl]
          cases hq : us.all nmW with
          | false => simp [sats, fin_bl g, hq]
          | true => simp [sats, fin_bl g, hq, sat_named g h.2.1, h3]
      · have e3 : (decide ((1 : Int) = us.length) || (decide ((2 : Int) = us.length) || decide ((3 : Int) = us.length))) = false := by simp; omega
        have e4 : (decide (1 ≤ us.length) && (decide (us.length ≤ 3) && us.all nmW)) = false := by
          cases hq : us.all nmW <;> simp <;> omega
        simp [e3, sats, fin_bl g, e4]
    | non => simp [sats, fin_bl g, cmdW, keysNe, hn, nmsW]
    | bl x => simp [sats, fin_bl g, cmdW, keysNe, hn, nmsW]
    | int x => simp [sats, fin_bl g, cmdW, keysNe, hn, nmsW]
    | str x => simp [sats, fin_bl g, cmdW, keysNe, hn, nmsW]
    | lst x => simp [sats, fin_bl g, cmdW, keysNe, hn, nmsW]
    | dct x y => simp [sats, fin_bl g, cmdW, keysNe, hn, nmsW]
    | _ => have := h.1; unfold datW at this; cases this
  · simp [sats, fin_bl g, cmdW, keysNe, hn]
    try omega
theorem due_look {a : W} {ws : List W} {S : Sto} (g : WS S) (ha : datW a = true) (h : datWs ws = true) (hn : nmW a = true) : Sat (m__law_due [.tup (.str "look" :: a :: ws)] S) fun b T => b = .bl (cmdW (.tup (.str "look" :: a :: ws))) ∧ T = S := by
  have e1 : ¬(((ws.length + 1 + 1 : Nat)) : Int) < 2 := by omega
  simp only [m__law_due, c__law_due, sizeLine, sats, sat_named g ha, fin_bl g, cut2, in3, hn, e1, decide_false, keysNe, decide_true, Bool.or_true, Bool.or_false, Bool.true_or, Bool.false_or, in123]
  rcases ws with _ | ⟨b, _ | ⟨c, _ | ⟨d, ws⟩⟩⟩
  · simp [sats, fin_bl g, cmdW, keysNe, hn]
  · simp [sats, fin_bl g, cmdW, keysNe, hn]
  · simp [sats, fin_bl g, cmdW, keysNe, hn]
  · simp [sats, fin_bl g, cmdW, keysNe, hn]
    try omega
theorem due_show {a : W} {ws : List W} {S : Sto} (g : WS S) (ha : datW a = true) (h : datWs ws = true) (hn : nmW a = true) : Sat (m__law_due [.tup (.str "show" :: a :: ws)] S) fun b T => b = .bl (cmdW (.tup (.str "show" :: a :: ws))) ∧ T = S := by
  have e1 : ¬(((ws.length + 1 + 1 : Nat)) : Int) < 2 := by omega
  simp only [m__law_due, c__law_due, sizeLine, sats, sat_named g ha, fin_bl g, cut2, in3, hn, e1, decide_false, keysNe, decide_true, Bool.or_true, Bool.or_false, Bool.true_or, Bool.false_or, in123]
  rcases ws with _ | ⟨b, _ | ⟨c, _ | ⟨d, ws⟩⟩⟩
  · simp [sats, fin_bl g, cmdW, keysNe, hn]
  · simp [sats, fin_bl g, cmdW, keysNe, hn]
  · simp [sats, fin_bl g, cmdW, keysNe, hn]
  · simp [sats, fin_bl g, cmdW, keysNe, hn]
    try omega
theorem due_wait {a : W} {ws : List W} {S : Sto} (g : WS S) (ha : datW a = true) (h : datWs ws = true) (hn : nmW a = true) : Sat (m__law_due [.tup (.str "wait" :: a :: ws)] S) fun b T => b = .bl (cmdW (.tup (.str "wait" :: a :: ws))) ∧ T = S := by
  have e1 : ¬(((ws.length + 1 + 1 : Nat)) : Int) < 2 := by omega
  simp only [m__law_due, c__law_due, sizeLine, sats, sat_named g ha, fin_bl g, cut2, in3, hn, e1, decide_false, keysNe, decide_true, Bool.or_true, Bool.or_false, Bool.true_or, Bool.false_or, in123]
  rcases ws with _ | ⟨b, _ | ⟨c, _ | ⟨d, ws⟩⟩⟩
  · simp [sats, fin_bl g, cmdW, keysNe, hn]
  · simp only [datWs, Bool.and_eq_true] at h
    simp [sats, fin_bl g, cmdW, keysNe, hn, sat_in g h.1, sat_named g h.1]
  · simp [sats, fin_bl g, cmdW, keysNe, hn]
  · simp [sats, fin_bl g, cmdW, keysNe, hn]
    try omega
theorem due_set {a : W} {ws : List W} {S : Sto} (g : WS S) (ha : datW a = true) (h : datWs ws = true) (hn : nmW a = true) : Sat (m__law_due [.tup (.str "set" :: a :: ws)] S) fun b T => b = .bl (cmdW (.tup (.str "set" :: a :: ws))) ∧ T = S := by
  have e1 : ¬(((ws.length + 1 + 1 : Nat)) : Int) < 2 := by omega
  simp only [m__law_due, c__law_due, sizeLine, sats, sat_named g ha, fin_bl g, cut2, in3, hn, e1, decide_false, keysNe, decide_true, Bool.or_true, Bool.or_false, Bool.true_or, Bool.false_or, in123]
  rcases ws with _ | ⟨b, _ | ⟨c, _ | ⟨d, ws⟩⟩⟩
  · simp [sats, fin_bl g, cmdW, keysNe, hn]
  · simp only [datWs, Bool.and_eq_true] at h
    cases hi : inR 1 99 b <;> simp [sats, fin_bl g, cmdW, keysNe, hn, sat_in g h.1, sat_named g h.1, hi]
  · simp [sats, fin_bl g, cmdW, keysNe, hn]
  · simp [sats, fin_bl g, cmdW, keysNe, hn]
    try omega
theorem due_give {a : W} {ws : List W} {S : Sto} (g : WS S) (ha : datW a = true) (h : datWs ws = true) (hn : nmW a = true) : Sat (m__law_due [.tup (.str "give" :: a :: ws)] S) fun b T => b = .bl (cmdW (.tup (.str "give" :: a :: ws))) ∧ T = S := by
  have e1 : ¬(((ws.length + 1 + 1 : Nat)) : Int) < 2 := by omega
  simp only [m__law_due, c__law_due, sizeLine, sats, sat_named g ha, fin_bl g, cut2, in3, hn, e1, decide_false, keysNe, decide_true, Bool.or_true, Bool.or_false, Bool.true_or, Bool.false_or, in123]
  rcases ws with _ | ⟨b, _ | ⟨c, _ | ⟨d, ws⟩⟩⟩
  · simp [sats, fin_bl g, cmdW, keysNe, hn]
  · simp only [datWs, Bool.and_eq_true] at h
    simp [sats, fin_bl g, cmdW, keysNe, hn, sat_in g h.1, sat_named g h.1]
  · simp [sats, fin_bl g, cmdW, keysNe, hn]
  · simp [sats, fin_bl g, cmdW, keysNe, hn]
    try omega
theorem due_take {a : W} {ws : List W} {S : Sto} (g : WS S) (ha : datW a = true) (h : datWs ws = true) (hn : nmW a = true) : Sat (m__law_due [.tup (.str "take" :: a :: ws)] S) fun b T => b = .bl (cmdW (.tup (.str "take" :: a :: ws))) ∧ T = S := by
  have e1 : ¬(((ws.length + 1 + 1 : Nat)) : Int) < 2 := by omega
  simp only [m__law_due, c__law_due, sizeLine, sats, sat_named g ha, fin_bl g, cut2, in3, hn, e1, decide_false, keysNe, decide_true, Bool.or_true, Bool.or_false, Bool.true_or, Bool.false_or, in123]
  rcases ws with _ | ⟨b, _ | ⟨c, _ | ⟨d, ws⟩⟩⟩
  · simp [sats, fin_bl g, cmdW, keysNe, hn]
  · simp [sats, fin_bl g, cmdW, keysNe, hn]
  · simp [sats, fin_bl g, cmdW, keysNe, hn]
  · simp [sats, fin_bl g, cmdW, keysNe, hn]
    try omega
theorem sat_due {w : W} {S : Sto} {Q : W → Sto → Prop} (g : WS S) (h : datW w = true) : Sat (m__law_due [w] S) Q = Q (.bl (cmdW w)) S := by
  refine sat_eq (sat_to ?_) Q
  cases w with
  | tup us =>
    rcases us with _ | ⟨a, _ | ⟨b, ws⟩⟩
    · simp [m__law_due, c__law_due, sizeLine, sats, fin_bl g, cmdW]
    · cases a with
      | str x => simp [m__law_due, c__law_due, sizeLine, sats, fin_bl g, cmdW]
      | _ => simp [m__law_due, c__law_due, sizeLine, sats, fin_bl g, cmdW]
    · have hd : datW a = true ∧ datW b = true ∧ datWs ws = true := by simpa [datW, datWs, Bool.and_assoc] using h
      have e1 : ¬(((ws.length + 1 + 1 : Nat)) : Int) < 2 := by omega
      cases a with
      | str x =>
        cases hn : nmW b with
        | false =>
          rw [cmd_bad hn]
          simp only [m__law_due, c__law_due, sizeLine, sats, sat_named g hd.2.1, fin_bl g, hn, e1, decide_false, and_self]
        | true =>
          by_cases h0 : x = ("put" : Str)
          · subst h0; exact due_put g hd.2.1 hd.2.2 hn
          by_cases h1 : x = ("copy" : Str)
          · subst h1; exact due_copy g hd.2.1 hd.2.2 hn
          by_cases h2 : x = ("reckon" : Str)
          · subst h2; exact due_reckon g hd.2.1 hd.2.2 hn
          by_cases h3 : x = ("look" : Str)
          · subst h3; exact due_look g hd.2.1 hd.2.2 hn
          by_cases h4 : x = ("show" : Str)
          · subst h4; exact due_show g hd.2.1 hd.2.2 hn
          by_cases h5 : x = ("wait" : Str)
          · subst h5; exact due_wait g hd.2.1 hd.2.2 hn
          by_cases h6 : x = ("set" : Str)
          · subst h6; exact due_set g hd.2.1 hd.2.2 hn
          by_cases h7 : x = ("give" : Str)
          · subst h7; exact due_give g hd.2.1 hd.2.2 hn
          by_cases h8 : x = ("take" : Str)
          · subst h8; exact due_take g hd.2.1 hd.2.2 hn
          simp only [m__law_due, c__law_due, sizeLine, sats, sat_named g hd.2.1, fin_bl g, cut2, in3, hn, e1, decide_false, h0, h1, h2, h3, h4, h5, h6, h7, h8, Ne.symm h3, Ne.symm h4, Ne.symm h8, Bool.or_false, Bool.false_or, cmdW]
          rw [if_pos (by decide)]
          split <;> exact ⟨rfl, trivial⟩
      | non => simp only [m__law_due, c__law_due, sizeLine, sats, fin_bl g, e1, decide_false, cmdW, and_self]
      | bl x => simp only [m__law_due, c__law_due, sizeLine, sats, fin_bl g, e1, decide_false, cmdW, and_self]
      | int x => simp only [m__law_due, c__law_due, sizeLine, sats, fin_bl g, e1, decide_false, cmdW, and_self]
      | tup x => simp only [m__law_due, c__law_due, sizeLine, sats, fin_bl g, e1, decide_false, cmdW, and_self]
      | lst x => simp only [m__law_due, c__law_due, sizeLine, sats, fin_bl g, e1, decide_false, cmdW, and_self]
      | dct x y => simp only [m__law_due, c__law_due, sizeLine, sats, fin_bl g, e1, decide_false, cmdW, and_self]
      | _ => have := hd.1; unfold datW at this; cases this
  | non => simp [m__law_due, c__law_due, sizeLine, sats, fin_bl g, cmdW]
  | bl x => simp [m__law_due, c__law_due, sizeLine, sats, fin_bl g, cmdW]
  | int x => simp [m__law_due, c__law_due, sizeLine, sats, fin_bl g, cmdW]
  | str x => simp [m__law_due, c__law_due, sizeLine, sats, fin_bl g, cmdW]
  | lst x => simp [m__law_due, c__law_due, sizeLine, sats, fin_bl g, cmdW]
  | dct x y => simp [m__law_due, c__law_due, sizeLine, sats, fin_bl g, cmdW]
  | _ => unfold datW at h; cases h
end Lw

namespace Lw
open PySem Mm L2
abbrev cs (x : Str) : List Nat := x.cps.toList
theorem cs_app (x y : Str) : cs (x ++ y) = cs x ++ cs y := by
  show (x.cps ++ y.cps).toList = _
  simp
abbrev SIG : Str := "abcdefghijklmnopqrstuvwxyz0123456789"
theorem signs_at : ∀ r, r < 36 → (cs SIG)[r]? = some (if r < 26 then 97 + r else 22 + r) := by decide +kernel
theorem sig_at {r : Int} (h0 : 0 ≤ r) (h : r < 36) : ∃ c, atI (cs SIG) r = some c ∧ isSgn c = true ∧ (r < 26 → isLet c = true) := by
  have e := signs_at r.toNat (by omega)
  refine ⟨if r.toNat < 26 then 97 + r.toNat else 22 + r.toNat, ?_, ?_, ?_⟩
  · unfold atI ixN
    rw [if_pos h0, if_pos (by rw [show (cs SIG).length = 36 by decide +kernel]; omega)]
    exact e
  · unfold isSgn isLet isDig
    split <;> simp <;> omega
  · intro h2
    rw [if_pos (by omega)]
    unfold isLet
    simp
    omega
theorem sgnW_of {w : W} (h : sgnW w = true) : ∃ c, w = .str ⟨#[c]⟩ ∧ isSgn c = true := by
  unfold sgnW at h
  split at h
  · rename_i x
    split at h
    · rename_i c q
      refine ⟨c, ?_, h⟩
      have : x = ⟨#[c]⟩ := by
        cases x with
        | mk a =>
          have : a = #[c] := by
            apply Array.toList_inj.mp
            exact q
          rw [this]
      rw [this]
    · cases h
  · cases h
/-- a list of single signs, joined -/
theorem join_sgn : ∀ {ws : List W}, (∀ w, w ∈ ws → sgnW w = true) → ∃ ts, textsW ws = some ts ∧ ts.length = ws.length ∧ (ts.map (·.length)).sum = ws.length ∧ (cs (Txt.join "" ts)).length = ws.length ∧ (cs (Txt.join "" ts)).all isSgn = true
  | [], _ => ⟨[], rfl, rfl, rfl, rfl, rfl⟩
  | [w], h => by
    obtain ⟨c, rfl, hc⟩ := sgnW_of (h w List.mem_cons_self)
    exact ⟨[⟨#[c]⟩], rfl, rfl, rfl, rfl, by show (isSgn c && true) = true; rw [hc]; rfl⟩
  | w :: u :: ws, h => by
    obtain ⟨c, rfl, hc⟩ := sgnW_of (h w List.mem_cons_self)
    obtain ⟨ts, h1, h2, h3, h4, h5⟩ := join_sgn (ws := u :: ws) fun v hv => h v (List.mem_cons_of_mem _ hv)
    refine ⟨⟨#[c]⟩ :: ts, ?_, by simp [h2], ?_, ?_, ?_⟩
    · show (textsW (u :: ws)).map (_ :: ·) = _
      rw [h1]
      rfl
    · simp only [List.map_cons, List.sum_cons, h3]
      show 1 + _ = _
      simp
      omega
    all_goals
      cases ts with
      | nil => simp at h2
      | cons t ts =>
        have e : cs (Txt.join "" (⟨#[c]⟩ :: t :: ts)) = [c] ++ cs (Txt.join "" (t :: ts)) := by
          rw [show Txt.join "" (⟨#[c]⟩ :: t :: ts) = Str.join "" (⟨#[c]⟩ :: t :: ts) from StrLaws.glued_eq_join _ _, show Txt.join "" (t :: ts) = Str.join "" (t :: ts) from StrLaws.glued_eq_join _ _]
          show cs (⟨#[c]⟩ ++ ("" : Str) ++ Str.join "" (t :: ts)) = _
          rw [cs_app, cs_app]
          rfl
        rw [e]
        first
          | (rw [List.length_append, h4]; simp; omega)
          | (rw [List.all_append, h5, Bool.and_true]; show (isSgn c && true) = true; rw [hc]; rfl)

/-! names -/
theorem nmL_iff {l : List Nat} : nmL l = true ↔ ∃ c r, l = c :: r ∧ r.length ≤ 5 ∧ isLet c = true ∧ r.all isSgn = true := by
  unfold nmL
  cases l with
  | nil => simp
  | cons c r =>
    simp only [List.length_cons, List.all_cons, Bool.and_eq_true, decide_eq_true_eq]
    constructor
    · rintro ⟨_, h1, h2, _, h3⟩
      exact ⟨c, r, rfl, by omega, h2, h3⟩
    · rintro ⟨_, _, e, h1, h2, h3⟩
      cases e
      exact ⟨by omega, by omega, h2, by unfold isSgn; rw [h2]; rfl, h3⟩
theorem sgn_com {c : Nat} (h : isSgn c = true) : c < 128 := by
  unfold isSgn isLet isDig at h
  simp at h
  omega
theorem nmW_of {w : W} (h : nmW w = true) : ∃ x, w = .str x ∧ nmL (cs x) = true := by
  cases w with
  | str x => exact ⟨x, rfl, h⟩
  | _ => cases h
theorem nmL_len {x : Str} (h : nmL (cs x) = true) : 1 ≤ x.length ∧ x.length ≤ 6 := by
  rw [Str_len]
  unfold nmL at h
  simp at h
  exact ⟨by have := h.1; omega, h.2.1⟩
theorem nmL_sgn {x : Str} (h : nmL (cs x) = true) : (cs x).all isSgn = true := by
  unfold nmL at h
  simp only [Bool.and_eq_true] at h
  exact h.2.2.2
theorem com_of {x : Str} (h : (cs x).length ≤ 1000) (h2 : (cs x).all isSgn = true) : comS x = true :=
  Bool.and_eq_true_iff.mpr ⟨decide_eq_true h, List.all_eq_true.mpr fun c hc => decide_eq_true (sgn_com (List.all_eq_true.mp h2 c hc))⟩
theorem nmW_dat {w : W} (h : nmW w = true) : datW w = true := by
  obtain ⟨x, rfl, hx⟩ := nmW_of h
  exact com_of (by have := (nmL_len hx).2; rw [Str_len] at this; exact Nat.le_trans this (by decide)) (nmL_sgn hx)
theorem nmW_flat {w : W} (h : nmW w = true) : flatW w = true := by
  obtain ⟨x, rfl, hx⟩ := nmW_of h
  rfl
theorem cs_cut5 (x : Str) : cs (cutS x none (some 5)) = (cs x).take 5 := by
  unfold cutS HT.sIx
  simp only [List.drop_zero, Nat.sub_zero]
  rw [if_neg (by decide), Str_len]
  show List.take (min 5 _) _ = _
  exact List.take_eq_take_min.symm
theorem nm_spare {x : Str} {c : Nat} (h : nmL (cs x) = true) (hc : isSgn c = true) : nmL (cs (cutS x none (some 5) ++ ⟨#[c]⟩)) = true := by
  obtain ⟨d, r, e, h1, h2, h3⟩ := nmL_iff.mp h
  refine nmL_iff.mpr ⟨d, r.take 4 ++ [c], ?_, ?_, h2, ?_⟩
  · rw [cs_app, cs_cut5, e]
    rfl
  · simp
    omega
  · rw [List.all_append]
    refine Bool.and_eq_true_iff.mpr ⟨?_, ?_⟩
    · exact List.all_eq_true.mpr fun u hu => List.all_eq_true.mp h3 u (List.mem_of_mem_take hu)
    · show (isSgn c && true) = true
      rw [hc]
      rfl
/-- a comprehension with a test -/
theorem lc_filter {ρ : Mm.Env} {g : MG} {t : MW Bool} {e : MV} {p : W → Bool} : ∀ (ws acc : List W) (S : Sto), (∀ w, w ∈ ws → Sat (g w ρ S) fun ρ1 S1 => Sat (t ρ1 S1) fun b S2 => b = p w ∧ S2 = S ∧ (b = true → Sat (e ρ1 S2) fun y S3 => y = w ∧ S3 = S)) → acc.length + ws.length ≤ sizeLine → mLcLoop g t e ρ ws acc S = .ok (acc ++ ws.filter p) S
  | [], acc, S, _, _ => by simp [mLcLoop]
  | w :: ws, acc, S, h, hz => by
    have hz' : acc.length + (ws.length + 1) ≤ sizeLine := by simpa using hz
    refine sat_to ?_
    rw [sat_lcloop1, sat_turn]
    refine (h w List.mem_cons_self).mono fun ρ1 S1 h2 => h2.mono fun b S2 ⟨e1, e2, h3⟩ => ?_
    subst e1
    subst e2
    cases hp : p w with
    | false =>
      rw [ifF]
      show Sat (mLcLoop g t e ρ ws acc S2) _
      rw [lc_filter ws acc S2 (fun u hu => h u (List.mem_cons_of_mem _ hu)) (by omega), List.filter_cons, hp]
      exact ⟨by simp, rfl⟩
    | true =>
      rw [ifT]
      refine (h3 hp).mono fun y S3 ⟨e1, e2⟩ => ?_
      subst e1
      subst e2
      show if acc.length < sizeLine then _ else False
      rw [if_pos (by omega), lc_filter ws (acc ++ [y]) S3 (fun u hu => h u (List.mem_cons_of_mem _ hu)) (by simp; omega), List.filter_cons, hp]
      exact ⟨by simp, rfl⟩

/-- more unlike things than the list holds: one is not in it -/
theorem pigeon : ∀ {xs : List Str} {ys : List Str}, xs.Nodup → (∀ x, x ∈ xs → x ∈ ys) → xs.length ≤ ys.length
  | [], _, _, _ => Nat.zero_le _
  | x :: xs, ys, nd, h => by
    have h1 := h x List.mem_cons_self
    have h2 := pigeon (xs := xs) (ys := ys.erase x) (List.nodup_cons.mp nd).2 fun z hz => (List.mem_erase_of_ne (fun (e : z = x) => (List.nodup_cons.mp nd).1 (show x ∈ xs by rw [← e]; exact hz))).mpr (h z (List.mem_cons_of_mem _ hz))
    rw [List.length_erase_of_mem h1] at h2
    have := List.length_pos_of_mem h1
    simp
    omega
def strW : W → Str
  | .str x => x
  | _ => ""
def spares (x : Str) : List Str := (cs SIG).map fun c => cutS x none (some 5) ++ ⟨#[c]⟩
theorem spares_nd (x : Str) : (spares x).Nodup := by
  unfold spares
  refine List.Pairwise.map _ (fun a b hab h => hab ?_) (show (cs SIG).Nodup by decide +kernel)
  have := congrArg cs h
  rw [cs_app, cs_app] at this
  have := List.append_cancel_left this
  simpa using this
theorem any_mem {ks : List W} {x : Str} (hk : ∀ w, w ∈ ks → nmW w = true) : (ks.any fun y => eqF y (.str x)) = true ↔ x ∈ ks.map strW := by
  rw [List.any_eq_true, List.mem_map]
  constructor
  · rintro ⟨w, hw, e⟩
    obtain ⟨z, rfl, _⟩ := nmW_of (hk w hw)
    have : z = x := by simpa [eqF] using e
    exact ⟨_, hw, this⟩
  · rintro ⟨w, hw, e⟩
    obtain ⟨z, rfl, _⟩ := nmW_of (hk w hw)
    exact ⟨_, hw, by have : z = x := e; simp [eqF, this]⟩
theorem in_loc {S : Sto} {l : Nat} {ks : List W} {w : W} (e : S[l]? = some (.lst ks)) (hw : nmW w = true) (hk : ∀ w, w ∈ ks → nmW w = true) : inW w (.loc l) S = some (ks.any fun y => eqF y w) := by
  obtain ⟨x, rfl, _⟩ := nmW_of hw
  unfold inW
  simp only
  have : seqA S (.loc l) = some ks := by
    unfold seqA seqL
    simp only [e]
  rw [this]
  simp only
  rw [if_pos ⟨rfl, List.all_eq_true.mpr fun u hu => nmW_flat (hk u hu)⟩]
theorem tail_sat {n i m : Nat} {T S : Sto} {ks : List W} {a b : W} {x : Str} {Q : W → Sto → Prop} (g : Gd n T S) (hm : m = n + T.length) (hT : T[i]? = some (.lst ks)) (hk : ∀ w, w ∈ ks → nmW w = true) (hl : ks.length < 36) (hx : nmL (cs x) = true)
    (k : ∀ w, nmW w = true → (ks.any fun y => eqF y w) = false → Q w S) : Sat (c__law_term_4 [some a, some (.loc (n + i)), some b, some (.str SIG), some (.str x), none, none, none, none] S) (finK m Q) := by
  have hz : x.length ≤ 2 ^ 24 := Nat.le_trans (nmL_len hx).2 (by decide)
  simp only [c__law_term_4, sats, sizeLine, itemsOf]
  refine lc_sat (fun w => .str (cutS x none (some 5) ++ strW w)) (fun w hw => ?_) (by rw [List.length_map]; decide +kernel) ?_
  · obtain ⟨c, hc, rfl⟩ := List.mem_map.mp hw
    simp only [sats, sizeLine, if_pos hz]
    rw [if_pos ?_]
    · exact ⟨rfl, trivial⟩
    · rw [Str_len]
      show (cs (cutS x none (some 5))).length + 1 ≤ _
      rw [cs_cut5]
      simp
      omega
  rw [List.map_map]
  have e1 : ((cs SIG).map ((fun w => W.str (cutS x none (some 5) ++ strW w)) ∘ fun c => W.str ⟨#[c]⟩)) = (spares x).map W.str := by
    unfold spares
    rw [List.map_map]
    rfl
  rw [e1]
  have hs : ∀ w, w ∈ W.str x :: (spares x).map W.str → nmW w = true := by
    intro w hw
    rcases List.mem_cons.mp hw with rfl | hw
    · exact hx
    · obtain ⟨y, hy, rfl⟩ := List.mem_map.mp hw
      obtain ⟨c, hc, rfl⟩ := List.mem_map.mp hy
      have hc' : isSgn c = true := by
        rw [← in_signs]
        exact decide_eq_true hc
      exact nm_spare hx hc'
  have hlen : (spares x).length = 36 := by unfold spares; rw [List.length_map]; decide +kernel
  rw [if_pos (by rw [List.length_map, hlen]; decide)]
  simp only [List.cons_append, List.nil_append]
  have e2 : S[n + i]? = some (.lst ks) := (g.get i).trans hT
  rw [lc_filter (p := fun w => !(ks.any fun y => eqF y w)) _ [] S (fun w hw => ?_) (by simp [hlen, sizeLine])]
  · have hne : ((W.str x :: (spares x).map W.str).filter fun w => !(ks.any fun y => eqF y w)) ≠ [] := by
      intro h0
      have all : ∀ z, z ∈ spares x → z ∈ ks.map strW := by
        intro z hz
        have := (List.filter_eq_nil_iff.mp h0) (W.str z) (List.mem_cons_of_mem _ (List.mem_map_of_mem hz))
        refine (any_mem hk).mp ?_
        simpa using this
      have := pigeon (spares_nd x) all
      rw [hlen, List.length_map] at this
      omega
    cases hf : (W.str x :: (spares x).map W.str).filter fun w => !(ks.any fun y => eqF y w) with
    | nil => exact absurd hf hne
    | cons w rest =>
      have hw : w ∈ (W.str x :: (spares x).map W.str).filter fun w => !(ks.any fun y => eqF y w) := by rw [hf]; exact List.mem_cons_self
      obtain ⟨hw1, hw2⟩ := List.mem_filter.mp hw
      have hn := hs w hw1
      rw [sat_ok]
      simp only [List.nil_append, sats]
      refine fin_sat0 g hm (datW_bel (nmW_dat hn)) (k w hn (by simpa using hw2))
  · simp only [sats, in_loc e2 (hs w hw) hk]
    exact ⟨trivial, trivial, fun _ => ⟨trivial, trivial⟩⟩
end Lw

namespace Lw
open PySem Mm L2
abbrev MENU : List W := [.str "put", .str "copy", .str "reckon", .str "look", .str "show", .str "wait", .str "set", .str "give", .str "take", .str "room", .str "lane", .str "at", .str "of", .str "none", .str "ok", .str "begin"]
theorem menu_nm : MENU.all nmW = true := by decide +kernel
theorem term_sat {n j i : Nat} {T S : Sto} {ks : List W} {Q : W → Sto → Prop} (g : Gd n T S) (hj : j < n) (hT : T[i]? = some (.lst ks)) (hk : ∀ w, w ∈ ks → nmW w = true) (hl : ks.length < 36)
    (k : ∀ w S', Gd n T S' → nmW w = true → (ks.any fun y => eqF y w) = false → Q w S') : Sat (m__law_term [.loc j, .loc (n + i)] S) Q := by
  have hm : S.length = n + T.length := g.len
  simp only [m__law_term, c__law_term, sats, sizeLine, hm]
  refine draw_sat g hj (by decide) (by decide) fun r S1 g1 h0 h1 => ?_
  simp only [sats, List.cons_append, List.nil_append]
  obtain ⟨w, hw, e⟩ := at_in (xs := MENU) h0 h1
  refine ⟨w, e, ?_⟩
  have hw2 : nmW w = true := List.all_eq_true.mp menu_nm w hw
  obtain ⟨x, rfl, hx⟩ := nmW_of hw2
  refine draw_sat g1 hj (by decide) (by decide) fun r2 S2 g2 h02 h12 => ?_
  simp only [sats]
  by_cases h3 : 0 < r2
  · rw [if_pos (decide_eq_true h3)]
    refine draw_sat g2 hj (by decide) (by decide) fun r3 S3 g3 h03 h13 => ?_
    simp only [sats]
    rw [if_pos (by decide +kernel)]
    obtain ⟨c, ec, hc1, hc2⟩ := sig_at h03 (by omega)
    refine ⟨c, ec, ?_⟩
    refine draw_sat g3 hj (by decide) (by decide) fun r4 S4 g4 h04 h14 => ?_
    refine ⟨r4, rfl, by omega, by omega, ?_⟩
    refine lc_inv (I := fun ws acc S' => Gd n T S' ∧ acc.length + ws.length = r4.toNat ∧ ∀ w, w ∈ acc → sgnW w = true) ?_ ?_ _ _ _ ⟨g4, by simp [rngW], fun _ h => by cases h⟩
    · rintro acc S' ⟨g', hl', hacc⟩
      simp only [List.length_nil, Nat.add_zero] at hl'
      obtain ⟨ts, t1, t2, t3, t4, t5⟩ := join_sgn hacc
      refine ⟨ts, t1, ?_⟩
      rw [if_pos (by rw [t3, t2, hl', show (Str.ofString "").length = 0 from rfl]; omega)]
      have hlen : (Txt.join (Str.ofString "") ts).length = acc.length := by rw [Str_len]; exact t4
      rw [if_pos (by rw [hlen]; exact Nat.le_trans (show 1 + acc.length ≤ 7 by omega) (by decide))]
      refine tail_sat g' rfl hT hk hl ?_ (fun w => k w _ g')
      refine nmL_iff.mpr ⟨c, cs (Txt.join "" ts), ?_, ?_, hc2 (by omega), t5⟩
      · rw [cs_app]; rfl
      · rw [t4]; omega
    · rintro w ws acc S' ⟨g', hl', hacc⟩
      simp only [sats]
      refine draw_sat g' hj (by decide) (by decide) fun r5 S5 g5 h05 h15 => ?_
      simp only [sats]
      rw [if_pos (by decide +kernel)]
      obtain ⟨d, ed, hd1, hd2⟩ := sig_at h05 (by omega)
      refine ⟨d, ed, ?_, g5, ?_, ?_⟩
      · simp only [List.length_cons] at hl'
        show _ < 2 ^ 24
        omega
      · simp only [List.length_cons] at hl'
        simp
        omega
      · intro u hu
        rcases List.mem_append.mp hu with hu | hu
        · exact hacc u hu
        · rw [List.mem_singleton.mp hu]
          exact hd1
  · rw [if_neg (by simpa using h3)]
    exact tail_sat g2 rfl hT hk hl hx (fun w => k w _ g2)

/-- the list that is being filled: at the store's end -/
theorem set_last {T : Sto} {o o' : O} : (T ++ [o]).set T.length o' = T ++ [o'] := by simp
theorem get_last {T : Sto} {o : O} : (T ++ [o])[T.length]? = some o := by simp
theorem terms_sat {n j : Nat} {T S : Sto} {many : Int} {Q : W → Sto → Prop} (g : Gd n T S) (hj : j < n) (h0 : 0 ≤ many) (h1 : many ≤ 36)
    (k : ∀ ws S', Gd n T S' → ws.length = many.toNat → (∀ w, w ∈ ws → nmW w = true) → (ws.map strW).Nodup → Q (.lst ws) S') : Sat (m__law_terms [.loc j, .int many] S) Q := by
  have hm : S.length = n + T.length := g.len
  simp only [m__law_terms, c__law_terms, sats, sizeLine, hm]
  refine ⟨many, rfl, by omega, by omega, ?_⟩
  refine loop_inv (I := fun ws ρ S' => ∃ ks o, ρ = [some (.loc j), some (.int many), some (.loc (n + T.length)), o] ∧ Gd n (T ++ [.lst ks]) S' ∧ ks.length + ws.length = many.toNat ∧ (∀ w, w ∈ ks → nmW w = true) ∧ (ks.map strW).Nodup) ?_ ?_ _ _ _ ⟨[], none, rfl, g.push rfl, by simp [rngW], fun _ h => by (cases h), List.nodup_nil⟩
  · rintro ρ S' ⟨ks, o, rfl, g', hl', hk, nd⟩
    simp only [List.length_nil, Nat.add_zero] at hl'
    simp only [sats]
    exact fin_list (i := 0) g' rfl rfl (fun w hw => by obtain ⟨x, rfl, _⟩ := nmW_of (hk w hw); rfl) (by omega) fun S'' g'' => k ks S'' g'' hl' hk nd
  · rintro w ws ρ S' ⟨ks, o, rfl, g', hl', hk, nd⟩
    simp only [List.length_cons] at hl'
    have e1 : ∀ S'', Gd n (T ++ [.lst ks]) S'' → S''[n + T.length]? = some (.lst ks) := fun S'' g'' => (g''.get _).trans get_last
    simp only [sats]
    refine ⟨_, rfl, ⟨ks, e1 _ g'⟩, ?_⟩
    refine term_sat g' hj get_last hk (by omega) fun u S2 g2 hu hn => ?_
    refine ⟨ks, e1 _ g2, by show _ < 2 ^ 24; omega, ?_⟩
    refine ⟨ks ++ [u], _, rfl, ?_, by simp; omega, ?_, ?_⟩
    · have := g2.set (i := T.length) (o := .lst (ks ++ [u])) (belWs_of fun v hv => ?_)
      · rw [set_last] at this
        exact this
      · rcases List.mem_append.mp hv with hv | hv
        · exact datW_bel (nmW_dat (hk v hv))
        · rw [List.mem_singleton.mp hv]
          exact datW_bel (nmW_dat hu)
    · intro v hv
      rcases List.mem_append.mp hv with hv | hv
      · exact hk v hv
      · rw [List.mem_singleton.mp hv]
        exact hu
    · obtain ⟨x, rfl, _⟩ := nmW_of hu
      rw [List.map_append]
      refine List.nodup_append.mpr ⟨nd, by simp, ?_⟩
      intro a ha b hb e
      have hb' : b = x := by simpa [strW] using hb
      subst hb'
      subst e
      have := (any_mem hk).mpr ha
      rw [hn] at this
      cases this
theorem number_sat {n j : Nat} {T S : Sto} {Q : W → Sto → Prop} (g : Gd n T S) (hj : j < n) (k : ∀ r S', Gd n T S' → -999999 ≤ r → r ≤ 999999 → Q (.int r) S') : Sat (m__law_number [.loc j] S) Q := by
  have hm : S.length = n + T.length := g.len
  simp only [m__law_number, c__law_number, sats, sizeLine, hm]
  refine draw_sat g hj (by decide) (by decide) fun r S1 g1 h0 h1 => ?_
  simp only [sats]
  obtain ⟨w, hw, e⟩ := at_in (xs := [W.int 10, .int 1000, .int 1000000]) h0 h1
  refine ⟨w, e, ?_⟩
  have hw2 : ∃ m : Int, w = .int m ∧ 0 < m ∧ m ≤ 1000000 := by
    simp only [List.mem_cons, List.not_mem_nil, or_false] at hw
    rcases hw with rfl | rfl | rfl <;> exact ⟨_, rfl, by decide, by decide⟩
  obtain ⟨m, rfl, hm0, hm1⟩ := hw2
  refine draw_sat g1 hj hm0 (by omega) fun r2 S2 g2 h02 h12 => ?_
  simp only [sats]
  refine draw_sat g2 hj (by decide) (by decide) fun r3 S3 g3 h03 h13 => ?_
  simp only [sats]
  obtain ⟨w, hw, e⟩ := at_in (xs := [W.int r2, .int r2, .int (0 - r2)]) h03 h13
  refine ⟨w, e, ?_⟩
  simp only [List.mem_cons, List.not_mem_nil, or_false] at hw
  rcases hw with rfl | rfl | rfl <;> exact fin_sat0 g3 rfl rfl (k _ _ g3 (by omega) (by omega))
end Lw

namespace Lw
open PySem Mm L2
def comN (m : Nat) (x : Str) : Prop := (cs x).length ≤ m ∧ ∀ c, c ∈ cs x → c < 128
theorem comN.dat {m : Nat} {x : Str} (h : comN m x) (hm : m ≤ 1000) : datW (.str x) = true :=
  Bool.and_eq_true_iff.mpr ⟨decide_eq_true (Nat.le_trans h.1 hm), List.all_eq_true.mpr fun c hc => decide_eq_true (h.2 c hc)⟩
theorem comN.app {m n : Nat} {x y : Str} (h : comN m x) (h2 : comN n y) : comN (m + n) (x ++ y) := by
  unfold comN
  rw [cs_app]
  refine ⟨by rw [List.length_append]; exact Nat.add_le_add h.1 h2.1, fun c hc => ?_⟩
  rcases List.mem_append.mp hc with hc | hc
  · exact h.2 c hc
  · exact h2.2 c hc
theorem comN.cut {m : Nat} {x : Str} (h : comN m x) (lo hi : Option Int) : comN m (cutS x lo hi) := by
  unfold comN cutS
  refine ⟨Nat.le_trans ?_ h.1, fun c hc => h.2 c (List.mem_of_mem_drop (List.mem_of_mem_take hc))⟩
  show (List.take _ (List.drop _ (cs x))).length ≤ (cs x).length
  rw [List.length_take, List.length_drop]
  omega
theorem comN.nm {x : Str} (h : nmL (cs x) = true) : comN 6 x := by
  refine ⟨by have := (nmL_len h).2; rw [Str_len] at this; exact this, fun c hc => sgn_com (List.all_eq_true.mp (nmL_sgn h) c hc)⟩
theorem rep_cs (x : Str) : ∀ n, cs (repS x n) = (List.replicate n (cs x)).flatten
  | n => by
    unfold repS cs
    simp only
    have : ∀ (l : List (Array Nat)) (a : Array Nat), (l.foldl (· ++ ·) a).toList = a.toList ++ (l.map Array.toList).flatten := by
      intro l
      induction l with
      | nil => intro a; simp
      | cons b l ih => intro a; rw [List.foldl_cons, ih]; simp
    rw [this]
    simp
theorem comN.rep {m : Nat} {x : Str} (h : comN m x) (n : Nat) : comN (n * m) (repS x n) := by
  unfold comN
  rw [rep_cs]
  refine ⟨?_, fun c hc => ?_⟩
  · rw [List.length_flatten, List.map_replicate, List.sum_replicate_nat]
    exact Nat.mul_le_mul_left _ h.1
  · obtain ⟨l, hl, hc⟩ := List.mem_flatten.mp hc
    rw [(List.mem_replicate.mp hl).2] at hc
    exact h.2 c hc
theorem comN.lit {x : Str} (h : (decide ((cs x).length ≤ 10) && (cs x).all fun c => decide (c < 128)) = true) : comN 10 x :=
  ⟨of_decide_eq_true (Bool.and_eq_true_iff.mp h).1, fun c hc => of_decide_eq_true (List.all_eq_true.mp (Bool.and_eq_true_iff.mp h).2 c hc)⟩
theorem comN.len {m : Nat} {x : Str} (h : comN m x) : x.length ≤ m := by rw [Str_len]; exact h.1
theorem ifp {c p q : Prop} [Decidable c] (h : c) (k : p) : if c then p else q := by rw [if_pos h]; exact k
theorem odd_sat {n j : Nat} {T S : Sto} {x : Str} {Q : W → Sto → Prop} (g : Gd n T S) (hj : j < n) (hx : nmL (cs x) = true) (k : ∀ w S', Gd n T S' → datW w = true → Q w S') : Sat (m__law_odd_term [.loc j, .str x] S) Q := by
  have hm : S.length = n + T.length := g.len
  have hc := comN.nm hx
  have l1 := nmL_len hx
  have l5 := (hc.cut none (some 5)).len
  have l3 := (hc.cut none (some 3)).len
  have hA : comN 10 "A" := comN.lit (by decide +kernel)
  have h1 : comN 10 "1" := comN.lit (by decide +kernel)
  have h_ : comN 10 "_" := comN.lit (by decide +kernel)
  have hS : comN 10 " " := comN.lit (by decide +kernel)
  have hD : comN 10 "-" := comN.lit (by decide +kernel)
  have h9 : comN 10 "9" := comN.lit (by decide +kernel)
  have h0 : comN 10 "00000" := comN.lit (by decide +kernel)
  have lA := hA.len
  have l1' := h1.len
  have l_ := h_.len
  have lS := hS.len
  have lD := hD.len
  have l9 := h9.len
  have l0 := h0.len
  have l7 := (hc.rep 7).len
  have l00 := (hc.app h0).len
  simp only [m__law_odd_term, c__law_odd_term, sats, sizeLine, hm, if_pos (show x.length ≤ 2 ^ 24 by omega), show (7 : Int).toNat = 7 from rfl]
  simp only [List.cons_append, List.nil_append, lenS, len0]
  repeat refine ifp (by omega) ?_
  refine draw_sat g hj (by decide) (by decide) fun r S1 g1 h0' h1' => ?_
  simp only [sats]
  obtain ⟨w, hw, e⟩ := at_in (xs := [W.str "", .str "A", .str (x ++ "A"), .str ("1" ++ cutS x none (some 5)), .str ("_" ++ cutS x none (some 5)), .str (cutS (repS x 7) none (some 7)), .str (cutS x none (some 5) ++ " "), .str (" " ++ cutS x none (some 5)), .non, .int 7, .lst [.str x], .tup [.str x], .str (cutS x none (some 3) ++ "-"), .bl true, .dct [] [], .tup [.lst []], .str "9", .str (cutS x none (some 5) ++ "9"), .str (cutS (x ++ "00000") none (some 6)), .int 0]) h0' h1'
  refine ⟨w, e, ?_⟩
  have hd : datW w = true := by
    simp only [List.mem_cons, List.not_mem_nil, or_false] at hw
    have dx := hc.dat (by decide)
    rcases hw with rfl | rfl | rfl | rfl | rfl | rfl | rfl | rfl | rfl | rfl | rfl | rfl | rfl | rfl | rfl | rfl | rfl | rfl | rfl | rfl
    · decide +kernel
    · exact hA.dat (by decide)
    · exact (hc.app hA).dat (by decide)
    · exact (h1.app (hc.cut _ _)).dat (by decide)
    · exact (h_.app (hc.cut _ _)).dat (by decide)
    · exact ((hc.rep 7).cut _ _).dat (by decide)
    · exact ((hc.cut _ _).app hS).dat (by decide)
    · exact (hS.app (hc.cut _ _)).dat (by decide)
    · rfl
    · rfl
    · simp only [datW, datWs] at dx ⊢; rw [dx]; rfl
    · simp only [datW, datWs] at dx ⊢; rw [dx]; rfl
    · exact ((hc.cut _ _).app hD).dat (by decide)
    · rfl
    · rfl
    · rfl
    · exact h9.dat (by decide)
    · exact ((hc.cut _ _).app h9).dat (by decide)
    · exact ((hc.app h0).cut _ _).dat (by decide)
    · rfl
  exact fin_sat0 g1 rfl (datW_bel hd) (k w S1 g1 hd)
end Lw

namespace Lw
open PySem Mm L2
def okC (w : W) : Prop := datW w = true ∧ cmdW w = true
theorem okC.bel {w : W} (h : okC w) : belW 0 w = true := datW_bel h.1
theorem bel_ok {ks : List W} (h : ∀ w, w ∈ ks → okC w) : belO 0 (.lst ks) = true := belWs_of fun w hw => (h w hw).bel
theorem inR_of {lo hi : Int} {w : W} (h : inR lo hi w = true) : datW w = true := by
  cases w with
  | int i => rfl
  | _ => cases h
theorem app_all {p : W → Prop} {xs ys : List W} (h : ∀ w, w ∈ xs → p w) (h2 : ∀ w, w ∈ ys → p w) : ∀ w, w ∈ xs ++ ys → p w := fun w hw => (List.mem_append.mp hw).elim (h w) (h2 w)
theorem one_all {p : W → Prop} {x : W} (h : p x) : ∀ w, w ∈ [x] → p w := fun w hw => by rw [List.mem_singleton.mp hw]; exact h
theorem dat_tup {ws : List W} (h : ∀ w, w ∈ ws → datW w = true) : datW (.tup ws) = true := by unfold datW; exact datWs_of h
theorem dat_key {x : Str} (h : comS x = true) : datW (.str x) = true := by unfold datW; exact h
theorem good_sat {n j : Nat} {T S : Sto} {Q : W → Sto → Prop} (g : Gd n T S) (hj : j < n) (k : ∀ w S', Gd n T S' → datW w = true → cmdW w = true → Q w S') : Sat (m__law_good [.loc j] S) Q := by
  have hm : S.length = n + T.length := g.len
  simp only [m__law_good, c__law_good, sats, sizeLine, hm]
  refine terms_sat g hj (by decide) (by decide) fun ws S1 g1 hl hw nd => ?_
  obtain ⟨a, b, c, d, e, rfl⟩ : ∃ a b c d e, ws = [a, b, c, d, e] := by
    rcases ws with _ | ⟨a, _ | ⟨b, _ | ⟨c, _ | ⟨d, _ | ⟨e, _ | ⟨f, ws⟩⟩⟩⟩⟩⟩ <;> simp at hl
    exact ⟨a, b, c, d, e, rfl⟩
  have ha : nmW a = true := hw a (by simp)
  have hb : nmW b = true := hw b (by simp)
  refine number_sat g1 hj fun r S2 g2 r0 r1 => ?_
  simp only [sats]
  refine draw_sat g2 hj (by decide) (by decide) fun i1 S3 g3 i10 i11 => ?_
  simp only [sats]
  obtain ⟨nw, hnw, enw⟩ := at_in (xs := [W.int 0, .int 999999, .int (-999999), .int r]) i10 i11
  refine ⟨nw, enw, ?_⟩
  have hn2 : inR (-999999) 999999 nw = true := by
    simp only [List.mem_cons, List.not_mem_nil, or_false] at hnw
    rcases hnw with rfl | rfl | rfl | rfl <;> simp [inR] <;> omega
  refine draw_sat g3 hj (by decide) (by decide) fun i2 S4 g4 i20 i21 => ?_
  simp only [sats]
  obtain ⟨cw, hcw, ecw⟩ := at_in (xs := [a, b, c, d, e]) i20 (by simp; omega)
  refine ⟨cw, ecw, ?_⟩
  have hcw2 := hw cw hcw
  refine ifp (by decide) (ifp (by decide) ?_)
  have okput : okC (.tup [.str "put", a, nw]) := by
    refine ⟨dat_tup fun w hw => ?_, by simp [cmdW, ha, hn2]⟩
    simp only [List.mem_cons, List.not_mem_nil, or_false] at hw
    rcases hw with rfl | rfl | rfl
    · decide +kernel
    · exact nmW_dat ha
    · exact inR_of hn2
  have okcopy : okC (.tup [.str "copy", a, cw]) := by
    refine ⟨dat_tup fun w hw => ?_, by simp [cmdW, keysNe, ha, hcw2]⟩
    simp only [List.mem_cons, List.not_mem_nil, or_false] at hw
    rcases hw with rfl | rfl | rfl
    · decide +kernel
    · exact nmW_dat ha
    · exact nmW_dat hcw2
  have ok1 : ∀ key : Str, comS key = true → cmdW (.tup [.str key, a]) = true → okC (.tup [.str key, a]) := by
    intro key hk hc
    refine ⟨dat_tup fun w hw => ?_, hc⟩
    simp only [List.mem_cons, List.not_mem_nil, or_false] at hw
    rcases hw with rfl | rfl
    · exact dat_key hk
    · exact nmW_dat ha
  have ok2 : ∀ (key : Str) (i : Int), comS key = true → cmdW (.tup [.str key, a, .int i]) = true → okC (.tup [.str key, a, .int i]) := by
    intro key i hk hc
    refine ⟨dat_tup fun w hw => ?_, hc⟩
    simp only [List.mem_cons, List.not_mem_nil, or_false] at hw
    rcases hw with rfl | rfl | rfl
    · exact dat_key hk
    · exact nmW_dat ha
    · rfl
  have okA : ∀ w, w ∈ [W.tup [.str "put", a, nw], .tup [.str "copy", a, cw]] → okC w := by
    intro w hw
    simp only [List.mem_cons, List.not_mem_nil, or_false] at hw
    rcases hw with rfl | rfl
    · exact okput
    · exact okcopy
  have l4 : S4.length = n + T.length := g4.len
  have g5 := g4.push (bel_ok okA)
  rw [l4]
  generalize hA : [W.tup [.str "put", a, nw], .tup [.str "copy", a, cw]] = A at okA g5
  have hAl : A.length = 2 := by rw [← hA]; rfl
  refine draw_sat g5 hj (by decide) (by decide) fun i3 S6 g6 i30 i31 => ?_
  simp only [sats]
  refine ⟨1 + i3, rfl, by omega, by omega, ?_⟩
  refine lc_inv (I := fun ws acc S' => Gd n (T ++ [.lst A]) S' ∧ acc.length + ws.length = (1 + i3).toNat ∧ ∀ w, w ∈ acc → nmW w = true) ?_ ?_ _ _ _ ⟨g6, by simp [rngW], fun _ h => by cases h⟩
  rotate_left
  · rintro w ws acc S' ⟨g', hl', hacc⟩
    simp only [sats]
    refine draw_sat g' hj (by decide) (by decide) fun i4 S7 g7 i40 i41 => ?_
    simp only [sats]
    obtain ⟨u, hu, eu⟩ := at_in (xs := [a, b, c, d, e]) i40 (by simp; omega)
    simp only [List.length_cons] at hl'
    refine ⟨u, eu, by show _ < 2 ^ 24; omega, g7, by simp; omega, app_all hacc (one_all (hw u hu))⟩
  rintro ys S7 ⟨g7, hl7, hys⟩
  simp only [List.length_nil, Nat.add_zero] at hl7
  have oreck : okC (.tup [.str "reckon", a, .tup ys, b]) := by
    refine ⟨dat_tup fun w hw => ?_, ?_⟩
    · simp only [List.mem_cons, List.not_mem_nil, or_false] at hw
      rcases hw with rfl | rfl | rfl | rfl
      · decide +kernel
      · exact nmW_dat ha
      · exact dat_tup fun w hw => nmW_dat (hys w hw)
      · exact nmW_dat hb
    · have h1 : 1 ≤ ys.length := by omega
      have h3 : ys.length ≤ 3 := by omega
      have hall : ys.all nmW = true := List.all_eq_true.mpr hys
      simp only [cmdW, keysNe, ifF2, ifT2, nmsW, ha, hb, hall, h1, h3]
      simp
  refine ⟨_, rfl, ⟨A, (g7.get _).trans get_last⟩, ifp (by decide) ⟨A, (g7.get _).trans get_last, by rw [hAl]; decide, ?_⟩⟩
  refine ifp (by decide) (ifp (by decide) (ifp (by decide) ?_))
  have okB := app_all okA (one_all oreck)
  have g8 := g7.set (i := T.length) (o := .lst (A ++ [.tup [.str "reckon", a, .tup ys, b]])) (bel_ok okB)
  rw [set_last] at g8
  refine draw_sat g8 hj (by decide) (by decide) fun i5 S9 g9 i50 i51 => ?_
  refine ifp (by decide) (ifp (by decide) ⟨_, (g9.get _).trans get_last, by rw [List.length_append, hAl, lenS, len0]; decide, ?_⟩)
  have okL : ∀ w, w ∈ [W.tup [W.str "look", a], .tup [.str "show", a], .tup [.str "take", a], .tup [.str "give", a, .int i5]] → okC w := by
    intro w hw
    simp only [List.mem_cons, List.not_mem_nil, or_false] at hw
    rcases hw with rfl | rfl | rfl | rfl
    · exact ok1 "look" (by decide +kernel) (by simp [cmdW, keysNe, ha])
    · exact ok1 "show" (by decide +kernel) (by simp [cmdW, keysNe, ha])
    · exact ok1 "take" (by decide +kernel) (by simp [cmdW, keysNe, ha])
    · exact ok2 "give" i5 (by decide +kernel) (by simp [cmdW, keysNe, ha, inR]; omega)
  have okC7 := app_all okB okL
  have g10 := g9.push (bel_ok okC7)
  generalize hB : (A ++ [W.tup [.str "reckon", a, .tup ys, b]]) = B at *
  have hBl : B.length = 3 := by rw [← hB, List.length_append, hAl]; rfl
  generalize hC : (B ++ [W.tup [W.str "look", a], .tup [.str "show", a], .tup [.str "take", a], .tup [.str "give", a, .int i5]]) = C at *
  have hCl : C.length = 7 := by rw [← hC, List.length_append, hBl]; rfl
  have l9 : S9.length = n + (T ++ [O.lst B]).length := g9.len
  rw [l9]
  have gl : ∀ {K S'}, Gd n (T ++ [O.lst B] ++ [O.lst K]) S' → S'[n + (T ++ [O.lst B]).length]? = some (.lst K) := fun g' => (g'.get _).trans get_last
  refine ⟨_, rfl, ⟨C, gl g10⟩, ?_⟩
  refine draw_sat g10 hj (by decide) (by decide) fun i6 S11 g11 i60 i61 => ?_
  simp only [sats]
  refine ifp (by decide) ?_
  refine draw_sat g11 hj (by decide) (by decide) fun i7 S12 g12 i70 i71 => ?_
  simp only [sats]
  obtain ⟨w, hw', ew⟩ := at_in (xs := [W.int 1, .int 9999, .int (1 + i6)]) i70 i71
  have okW : okC (.tup [.str "wait", a, w]) := by
    simp only [List.mem_cons, List.not_mem_nil, or_false] at hw'
    rcases hw' with rfl | rfl | rfl <;> exact ok2 "wait" _ (by decide +kernel) (by simp [cmdW, keysNe, ha, inR]; try omega)
  have okC8 := app_all okC7 (one_all okW)
  have g13 := g12.set (i := (T ++ [O.lst B]).length) (o := .lst (C ++ [.tup [.str "wait", a, w]])) (bel_ok okC8)
  rw [set_last] at g13
  generalize hD : (C ++ [W.tup [.str "wait", a, w]]) = D at okC8 g13
  have hDl : D.length = 8 := by rw [← hD, List.length_append, hCl]; rfl
  refine ⟨w, ew, ifp (by decide) ⟨C, gl g12, by rw [hCl]; decide, ?_⟩⟩
  rw [show (C ++ [W.tup [W.str (Str.ofString "wait"), a, w]]) = D from hD]
  refine ⟨_, rfl, ⟨D, gl g13⟩, ?_⟩
  refine draw_sat g13 hj (by decide) (by decide) fun i8 S14 g14 i80 i81 => ?_
  simp only [sats]
  refine ifp (by decide) ?_
  refine draw_sat g14 hj (by decide) (by decide) fun i9 S15 g15 i90 i91 => ?_
  simp only [sats]
  obtain ⟨v, hv', ev⟩ := at_in (xs := [W.int 1, .int 99, .int (1 + i8)]) i90 i91
  have okS : okC (.tup [.str "set", a, v]) := by
    simp only [List.mem_cons, List.not_mem_nil, or_false] at hv'
    rcases hv' with rfl | rfl | rfl <;> exact ok2 "set" _ (by decide +kernel) (by simp [cmdW, keysNe, ha, inR]; try omega)
  have okC9 := app_all okC8 (one_all okS)
  have g16 := g15.set (i := (T ++ [O.lst B]).length) (o := .lst (D ++ [.tup [.str "set", a, v]])) (bel_ok okC9)
  rw [set_last] at g16
  generalize hE : (D ++ [W.tup [.str "set", a, v]]) = F at okC9 g16
  have hEl : F.length = 9 := by rw [← hE, List.length_append, hDl]; rfl
  refine ⟨v, ev, ifp (by decide) ⟨D, gl g15, by rw [hDl]; decide, ?_⟩⟩
  rw [show (D ++ [W.tup [W.str (Str.ofString "set"), a, v]]) = F from hE]
  refine draw_sat g16 hj (by decide) (by decide) fun i10' S17 g17 i100 i101 => ?_
  simp only [sats]
  obtain ⟨u, hu, eu⟩ := at_in (xs := F) i100 (by rw [hEl]; exact i101)
  refine ⟨F, gl g17, u, eu, ?_⟩
  have hok := okC9 u hu
  rw [List.append_assoc] at g17
  exact fin_sat g17 rfl hok.bel fun S' g' => k u S' g' hok.1 hok.2
end Lw

namespace Lw
open PySem Mm L2
theorem cmd_shape {w : W} (h : cmdW w = true) : ∃ x a ws, w = .tup (.str x :: a :: ws) ∧ nmW a = true ∧ ws.length ≤ 2 := by
  unfold cmdW at h
  split at h
  · rename_i x ws
    rcases ws with _ | ⟨a, _ | ⟨b, _ | ⟨c, _ | ⟨d, ws⟩⟩⟩⟩
    · exfalso
      simp at h
    · refine ⟨x, a, [], rfl, ?_, by simp⟩
      cases hn : nmW a with
      | true => rfl
      | false => simp [hn] at h
    · refine ⟨x, a, [b], rfl, ?_, by simp⟩
      cases hn : nmW a with
      | true => rfl
      | false => simp [hn] at h
    · refine ⟨x, a, [b, c], rfl, ?_, by simp⟩
      cases hn : nmW a with
      | true => rfl
      | false => simp [hn] at h
    · exfalso
      simp at h
  · cases h
theorem dat_cut {ws : List W} (h : datWs ws = true) (lo hi : Option Int) : datWs (cutW ws lo hi) = true := datWs_of fun w hw => datWs_mem h (List.mem_of_mem_drop (List.mem_of_mem_take hw))
theorem dat_app {ws us : List W} (h : datWs ws = true) (h2 : datWs us = true) : datWs (ws ++ us) = true := datWs_of fun w hw => (List.mem_append.mp hw).elim (datWs_mem h) (datWs_mem h2)
theorem len_cut {ws : List W} {lo hi : Option Int} : (cutW ws lo hi).length ≤ ws.length := by
  unfold cutW
  rw [List.length_take, List.length_drop]
  omega
theorem dat_one {w : W} (h : datW w = true) : datWs [w] = true := by unfold datWs; rw [h]; rfl
abbrev ODD : List W := [.int (-1000000), .int 1000000, .int 0, .int 100, .int 10000, .int 6, .int (-1), .bl true, .bl false, .non, .str "5", .str "x", .str "set", .str "look", .tup [], .tup [.str "a"], .lst [.str "a"],
  .dct [] [], .lst [], .tup [.str "a", .str "b", .str "c", .str "d"], .tup [.str "a", .int 5], .tup [.str "a", .str "B"], .lst [.str "a", .str "b"], .str "puts", .str "Put", .tup [.str "put"], .int (10 ^ 12), .tup [.str "a", .str "b"]]
theorem odd_dat : datWs ODD = true := by decide +kernel
theorem bent_sat {n j : Nat} {T S : Sto} {w : W} {Q : W → Sto → Prop} (g : Gd n T S) (hj : j < n) (hd : datW w = true) (hc : cmdW w = true) (k : ∀ w S', Gd n T S' → datW w = true → Q w S') : Sat (m__law_bent [.loc j, w] S) Q := by
  have hm : S.length = n + T.length := g.len
  obtain ⟨x, a, us, rfl, ha, hl⟩ := cmd_shape hc
  have hds : datWs (.str x :: a :: us) = true := by unfold datW at hd; exact hd
  have hws : (W.str x :: a :: us).length ≤ 4 := by simp; omega
  have hw0 : 2 ≤ (W.str x :: a :: us).length := by simp
  have fin : ∀ {S' : Sto} {w : W}, Gd n T S' → datW w = true → Sat (finW (n + T.length) w S') Q := fun g' h => fin_sat0 g' rfl (datW_bel h) (k _ _ g' h)
  have lc : ∀ {lo hi : Option Int}, (cutW (W.str x :: a :: us) lo hi).length ≤ 4 := fun {lo hi} => Nat.le_trans len_cut hws
  have dc : ∀ {lo hi : Option Int}, datWs (cutW (W.str x :: a :: us) lo hi) = true := fun {lo hi} => dat_cut hds lo hi
  have dt : ∀ {ws : List W}, datWs ws = true → datW (.tup ws) = true := fun h => by unfold datW; exact h
  have sz4 : (4 : Nat) + 4 + 4 ≤ 2 ^ 24 := by decide
  simp only [m__law_bent, c__law_bent, satS, satP, satI, satE, hm, sizeLine]
  refine draw_sat g hj (by omega) (by omega) fun at' S1 g1 a0 a1 => ?_
  refine draw_sat g1 hj (by decide) (by decide) fun way S2 g2 w0 w1 => ?_
  simp only [sats, List.cons_append, List.nil_append]
  repeat refine ifp (by decide) ?_
  by_cases b0 : way = 0
  · refine ifp (decide_eq_true b0) ?_
    refine ifp ?_ (fin g2 (dt (dat_app dc dc)))
    exact Nat.le_trans (Nat.add_le_add lc lc) (by decide)
  rw [if_neg (by simpa using b0)]
  by_cases b1 : way = 1
  · refine ifp (decide_eq_true b1) ?_
    refine ifp ?_ (ifp ?_ (fin g2 (dt (dat_app (dat_app dc dc) dc))))
    · exact Nat.le_trans (Nat.add_le_add lc lc) (by decide)
    · rw [List.length_append]
      exact Nat.le_trans (Nat.add_le_add (Nat.add_le_add lc lc) lc) (by decide)
  rw [if_neg (by simpa using b1)]
  by_cases b2 : way = 2
  · refine ifp (decide_eq_true b2) ?_
    repeat refine ifp (by decide) ?_
    refine draw_sat g2 hj (by decide) (by decide) fun r S3 g3 r0 r1 => ?_
    simp only [sats]
    obtain ⟨u, hu, eu⟩ := at_in (xs := [W.lst (.str x :: a :: us), .tup [.tup (.str x :: a :: us)], .str x, .non, .dct [] [], .tup (W.str x :: a :: us).reverse, .tup [], .int 0]) r0 r1
    refine ⟨u, eu, fin g3 ?_⟩
    simp only [List.mem_cons, List.not_mem_nil, or_false] at hu
    rcases hu with rfl | rfl | rfl | rfl | rfl | rfl | rfl | rfl
    · unfold datW; exact hds
    · exact dt (dat_one hd)
    · exact datWs_mem hds List.mem_cons_self
    · rfl
    · rfl
    · exact dt (datWs_of fun v hv => datWs_mem hds (List.mem_reverse.mp hv))
    · rfl
    · rfl
  rw [if_neg (by simpa using b2)]
  have last : ∀ {v : W} {S' : Sto}, Gd n T S' → datW v = true → (if (0 + 1 : Nat) ≤ 2 ^ 24 then (if (cutW (W.str x :: a :: us) none (some at')).length + (0 + 1) ≤ 2 ^ 24 then (if (cutW (W.str x :: a :: us) none (some at') ++ [v]).length + (cutW (W.str x :: a :: us) (some (at' + 1)) none).length ≤ 2 ^ 24 then Sat (finW (n + T.length) (.tup (cutW (W.str x :: a :: us) none (some at') ++ [v] ++ cutW (W.str x :: a :: us) (some (at' + 1)) none)) S') Q else False) else False) else False) := by
    intro v S' g' hv
    refine ifp (by decide) (ifp ?_ (ifp ?_ (fin g' (dt (dat_app (dat_app dc (dat_one hv)) dc)))))
    · exact Nat.le_trans (Nat.add_le_add lc (Nat.le_refl _)) (by decide)
    · rw [List.length_append]
      exact Nat.le_trans (Nat.add_le_add (Nat.add_le_add lc (Nat.le_refl _)) lc) (by simp only [lenS, len0]; decide)
  have other : Sat (m__law_draw [W.loc j, W.int 28] S2) fun y S3 => Sat (fIx (.lst ODD) y S3) fun v S' => (if (0 + 1 : Nat) ≤ 2 ^ 24 then (if (cutW (W.str x :: a :: us) none (some at')).length + (0 + 1) ≤ 2 ^ 24 then (if (cutW (W.str x :: a :: us) none (some at') ++ [v]).length + (cutW (W.str x :: a :: us) (some (at' + 1)) none).length ≤ 2 ^ 24 then Sat (finW (n + T.length) (.tup (cutW (W.str x :: a :: us) none (some at') ++ [v] ++ cutW (W.str x :: a :: us) (some (at' + 1)) none)) S') Q else False) else False) else False) := by
    refine draw_sat g2 hj (by decide) (by decide) fun r S3 g3 r0 r1 => ?_
    rw [p_ixL]
    obtain ⟨u, hu, eu⟩ := at_in (xs := ODD) r0 r1
    exact ⟨u, eu, last g3 (datWs_mem odd_dat hu)⟩
  obtain ⟨y, rfl, hy⟩ := nmW_of ha
  by_cases b3 : way < 5
  · rw [if_pos (decide_eq_true b3)]
    by_cases b4 : 0 < at'
    · rw [if_pos (decide_eq_true b4)]
      exact odd_sat g2 hj hy fun v S3 g3 hv => last g3 hv
    · rw [if_neg (by simpa using b4)]
      exact other
  · rw [if_neg (by simpa using b3)]
    exact other
end Lw

namespace Lw
open PySem Mm L2
theorem right_sat {n j : Nat} {T S : Sto} {Q : W → Sto → Prop} (g : Gd n T S) (hj : j < n) (k : ∀ S', Gd n T S' → Q (.bl true) S') : Sat (m__law_right [.loc j] S) Q := by
  have hm : S.length = n + T.length := g.len
  simp only [m__law_right, c__law_right, sats, hm]
  refine ⟨4, rfl, by decide, by decide, ?_⟩
  refine loop_inv (I := fun ws ρ S' => ∃ o1 o2 o3 o4 o5 o6, ρ = [some (.loc j), o1, o2, o3, o4, o5, o6] ∧ Gd n T S') ?_ ?_ _ _ _ ⟨_, _, _, _, _, _, rfl, g⟩
  · rintro ρ S' ⟨o1, o2, o3, o4, o5, o6, rfl, g'⟩
    simp only [sats]
    exact fin_sat0 g' rfl rfl (k _ g')
  rintro _ ws ρ S' ⟨o1, o2, o3, o4, o5, o6, rfl, g'⟩
  simp only [sats]
  refine good_sat g' hj fun deed S1 g1 hd hc => ?_
  simp only [sat_due g1.ws hd, sat_command g1.ws hd, sats, hc, sat_told g1.ws, decide_true]
  refine ⟨6, rfl, by decide, by decide, ?_⟩
  refine loop_inv (I := fun ws ρ S' => ∃ o1 o3 o4 o5 o6, ρ = [some (.loc j), o1, some deed, o3, o4, o5, o6] ∧ Gd n T S') ?_ ?_ _ _ _ ⟨_, _, _, _, _, rfl, g1⟩
  rotate_left
  · rintro _ ws ρ S' ⟨o1, o3, o4, o5, o6, rfl, g'⟩
    simp only [sats]
    refine bent_sat g' hj hd hc fun b S2 g2 hb => ?_
    simp only [sats, sat_due g2.ws hb, sat_command g2.ws hb, sat_command g2.ws hd, hc, sat_told g2.ws, decide_true]
    exact ⟨_, _, _, _, _, rfl, g2⟩
  rintro ρ S2 ⟨o1, o3, o4, o5, o6, rfl, g2⟩
  obtain ⟨x, a, us, rfl, ha, hl⟩ := cmd_shape hc
  obtain ⟨y, rfl, hy⟩ := nmW_of ha
  simp only [sats]
  refine odd_sat g2 hj hy fun od S3 g3 hod => ?_
  simp only [sats, itemsOf]
  refine ifp (by decide) ?_
  have hs : datWs [W.str y, od, .tup (.str x :: .str y :: us), .tup (cutW (.str x :: .str y :: us) (some 1) (some 2))] = true := by
    refine datWs_of fun w hw => ?_
    simp only [List.mem_cons, List.not_mem_nil, or_false] at hw
    have hds : datWs (.str x :: .str y :: us) = true := by unfold datW at hd; exact hd
    rcases hw with rfl | rfl | rfl | rfl
    · exact nmW_dat ha
    · exact hod
    · exact hd
    · unfold datW; exact dat_cut hds _ _
  refine loop_inv (I := fun ws ρ S' => ∃ o1 o3 o5 o6, ρ = [some (.loc j), o1, some (.tup (.str x :: .str y :: us)), o3, some od, o5, o6] ∧ Gd n T S' ∧ ∀ w, w ∈ ws → datW w = true) ?_ ?_ _ _ _ ⟨_, _, _, _, rfl, g3, fun w hw => datWs_mem hs hw⟩
  · rintro ρ S4 ⟨o1, o3, o5, o6, rfl, g4, _⟩
    exact ⟨_, _, _, _, _, _, rfl, g4⟩
  · rintro w ws ρ S4 ⟨o1, o3, o5, o6, rfl, g4, hw⟩
    simp only [sats, sat_name g4.ws (hw w List.mem_cons_self), sat_named g4.ws (hw w List.mem_cons_self), sat_told g4.ws, decide_true]
    exact ⟨_, _, _, _, rfl, g4, fun u hu => hw u (List.mem_cons_of_mem _ hu)⟩
theorem heap_sat {n : Nat} {S : Sto} {i : Int} {Q : W → Sto → Prop} (g : Gd n [] S) (k : ∀ S', Gd (n + 1) [] S' → Q (.loc n) S') : Sat (m__law_heap [.int i] S) Q := by
  have hn : S.length = n := g.len
  have gp : ∀ a b c : Int, Gd (n + 1) [] (S ++ [.lst [.int a, .int b, .int c]]) := by
    intro a b c
    refine ⟨by simp [hn], List.drop_eq_nil_of_le (by simp [hn]), fun l o hl e => ?_, fun o ho => by cases ho⟩
    by_cases z : l < n
    · rw [List.getElem?_append_left (by omega)] at e
      exact g.hp l o z e
    · have : l = S.length := by omega
      subst this
      rw [List.getElem?_append_right (Nat.le_refl _), Nat.sub_self] at e
      cases e
      exact ⟨a, b, c, rfl⟩
  have b1 : -(2 ^ 64) < (7919 : Int) ∧ (7919 : Int) < 2 ^ 64 := by decide
  simp only [m__law_heap, c__law_heap, sats, hn, sizeLine]
  have e0 : ∀ (a : Int), (if (0 : Int) < 1000000087 then if -(2 ^ 64) < i % 1000000087 ∧ i % 1000000087 < 2 ^ 64 ∨ -(2 ^ 64) < (7919 : Int) ∧ (7919 : Int) < 2 ^ 64 then if 0 + 1 + 1 + 1 ≤ 2 ^ 24 then Q (.loc n) (S ++ [.lst [.int a, .int (i % 1000000087 * 7919 + 104729), .int 0]]) else False else False else False) := fun a => ifp (by decide) (ifp (.inr b1) (ifp (by decide) (k _ (gp _ _ _))))
  by_cases h1 : i < 0
  · rw [if_pos (decide_eq_true h1)]
    exact e0 _
  · rw [if_neg (by simpa using h1)]
    refine ifp (by decide) ?_
    by_cases h2 : (10 : Int) ^ Int.toNat 18 ≤ i
    · rw [if_pos (decide_eq_true h2)]
      exact e0 _
    · rw [if_neg (by rw [decide_eq_true_eq]; exact h2)]
      exact e0 _
theorem cell_ok {is : List Int} {r : Int} {S : Sto} (g : WS S) (h0 : 0 ≤ r) (h2 : r < 12) : ∃ v : Int, m__law_cell [.arr (is.map W.int), .int r] S = .ok (.int v) S := by
  suffices h : Sat (m__law_cell [.arr (is.map W.int), .int r] S) fun w S' => ∃ v : Int, w = .int v ∧ S' = S by
    cases e : m__law_cell [.arr (is.map W.int), .int r] S with
    | ok w S' =>
      rw [e] at h
      obtain ⟨v, rfl, rfl⟩ := h
      exact ⟨v, rfl⟩
    | stuck => rw [e] at h; exact h.elim
    | err x S' => rw [e] at h; exact h.elim
  simp only [m__law_cell, c__law_cell, sats]
  by_cases h1 : r < ((is.map W.int).length : Nat)
  · rw [if_pos (decide_eq_true h1)]
    obtain ⟨w, hw, e⟩ := at_in h0 h1
    obtain ⟨v, _, rfl⟩ := List.mem_map.mp hw
    refine ⟨_, e, ?_⟩
    rw [fin_int g]
    exact ⟨v, rfl, rfl⟩
  · rw [if_neg (by rw [decide_eq_true_eq]; exact h1)]
    refine ifp (by omega) (ifp (by omega) (ifp (.inl (by decide)) (ifp (by decide) ⟨_, rfl, ?_⟩)))
    refine loop_inv (I := fun ws ρ S' => ∃ v o, ρ = [some (.arr (is.map W.int)), some (.int r), some (.int v), o] ∧ S' = S ∧ ∀ w, w ∈ ws → ∃ i, w = .int i) ?_ ?_ _ _ _ ⟨_, _, rfl, rfl, fun w hw => ?_⟩
    · rintro ρ S' ⟨v, o, rfl, rfl, _⟩
      simp only [sats]
      rw [fin_int g]
      exact ⟨v, rfl, rfl⟩
    · rintro w ws ρ S' ⟨v, o, rfl, rfl, hw⟩
      obtain ⟨i, rfl⟩ := hw w List.mem_cons_self
      simp only [sats]
      refine ifp (.inr (by decide)) (ifp (by decide) ?_)
      exact ⟨_, _, rfl, trivial, fun u hu => hw u (List.mem_cons_of_mem _ hu)⟩
    · have := List.mem_of_mem_drop (List.mem_of_mem_take hw)
      obtain ⟨v, _, rfl⟩ := List.mem_map.mp this
      exact ⟨v, rfl⟩
theorem bools_true : ∀ {acc : List W}, (∀ w, w ∈ acc → w = .bl true) → bools acc = some (acc.map fun _ => true)
  | [], _ => rfl
  | w :: ws, h => by
    rw [h w List.mem_cons_self]
    show (bools ws).map _ = _
    rw [bools_true fun u hu => h u (List.mem_cons_of_mem _ hu)]
    rfl
def turns (L : Int) : Int := if (if 12 < L then 12 else L) > 3 then (if 12 < L then 12 else L) else 3
theorem turns_bd (L : Int) : 3 ≤ turns L ∧ turns L ≤ 12 := by
  unfold turns
  split
  · split <;> omega
  · omega
theorem law_sat {is : List Int} : Sat (m_law [.arr (is.map W.int)] []) fun w S' => w = .bl true := by
  simp only [m_law, c_law, sats]
  refine ⟨turns ((is.map W.int).length : Nat), rfl, ?_⟩
  have hb := turns_bd ((is.map W.int).length : Nat)
  generalize turns ((is.map W.int).length : Nat) = m at hb
  refine ⟨by omega, by omega, ?_⟩
  refine lc_inv (I := fun ws acc S' => (∃ n, Gd n [] S') ∧ acc.length + ws.length ≤ 12 ∧ (∀ w, w ∈ acc → w = .bl true) ∧ ∀ w, w ∈ ws → ∃ r, w = .int r ∧ 0 ≤ r ∧ r < 12) ?_ ?_ _ _ _ ⟨⟨0, ⟨rfl, rfl, fun j o h => absurd h (Nat.not_lt_zero _), fun o h => by cases h⟩⟩, ?_, fun _ h => by (cases h), fun w hw => ?_⟩
  · rintro acc S' ⟨_, _, hacc, _⟩
    refine ⟨_, bools_true hacc, ?_⟩
    unfold finW
    simp [belW, Sat]
  · rintro w ws acc S' ⟨⟨n, g⟩, hl, hacc, hws⟩
    obtain ⟨r, rfl, r0, r1⟩ := hws w List.mem_cons_self
    obtain ⟨v, ev⟩ := cell_ok (is := is) g.ws r0 r1
    simp only [sats, sat_eq ev]
    refine heap_sat g fun S1 g1 => right_sat g1 (Nat.lt_succ_self n) fun S2 g2 => ?_
    simp only [List.length_cons] at hl
    refine ⟨by show _ < 2 ^ 24; omega, ⟨_, g2⟩, by simp; omega, ?_, fun u hu => hws u (List.mem_cons_of_mem _ hu)⟩
    intro u hu
    rcases List.mem_append.mp hu with hu | hu
    · exact hacc u hu
    · exact List.mem_singleton.mp hu
  · simp only [rngW, List.length_nil, Nat.zero_add, List.length_map, List.length_range]
    omega
  · obtain ⟨i, hi, rfl⟩ := List.mem_map.mp hw
    have := List.mem_range.mp hi
    exact ⟨_, rfl, by omega, by omega⟩
end Lw

namespace Lw
open PySem Mm L2
theorem law_ans {ns : List Int} : ∃ S', m_law [.arr (ns.map W.int)] [] = .ok (.bl true) S' := by
  have h := law_sat (is := ns)
  cases e : m_law [.arr (ns.map W.int)] [] with
  | ok w S' =>
    rw [e] at h
    have h' : w = .bl true := h
    rw [h']
    exact ⟨S', rfl⟩
  | stuck => rw [e] at h; exact h.elim
  | err x S' => rw [e] at h; exact h.elim
end Lw

open PySem PySem.W PySem.Calls PyProof.Rows
theorem PySem.Challenge.cw_fencelanes_k01_names_and_commands_holds : PySem.Challenge.rw_fencelanes_k01_names_and_commands.Holds := by
  w_on; o_law
  refine HandSHeadRun.head_any (r := OpenLaw.row PySem.Challenge.rw_fencelanes_k01_names_and_commands) (q := view (OpenLaw.row PySem.Challenge.rw_fencelanes_k01_names_and_commands).prog [36]) (H := Lw.hk) (ob := Lw.ob) (M := 3000) (loose := Lw.loose) (d := HandSHeadRun.topDef (OpenLaw.row PySem.Challenge.rw_fencelanes_k01_names_and_commands).prog 36) (kwd := []) Lw.ob_eq
    (by kernel_rfl) (fun s => by kernel_rfl) Lw.run (by kernel_rfl) (by kernel_rfl) (by kernel_rfl) (by rfl) (by first | assumption | decide +kernel) (by decide +kernel) ⟨rfl, rfl, rfl, rfl, rfl, by decide +kernel⟩ ?hw ?hc
  case hw => w_witness2
  case hc =>
    refine L2.walk_ofE (l := PySem.Challenge.rw_fencelanes_k01_names_and_commands) (n := 63) (k := 7) (x := "_law_script") (CX := L2.CX0) rfl (by decide) (by kernel_rfl) ⟨rfl, by decide, by decide⟩ ?F (fun _ _ _ _ z => z)
    intro w mg fa h Y G hmg0
    obtain ⟨K, KX, c⟩ := Y
    have T := Lw.txt_of KX G c
    have hmg : mg ("law" : PySem.Str) = some (.ref fa) := by
      have e : (HandSHeadRun.topDef (OpenLaw.row PySem.Challenge.rw_fencelanes_k01_names_and_commands).prog 36).name = ("law" : PySem.Str) := by kernel_rfl
      rw [← e]
      exact hmg0
    have e := hmg.symm.trans T.g_law
    cases e
    obtain ⟨fd, F⟩ := T.d_law
    have b := L2.FunD.bindsA (ps := ["_law_script"]) F fun _ _ _ _ _ _ us hl => match us, hl with | [_], _ => rfl
    exact ⟨K, fd, Mm.sp0 K 1 Lw.m_law, KX, fun s v => b s [v] rfl, fun H a ns hl hO hS => Mm.sp_start hO hS Lw.law_ans _, fun base _ _ => Lw.fn_law T F⟩

