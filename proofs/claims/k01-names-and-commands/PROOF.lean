import PyProof.Rows.All
import HandS.ForMost
import HandS.WordsExc
import HandS.Defaults
import HandS.IsInst
import HandS.TupAny
import HandS.StrMore
import HandS.CallLocal
import HandS.HeadHook1
import HandS.HeadHook2
import HandS.HeadHook3
import HandS.HeadHook4
import KE.KUnpackStar
import KE.GoesEnumKw
import KE.GoesEnum
import KE.KRevSl
import HandS.Style
import HandS.Small
import HandS.SetKeys
import HandS.Comp
import HandS.DictComp
import HandS.SetBool
import HandS.SetTxt0
import PyProof.Rows.SortShellAny
import HandS.SortRule
import HandS.Conv
import HandS.NoneIn
import HandS.SortKw
import KE.SortData
import KE.DatumOrd
import HandS.TupMul
import HandS.SetFor
import HandS.DictTup
import HandS.DictSubView
import HandS.Zip
import HandS.Deep
import PySem.Challenge.RW_fencelanes_k01_names_and_commands
import HandS.Head0
import HandS.Head1
import HandS.Head2
import HandS.HeadEnd
set_option Elab.async false
set_option linter.all false
set_option maxRecDepth 100000
set_option autoImplicit false
set_option maxHeartbeats 0
/-! The mirror layer: a def is mirrored by a plain function over values W and a store of mutable objects. -/
namespace Mm
open PySem PySem.Spec PyProof.Rows L2

/-! ### values and the store -/
inductive W where
  | non | bl (b : Bool) | int (i : Int) | str (x : Str) | ty (n : String) | glo (x : Str) | loc (l : Nat)
  | tup (ws : List W) | ktp (ws : List W) | lst (ws : List W) | arr (ws : List W) | dct (ks : List Key) (ws : List W) | dcT (ks : List (List Key)) (ws : List W) | obj (C : Str) (fs : List Str) (ws : List W)
  | exn (C : Str) (fs : List Str) (ws : List W)
inductive O where
  | lst (ws : List W) | dct (ks : List Key) (ws : List W) | dcT (ks : List (List Key)) (ws : List W) | ins (C : Str) (fs : List Str) (ws : List W)
  | dctL (ks : List Key) (ws : List W) | dcTL (ks : List (List Key)) (ws : List W)
abbrev Sto := List O
abbrev Env := List (Option W)
structure Xn where
  cls : Str
  fs : List (Str × W)
inductive Res (α : Type) where
  | stuck | ok (a : α) (S : Sto) | err (x : Xn) (S : Sto)
abbrev MW (α : Type) := Env → Sto → Res α
abbrev MV := MW W
inductive Fl where
  | next | ret (w : W) | brk | cont
abbrev MS := MW (Fl × Env)
abbrev MF := List W → Sto → Res W

def mBind {α β : Type} (c : MW α) (k : α → MW β) : MW β := fun ρ S => match c ρ S with
  | .stuck => .stuck
  | .ok a S1 => k a ρ S1
  | .err x S1 => .err x S1

/-! ### what stands for what -/
/-- where the store's objects stand; addresses that are being changed elsewhere -/
structure Im where
  f : Nat → Addr
  mu : List Addr
instance : CoeFun Im fun _ => Nat → Addr := ⟨Im.f⟩
/-- a dict -/
def isD : HO → Bool
  | .dK _ => true
  | .dT _ => true
  | _ => false
/-- tracked as it is, or (a dict) locked -/
def HasD (H : Hp) (a : Addr) (o : HO) : Prop := H a = some o ∨ (isD o = true ∧ ∃ od, H a = some (.frz od o))
/-- tracked, and no object of the store -/
structure Fz (ι : Im) (n : Nat) (H : Hp) (a : Addr) (o : HO) : Prop where
  hd : HasD H a o
  ne : ∀ l, l < n → ι l ≠ a
  mu : a ∉ ι.mu
theorem Fz.at_ {ι : Im} {n : Nat} {H : Hp} {a : Addr} {o : HO} (h : Fz ι n H a o) (nd : isD o = false := by rfl) : H a = some o := by
  rcases h.hd with e | ⟨e, _⟩
  · exact e
  · rw [nd] at e; cases e
theorem HasD.rd {H : Hp} {a : Addr} {o : HO} (h : HasD H a o) : Rd H a o := by
  rcases h with e | ⟨_, od, e⟩
  · exact .inl e
  · exact .inr ⟨od, e⟩
theorem HasD.any {H : Hp} {a : Addr} {o : HO} (h : HasD H a o) : ∃ u, H a = some u := by
  rcases h with e | ⟨_, od, e⟩
  · exact ⟨_, e⟩
  · exact ⟨_, e⟩
theorem HasD.same {H H' : Hp} {a : Addr} {o : HO} (h : HasD H a o) (e : H' a = H a) : HasD H' a o := by
  unfold HasD; rw [e]; exact h
theorem HasD.ne {H : Hp} {a p : Addr} {o : HO} (h : HasD H a o) (hp : H p = none) : a ≠ p := fun z => by
  obtain ⟨u, q⟩ := h.any
  rw [z, hp] at q
  cases q
def KL (K : PySem.W.Frag) (a : Addr) (xs : List V) : Prop := ∃ (o : Obj) (its : Array Value) (n : Nat), K.lookup a = some o ∧ o.cls = .type "list" ∧ o.dict = none ∧ o.data = .seq its n ∧ its.size ≤ sizeLine ∧ Vals xs its.toList
def KT (K : PySem.W.Frag) (a : Addr) (xs : List V) : Prop := ∃ (o : Obj) (its : Array Value) (n : Nat), K.lookup a = some o ∧ o.cls = .type "tuple" ∧ o.data = .seq its n ∧ its.size ≤ sizeLine ∧ Vals xs its.toList
def FzT (K : PySem.W.Frag) (ι : Im) (n : Nat) (H : Hp) (a : Addr) (xs : List V) : Prop := Fz ι n H a (.tup xs)
/-- a list that is never changed: the script, one of the module's top -/
def FzL (K : PySem.W.Frag) (ι : Im) (n : Nat) (H : Hp) (a : Addr) (xs : List V) : Prop := (∃ o, Fz ι n H a (.frz o (.lst xs))) ∨ KL K a xs
theorem FzT.sq {K : PySem.W.Frag} {ι : Im} {n : Nat} {H : Hp} {a : Addr} {xs : List V} (h : FzT K ι n H a xs) : SqT K H a xs := .inl (.inl h.at_)
theorem FzL.sq {K : PySem.W.Frag} {ι : Im} {n : Nat} {H : Hp} {a : Addr} {xs : List V} (h : FzL K ι n H a xs) : SqL K H a xs := by
  rcases h with ⟨o, h⟩ | h
  · exact .inl (.inr ⟨o, h.at_⟩)
  · exact .inr h

/-- an exception that was caught: its class, its own dict -/
def ExH (cls : Value) (d : Option Addr) (a : Addr) : HO := .ext fun h => ∃ (oe : Obj) (vs : Array Value), h.get? a = some oe ∧ Zc cls d oe ∧ oe.data = .fields vs
theorem exH_ok {P : Program} {w : World} {H : Hp} {h : Heap} {a : Addr} {cls : Value} {d : Option Addr} {oe : Obj} {vs : Array Value} (e : h.get? a = some oe) (z : Zc cls d oe) (hd : oe.data = .fields vs) : ObjOk P w H h a (ExH cls d a) :=
  ⟨⟨oe, vs, e, z, hd⟩, ⟨oe, e⟩, fun _ _ ⟨o, v, q, r⟩ k => ⟨o, v, k o q, r⟩⟩
mutual
inductive Rep (K : PySem.W.Frag) (ι : Im) (n : Nat) (H : Hp) : W → V → Prop where
  | non : Rep K ι n H .non .non
  | bl (b : Bool) : Rep K ι n H (.bl b) (.bl b)
  | int (i : Int) : Rep K ι n H (.int i) (.int i)
  | str (x : Str) : Rep K ι n H (.str x) (.str x)
  | ty (x : String) : Rep K ι n H (.ty x) (.ty x)
  | glo (x : Str) : Rep K ι n H (.glo x) (.ref (He.ga K x))
  | loc {l : Nat} (h : l < n) : Rep K ι n H (.loc l) (.ref (ι l))
  | tup {ws : List W} {a : Addr} {xs : List V} (h : FzT K ι n H a xs) (r : Reps K ι n H ws xs) : Rep K ι n H (.tup ws) (.ref a)
  | ktp {ws : List W} {a : Addr} {xs : List V} (h : KT K a xs) (r : Reps K ι n H ws xs) : Rep K ι n H (.ktp ws) (.ref a)
  | lst {ws : List W} {a : Addr} {xs : List V} (h : Fz ι n H a (.lst xs)) (r : Reps K ι n H ws xs) : Rep K ι n H (.lst ws) (.ref a)
  | arr {ws : List W} {a : Addr} {xs : List V} (h : FzL K ι n H a xs) (r : Reps K ι n H ws xs) : Rep K ι n H (.arr ws) (.ref a)
  | dct {ks : List Key} {ws : List W} {a : Addr} {xs : List V} (h : Fz ι n H a (.dK (ks.zip xs))) (hl : ks.length = ws.length) (r : Reps K ι n H ws xs) : Rep K ι n H (.dct ks ws) (.ref a)
  | dcT {ks : List (List Key)} {ws : List W} {a : Addr} {xs : List V} (h : Fz ι n H a (.dT (ks.zip xs))) (hl : ks.length = ws.length) (r : Reps K ι n H ws xs) : Rep K ι n H (.dcT ks ws) (.ref a)
  | obj {C : Str} {fs : List Str} {ws : List W} {a dx : Addr} {xs : List V} (h : Fz ι n H a (.ins (He.ga K C) dx (fs.zip xs))) (hl : fs.length = ws.length) (r : Reps K ι n H ws xs) : Rep K ι n H (.obj C fs ws) (.ref a)
  | exn {C : Str} {fs : List Str} {ws : List W} {a : Addr} {d : Option Addr} {xs : List V} (h : Fz ι n H a (ExH (.ref (He.ga K C)) d a)) (hd : (fs = [] ∧ d = none) ∨ ∃ dd, d = some dd ∧ Fz ι n H dd (.xd (fs.zip xs))) (hl : fs.length = ws.length) (r : Reps K ι n H ws xs) : Rep K ι n H (.exn C fs ws) (.ref a)
inductive Reps (K : PySem.W.Frag) (ι : Im) (n : Nat) (H : Hp) : List W → List V → Prop where
  | nil : Reps K ι n H [] []
  | cons {w : W} {v : V} {ws : List W} {vs : List V} (h : Rep K ι n H w v) (r : Reps K ι n H ws vs) : Reps K ι n H (w :: ws) (v :: vs)
end

/-- all that stands for something goes on to do so -/
structure Mv (ι : Im) (n : Nat) (H : Hp) (ι' : Im) (n' : Nat) (H' : Hp) : Prop where
  le : n ≤ n'
  io : ∀ l, l < n → ι' l = ι l
  fz : ∀ a o, Fz ι n H a o → Fz ι' n' H' a o
  fr : ∀ a od u, H a = some (.frz od u) → H' a = some (.frz od u)
structure Ext (ι : Im) (n : Nat) (H : Hp) (ι' : Im) (n' : Nat) (H' : Hp) : Prop extends Mv ι n H ι' n' H' where
  mu : ι'.mu = ι.mu
  pr : ∀ a, a ∈ ι.mu → H' a = H a
section
variable {K : PySem.W.Frag} {ι ι1 ι2 : Im} {n n1 n2 : Nat} {H H1 H2 : Hp}
theorem Mv.refl : Mv ι n H ι n H := ⟨Nat.le_refl _, fun _ _ => rfl, fun _ _ h => h, fun _ _ _ h => h⟩
theorem Ext.refl : Ext ι n H ι n H := ⟨Mv.refl, rfl, fun _ _ => rfl⟩
theorem Mv.trans (a : Mv ι n H ι1 n1 H1) (b : Mv ι1 n1 H1 ι2 n2 H2) : Mv ι n H ι2 n2 H2 :=
  ⟨Nat.le_trans a.le b.le, fun l h => (b.io l (Nat.lt_of_lt_of_le h a.le)).trans (a.io l h), fun x o h => b.fz x o (a.fz x o h), fun x o u h => b.fr x o u (a.fr x o u h)⟩
theorem Ext.trans (a : Ext ι n H ι1 n1 H1) (b : Ext ι1 n1 H1 ι2 n2 H2) : Ext ι n H ι2 n2 H2 :=
  ⟨a.toMv.trans b.toMv, b.mu.trans a.mu, fun x h => (b.pr x (a.mu ▸ h)).trans (a.pr x h)⟩
theorem Mv.fzT (e : Mv ι n H ι1 n1 H1) {a : Addr} {xs : List V} (h : FzT K ι n H a xs) : FzT K ι1 n1 H1 a xs := e.fz _ _ h
theorem Mv.fzL (e : Mv ι n H ι1 n1 H1) {a : Addr} {xs : List V} (h : FzL K ι n H a xs) : FzL K ι1 n1 H1 a xs := by
  rcases h with ⟨o, h⟩ | h
  · exact .inl ⟨o, e.fz _ _ h⟩
  · exact .inr h
mutual
theorem Rep.mv (e : Mv ι n H ι1 n1 H1) : ∀ {w : W} {v : V}, Rep K ι n H w v → Rep K ι1 n1 H1 w v
  | _, _, .non => .non
  | _, _, .bl b => .bl b
  | _, _, .int i => .int i
  | _, _, .str x => .str x
  | _, _, .ty x => .ty x
  | _, _, .glo x => .glo x
  | _, _, .loc (l := l) h => by
    rw [← e.io l h]
    exact .loc (Nat.lt_of_lt_of_le h e.le)
  | _, _, .tup h r => .tup (e.fzT h) (Reps.mv e r)
  | _, _, .ktp h r => .ktp h (Reps.mv e r)
  | _, _, .lst h r => .lst (e.fz _ _ h) (Reps.mv e r)
  | _, _, .arr h r => .arr (e.fzL h) (Reps.mv e r)
  | _, _, .dct h hl r => .dct (e.fz _ _ h) hl (Reps.mv e r)
  | _, _, .dcT h hl r => .dcT (e.fz _ _ h) hl (Reps.mv e r)
  | _, _, .obj h hl r => .obj (e.fz _ _ h) hl (Reps.mv e r)
  | _, _, .exn h hd hl r => .exn (e.fz _ _ h) (hd.imp id fun ⟨dd, q, z⟩ => ⟨dd, q, e.fz _ _ z⟩) hl (Reps.mv e r)
theorem Reps.mv (e : Mv ι n H ι1 n1 H1) : ∀ {ws : List W} {vs : List V}, Reps K ι n H ws vs → Reps K ι1 n1 H1 ws vs
  | _, _, .nil => .nil
  | _, _, .cons h r => .cons (Rep.mv e h) (Reps.mv e r)
end
theorem Rep.mono (e : Ext ι n H ι1 n1 H1) {w : W} {v : V} (h : Rep K ι n H w v) : Rep K ι1 n1 H1 w v := h.mv e.toMv
theorem Reps.mono (e : Ext ι n H ι1 n1 H1) {ws : List W} {vs : List V} (h : Reps K ι n H ws vs) : Reps K ι1 n1 H1 ws vs := h.mv e.toMv
theorem Ext.fzT (e : Ext ι n H ι1 n1 H1) {a : Addr} {xs : List V} (h : FzT K ι n H a xs) : FzT K ι1 n1 H1 a xs := e.toMv.fzT h
theorem Ext.fzL (e : Ext ι n H ι1 n1 H1) {a : Addr} {xs : List V} (h : FzL K ι n H a xs) : FzL K ι1 n1 H1 a xs := e.toMv.fzL h
theorem Reps.length {ws : List W} {vs : List V} (h : Reps K ι n H ws vs) : ws.length = vs.length := by
  induction ws generalizing vs with
  | nil => cases h; rfl
  | cons w ws ih => cases h with | cons a r => simp [ih r]
theorem Reps.get {ws : List W} {vs : List V} (h : Reps K ι n H ws vs) : ∀ {i : Nat} {w : W}, ws[i]? = some w → ∃ v, vs[i]? = some v ∧ Rep K ι n H w v := by
  induction ws generalizing vs with
  | nil => intro i w e; simp at e
  | cons w ws ih =>
    intro i u e
    cases h with
    | @cons _ v _ vs a r =>
      cases i with
      | zero => simp at e; subst e; exact ⟨v, rfl, a⟩
      | succ i => exact ih r (by simpa using e)
theorem Reps.getV {ws : List W} {vs : List V} (h : Reps K ι n H ws vs) : ∀ {i : Nat} {v : V}, vs[i]? = some v → ∃ w, ws[i]? = some w ∧ Rep K ι n H w v := by
  induction ws generalizing vs with
  | nil => intro i w e; cases h; simp at e
  | cons w ws ih =>
    intro i u e
    cases h with
    | @cons _ v _ vs a r =>
      cases i with
      | zero => simp at e; subst e; exact ⟨w, rfl, a⟩
      | succ i => exact ih r (by simpa using e)
theorem Reps.append {ws us : List W} {vs xs : List V} (h : Reps K ι n H ws vs) (h2 : Reps K ι n H us xs) : Reps K ι n H (ws ++ us) (vs ++ xs) := by
  induction ws generalizing vs with
  | nil => cases h; exact h2
  | cons w ws ih => cases h with | cons a r => exact .cons a (ih r)
theorem Reps.drop {ws : List W} {vs : List V} (h : Reps K ι n H ws vs) : ∀ (i : Nat), Reps K ι n H (ws.drop i) (vs.drop i) := by
  induction ws generalizing vs with
  | nil => intro i; cases h; cases i <;> exact .nil
  | cons w ws ih =>
    intro i
    cases h with
    | cons a r =>
      cases i with
      | zero => exact .cons a r
      | succ i => exact ih r i
theorem Reps.take {ws : List W} {vs : List V} (h : Reps K ι n H ws vs) : ∀ (i : Nat), Reps K ι n H (ws.take i) (vs.take i) := by
  induction ws generalizing vs with
  | nil => intro i; cases h; cases i <;> exact .nil
  | cons w ws ih =>
    intro i
    cases h with
    | cons a r =>
      cases i with
      | zero => exact .nil
      | succ i => exact .cons a (ih r i)
theorem Reps.reverse {ws : List W} {vs : List V} (h : Reps K ι n H ws vs) : Reps K ι n H ws.reverse vs.reverse := by
  induction ws generalizing vs with
  | nil => cases h; exact .nil
  | cons w ws ih =>
    cases h with
    | cons a r =>
      rw [List.reverse_cons, List.reverse_cons]
      exact (ih r).append (.cons a .nil)
theorem Reps.set {ws : List W} {vs : List V} {w : W} {v : V} (hw : Rep K ι n H w v) (h : Reps K ι n H ws vs) : ∀ (i : Nat), Reps K ι n H (ws.set i w) (vs.set i v) := by
  induction ws generalizing vs with
  | nil => intro i; cases h; cases i <;> exact .nil
  | cons w ws ih =>
    intro i
    cases h with
    | cons a r =>
      cases i with
      | zero => exact .cons hw r
      | succ i => exact .cons a (ih r i)
theorem Reps.of_mem {ws : List W} {vs : List V} (h : Reps K ι n H ws vs) {w : W} (hm : w ∈ ws) : ∃ v, v ∈ vs ∧ Rep K ι n H w v := by
  obtain ⟨i, hi⟩ := List.getElem?_of_mem hm
  obtain ⟨v, e, r⟩ := h.get hi
  exact ⟨v, List.mem_of_getElem? e, r⟩
end

def RepO (K : PySem.W.Frag) (ι : Im) (n : Nat) (H : Hp) (a : Addr) : O → Prop
  | .lst ws => ∃ xs, H a = some (.lst xs) ∧ Reps K ι n H ws xs
  | .dct ks ws => ∃ xs, H a = some (.dK (ks.zip xs)) ∧ ks.length = ws.length ∧ Reps K ι n H ws xs
  | .dcT ks ws => ∃ xs, H a = some (.dT (ks.zip xs)) ∧ ks.length = ws.length ∧ Reps K ι n H ws xs
  | .ins C fs ws => ∃ dx xs, H a = some (.ins (He.ga K C) dx (fs.zip xs)) ∧ fs.length = ws.length ∧ Reps K ι n H ws xs
  | .dctL ks ws => ∃ xs od, H a = some (.frz od (.dK (ks.zip xs))) ∧ ks.length = ws.length ∧ Reps K ι n H ws xs
  | .dcTL ks ws => ∃ xs od, H a = some (.frz od (.dT (ks.zip xs))) ∧ ks.length = ws.length ∧ Reps K ι n H ws xs

/-- no tuple, nothing locked -/
def noTup : HO → Prop
  | .tup _ => False
  | .frz _ _ => False
  | _ => True
structure Rl (K : PySem.W.Frag) (ι : Im) (S : Sto) (H : Hp) : Prop where
  inj : ∀ l m, l < S.length → m < S.length → ι l = ι m → l = m
  obj : ∀ l o, S[l]? = some o → RepO K ι S.length H (ι l) o
  mu : ∀ a, a ∈ ι.mu → ∃ o, H a = some o ∧ noTup o
  mn : ∀ l, l < S.length → ι l ∉ ι.mu

section
variable {K : PySem.W.Frag} {ι ι' : Im} {n : Nat} {S S' : Sto} {H H' : Hp}
theorem RepO.some {a : Addr} {o : O} (h : RepO K ι n H a o) : ∃ u, H a = some u := by
  cases o with
  | lst ws => obtain ⟨xs, e, _⟩ := h; exact ⟨_, e⟩
  | dct ks ws => obtain ⟨xs, e, _⟩ := h; exact ⟨_, e⟩
  | dcT ks ws => obtain ⟨xs, e, _⟩ := h; exact ⟨_, e⟩
  | ins C fs ws => obtain ⟨dx, xs, e, _⟩ := h; exact ⟨_, e⟩
  | dctL ks ws => obtain ⟨xs, od, e, _⟩ := h; exact ⟨_, e⟩
  | dcTL ks ws => obtain ⟨xs, od, e, _⟩ := h; exact ⟨_, e⟩
theorem Rl.some (r : Rl K ι S H) {l : Nat} (h : l < S.length) : ∃ u, H (ι l) = some u :=
  (r.obj l _ (List.getElem?_eq_getElem h)).some
theorem Rl.ne (r : Rl K ι S H) {p : Addr} (hp : H p = none) : ∀ l, l < S.length → ι l ≠ p := fun l h e => by
  obtain ⟨u, q⟩ := r.some h
  rw [e, hp] at q
  cases q
theorem Rl.nmu (r : Rl K ι S H) {p : Addr} (hp : H p = none) : p ∉ ι.mu := fun h => by
  obtain ⟨o, q, _⟩ := r.mu p h
  rw [hp] at q
  cases q
/-- a new frozen object -/
theorem Ext.new (r : Rl K ι S H) {p : Addr} {o : HO} (hp : H p = none) : Ext ι S.length H ι S.length (upd H p o) :=
  ⟨⟨Nat.le_refl _, fun _ _ => rfl, fun a u h => ⟨h.hd.same (upd_ne (h.hd.ne hp)), h.ne, h.mu⟩, fun a od u h => by rw [upd_ne (ne_of_none h hp)]; exact h⟩, rfl, fun a h => upd_ne fun e => r.nmu hp (e ▸ h)⟩
theorem RepO.mv {o : O} {a : Addr} {n' : Nat} (e : Mv ι n H ι' n' H') (ha : H' a = H a) (h : RepO K ι n H a o) : RepO K ι' n' H' a o := by
  cases o with
  | lst ws => obtain ⟨xs, q, z⟩ := h; exact ⟨xs, ha.trans q, z.mv e⟩
  | dct ks ws => obtain ⟨xs, q, y, z⟩ := h; exact ⟨xs, ha.trans q, y, z.mv e⟩
  | dcT ks ws => obtain ⟨xs, q, y, z⟩ := h; exact ⟨xs, ha.trans q, y, z.mv e⟩
  | ins C fs ws => obtain ⟨dx, xs, q, y, z⟩ := h; exact ⟨dx, xs, ha.trans q, y, z.mv e⟩
  | dctL ks ws => obtain ⟨xs, od, q, y, z⟩ := h; exact ⟨xs, od, ha.trans q, y, z.mv e⟩
  | dcTL ks ws => obtain ⟨xs, od, q, y, z⟩ := h; exact ⟨xs, od, ha.trans q, y, z.mv e⟩
theorem RepO.mono {o : O} {a : Addr} {n' : Nat} (e : Ext ι n H ι' n' H') (ha : H' a = H a) (h : RepO K ι n H a o) : RepO K ι' n' H' a o := h.mv e.toMv ha
theorem Rl.new (r : Rl K ι S H) {p : Addr} {o : HO} (hp : H p = none) : Rl K ι S (upd H p o) :=
  ⟨r.inj, fun l u e => by
    have hl : l < S.length := (List.getElem?_eq_some_iff.mp e).1
    exact (r.obj l u e).mono (Ext.new r hp) (upd_ne (r.ne hp l hl)), fun a h => by
    obtain ⟨u, q, nt⟩ := r.mu a h
    exact ⟨u, by rw [upd_ne (ne_of_none q hp)]; exact q, nt⟩, r.mn⟩
theorem Fz.new (r : Rl K ι S H) {p : Addr} {o : HO} (hp : H p = none) : Fz ι S.length (upd H p o) p o := ⟨.inl upd_same, r.ne hp, r.nmu hp⟩
/-- nothing locked stands there -/
def NoFz (H : Hp) (a : Addr) : Prop := ∀ od u, H a ≠ some (.frz od u)
theorem nofz {a : Addr} {x : HO} (h : H a = some x) (hx : noTup x := by trivial) : NoFz H a := fun od u e => by
  rw [h] at e
  cases e
  exact hx
/-- the store's object at l is written -/
theorem Ext.set (r : Rl K ι S H) {l : Nat} {o : HO} (hl : l < S.length) (nf : NoFz H (ι l)) : Ext ι S.length H ι S.length (upd H (ι l) o) :=
  ⟨⟨Nat.le_refl _, fun _ _ => rfl, fun a u h => ⟨h.hd.same (upd_ne (Ne.symm (h.ne l hl))), h.ne, h.mu⟩, fun a od u h => by rw [upd_ne (show a ≠ ι l from fun z => nf od u (z ▸ h))]; exact h⟩, rfl, fun a h => upd_ne fun e => r.mn l hl (e ▸ h)⟩
theorem Rl.set (r : Rl K ι S H) {l : Nat} {o : HO} {u : O} (hl : l < S.length) (nf : NoFz H (ι l)) (hu : RepO K ι S.length (upd H (ι l) o) (ι l) u) : Rl K ι (S.set l u) (upd H (ι l) o) := by
  refine ⟨fun i j hi hj e => r.inj i j (by simpa using hi) (by simpa using hj) e, fun i q e => ?_, fun a h => ?_, fun i hi => r.mn i (by simpa using hi)⟩
  rotate_left
  · obtain ⟨v, q, nt⟩ := r.mu a h
    exact ⟨v, by rw [upd_ne (show a ≠ ι l from fun z => r.mn l hl (z ▸ h))]; exact q, nt⟩
  rw [List.length_set]
  by_cases h : i = l
  · subst h
    rw [List.getElem?_set_self hl] at e
    cases e
    exact hu
  · rw [List.getElem?_set_ne (Ne.symm h)] at e
    have hi : i < S.length := (List.getElem?_eq_some_iff.mp e).1
    refine (r.obj i q e).mono (Ext.set r hl nf) (upd_ne fun z => h (r.inj i l hi hl z))
/-- a new object of the store -/
def ιx (ι : Im) (n : Nat) (p : Addr) : Im := ⟨fun l => if l = n then p else ι l, ι.mu⟩
theorem ιx_at {ι : Im} {n : Nat} {p : Addr} : ιx ι n p n = p := if_pos rfl
theorem ιx_lt {ι : Im} {n : Nat} {p : Addr} {l : Nat} (h : l < n) : ιx ι n p l = ι l := if_neg (Nat.ne_of_lt h)
theorem Ext.push (r : Rl K ι S H) {p : Addr} {o : HO} (hp : H p = none) : Ext ι S.length H (ιx ι S.length p) (S.length + 1) (upd H p o) :=
  ⟨⟨Nat.le_succ _, fun l h => ιx_lt h, fun a u h => ⟨h.hd.same (upd_ne (h.hd.ne hp)), fun l hl => by
    by_cases e : l = S.length
    · subst e
      rw [ιx_at]
      exact Ne.symm (h.hd.ne hp)
    · rw [ιx_lt (by omega)]
      exact h.ne l (by omega), h.mu⟩, fun a od u h => by rw [upd_ne (ne_of_none h hp)]; exact h⟩, rfl, fun a h => upd_ne fun e => r.nmu hp (e ▸ h)⟩
theorem Rl.push (r : Rl K ι S H) {p : Addr} {o : HO} {u : O} (hp : H p = none) (hu : RepO K (ιx ι S.length p) (S.length + 1) (upd H p o) p u) : Rl K (ιx ι S.length p) (S ++ [u]) (upd H p o) := by
  have hn : (S ++ [u]).length = S.length + 1 := by simp
  refine ⟨fun i j hi hj e => ?_, fun i q e => ?_, fun a h => ?_, fun i hi => ?_⟩
  rotate_left 2
  · obtain ⟨v, q, nt⟩ := r.mu a h
    exact ⟨v, by rw [upd_ne (ne_of_none q hp)]; exact q, nt⟩
  · rw [hn] at hi
    by_cases h1 : i = S.length
    · rw [h1, ιx_at]
      exact r.nmu hp
    · rw [ιx_lt (by omega)]
      exact r.mn i (by omega)
  · rw [hn] at hi hj
    by_cases h1 : i = S.length
    · by_cases h2 : j = S.length
      · rw [h1, h2]
      · rw [h1, ιx_at, ιx_lt (by omega)] at e
        exact absurd e.symm (r.ne hp j (by omega))
    · by_cases h2 : j = S.length
      · rw [h2, ιx_at, ιx_lt (by omega)] at e
        exact absurd e (r.ne hp i (by omega))
      · rw [ιx_lt (by omega), ιx_lt (by omega)] at e
        exact r.inj i j (by omega) (by omega) e
  · rw [hn]
    by_cases h1 : i = S.length
    · subst h1
      rw [List.getElem?_append_right (Nat.le_refl _), Nat.sub_self] at e
      cases e
      rw [ιx_at]
      exact hu
    · have hi : i < (S ++ [u]).length := (List.getElem?_eq_some_iff.mp e).1
      rw [hn] at hi
      rw [List.getElem?_append_left (by omega)] at e
      rw [ιx_lt (by omega)]
      exact (r.obj i q e).mono (Ext.push r hp) (upd_ne (r.ne hp i (by omega)))
end

/-! ### slots -/
structure RE (K : PySem.W.Frag) (ι : Im) (n : Nat) (H : Hp) (ρ : Env) (σ : L2.St) : Prop where
  len : ρ.length = σ.length
  at_ : ∀ (i : Nat) (w : W), ρ[i]? = some (some w) → ∃ v, σ[i]? = some (some v) ∧ Rep K ι n H w v
section
variable {K : PySem.W.Frag} {ι ι' : Im} {n n' : Nat} {S S' : Sto} {H H' : Hp} {ρ : Env} {σ : L2.St}
theorem RE.mv (e : Mv ι n H ι' n' H') (h : RE K ι n H ρ σ) : RE K ι' n' H' ρ σ :=
  ⟨h.len, fun i w q => let ⟨v, a, b⟩ := h.at_ i w q; ⟨v, a, b.mv e⟩⟩
theorem RE.mono (e : Ext ι n H ι' n' H') (h : RE K ι n H ρ σ) : RE K ι' n' H' ρ σ := h.mv e.toMv
theorem RE.set (h : RE K ι n H ρ σ) {w : W} {v : V} (r : Rep K ι n H w v) (i : Nat) : RE K ι n H (ρ.set i (some w)) (σ.set i (some v)) := by
  refine ⟨by simpa using h.len, fun j u q => ?_⟩
  by_cases e : j = i
  · subst e
    have hj : j < ρ.length := by
      have := (List.getElem?_eq_some_iff.mp q).1
      simpa using this
    rw [List.getElem?_set_self hj] at q
    cases q
    exact ⟨v, List.getElem?_set_self (h.len ▸ hj), r⟩
  · rw [List.getElem?_set_ne (Ne.symm e)] at q
    rw [List.getElem?_set_ne (Ne.symm e)]
    exact h.at_ j u q
/-- slots forgotten -/
theorem RE.drop (h : RE K ι n H ρ σ) {ρ' : Env} (hl : ρ'.length = ρ.length) (w : ∀ (i : Nat) u, ρ'[i]? = some (some u) → ρ[i]? = some (some u)) : RE K ι n H ρ' σ :=
  ⟨hl.trans h.len, fun i u q => h.at_ i u (w i u q)⟩
end

/-! ### exceptions -/
/-- an exception of a class of the program: its class; its own dict, where it has fields -/
def RepX (K : PySem.W.Frag) (ι : Im) (n : Nat) (H : Hp) (x : Xn) (C : Value) (d : Option Addr) : Prop :=
  C = .ref (He.ga K x.cls) ∧ ((x.fs = [] ∧ d = none) ∨ ∃ a vs, d = some a ∧ Fz ι n H a (.xd ((x.fs.map (·.1)).zip vs)) ∧ Reps K ι n H (x.fs.map (·.2)) vs)

/-! ### what comes of a computation -/
def Post {α : Type} (K : PySem.W.Frag) (E : XK) (r : Res α) (ι : Im) (n : Nat) (H : Hp) (P : α → Sto → (Im) → Hp → Prop) : Prop := match r with
  | .stuck => False
  | .ok a S' => ∀ ι' H', Ext ι n H ι' S'.length H' → Rl K ι' S' H' → P a S' ι' H'
  | .err x S' => ∀ ι' H', Ext ι n H ι' S'.length H' → Rl K ι' S' H' → ∀ C d, RepX K ι' S'.length H' x C d → E C d H'
section
variable {α β : Type} {K : PySem.W.Frag} {E : XK} {ι ι1 : Im} {n n1 : Nat} {H H1 : Hp} {r : Res α} {P P' : α → Sto → (Im) → Hp → Prop} {ρ : Env} {S : Sto}
theorem Post.mono (h : Post K E r ι n H P) (k : ∀ a S' ι' H', Ext ι n H ι' S'.length H' → Rl K ι' S' H' → P a S' ι' H' → P' a S' ι' H') : Post K E r ι n H P' := by
  cases r with
  | stuck => exact h
  | ok a S' => exact fun ι' H' e q => k a S' ι' H' e q (h ι' H' e q)
  | err x S' => exact h
theorem Post.from (h : Post K E r ι n H P) (e : Ext ι n H ι1 n1 H1) : Post K E r ι1 n1 H1 P := by
  cases r with
  | stuck => exact h
  | ok a S' => exact fun ι' H' e' q => h ι' H' (e.trans e') q
  | err x S' => exact fun ι' H' e' q => h ι' H' (e.trans e') q
theorem Post.bind {c : MW α} {k : α → MW β} {P : β → Sto → (Im) → Hp → Prop} (h : Post K E (mBind c k ρ S) ι n H P) :
    Post K E (c ρ S) ι n H fun a S1 ι1 H1 => Post K E (k a ρ S1) ι1 S1.length H1 P := by
  unfold mBind at h
  cases e : c ρ S with
  | stuck => rw [e] at h; exact h
  | ok a S1 => rw [e] at h; exact fun ι1 H1 e1 q => Post.from h e1
  | err x S1 => rw [e] at h; exact h
end

/-! ### readings of computations -/
section
variable (K : PySem.W.Frag) (E : XK)
def tOf (c : MV) : TE := fun σ H Q => ∃ ρ ι S, RE K ι S.length H ρ σ ∧ Rl K ι S H ∧ Post K E (c ρ S) ι S.length H fun w S' ι' H' => ∀ v, Rep K ι' S'.length H' w v → Q v H'
def tOfB (c : MW Bool) : TT := fun σ H Q => ∃ ρ ι S, RE K ι S.length H ρ σ ∧ Rl K ι S H ∧ Post K E (c ρ S) ι S.length H fun b _ _ H' => Q b H'
def tOfA (c : MW (List W)) : TA := fun σ H Q => ∃ ρ ι S, RE K ι S.length H ρ σ ∧ Rl K ι S H ∧ Post K E (c ρ S) ι S.length H fun ws S' ι' H' => ∀ vs, Reps K ι' S'.length H' ws vs → Q vs H'
def flowOk (D : Ends) (p : Fl × Env) (S' : Sto) (ι' : Im) (H' : Hp) : Prop := ∀ σ', RE K ι' S'.length H' p.2 σ' → match p.1 with
  | .next => D.nx σ' H'
  | .ret w => ∀ v, Rep K ι' S'.length H' w v → D.rt v H'
  | .brk => D.bk σ' H'
  | .cont => D.ct σ' H'
def tOfS (c : MS) : TS := fun D σ H => ∃ ρ ι S, RE K ι S.length H ρ σ ∧ Rl K ι S H ∧ Post K E (c ρ S) ι S.length H (flowOk K D)
end

/-! ### the judgements: a piece of syntax and its mirror -/
abbrev CE (X : Cx) (E : XK) (e : Expr) (c : MV) : Prop := PE X e (tOf X.K E c)
abbrev CT (X : Cx) (E : XK) (e : Expr) (c : MW Bool) : Prop := PT X e (tOfB X.K E c)
abbrev CW (X : Cx) (E : XK) (e : Expr) (c : MW Bool) : Prop := PW X e (tOfB X.K E c)
abbrev CA (X : Cx) (E : XK) (es : List Expr) (c : MW (List W)) : Prop := PA X es (tOfA X.K E c)
abbrev CS (X : Cx) (E : XK) (st : Stmt) (c : MS) : Prop := PS X st (tOfS X.K E c)
abbrev CSs (X : Cx) (E : XK) (st : List Stmt) (c : MS) : Prop := PSs X st (tOfS X.K E c)
section
variable {X : Cx} {E : XK} {e : Expr}
theorem PE.weak {t t' : TE} (h : PE X e t) (k : ∀ σ H Q, t' σ H Q → t σ H Q) : PE X e t' := ⟨fun pins s σ H Q I q => h.run pins s σ H Q I (k σ H Q q)⟩
theorem PT.weak {t t' : TT} (h : PT X e t) (k : ∀ σ H Q, t' σ H Q → t σ H Q) : PT X e t' := ⟨fun pins s σ H Q I q => h.run pins s σ H Q I (k σ H Q q)⟩
theorem PW.weak {t t' : TT} (h : PW X e t) (k : ∀ σ H Q, t' σ H Q → t σ H Q) : PW X e t' := ⟨fun whole pins s σ H Q I q => h.run whole pins s σ H Q I (k σ H Q q)⟩
theorem PA.weak {es : List Expr} {t t' : TA} (h : PA X es t) (k : ∀ σ H Q, t' σ H Q → t σ H Q) : PA X es t' := ⟨fun pos pins s σ H Q I q => h.run pos pins s σ H Q I (k σ H Q q)⟩
theorem PS.weak {st : Stmt} {t t' : TS} (h : PS X st t) (k : ∀ D σ H, t' D σ H → t D σ H) : PS X st t' := ⟨fun pins s σ H D I q => h.run pins s σ H D I (k D σ H q)⟩
theorem PSs.weak {st : List Stmt} {t t' : TS} (h : PSs X st t) (k : ∀ D σ H, t' D σ H → t D σ H) : PSs X st t' := ⟨fun pins s σ H D I q => h.run pins s σ H D I (k D σ H q)⟩
theorem PG.weak {t t' : TG} (h : PG X e t) (k : ∀ v σ H Q, t' v σ H Q → t v σ H Q) : PG X e t' := ⟨fun pins s σ H v u Q I r q => h.run pins s σ H v u Q I r (k v σ H Q q)⟩
end
end Mm

/-! The mirror layer: expressions. -/
namespace Mm
open PySem PySem.Spec PyProof.Rows L2

abbrev PostV (K : PySem.W.Frag) (E : XK) (r : Res W) (ι : Im) (n : Nat) (H : Hp) (Q : VK) : Prop := Post K E r ι n H fun w S' ι' H' => ∀ v, Rep K ι' S'.length H' w v → Q v H'
def SimR (K : PySem.W.Frag) (E : XK) (r : R2) (f : W → W → Sto → Res W) : Prop := ∀ (x y : W) (xv yv : V) (ι : Im) (S : Sto) (H : Hp) (Q : VK), Rl K ι S H → Rep K ι S.length H x xv → Rep K ι S.length H y yv → PostV K E (f x y S) ι S.length H Q → r xv yv H Q
def SimU (K : PySem.W.Frag) (E : XK) (r : V → Hp → VK → Prop) (f : W → Sto → Res W) : Prop := ∀ (x : W) (xv : V) (ι : Im) (S : Sto) (H : Hp) (Q : VK), Rl K ι S H → Rep K ι S.length H x xv → PostV K E (f x S) ι S.length H Q → r xv H Q
def SimC (K : PySem.W.Frag) (E : XK) (r : List V → Hp → VK → Prop) (f : MF) : Prop := ∀ (xs : List W) (xv : List V) (ι : Im) (S : Sto) (H : Hp) (Q : VK), Rl K ι S H → Reps K ι S.length H xs xv → PostV K E (f xs S) ι S.length H Q → r xv H Q
def rOr (r r' : R2) : R2 := fun x y H Q => r x y H Q ∨ r' x y H Q
def cOr (r r' : List V → Hp → VK → Prop) : List V → Hp → VK → Prop := fun x H Q => r x H Q ∨ r' x H Q
theorem opr_or {X : Cx} {f : Value → Value → Sem Value} {r r' : R2} (h : OpR X f r) (h' : OpR X f r') : OpR X f (rOr r r') := fun pins s σ H x y v u Q I rx ry q =>
  q.elim (fun q => h pins s σ H x y v u Q I rx ry q) fun q => h' pins s σ H x y v u Q I rx ry q
theorem callr_or {X : Cx} {f : Value} {r r' : List V → Hp → VK → Prop} (h : CallR X f r) (h' : CallR X f r') : CallR X f (cOr r r') := fun pins s σ H xs us Q I rx q =>
  q.elim (fun q => h pins s σ H xs us Q I rx q) fun q => h' pins s σ H xs us Q I rx q
theorem pe_or2 {X : Cx} {e : Expr} {t t' : TE} (h : PE X e t) (h' : PE X e t') : PE X e (fun σ H Q => t σ H Q ∨ t' σ H Q) := ⟨fun pins s σ H Q I q => q.elim (fun q => h.run pins s σ H Q I q) fun q => h'.run pins s σ H Q I q⟩

/-! ### items -/
/-- the items of a list, wherever it stands -/
def seqL (S : Sto) : W → Option (List W)
  | .lst ws => some ws
  | .arr ws => some ws
  | .loc l => match S[l]? with
    | some (.lst ws) => some ws
    | _ => none
  | _ => none
/-- .. of a list that is tracked by itself -/
def seqO (S : Sto) : W → Option (List W)
  | .lst ws => some ws
  | .loc l => match S[l]? with
    | some (.lst ws) => some ws
    | _ => none
  | _ => none
section
variable {K : PySem.W.Frag} {E : XK} {ι : Im} {n : Nat} {S : Sto} {H : Hp} {Q : VK}
theorem seqL_ok (rl : Rl K ι S H) {w : W} {v : V} {ws : List W} (e : seqL S w = some ws) (r : Rep K ι S.length H w v) : ∃ a xs, v = .ref a ∧ SqL K H a xs ∧ Reps K ι S.length H ws xs := by
  cases r with
  | @lst ws' a xs h r => cases e; exact ⟨a, xs, rfl, .inl (.inl h.at_), r⟩
  | @arr ws' a xs h r => cases e; exact ⟨a, xs, rfl, h.sq, r⟩
  | @loc l h =>
    have e' : (match S[l]? with | some (O.lst ws) => some ws | _ => none) = some ws := e
    split at e'
    · rename_i q
      cases e'
      obtain ⟨xs, h1, h2⟩ := rl.obj l _ q
      exact ⟨_, xs, rfl, .inl (.inl h1), h2⟩
    · cases e'
  | _ => cases e
theorem seqO_ok (rl : Rl K ι S H) {w : W} {v : V} {ws : List W} (e : seqO S w = some ws) (r : Rep K ι S.length H w v) : ∃ a xs, v = .ref a ∧ H a = some (.lst xs) ∧ Reps K ι S.length H ws xs := by
  cases r with
  | @lst ws' a xs h r => cases e; exact ⟨a, xs, rfl, h.at_, r⟩
  | @loc l h =>
    have e' : (match S[l]? with | some (O.lst ws) => some ws | _ => none) = some ws := e
    split at e'
    · rename_i q
      cases e'
      obtain ⟨xs, h1, h2⟩ := rl.obj l _ q
      exact ⟨_, xs, rfl, h1, h2⟩
    · cases e'
  | _ => cases e
theorem tup_ok {w : W} {v : V} {ws : List W} (e : w = .tup ws) (r : Rep K ι n H w v) : ∃ a xs, v = .ref a ∧ SqT K H a xs ∧ FzT K ι n H a xs ∧ Reps K ι n H ws xs := by
  subst e
  cases r with
  | @tup _ a xs h r => exact ⟨a, xs, rfl, h.sq, h, r⟩
/-- the end: a value, nothing changed -/
theorem PostV.now {w : W} {v : V} (h : PostV K E (.ok w S) ι S.length H Q) (rl : Rl K ι S H) (r : Rep K ι S.length H w v) : Q v H := h ι H Ext.refl rl v r
/-- the end: a new list, tuple, not of the store -/
theorem PostV.newL {ws : List W} {xs : List V} (h : PostV K E (.ok (.lst ws) S) ι S.length H Q) (rl : Rl K ι S H) (r : Reps K ι S.length H ws xs) : ∀ p, H p = none → Q (.ref p) (upd H p (.lst xs)) := fun p hp =>
  h ι _ (Ext.new rl hp) (rl.new hp) _ (.lst (Fz.new rl hp) (r.mono (Ext.new rl hp)))
theorem PostV.newT {ws : List W} {xs : List V} (h : PostV K E (.ok (.tup ws) S) ι S.length H Q) (rl : Rl K ι S H) (r : Reps K ι S.length H ws xs) : ∀ p, H p = none → Q (.ref p) (upd H p (.tup xs)) := fun p hp =>
  h ι _ (Ext.new rl hp) (rl.new hp) _ (.tup (Fz.new rl hp) (r.mono (Ext.new rl hp)))
theorem PostV.newLoc {ws : List W} {xs : List V} (h : PostV K E (.ok (.loc S.length) (S ++ [.lst ws])) ι S.length H Q) (rl : Rl K ι S H) (r : Reps K ι S.length H ws xs) : ∀ p, H p = none → Q (.ref p) (upd H p (.lst xs)) := fun p hp => by
  have e := Ext.push (o := .lst xs) rl hp
  have hn : (S ++ [O.lst ws]).length = S.length + 1 := by simp
  have rl' := rl.push (o := .lst xs) (u := .lst ws) hp ⟨xs, upd_same, r.mono e⟩
  have q := h (ιx ι S.length p) (upd H p (.lst xs)) (by rw [hn]; exact e) rl' (.ref p)
  refine q ?_
  have z := Rep.loc (K := K) (ι := ιx ι S.length p) (n := (S ++ [O.lst ws]).length) (H := upd H p (.lst xs)) (l := S.length) (by rw [hn]; omega)
  rw [ιx_at] at z
  exact z
end

/-! ### names, constants -/
def mVar (i : Nat) : MV := fun ρ S => match ρ[i]? with
  | some (some w) => .ok w S
  | _ => .stuck
def mC (w : W) : MV := fun _ S => .ok w S
section
variable {X : Cx} {E : XK} {e : Expr}
theorem ce_var (i : Nat) {x : Str} {pos : Pos} (hN : X.N[i]? = some x := by rfl) (hv : Vis X.env.scope x := by first | exact Or.inl rfl | exact Or.inr (Or.inl rfl) | exact Or.inr (Or.inr rfl)) (hd : (x == ("__debug__" : Str)) = false := by decide)
    (hcd : (x == ("__classdict__" : Str)) = false := by decide) : CE X E (.Name x pos) (mVar i) :=
  PE.weak (pe_var hN hv hd hcd) fun σ H Q ⟨ρ, ι, S, re, rl, h⟩ => by
    unfold mVar at h
    split at h
    · rename_i w q
      obtain ⟨v, e, r⟩ := re.at_ i w q
      exact ⟨v, e, h ι H Ext.refl rl v r⟩
    · exact h.elim
theorem ce_c {v : V} {w : W} (h : PE X e (tC v)) (hr : ∀ ι n H, Rep X.K ι n H w v) : CE X E e (mC w) :=
  PE.weak h fun σ H Q ⟨ρ, ι, S, re, rl, h⟩ => h ι H Ext.refl rl v (hr _ _ _)
theorem ce_int {i : Int} {j : Nat} {pos : Pos} : CE X E (.Constant (.int i) j pos) (mC (.int i)) := ce_c pe_int fun _ _ _ => .int i
theorem ce_bl {b : Bool} {j : Nat} {pos : Pos} : CE X E (.Constant (.bool b) j pos) (mC (.bl b)) := ce_c pe_bl fun _ _ _ => .bl b
theorem ce_non {j : Nat} {pos : Pos} : CE X E (.Constant .none j pos) (mC .non) := ce_c pe_non fun _ _ _ => .non
theorem ce_str {x : Str} {j : Nat} {pos : Pos} : CE X E (.Constant (.str x) j pos) (mC (.str x)) := ce_c pe_str fun _ _ _ => .str x
/-- a global: a number, a text; a def; a built-in class -/
theorem ce_gint {x : Str} {i : Int} {pos : Pos} (hg : Gl X x) (hm : ∃ t, X.mg x = some (.int i t)) (hd : (x == ("__debug__" : Str)) = false := by decide) : CE X E (.Name x pos) (mC (.int i)) :=
  hm.elim fun t hm => ce_c (pe_glob (v := .int i) hg hm ⟨t, rfl⟩ hd) fun _ _ _ => .int i
theorem ce_gstr {x z : Str} {pos : Pos} (hg : Gl X x) (hm : ∃ t, X.mg x = some (.str z t)) (hd : (x == ("__debug__" : Str)) = false := by decide) : CE X E (.Name x pos) (mC (.str z)) :=
  hm.elim fun t hm => ce_c (pe_glob (v := .str z) hg hm ⟨t, rfl⟩ hd) fun _ _ _ => .str z
theorem ce_glo {x : Str} {pos : Pos} (hg : Gl X x) (hm : X.mg x = some (.ref (He.ga X.K x))) (hd : (x == ("__debug__" : Str)) = false := by decide) : CE X E (.Name x pos) (mC (.glo x)) :=
  ce_c (pe_glob (v := .ref (He.ga X.K x)) hg hm rfl hd) fun _ _ _ => .glo x
theorem ce_ty {x : Str} {n : String} {pos : Pos} (hg : Gl X x) (hm : X.mg x = none) (hv : bootBuiltins x = some (.type n)) (hn : x ≠ "__name__" := by decide) (hd : (x == ("__debug__" : Str)) = false := by decide) : CE X E (.Name x pos) (mC (.ty n)) :=
  ce_c (pe_bltn (v := .ty n) hg hm hv rfl hn hd) fun _ _ _ => .ty n
end

/-! ### two-place, one-place operators, comparisons -/
def mOp (f : W → W → Sto → Res W) (ca cb : MV) : MV := mBind ca fun x => mBind cb fun y => fun _ S => f x y S
def mUn (f : W → Sto → Res W) (ca : MV) : MV := mBind ca fun x => fun _ S => f x S
section
variable {X : Cx} {E : XK} {a b c : Expr} {ca cb cc : MV} {r r' : R2} {f f' : W → W → Sto → Res W} {K : PySem.W.Frag}
theorem sim_op (hr : SimR K E r f) : ∀ (σ : L2.St) (H : Hp) (Q : VK), tOf K E (mOp f ca cb) σ H Q → tOp r (tOf K E ca) (tOf K E cb) σ H Q := by
  rintro σ H Q ⟨ρ, ι, S, re, rl, h⟩
  refine ⟨ρ, ι, S, re, rl, (Post.bind h).mono fun x S1 ι1 H1 e1 rl1 h1 xv rx => ?_⟩
  refine ⟨ρ, ι1, S1, re.mono e1, rl1, (Post.bind h1).mono fun y S2 ι2 H2 e2 rl2 h2 yv ry => ?_⟩
  exact hr x y xv yv ι2 S2 H2 Q rl2 (rx.mono e2) ry h2
theorem ce_op {op : Operator} {pos : Pos} (ho : OpR X (binaryOp op) r) (hr : SimR X.K E r f) (ha : CE X E a ca) (hb : CE X E b cb) : CE X E (.BinOp a op b pos) (mOp f ca cb) := PE.weak (pe_op ho ha hb) (sim_op hr)
theorem ce_cmp {op : CmpOp} {pos : Pos} (ho : OpR X (compareOp op) r) (hr : SimR X.K E r f) (ha : CE X E a ca) (hb : CE X E b cb) (hm : behindInMarks op b = false) : CE X E (.Compare a [op] [b] pos) (mOp f ca cb) := PE.weak (pe_cmpR ho ha hb hm) (sim_op hr)
theorem ce_ix {pos : Pos} (ho : IxR X r) (hr : SimR X.K E r f) (ha : CE X E a ca) (hb : CE X E b cb) (hs : PlainIx b) : CE X E (.Subscript a b pos) (mOp f ca cb) := PE.weak (pe_ix ho ha hb hs) (sim_op hr)
theorem ce_un {op : UnaryOp} {ru : V → Hp → VK → Prop} {fu : W → Sto → Res W} {pos : Pos} (ho : UnR X (unaryOp op) ru) (hr : SimU X.K E ru fu) (ha : CE X E a ca) : CE X E (.UnaryOp op a pos) (mUn fu ca) :=
  PE.weak (pe_un ho ha) fun σ H Q ⟨ρ, ι, S, re, rl, h⟩ => ⟨ρ, ι, S, re, rl, (Post.bind h).mono fun x S1 ι1 H1 e1 rl1 h1 xv rx => hr x xv ι1 S1 H1 Q rl1 rx h1⟩
/-! tests -/
def mTest (c : MV) : MW Bool := mBind c fun w => fun _ S => match w with
  | .bl b => .ok b S
  | _ => .stuck
theorem sim_test {t : TE} {c : MV} (ht : ∀ (σ : L2.St) (H : Hp) (Q : VK), tOf K E c σ H Q → t σ H Q) : ∀ (σ : L2.St) (H : Hp) (Q : Bool → Hp → Prop), tOfB K E (mTest c) σ H Q → t σ H fun x H' => ∃ k, x = .bl k ∧ Q k H' := by
  rintro σ H Q ⟨ρ, ι, S, re, rl, h⟩
  refine ht σ H _ ⟨ρ, ι, S, re, rl, (Post.bind h).mono fun w S1 ι1 H1 e1 rl1 h1 v rv => ?_⟩
  cases rv with
  | bl b => exact ⟨b, rfl, h1 ι1 H1 Ext.refl rl1⟩
  | _ => exact h1.elim
theorem ct_cmp {op : CmpOp} {pos : Pos} (ho : OpR X (compareOp op) r) (hr : SimR X.K E r f) (ha : CE X E a ca) (hb : CE X E b cb) (hm : behindInMarks op b = false) : CT X E (.Compare a [op] [b] pos) (mTest (mOp f ca cb)) :=
  PT.weak (pt_cmpR ho ha hb hm) (sim_test (sim_op hr))
theorem ct_val {e : Expr} {c : MV} (h : CE X E e c) (he : ∀ whole, isTrue e X.env whole = (do let v ← whole; standAt e.pos; holding [v] (truthy v)) := by intro _; rfl) : CT X E e (mTest c) :=
  PT.weak (pt_val h he) (sim_test fun _ _ _ q => q)
/-! a < b < c -/
def mChain (f f' : W → W → Sto → Res W) (ca cb cc : MV) : MV := mBind ca fun x => mBind cb fun y => mBind (fun _ S => f x y S) fun z => match z with
  | .bl true => mBind cc fun u => fun _ S => f' y u S
  | .bl false => fun _ S => .ok (.bl false) S
  | _ => fun _ _ => .stuck
theorem sim_chain (hr : SimR K E r f) (hr' : SimR K E r' f') : ∀ (σ : L2.St) (H : Hp) (Q : VK), tOf K E (mChain f f' ca cb cc) σ H Q → tChain r r' (tOf K E ca) (tOf K E cb) (tOf K E cc) σ H Q := by
  rintro σ H Q ⟨ρ, ι, S, re, rl, h⟩
  refine ⟨ρ, ι, S, re, rl, (Post.bind h).mono fun x S1 ι1 H1 e1 rl1 h1 xv rx => ?_⟩
  refine ⟨ρ, ι1, S1, re.mono e1, rl1, (Post.bind h1).mono fun y S2 ι2 H2 e2 rl2 h2 yv ry => ?_⟩
  refine hr x y xv yv ι2 S2 H2 _ rl2 (rx.mono e2) ry ((Post.bind h2).mono fun z S3 ι3 H3 e3 rl3 h3 zv rz => ?_)
  cases rz with
  | bl b =>
    cases b with
    | true =>
      refine ⟨true, rfl, ?_⟩
      rw [if_pos rfl]
      refine ⟨ρ, ι3, S3, ((re.mono e1).mono e2).mono e3, rl3, (Post.bind (show Post K E (mBind cc (fun u => fun _ S => f' y u S) ρ S3) ι3 S3.length H3 _ from h3)).mono fun u S4 ι4 H4 e4 rl4 h4 uv ru => ?_⟩
      exact hr' y u yv uv ι4 S4 H4 Q rl4 ((ry.mono e3).mono e4) ru h4
    | false =>
      refine ⟨false, rfl, ?_⟩
      rw [if_neg Bool.false_ne_true]
      exact h3 ι3 H3 Ext.refl rl3 _ (.bl false)
  | _ => exact h3.elim
end
end Mm

/-! The mirror layer: and, or, not, calls, displays. -/
namespace Mm
open PySem PySem.Spec PyProof.Rows L2
section
variable {X : Cx} {E : XK} {a b c : Expr} {ca cb cc : MV} {ba bb : MW Bool} {r r' : R2} {f f' : W → W → Sto → Res W} {K : PySem.W.Frag}
theorem ce_chain {op op' : CmpOp} {pos : Pos} (ho : OpR X (compareOp op) r) (hr : SimR X.K E r f) (ho' : OpR X (compareOp op') r') (hr' : SimR X.K E r' f') (ha : CE X E a ca) (hb : CE X E b cb) (hc : CE X E c cc)
    (hm : lastMarks [op, op'] [b, c] = false := by with_unfolding_all rfl) : CE X E (.Compare a [op, op'] [b, c] pos) (mChain f f' ca cb cc) := PE.weak (pe_chain ho ho' ha hb hc hm) (sim_chain hr hr')
theorem ct_chain {op op' : CmpOp} {pos : Pos} (ho : OpR X (compareOp op) r) (hr : SimR X.K E r f) (ho' : OpR X (compareOp op') r') (hr' : SimR X.K E r' f') (ha : CE X E a ca) (hb : CE X E b cb) (hc : CE X E c cc)
    (hm : lastMarks [op, op'] [b, c] = false := by with_unfolding_all rfl) : CT X E (.Compare a [op, op'] [b, c] pos) (mTest (mChain f f' ca cb cc)) := PT.weak (pt_chain ho ho' ha hb hc hm) (sim_test (sim_chain hr hr'))
/-! ### and, or, not as tests -/
def mAnd (x y : MW Bool) : MW Bool := mBind x fun b => if b = true then y else fun _ S => .ok false S
def mOr (x y : MW Bool) : MW Bool := mBind x fun b => if b = true then fun _ S => .ok true S else y
def mNot (x : MW Bool) : MW Bool := mBind x fun b => fun _ S => .ok (!b) S
theorem cw_and1 {pos : Pos} (h : CT X E a ba) : CW X E (.BoolOp .And [a] pos) ba := pw_and1 h
theorem cw_or1 {pos : Pos} (h : CT X E a ba) : CW X E (.BoolOp .Or [a] pos) ba := pw_or1 h
theorem cw_and {rest : List Expr} {pos : Pos} (ha : CT X E a ba) (hb : CW X E (.BoolOp .And (b :: rest) pos) bb) : CW X E (.BoolOp .And (a :: b :: rest) pos) (mAnd ba bb) :=
  PW.weak (pw_and ha hb) fun σ H Q ⟨ρ, ι, S, re, rl, h⟩ => ⟨ρ, ι, S, re, rl, (Post.bind h).mono fun k S1 ι1 H1 e1 rl1 h1 => by
    cases k with
    | true => rw [if_pos rfl] at h1 ⊢; exact ⟨ρ, ι1, S1, re.mono e1, rl1, h1⟩
    | false => rw [if_neg Bool.false_ne_true] at h1 ⊢; exact h1 ι1 H1 Ext.refl rl1⟩
theorem cw_or {rest : List Expr} {pos : Pos} (ha : CT X E a ba) (hb : CW X E (.BoolOp .Or (b :: rest) pos) bb) : CW X E (.BoolOp .Or (a :: b :: rest) pos) (mOr ba bb) :=
  PW.weak (pw_or ha hb) fun σ H Q ⟨ρ, ι, S, re, rl, h⟩ => ⟨ρ, ι, S, re, rl, (Post.bind h).mono fun k S1 ι1 H1 e1 rl1 h1 => by
    cases k with
    | true => rw [if_pos rfl] at h1 ⊢; exact h1 ι1 H1 Ext.refl rl1
    | false => rw [if_neg Bool.false_ne_true] at h1 ⊢; exact ⟨ρ, ι1, S1, re.mono e1, rl1, h1⟩⟩
theorem cw_t {e : Expr} {x : MW Bool} (h : CW X E e x) : CT X E e x := PW.pt h
theorem ct_not {pos : Pos} (h : CT X E a ba) : CT X E (.UnaryOp .Not a pos) (mNot ba) :=
  PT.weak (pt_not h) fun σ H Q ⟨ρ, ι, S, re, rl, h⟩ => ⟨ρ, ι, S, re, rl, (Post.bind h).mono fun k S1 ι1 H1 e1 rl1 h1 => h1 ι1 H1 Ext.refl rl1⟩
/-! ### .. as values (of truths) -/
def mAndV (x y : MV) : MV := mBind x fun w => match w with
  | .bl true => y
  | .bl false => fun _ S => .ok (.bl false) S
  | _ => fun _ _ => .stuck
def mOrV (x y : MV) : MV := mBind x fun w => match w with
  | .bl true => fun _ S => .ok (.bl true) S
  | .bl false => y
  | _ => fun _ _ => .stuck
def mNotV (x : MV) : MV := mBind x fun w => match w with
  | .bl b => fun _ S => .ok (.bl (!b)) S
  | _ => fun _ _ => .stuck
theorem ce_one {op : BoolOp} {pos : Pos} (h : CE X E a ca) : CE X E (.BoolOp op [a] pos) ca := pe_one h
theorem ce_and {rest : List Expr} {pos : Pos} (ha : CE X E a ca) (hb : CE X E (.BoolOp .And (b :: rest) pos) cb) : CE X E (.BoolOp .And (a :: b :: rest) pos) (mAndV ca cb) :=
  PE.weak (pe_and ha hb) fun σ H Q ⟨ρ, ι, S, re, rl, h⟩ => ⟨ρ, ι, S, re, rl, (Post.bind h).mono fun w S1 ι1 H1 e1 rl1 h1 v rv => by
    cases rv with
    | bl k =>
      cases k with
      | true => exact ⟨true, rfl, by rw [if_pos rfl]; exact ⟨ρ, ι1, S1, re.mono e1, rl1, h1⟩⟩
      | false => exact ⟨false, rfl, by rw [if_neg Bool.false_ne_true]; exact h1 ι1 H1 Ext.refl rl1 _ (.bl false)⟩
    | _ => exact h1.elim⟩
theorem ce_or {rest : List Expr} {pos : Pos} (ha : CE X E a ca) (hb : CE X E (.BoolOp .Or (b :: rest) pos) cb) : CE X E (.BoolOp .Or (a :: b :: rest) pos) (mOrV ca cb) :=
  PE.weak (pe_or ha hb) fun σ H Q ⟨ρ, ι, S, re, rl, h⟩ => ⟨ρ, ι, S, re, rl, (Post.bind h).mono fun w S1 ι1 H1 e1 rl1 h1 v rv => by
    cases rv with
    | bl k =>
      cases k with
      | true => exact ⟨true, rfl, by rw [if_pos rfl]; exact h1 ι1 H1 Ext.refl rl1 _ (.bl true)⟩
      | false => exact ⟨false, rfl, by rw [if_neg Bool.false_ne_true]; exact ⟨ρ, ι1, S1, re.mono e1, rl1, h1⟩⟩
    | _ => exact h1.elim⟩
theorem ce_not {pos : Pos} (ha : CE X E a ca) : CE X E (.UnaryOp .Not a pos) (mNotV ca) :=
  PE.weak (pe_not ha) fun σ H Q ⟨ρ, ι, S, re, rl, h⟩ => ⟨ρ, ι, S, re, rl, (Post.bind h).mono fun w S1 ι1 H1 e1 rl1 h1 v rv => by
    cases rv with
    | bl k => exact ⟨k, rfl, h1 ι1 H1 Ext.refl rl1 _ (.bl _)⟩
    | _ => exact h1.elim⟩
def mIfE (t : MW Bool) (x y : MV) : MV := mBind t fun b => if b = true then x else y
theorem ce_if {e : Expr} {pos : Pos} (hc : CT X E e ba) (ha : CE X E a ca) (hb : CE X E b cb) : CE X E (.IfExp e a b pos) (mIfE ba ca cb) :=
  PE.weak (pe_ifExp hc ha hb) fun σ H Q ⟨ρ, ι, S, re, rl, h⟩ => ⟨ρ, ι, S, re, rl, (Post.bind h).mono fun k S1 ι1 H1 e1 rl1 h1 => by
    cases k with
    | true => rw [if_pos rfl] at h1 ⊢; exact ⟨ρ, ι1, S1, re.mono e1, rl1, h1⟩
    | false => rw [if_neg Bool.false_ne_true] at h1 ⊢; exact ⟨ρ, ι1, S1, re.mono e1, rl1, h1⟩⟩
end
/-! ### arguments, displays, calls -/
def mNil : MW (List W) := fun _ S => .ok [] S
def mCons (c : MV) (t : MW (List W)) : MW (List W) := mBind c fun w => mBind t fun ws => fun _ S => .ok (w :: ws) S
def mTup (t : MW (List W)) : MV := mBind t fun ws => fun _ S => if ws.length ≤ sizeLine then .ok (.tup ws) S else .stuck
def mLst (t : MW (List W)) : MV := mBind t fun ws => fun _ S => if ws.length ≤ sizeLine then .ok (.lst ws) S else .stuck
/-- a list that will be changed -/
def mLstM (t : MW (List W)) : MV := mBind t fun ws => fun _ S => if ws.length ≤ sizeLine then .ok (.loc S.length) (S ++ [.lst ws]) else .stuck
def mCB (f : MF) (t : MW (List W)) : MV := mBind t fun ws => fun _ S => f ws S
def mCall (n : Nat) (f : MF) (t : MW (List W)) : MV := mBind t fun ws => fun _ S => if ws.length = n then f ws S else .stuck
/-- a def's promise, by its mirror -/
def spOf (K : PySem.W.Frag) (n : Nat) (m : MF) : Sp := fun vs H Q E => vs.length = n ∧ ∃ ws ι S, Reps K ι S.length H ws vs ∧ Rl K ι S H ∧ PostV K E (m ws S) ι S.length H Q
section
variable {X : Cx} {E : XK} {e : Expr} {es : List Expr} {c : MV} {t : MW (List W)}
theorem ca_nil : CA X E [] mNil := PA.weak pa_nil fun σ H Q ⟨ρ, ι, S, re, rl, h⟩ => h ι H Ext.refl rl [] .nil
theorem ca_cons (ha : CE X E e c) (hr : CA X E es t) (hs : starEach (e :: es) X.env = (false, eval e X.env) :: starEach es X.env := by rfl) : CA X E (e :: es) (mCons c t) :=
  PA.weak (pa_cons ha hr hs) fun σ H Q ⟨ρ, ι, S, re, rl, h⟩ => ⟨ρ, ι, S, re, rl, (Post.bind h).mono fun w S1 ι1 H1 e1 rl1 h1 v rv =>
    ⟨ρ, ι1, S1, re.mono e1, rl1, (Post.bind h1).mono fun ws S2 ι2 H2 e2 rl2 h2 vs rvs => h2 ι2 H2 Ext.refl rl2 (v :: vs) (.cons (rv.mono e2) rvs)⟩⟩
theorem ce_tup {x1 : Nat} {pos : Pos} (h : CA X E es t) : CE X E (.Tuple es x1 pos) (mTup t) :=
  PE.weak (pe_tup h) fun σ H Q ⟨ρ, ι, S, re, rl, h⟩ => ⟨ρ, ι, S, re, rl, (Post.bind h).mono fun ws S1 ι1 H1 e1 rl1 h1 vs rvs => by
    by_cases z : ws.length ≤ sizeLine
    · rw [if_pos z] at h1
      exact ⟨by rw [← rvs.length]; exact z, PostV.newT h1 rl1 rvs⟩
    · rw [if_neg z] at h1
      exact h1.elim⟩
theorem ce_lst {pos : Pos} (h : CA X E es t) : CE X E (.List es pos) (mLst t) :=
  PE.weak (pe_lst h) fun σ H Q ⟨ρ, ι, S, re, rl, h⟩ => ⟨ρ, ι, S, re, rl, (Post.bind h).mono fun ws S1 ι1 H1 e1 rl1 h1 vs rvs => by
    by_cases z : ws.length ≤ sizeLine
    · rw [if_pos z] at h1
      exact ⟨by rw [← rvs.length]; exact z, PostV.newL h1 rl1 rvs⟩
    · rw [if_neg z] at h1
      exact h1.elim⟩
theorem ce_lstM {pos : Pos} (h : CA X E es t) : CE X E (.List es pos) (mLstM t) :=
  PE.weak (pe_lst h) fun σ H Q ⟨ρ, ι, S, re, rl, h⟩ => ⟨ρ, ι, S, re, rl, (Post.bind h).mono fun ws S1 ι1 H1 e1 rl1 h1 vs rvs => by
    by_cases z : ws.length ≤ sizeLine
    · rw [if_pos z] at h1
      exact ⟨by rw [← rvs.length]; exact z, PostV.newLoc h1 rl1 rvs⟩
    · rw [if_neg z] at h1
      exact h1.elim⟩
theorem ce_dict0 {pos : Pos} : CE X E (.Dict [] [] pos) (mC (.dct [] [])) :=
  PE.weak pe_dnewK fun σ H Q ⟨ρ, ι, S, re, rl, h⟩ => fun p hp => h ι _ (Ext.new rl hp) (rl.new hp) _ (.dct (xs := []) (Fz.new rl hp) rfl .nil)
theorem ce_callB {id : String} {r : List V → Hp → VK → Prop} {f : MF} {x : Str} {p pos : Pos} (hc : CallR X (.builtin id) r) (hr : SimC X.K E r f) (hg : Gl X x) (hm : X.mg x = none) (hv : bootBuiltins x = some (.builtin id)) (ha : CA X E (e :: es) t)
    (hn : x ≠ "__name__" := by decide) (hdb : (x == ("__debug__" : Str)) = false := by decide) (hh : starEach (e :: es) X.env = (false, eval e X.env) :: starEach es X.env := by rfl) (hpl : (backTo pos (starEach es X.env)).any (·.1) = false := by rfl) : CE X E (.Call (.Name x p) (e :: es) [] pos) (mCB f t) :=
  PE.weak (pe_callB hc hg hm hv ha hn hdb hh hpl) fun σ H Q ⟨ρ, ι, S, re, rl, h⟩ => ⟨ρ, ι, S, re, rl, (Post.bind h).mono fun ws S1 ι1 H1 e1 rl1 h1 vs rvs => hr ws vs ι1 S1 H1 Q rl1 rvs h1⟩
theorem ce_callTy {T : String} {r : List V → Hp → VK → Prop} {f : MF} {x : Str} {p pos : Pos} (hc : CallR X (.type T) r) (hr : SimC X.K E r f) (hg : Gl X x) (hm : X.mg x = none) (hv : bootBuiltins x = some (.type T)) (ha : CA X E (e :: es) t)
    (hn : x ≠ "__name__" := by decide) (hdb : (x == ("__debug__" : Str)) = false := by decide) (hh : starEach (e :: es) X.env = (false, eval e X.env) :: starEach es X.env := by rfl) (hpl : (backTo pos (starEach es X.env)).any (·.1) = false := by rfl) : CE X E (.Call (.Name x p) (e :: es) [] pos) (mCB f t) :=
  PE.weak (pe_callTy hc hg hm hv ha hn hdb hh hpl) fun σ H Q ⟨ρ, ι, S, re, rl, h⟩ => ⟨ρ, ι, S, re, rl, (Post.bind h).mono fun ws S1 ι1 H1 e1 rl1 h1 vs rvs => hr ws vs ι1 S1 H1 Q rl1 rvs h1⟩
end
end Mm

/-! The mirror layer: targets, statements, loops. -/
namespace Mm
open PySem PySem.Spec PyProof.Rows L2
/-! ### targets -/
abbrev MG := W → MW Env
abbrev MGs := List W → MW Env
def tOfG (K : PySem.W.Frag) (E : XK) (g : MG) : TG := fun v σ H Q => ∃ w ρ ι S, Rep K ι S.length H w v ∧ RE K ι S.length H ρ σ ∧ Rl K ι S H ∧ Post K E (g w ρ S) ι S.length H fun ρ' S' ι' H' => ∀ σ', RE K ι' S'.length H' ρ' σ' → Q σ' H'
def tOfGs (K : PySem.W.Frag) (E : XK) (g : MGs) : TGs := fun vs σ H Q => ∃ ws ρ ι S, Reps K ι S.length H ws vs ∧ RE K ι S.length H ρ σ ∧ Rl K ι S H ∧ Post K E (g ws ρ S) ι S.length H fun ρ' S' ι' H' => ∀ σ', RE K ι' S'.length H' ρ' σ' → Q σ' H'
abbrev CG (X : Cx) (E : XK) (e : Expr) (g : MG) : Prop := PG X e (tOfG X.K E g)
abbrev CGs (X : Cx) (E : XK) (es : List Expr) (g : MGs) : Prop := PGs X es (tOfGs X.K E g)
theorem PGs.weak {X : Cx} {es : List Expr} {t t' : TGs} (h : PGs X es t) (k : ∀ vs σ H Q, t' vs σ H Q → t vs σ H Q) : PGs X es t' := ⟨fun pins s σ H vs us Q I r q => h.run pins s σ H vs us Q I r (k vs σ H Q q)⟩
/-- continue with other slots -/
def mThen {α : Type} (c : MW Env) (k : MW α) : MW α := fun ρ S => match c ρ S with
  | .stuck => .stuck
  | .ok ρ' S' => k ρ' S'
  | .err x S' => .err x S'
def mgName (i : Nat) : MG := fun w ρ S => .ok (ρ.set i (some w)) S
def mgNil : MGs := fun ws ρ S => match ws with
  | [] => .ok ρ S
  | _ => .stuck
def mgCons (g : MG) (gs : MGs) : MGs := fun ws => match ws with
  | [] => fun _ _ => .stuck
  | w :: ws => mThen (g w) (gs ws)
def mgTup (n : Nat) (gs : MGs) : MG := fun w => match w with
  | .tup ws => if ws.length = n then gs ws else fun _ _ => .stuck
  | _ => fun _ _ => .stuck
/-- o[i] = .. -/
def mgSub (f : W → W → W → Sto → Res Unit) (o i : MV) : MG := fun w => mBind o fun ov => mBind i fun iv => fun ρ S => match f ov iv w S with
  | .stuck => .stuck
  | .ok _ S' => .ok ρ S'
  | .err x S' => .err x S'
def fSetL : W → W → W → Sto → Res Unit := fun o i w S => match o, i with
  | .loc l, .int k => match S[l]? with
    | some (.lst ws) => match ixN ws.length k with
      | some j => .ok () (S.set l (.lst (ws.set j w)))
      | none => .stuck
    | _ => .stuck
  | _, _ => .stuck
def SimSet (K : PySem.W.Frag) (E : XK) (t : TSet) (f : W → W → W → Sto → Res Unit) : Prop := ∀ (o i w : W) (ov iv v : V) (ι : Im) (S : Sto) (H : Hp) (Q : Hp → Prop), Rl K ι S H → Rep K ι S.length H o ov → Rep K ι S.length H i iv → Rep K ι S.length H w v →
  Post K E (f o i w S) ι S.length H (fun _ _ _ H' => Q H') → t ov iv v H Q
section
variable {X : Cx} {E : XK} {K : PySem.W.Frag} {α β : Type} {ι : Im} {n : Nat} {H : Hp} {ρ : Env} {S : Sto}
theorem Post.then {c : MW Env} {k : MW β} {P : β → Sto → (Im) → Hp → Prop} (h : Post K E (mThen c k ρ S) ι n H P) : Post K E (c ρ S) ι n H fun ρ1 S1 ι1 H1 => Post K E (k ρ1 S1) ι1 S1.length H1 P := by
  unfold mThen at h
  cases e : c ρ S with
  | stuck => rw [e] at h; exact h
  | ok a S1 => rw [e] at h; exact fun ι1 H1 e1 q => Post.from h e1
  | err x S1 => rw [e] at h; exact h
theorem cg_name {i : Nat} {x : Str} {pos : Pos} (hN : X.N.Nodup) (hi : X.N[i]? = some x := by rfl) (hx : Loc X.env.scope x := by first | exact Or.inl rfl | exact Or.inr rfl) (hf : X.fn x = true ∨ X.env.scope.names.lookup x = some .local := by first | exact .inl rfl | exact .inr rfl | assumption) : CG X E (.Name x pos) (mgName i) :=
  PG.weak (pg_name hN hi hx hf) fun v σ H Q ⟨w, ρ, ι, S, rw', re, rl, h⟩ => h ι H Ext.refl rl _ (re.set rw' i)
theorem cgs_nil : CGs X E [] mgNil := PGs.weak pgs_nil fun vs σ H Q ⟨ws, ρ, ι, S, rws, re, rl, h⟩ => by
  cases rws with
  | nil => exact ⟨rfl, h ι H Ext.refl rl σ re⟩
  | cons a b => exact h.elim
theorem cgs_cons {e : Expr} {es : List Expr} {g : MG} {gs : MGs} (h1 : CG X E e g) (h2 : CGs X E es gs) (hs : (assignEach (e :: es) X.env).map (·.2) = assign e X.env :: (assignEach es X.env).map (·.2) := by rfl) : CGs X E (e :: es) (mgCons g gs) :=
  PGs.weak (pgs_cons h1 h2 hs) fun vs σ H Q ⟨ws, ρ, ι, S, rws, re, rl, h⟩ => by
    cases rws with
    | nil => exact h.elim
    | @cons w v ws vs a b =>
      refine ⟨v, vs, rfl, w, ρ, ι, S, a, re, rl, (Post.then h).mono fun ρ1 S1 ι1 H1 e1 rl1 q1 σ1 re1 => ?_⟩
      exact ⟨ws, ρ1, ι1, S1, b.mono e1, re1, rl1, q1⟩
theorem cg_tup {es : List Expr} {k : Nat} {gs : MGs} {m : Nat} {pos : Pos} (hc : X.calm = true) (h : CGs X E es gs) (hn : (assignEach es X.env).length = m := by rfl) (hst : (assignEach es X.env).findIdx? (·.1) = none := by rfl) : CG X E (.Tuple es k pos) (mgTup m gs) :=
  PG.weak (pg_tup hc h hn hst) fun v σ H Q ⟨w, ρ, ι, S, rw', re, rl, h⟩ => by
    cases rw' with
    | @tup ws a xs hz r =>
      have h' : Post X.K E ((if ws.length = m then gs ws else fun _ _ => Res.stuck) ρ S) ι S.length H _ := h
      by_cases z : ws.length = m
      · rw [if_pos z] at h'
        exact ⟨a, xs, rfl, hz.sq, by rw [← r.length]; exact z, ws, ρ, ι, S, r, re, rl, h'⟩
      · rw [if_neg z] at h'
        exact h'.elim
    | _ => exact h.elim
theorem cg_sub {o i : Expr} {co ci : MV} {t : TSet} {f : W → W → W → Sto → Res Unit} {pos : Pos} (hs : PSet X t) (hf : SimSet X.K E t f) (ho : CE X E o co) (hi : CE X E i ci)
    (ha : ∀ v, assign (.Subscript o i pos) X.env v = (do
      let ov ← holding [v] (eval o X.env)
      let iv ← holding [v, ov] (eval i X.env)
      standAt pos
      holding [v, ov, iv] (setItem ov iv v)
      release [v, ov, iv] []) := by intro _; rfl) : CG X E (.Subscript o i pos) (mgSub f co ci) :=
  PG.weak (pg_sub ho hi hs ha) fun v σ H Q ⟨w, ρ, ι, S, rw', re, rl, h⟩ => by
    refine ⟨ρ, ι, S, re, rl, (Post.bind h).mono fun ow S1 ι1 H1 e1 rl1 h1 ov ro => ?_⟩
    refine ⟨ρ, ι1, S1, re.mono e1, rl1, (Post.bind h1).mono fun iw S2 ι2 H2 e2 rl2 h2 iv ri => ?_⟩
    refine hf ow iw w ov iv v ι2 S2 H2 _ rl2 (ro.mono e2) ri ((rw'.mono e1).mono e2) ?_
    cases q : f ow iw w S2 with
    | stuck => rw [q] at h2; exact h2
    | ok u S3 => rw [q] at h2; exact fun ι3 H3 e3 rl3 => h2 ι3 H3 e3 rl3 σ (((re.mono e1).mono e2).mono e3)
    | err x S3 => rw [q] at h2; exact h2
theorem sim_setL : SimSet K E rSetL fSetL := by
  intro o i w ov iv v ι S H Q rl ro ri rv h
  cases ro with
  | @loc l hl =>
    cases ri with
    | int k =>
      have h' : Post K E (match S[l]? with
        | some (.lst ws) => (match ixN ws.length k with
          | some j => Res.ok () (S.set l (.lst (ws.set j w)))
          | none => .stuck)
        | _ => .stuck) ι S.length H (fun _ _ _ H' => Q H') := h
      split at h'
      · rename_i ws q
        split at h'
        · rename_i j qj
          obtain ⟨xs, h1, h2⟩ := rl.obj l _ q
          refine ⟨ι l, xs, k, j, rfl, rfl, h1, by rw [← h2.length]; exact qj, ?_⟩
          have e := Ext.set (o := .lst (xs.set j v)) rl hl (nofz h1)
          refine h' ι _ (by rw [List.length_set]; exact e) (rl.set hl (nofz h1) ⟨_, upd_same, (h2.mono e).set (rv.mono e) j⟩)
        · exact h'.elim
      · exact h'.elim
    | _ => exact h.elim
  | _ => cases ri <;> exact h.elim
end

/-! ### statements -/
def mSeq (c d : MS) : MS := fun ρ S => match c ρ S with
  | .stuck => .stuck
  | .err x S' => .err x S'
  | .ok (.next, ρ') S' => d ρ' S'
  | .ok (f, ρ') S' => .ok (f, ρ') S'
def mNext : MS := fun ρ S => .ok (.next, ρ) S
def mBrk : MS := fun ρ S => .ok (.brk, ρ) S
def mCont : MS := fun ρ S => .ok (.cont, ρ) S
def mRet (c : MV) : MS := mBind c fun w => fun ρ S => .ok (.ret w, ρ) S
def mRetN : MS := fun ρ S => .ok (.ret .non, ρ) S
def mDrop (c : MV) : MS := mBind c fun _ => fun ρ S => .ok (.next, ρ) S
def mIf (t : MW Bool) (c d : MS) : MS := mBind t fun b => if b = true then c else d
def mAsg (c : MV) (g : MG) : MS := mBind c fun w => mThen (g w) mNext
def mSet (i : Nat) (c : MV) : MS := mBind c fun w => fun ρ S => .ok (.next, ρ.set i (some w)) S
def mPar (i j : Nat) (t : MW (List W)) : MS := mBind t fun ws => match ws with
  | [v, w] => fun ρ S => .ok (.next, (ρ.set i (some v)).set j (some w)) S
  | _ => fun _ _ => .stuck
section
variable {X : Cx} {E : XK} {K : PySem.W.Frag} {e : Expr} {c : MV} {t : MW Bool} {st : Stmt} {sts rest : List Stmt} {cs ds : MS} {pos : Pos}
theorem css_nil : CSs X E [] mNext := PSs.weak pss_nil fun D σ H ⟨ρ, ι, S, re, rl, h⟩ => h ι H Ext.refl rl σ re
theorem sim_seq {D : Ends} {ρ : Env} {S : Sto} {ι : Im} {n : Nat} {H : Hp} (h : Post K E (mSeq cs ds ρ S) ι n H (flowOk K D)) :
    Post K E (cs ρ S) ι n H (flowOk K { D with nx := tOfS K E ds D }) := by
  unfold mSeq at h
  cases q : cs ρ S with
  | stuck => rw [q] at h; exact h
  | err x S' => rw [q] at h; exact h
  | ok p S' =>
    rw [q] at h
    obtain ⟨f, ρ'⟩ := p
    cases f with
    | next => exact fun ι' H' e' rl' σ' re' => ⟨ρ', ι', S', re', rl', Post.from h e'⟩
    | ret w => exact h
    | brk => exact h
    | cont => exact h
theorem css_cons (h1 : CS X E st cs) (h2 : CSs X E rest ds) : CSs X E (st :: rest) (mSeq cs ds) :=
  PSs.weak (pss_cons h1 h2) fun D σ H ⟨ρ, ι, S, re, rl, h⟩ => ⟨ρ, ι, S, re, rl, sim_seq h⟩
theorem css_one (h1 : CS X E st cs) : CSs X E [st] cs := pss_one h1
theorem cs_pass : CS X E (.Pass pos) mNext := PS.weak ps_pass fun D σ H ⟨ρ, ι, S, re, rl, h⟩ => h ι H Ext.refl rl σ re
theorem cs_break : CS X E (.Break pos) mBrk := PS.weak ps_break fun D σ H ⟨ρ, ι, S, re, rl, h⟩ => h ι H Ext.refl rl σ re
theorem cs_continue : CS X E (.Continue pos) mCont := PS.weak ps_continue fun D σ H ⟨ρ, ι, S, re, rl, h⟩ => h ι H Ext.refl rl σ re
theorem cs_ret (he : CE X E e c) : CS X E (.Return (some e) pos) (mRet c) := PS.weak (ps_ret he) fun D σ H ⟨ρ, ι, S, re, rl, h⟩ =>
  ⟨ρ, ι, S, re, rl, (Post.bind h).mono fun w S1 ι1 H1 e1 rl1 h1 v rv => h1 ι1 H1 Ext.refl rl1 σ (re.mono e1) v rv⟩
theorem cs_retN : CS X E (.Return none pos) mRetN := PS.weak ps_retN fun D σ H ⟨ρ, ι, S, re, rl, h⟩ => h ι H Ext.refl rl σ re .non .non
theorem cs_expr (he : CE X E e c) (hs : swapsWith e none pos.line X.env = pure false := by rfl) : CS X E (.Expr e pos) (mDrop c) := PS.weak (ps_expr he hs) fun D σ H ⟨ρ, ι, S, re, rl, h⟩ =>
  ⟨ρ, ι, S, re, rl, (Post.bind h).mono fun w S1 ι1 H1 e1 rl1 h1 v rv => h1 ι1 H1 Ext.refl rl1 σ (re.mono e1)⟩
theorem cs_if {x : Expr} {a b : List Stmt} (hc : CT X E x t) (ha : CSs X E a cs) (hb : CSs X E b ds) : CS X E (.If x a b pos) (mIf t cs ds) := PS.weak (ps_if hc ha hb) fun D σ H ⟨ρ, ι, S, re, rl, h⟩ =>
  ⟨ρ, ι, S, re, rl, (Post.bind h).mono fun k S1 ι1 H1 e1 rl1 h1 => by
    cases k with
    | true => rw [if_pos rfl] at h1 ⊢; exact ⟨ρ, ι1, S1, re.mono e1, rl1, h1⟩
    | false => rw [if_neg Bool.false_ne_true] at h1 ⊢; exact ⟨ρ, ι1, S1, re.mono e1, rl1, h1⟩⟩
theorem cs_asg {tg : Expr} {g : MG} (he : CE X E e c) (hg : CG X E tg g) (hs : swapsWithSole [tg] e pos.line X.env = pure false := by rfl) (hw : swappedStores [tg] e X.env = pure none := by rfl) (h1 : (assignEach [tg] X.env).map (·.2) = [assign tg X.env] := by rfl) : CS X E (.Assign [tg] e pos) (mAsg c g) :=
  PS.weak (ps_asg he hg hs hw h1) fun D σ H ⟨ρ, ι, S, re, rl, h⟩ => ⟨ρ, ι, S, re, rl, (Post.bind h).mono fun w S1 ι1 H1 e1 rl1 h1 v rv =>
    ⟨w, ρ, ι1, S1, rv, re.mono e1, rl1, (Post.then h1).mono fun ρ' S' ι' H' e' rl' q σ' re' => q ι' H' Ext.refl rl' σ' re'⟩⟩
theorem cs_set {i : Nat} {x : Str} {pos' : Pos} (hN : X.N.Nodup) (he : CE X E e c) (hi : X.N[i]? = some x := by rfl) (hx : Loc X.env.scope x := by first | exact Or.inl rfl | exact Or.inr rfl) (hs : swapsWith e (some (.Name x pos')) pos.line X.env = pure false := by rfl)
    (hf : X.fn x = true ∨ X.env.scope.names.lookup x = some .local := by first | exact .inl rfl | exact .inr rfl | assumption) : CS X E (.Assign [.Name x pos'] e pos) (mSet i c) :=
  PS.weak (ps_set hN hi hx he hs hf) fun D σ H ⟨ρ, ι, S, re, rl, h⟩ => ⟨ρ, ι, S, re, rl, (Post.bind h).mono fun w S1 ι1 H1 e1 rl1 h1 v rv => h1 ι1 H1 Ext.refl rl1 _ ((re.mono e1).set rv i)⟩
theorem cs_par {i j : Nat} {x y : Str} {a b : Expr} {ta : MW (List W)} {px py pt : Pos} {kt k2 : Nat} {pt2 : Pos} (hc : X.calm = true) (hN : X.N.Nodup) (ha : CA X E [a, b] ta) (hi : X.N[i]? = some x := by rfl) (hj : X.N[j]? = some y := by rfl) (hij : i ≠ j := by decide)
    (hx : X.env.scope.names.lookup x = some .local := by rfl) (hy : X.env.scope.names.lookup y = some .local := by rfl)
    (hw : swappedStores [.Tuple [.Name x px, .Name y py] kt pt] (.Tuple [a, b] k2 pt2) X.env = pure (some [x, y]) := by rfl)
    (hs : swapsWithSole [.Tuple [.Name x px, .Name y py] kt pt] (.Tuple [a, b] k2 pt2) pos.line X.env = pure false := by rfl) :
    CS X E (.Assign [.Tuple [.Name x px, .Name y py] kt pt] (.Tuple [a, b] k2 pt2) pos) (mPar i j ta) :=
  PS.weak (ps_par hc hN hi hj hij hx hy ha hw hs) fun D σ H ⟨ρ, ι, S, re, rl, h⟩ => ⟨ρ, ι, S, re, rl, (Post.bind h).mono fun ws S1 ι1 H1 e1 rl1 h1 vs rvs => by
    cases rvs with
    | nil => exact h1.elim
    | @cons w1 v1 ws1 vs1 a1 b1 =>
      cases b1 with
      | nil => exact h1.elim
      | @cons w2 v2 ws2 vs2 a2 b2 =>
        cases b2 with
        | nil => exact ⟨v1, v2, rfl, h1 ι1 H1 Ext.refl rl1 _ (((re.mono e1).set a1 i).set a2 j)⟩
        | cons _ _ => exact h1.elim⟩
end

/-! ### loops -/
/-- J yields just these, whatever is done meanwhile -/
def Yl (K : PySem.W.Frag) (J : It) (ws : List W) (ι0 : Im) (n0 : Nat) (H0 : Hp) : Prop := ∀ (ι : Im) (S : Sto) (H : Hp), Mv ι0 n0 H0 ι S.length H → Rl K ι S H →
  J.stop ws.length H ∧ ∀ i w, ws[i]? = some w → J.go i H ∧ ∀ x H', J.yld i H x H' → Ext ι S.length H ι S.length H' ∧ Rl K ι S H' ∧ Rep K ι S.length H' w x
def tOfI (K : PySem.W.Frag) (E : XK) (c : MW (List W)) : TI := fun σ H R => ∃ ρ ι S, RE K ι S.length H ρ σ ∧ Rl K ι S H ∧ Post K E (c ρ S) ι S.length H fun ws S' ι' H' => ∀ J, Yl K J ws ι' S'.length H' → R J H'
abbrev CI (X : Cx) (E : XK) (tg iter : Expr) (c : MW (List W)) : Prop := PI X tg iter (tOfI X.K E c)
theorem PI.weak {X : Cx} {tg e : Expr} {t t' : TI} (h : PI X tg e t) (k : ∀ σ H R, t' σ H R → t σ H R) : PI X tg e t' := ⟨fun pins s σ H R I q => h.run pins s σ H R I (k σ H R q)⟩
theorem PI.or {X : Cx} {tg e : Expr} {t t' : TI} (h : PI X tg e t) (h' : PI X tg e t') : PI X tg e (fun σ H R => t σ H R ∨ t' σ H R) := ⟨fun pins s σ H R I q => q.elim (fun q => h.run pins s σ H R I q) fun q => h'.run pins s σ H R I q⟩
def mLoop (g : MG) (b : MS) : List W → MS
  | [] => mNext
  | w :: ws => fun ρ S => match mThen (g w) b ρ S with
    | .stuck => .stuck
    | .err x S' => .err x S'
    | .ok (.next, ρ') S' => mLoop g b ws ρ' S'
    | .ok (.cont, ρ') S' => mLoop g b ws ρ' S'
    | .ok (.brk, ρ') S' => .ok (.next, ρ') S'
    | .ok (.ret w, ρ') S' => .ok (.ret w, ρ') S'
def mFor (ci : MW (List W)) (g : MG) (b : MS) : MS := mBind ci fun ws => mLoop g b ws
section
variable {X : Cx} {E : XK} {K : PySem.W.Frag}
theorem sim_for {ci : MW (List W)} {g : MG} {b : MS} {D : Ends} {σ : L2.St} {H : Hp} (h : tOfS K E (mFor ci g b) D σ H) : tFor (tOfI K E ci) (tOfG K E g) (tOfS K E b) D σ H := by
  obtain ⟨ρ, ι, S, re, rl, h⟩ := h
  refine ⟨ρ, ι, S, re, rl, (Post.bind h).mono fun ws S1 ι1 H1 e1 rl1 h1 J hJ => ?_⟩
  refine ⟨fun i m σ H => ∃ ρ ι S, RE K ι S.length H ρ σ ∧ Rl K ι S H ∧ Ext ι1 S1.length H1 ι S.length H ∧ i + m = ws.length ∧ Post K E (mLoop g b (ws.drop i) ρ S) ι S.length H (flowOk K D), ?_, ?_⟩
  · exact ⟨ws.length, ρ, ι1, S1, re.mono e1, rl1, Ext.refl, Nat.zero_add _, h1⟩
  · rintro i m σ2 H2 ⟨ρ2, ι2, S2, re2, rl2, e2, em, h2⟩
    obtain ⟨hstop, hgo⟩ := hJ ι2 S2 H2 e2.toMv rl2
    by_cases hi : i < ws.length
    · right
      have ed : ws.drop i = ws[i] :: ws.drop (i + 1) := List.drop_eq_getElem_cons hi
      rw [ed] at h2
      obtain ⟨go, yl⟩ := hgo i ws[i] (List.getElem?_eq_getElem hi)
      refine ⟨go, fun σ' H' => ∃ ρ ι S, RE K ι S.length H' ρ σ' ∧ Rl K ι S H' ∧ Ext ι1 S1.length H1 ι S.length H' ∧ Post K E (mLoop g b (ws.drop (i + 1)) ρ S) ι S.length H' (flowOk K D), ?_, ?_⟩
      · rintro σ' H' ⟨ρ3, ι3, S3, re3, rl3, e3, h3⟩
        exact ⟨m - 1, by omega, ρ3, ι3, S3, re3, rl3, e3, by omega, h3⟩
      · intro x H3 hy
        obtain ⟨e3, rl3, rx⟩ := yl x H3 hy
        have h3 : Post K E (match mThen (g ws[i]) b ρ2 S2 with
          | .stuck => Res.stuck
          | .err x S' => .err x S'
          | .ok (.next, ρ') S' => mLoop g b (ws.drop (i + 1)) ρ' S'
          | .ok (.cont, ρ') S' => mLoop g b (ws.drop (i + 1)) ρ' S'
          | .ok (.brk, ρ') S' => .ok (.next, ρ') S'
          | .ok (.ret w, ρ') S' => .ok (.ret w, ρ') S') ι2 S2.length H3 (flowOk K D) := Post.from h2 e3
        refine ⟨ws[i], ρ2, ι2, S2, rx, re2.mono e3, rl3, ?_⟩
        unfold mThen at h3
        cases q : g ws[i] ρ2 S2 with
        | stuck => rw [q] at h3; exact h3
        | err y S' => rw [q] at h3; exact h3
        | ok ρ4 S4 =>
          rw [q] at h3
          intro ι4 H4 e4 rl4 σ4 re4
          refine ⟨ρ4, ι4, S4, re4, rl4, ?_⟩
          cases q2 : b ρ4 S4 with
          | stuck => simp only [q2] at h3; exact h3
          | err y S' => simp only [q2] at h3; exact Post.from (r := Res.err y S') h3 e4
          | ok p S5 =>
            obtain ⟨f, ρ5⟩ := p
            cases f with
            | next =>
              simp only [q2] at h3
              exact fun ι5 H5 e5 rl5 σ5 re5 => ⟨ρ5, ι5, S5, re5, rl5, ((e2.trans e3).trans e4).trans e5, Post.from h3 (e4.trans e5)⟩
            | cont =>
              simp only [q2] at h3
              exact fun ι5 H5 e5 rl5 σ5 re5 => ⟨ρ5, ι5, S5, re5, rl5, ((e2.trans e3).trans e4).trans e5, Post.from h3 (e4.trans e5)⟩
            | brk =>
              simp only [q2] at h3
              exact fun ι5 H5 e5 rl5 σ5 re5 => h3 ι5 H5 (e4.trans e5) rl5 σ5 re5
            | ret w =>
              simp only [q2] at h3
              exact fun ι5 H5 e5 rl5 σ5 re5 => h3 ι5 H5 (e4.trans e5) rl5 σ5 re5
    · left
      have ei : i = ws.length := by omega
      subst ei
      rw [List.drop_length] at h2
      exact ⟨hstop, h2 ι2 H2 Ext.refl rl2 σ2 re2⟩
theorem cs_for {tg iter : Expr} {body : List Stmt} {ci : MW (List W)} {g : MG} {b : MS} {pos : Pos} (hp : PassesOwn (model X.prog X.w) X.A X.env X.xe) (hc : X.calm = true) (hi : CI X E tg iter ci) (hg : CG X E tg g) (hb : CSs X E body b)
    (hs : ∀ x, foldedSetIterable iter X.env x = pure x := by intro _; rfl) : CS X E (.For tg iter body [] pos) (mFor ci g b) := PS.weak (ps_for hp hc hi hg hb hs) fun D σ H h => sim_for h
/-! what is walked -/
def itemsOf : W → Option (List W)
  | .lst ws => some ws
  | .arr ws => some ws
  | .tup ws => some ws
  | .ktp ws => some ws
  | .str x => some (x.cps.toList.map fun c => .str ⟨#[c]⟩)
  | _ => none
def mIter (c : MV) : MW (List W) := mBind c fun w => fun _ S => match itemsOf w with
  | some ws => .ok ws S
  | none => .stuck
theorem yl_list {J0 : It} {ι : Im} {n : Nat} {H : Hp} {a : Addr} {xs : List V} {ws : List W} (hs : ∀ ι1 n1 H1, Mv ι n H ι1 n1 H1 → SqL K H1 a xs) (r : Reps K ι n H ws xs) : Yl K (Itl K a) ws ι n H := by
  intro ι1 S1 H1 e1 rl1
  have sq := hs _ _ _ e1
  have r1 := r.mv e1
  refine ⟨⟨xs, sq, by rw [r.length]; exact Nat.le_refl _⟩, fun i w q => ?_⟩
  obtain ⟨v, ev, rv⟩ := r1.get q
  refine ⟨⟨xs, v, sq, ev⟩, fun x H' hy => ?_⟩
  obtain ⟨rfl, hy⟩ := hy
  have : v = x := Option.some.inj (ev.symm.trans (hy xs sq))
  subst this
  exact ⟨Ext.refl, rl1, rv⟩
theorem yl_ktp {ι : Im} {n : Nat} {H : Hp} {a : Addr} {xs : List V} {ws : List W} (hs : ∀ H1, SqT K H1 a xs) (r : Reps K ι n H ws xs) : Yl K (Itt K a) ws ι n H := by
  intro ι1 S1 H1 e1 rl1
  have sq := hs H1
  have r1 := r.mv e1
  refine ⟨⟨xs, sq, by rw [r.length]; exact Nat.le_refl _⟩, fun i w q => ?_⟩
  obtain ⟨v, ev, rv⟩ := r1.get q
  refine ⟨⟨xs, v, sq, ev⟩, fun x H' hy => ?_⟩
  obtain ⟨rfl, hy⟩ := hy
  have : v = x := Option.some.inj (ev.symm.trans (hy xs sq))
  subst this
  exact ⟨Ext.refl, rl1, rv⟩
theorem yl_tup {ι : Im} {n : Nat} {H : Hp} {a : Addr} {xs : List V} {ws : List W} (hs : FzT K ι n H a xs) (r : Reps K ι n H ws xs) : Yl K (Itt K a) ws ι n H := by
  intro ι1 S1 H1 e1 rl1
  have sq := (e1.fzT hs).sq
  have r1 := r.mv e1
  refine ⟨⟨xs, sq, by rw [r.length]; exact Nat.le_refl _⟩, fun i w q => ?_⟩
  obtain ⟨v, ev, rv⟩ := r1.get q
  refine ⟨⟨xs, v, sq, ev⟩, fun x H' hy => ?_⟩
  obtain ⟨rfl, hy⟩ := hy
  have : v = x := Option.some.inj (ev.symm.trans (hy xs sq))
  subst this
  exact ⟨Ext.refl, rl1, rv⟩
theorem yl_str {ι : Im} {n : Nat} {H : Hp} (x : Str) : Yl K (Its x) (x.cps.toList.map fun c => .str ⟨#[c]⟩) ι n H := by
  intro ι1 S1 H1 e1 rl1
  refine ⟨by show x.cps.size ≤ _; simp, fun i w q => ?_⟩
  rw [List.getElem?_map] at q
  obtain ⟨c, ec, rfl⟩ := Option.map_eq_some_iff.mp q
  have hi : i < x.cps.toList.length := (List.getElem?_eq_some_iff.mp ec).1
  refine ⟨by show i < x.cps.size; simpa using hi, fun y H' hy => ?_⟩
  obtain ⟨rfl, d, hd, rfl⟩ := hy
  have e2 : x.cps.toList[i]? = some d := by simpa using hd
  rw [ec] at e2
  cases e2
  exact ⟨Ext.refl, rl1, .str _⟩
theorem yl_range {ι : Im} {n : Nat} {H : Hp} (lo : Int) (m : Nat) : Yl K (Itr lo m) ((List.range m).map fun k => .int (lo + (k : Nat))) ι n H := by
  intro ι1 S1 H1 e1 rl1
  refine ⟨by show m ≤ _; simp, fun i w q => ?_⟩
  rw [List.getElem?_map] at q
  obtain ⟨k, ek, rfl⟩ := Option.map_eq_some_iff.mp q
  have hi : i < m := by simpa using (List.getElem?_eq_some_iff.mp ek).1
  have ek2 : k = i := by
    rw [List.getElem?_range hi] at ek
    exact (Option.some.inj ek).symm
  subst ek2
  refine ⟨hi, fun y H' hy => ?_⟩
  obtain ⟨rfl, rfl⟩ := hy
  exact ⟨Ext.refl, rl1, .int _⟩
theorem ci_any {tg e : Expr} {c : MV} (h : CE X E e c) : CI X E tg e (mIter c) :=
  PI.weak (PI.or (pi_list h) (PI.or (pi_tup h) (pi_str h))) fun σ H R ⟨ρ, ι, S, re, rl, h⟩ => by
    have h' := Post.bind h
    cases q : c ρ S with
    | stuck => rw [q] at h'; exact h'.elim
    | err x S' => exact .inl ⟨ρ, ι, S, re, rl, by rw [q] at h' ⊢; exact h'⟩
    | ok w S' =>
      rw [q] at h'
      cases w with
      | tup ws =>
        refine .inr (.inl ⟨ρ, ι, S, re, rl, ?_⟩)
        rw [q]
        intro ι1 H1 e1 rl1 v rv
        cases rv with
        | @tup _ a xs hz r => exact ⟨a, rfl, ⟨xs, hz.sq⟩, h' ι1 H1 e1 rl1 ι1 H1 Ext.refl rl1 _ (yl_tup hz r)⟩
      | lst ws =>
        refine .inl ⟨ρ, ι, S, re, rl, ?_⟩
        rw [q]
        intro ι1 H1 e1 rl1 v rv
        cases rv with
        | @lst _ a xs hz r => exact ⟨a, rfl, ⟨xs, .inl (.inl hz.at_)⟩, h' ι1 H1 e1 rl1 ι1 H1 Ext.refl rl1 _ (yl_list (J0 := Itl X.K a) (fun _ _ _ e => .inl (.inl (e.fz _ _ hz).at_)) r)⟩
      | arr ws =>
        refine .inl ⟨ρ, ι, S, re, rl, ?_⟩
        rw [q]
        intro ι1 H1 e1 rl1 v rv
        cases rv with
        | @arr _ a xs hz r => exact ⟨a, rfl, ⟨xs, hz.sq⟩, h' ι1 H1 e1 rl1 ι1 H1 Ext.refl rl1 _ (yl_list (J0 := Itl X.K a) (fun _ _ _ e => (e.fzL hz).sq) r)⟩
      | str x =>
        refine .inr (.inr ⟨ρ, ι, S, re, rl, ?_⟩)
        rw [q]
        intro ι1 H1 e1 rl1 v rv
        cases rv with
        | str => exact ⟨x, rfl, h' ι1 H1 e1 rl1 ι1 H1 Ext.refl rl1 _ (yl_str x)⟩
      | non => exact .inl ⟨ρ, ι, S, re, rl, by rw [q]; exact fun ι1 H1 e1 rl1 v rv => (h' ι1 H1 e1 rl1).elim⟩
      | bl b => exact .inl ⟨ρ, ι, S, re, rl, by rw [q]; exact fun ι1 H1 e1 rl1 v rv => (h' ι1 H1 e1 rl1).elim⟩
      | int b => exact .inl ⟨ρ, ι, S, re, rl, by rw [q]; exact fun ι1 H1 e1 rl1 v rv => (h' ι1 H1 e1 rl1).elim⟩
      | ty b => exact .inl ⟨ρ, ι, S, re, rl, by rw [q]; exact fun ι1 H1 e1 rl1 v rv => (h' ι1 H1 e1 rl1).elim⟩
      | glo b => exact .inl ⟨ρ, ι, S, re, rl, by rw [q]; exact fun ι1 H1 e1 rl1 v rv => (h' ι1 H1 e1 rl1).elim⟩
      | loc b => exact .inl ⟨ρ, ι, S, re, rl, by rw [q]; exact fun ι1 H1 e1 rl1 v rv => (h' ι1 H1 e1 rl1).elim⟩
      | dct b d => exact .inl ⟨ρ, ι, S, re, rl, by rw [q]; exact fun ι1 H1 e1 rl1 v rv => (h' ι1 H1 e1 rl1).elim⟩
      | dcT b d => exact .inl ⟨ρ, ι, S, re, rl, by rw [q]; exact fun ι1 H1 e1 rl1 v rv => (h' ι1 H1 e1 rl1).elim⟩
      | ktp ws =>
        refine .inr (.inl ⟨ρ, ι, S, re, rl, ?_⟩)
        rw [q]
        intro ι1 H1 e1 rl1 v rv
        cases rv with
        | @ktp _ a xs hz r => exact ⟨a, rfl, ⟨xs, .inr hz⟩, h' ι1 H1 e1 rl1 ι1 H1 Ext.refl rl1 _ (yl_ktp (fun _ => .inr hz) r)⟩
      | obj b d f => exact .inl ⟨ρ, ι, S, re, rl, by rw [q]; exact fun ι1 H1 e1 rl1 v rv => (h' ι1 H1 e1 rl1).elim⟩
      | exn b d f => exact .inl ⟨ρ, ι, S, re, rl, by rw [q]; exact fun ι1 H1 e1 rl1 v rv => (h' ι1 H1 e1 rl1).elim⟩
end
end Mm

/-! The mirror layer: list comprehensions; ranges. -/
namespace Mm
open PySem PySem.Spec PyProof.Rows L2
/-! ### the block's own slots -/
def wipeE (ρ : Env) : List Nat → Env
  | [] => ρ
  | v :: vs => (wipeE ρ vs).set v none
theorem wipeE_length (ρ : Env) : ∀ vs : List Nat, (wipeE ρ vs).length = ρ.length
  | [] => rfl
  | v :: vs => by unfold wipeE; rw [List.length_set, wipeE_length ρ vs]
theorem RE.wipe {K : PySem.W.Frag} {ι : Im} {n : Nat} {H : Hp} {ρ : Env} {σ : L2.St} (h : RE K ι n H ρ σ) : ∀ vs : List Nat, RE K ι n H (wipeE ρ vs) (L2.wipe σ vs)
  | [] => h
  | v :: vs => by
    have ih := RE.wipe h vs
    refine ⟨by unfold wipeE L2.wipe; rw [List.length_set, List.length_set]; exact ih.len, fun i w q => ?_⟩
    unfold wipeE at q
    unfold L2.wipe
    by_cases e : v = i
    · subst e
      by_cases hv : v < (wipeE ρ vs).length
      · rw [List.getElem?_set_self hv] at q; cases q
      · rw [List.getElem?_eq_none (by simpa using hv)] at q; cases q
    · rw [List.getElem?_set_ne e] at q ⊢
      exact ih.at_ i w q
/-- a target that stores in some slots alone -/
def tOfGw (K : PySem.W.Frag) (E : XK) (vs : List Nat) (g : MG) : TG := fun v σ H Q => ∃ w ρ ι S, Rep K ι S.length H w v ∧ RE K ι S.length H ρ σ ∧ Rl K ι S H ∧ Post K E (g w ρ S) ι S.length H fun ρ' S' ι' H' => ∀ σ', RE K ι' S'.length H' ρ' σ' → L2.wipe σ' vs = L2.wipe σ vs → Q σ' H'
def tOfGsw (K : PySem.W.Frag) (E : XK) (vs : List Nat) (g : MGs) : TGs := fun xs σ H Q => ∃ ws ρ ι S, Reps K ι S.length H ws xs ∧ RE K ι S.length H ρ σ ∧ Rl K ι S H ∧ Post K E (g ws ρ S) ι S.length H fun ρ' S' ι' H' => ∀ σ', RE K ι' S'.length H' ρ' σ' → L2.wipe σ' vs = L2.wipe σ vs → Q σ' H'
abbrev CGw (X : Cx) (E : XK) (vs : List Nat) (e : Expr) (g : MG) : Prop := PG X e (tOfGw X.K E vs g)
abbrev CGsw (X : Cx) (E : XK) (vs : List Nat) (es : List Expr) (g : MGs) : Prop := PGs X es (tOfGsw X.K E vs g)
theorem wipe_set {i : Nat} {x : Option V} : ∀ {vs : List Nat} {σ : L2.St}, i ∈ vs → L2.wipe (σ.set i x) vs = L2.wipe σ vs
  | [], _, h => by cases h
  | v :: vs, σ, h => by
    unfold L2.wipe
    by_cases e : i ∈ vs
    · rw [wipe_set e]
    · have ei : i = v := by
        rcases List.mem_cons.mp h with z | z
        · exact z
        · exact absurd z e
      subst ei
      apply List.ext_getElem?
      intro j
      by_cases ej : i = j
      · subst ej
        by_cases hl : i < σ.length
        · rw [List.getElem?_set_self (by rw [L2.wipe_length]; simpa using hl), List.getElem?_set_self (by rw [L2.wipe_length]; exact hl)]
        · rw [List.getElem?_eq_none (by rw [List.length_set, L2.wipe_length]; simpa using hl), List.getElem?_eq_none (by rw [List.length_set, L2.wipe_length]; simpa using hl)]
      · rw [List.getElem?_set_ne ej, List.getElem?_set_ne ej]
        by_cases hj : j ∈ vs
        · -- both forgotten
          have both : ∀ (τ : L2.St) (us : List Nat), j ∈ us → (L2.wipe τ us)[j]? = if j < τ.length then some none else none := by
            intro τ us
            induction us with
            | nil => intro z; cases z
            | cons u us ih =>
              intro z
              unfold L2.wipe
              by_cases eu : u = j
              · subst eu
                by_cases hl : u < τ.length
                · rw [List.getElem?_set_self (by rw [L2.wipe_length]; exact hl), if_pos hl]
                · rw [List.getElem?_eq_none (by rw [List.length_set, L2.wipe_length]; omega), if_neg hl]
              · rw [List.getElem?_set_ne eu]
                rcases List.mem_cons.mp z with z | z
                · exact absurd z.symm eu
                · exact ih z
          rw [both _ _ hj, both _ _ hj, List.length_set]
        · rw [L2.wipe_out hj, L2.wipe_out hj, List.getElem?_set_ne ej]
section
variable {X : Cx} {E : XK} {vs : List Nat}
theorem cgw_name {i : Nat} {x : Str} {pos : Pos} (hN : X.N.Nodup) (hv : i ∈ vs := by decide) (hi : X.N[i]? = some x := by rfl) (hx : Loc X.env.scope x := by first | exact Or.inl rfl | exact Or.inr rfl) (hf : X.fn x = true ∨ X.env.scope.names.lookup x = some .local := by first | exact .inl rfl | exact .inr rfl | assumption) : CGw X E vs (.Name x pos) (mgName i) :=
  PG.weak (pg_name hN hi hx hf) fun v σ H Q ⟨w, ρ, ι, S, rw', re, rl, h⟩ => h ι H Ext.refl rl _ (re.set rw' i) (wipe_set hv)
theorem cgsw_nil : CGsw X E vs [] mgNil := PGs.weak pgs_nil fun xs σ H Q ⟨ws, ρ, ι, S, rws, re, rl, h⟩ => by
  cases rws with
  | nil => exact ⟨rfl, h ι H Ext.refl rl σ re rfl⟩
  | cons a b => exact h.elim
theorem cgsw_cons {e : Expr} {es : List Expr} {g : MG} {gs : MGs} (h1 : CGw X E vs e g) (h2 : CGsw X E vs es gs) (hs : (assignEach (e :: es) X.env).map (·.2) = assign e X.env :: (assignEach es X.env).map (·.2) := by rfl) : CGsw X E vs (e :: es) (mgCons g gs) :=
  PGs.weak (pgs_cons h1 h2 hs) fun xs σ H Q ⟨ws, ρ, ι, S, rws, re, rl, h⟩ => by
    cases rws with
    | nil => exact h.elim
    | @cons w v ws xs a b =>
      refine ⟨v, xs, rfl, w, ρ, ι, S, a, re, rl, (Post.then h).mono fun ρ1 S1 ι1 H1 e1 rl1 q1 σ1 re1 hw1 => ?_⟩
      exact ⟨ws, ρ1, ι1, S1, b.mono e1, re1, rl1, q1.mono fun ρ2 S2 ι2 H2 _ _ q2 σ2 re2 hw2 => q2 σ2 re2 (hw2.trans hw1)⟩
theorem cgw_tup {es : List Expr} {k : Nat} {gs : MGs} {m : Nat} {pos : Pos} (hc : X.calm = true) (h : CGsw X E vs es gs) (hn : (assignEach es X.env).length = m := by rfl) (hst : (assignEach es X.env).findIdx? (·.1) = none := by rfl) : CGw X E vs (.Tuple es k pos) (mgTup m gs) :=
  PG.weak (pg_tup hc h hn hst) fun v σ H Q ⟨w, ρ, ι, S, rw', re, rl, h⟩ => by
    cases rw' with
    | @tup ws a xs hz r =>
      have h' : Post X.K E ((if ws.length = m then gs ws else fun _ _ => Res.stuck) ρ S) ι S.length H _ := h
      by_cases z : ws.length = m
      · rw [if_pos z] at h'
        exact ⟨a, xs, rfl, hz.sq, by rw [← r.length]; exact z, ws, ρ, ι, S, r, re, rl, h'⟩
      · rw [if_neg z] at h'
        exact h'.elim
    | _ => exact h.elim
end
/-! ### [e for t in i if c] -/
def mYes : MW Bool := fun _ S => .ok true S
/-- one turn: none where the test fails -/
def mLcTurn (g : MG) (t : MW Bool) (e : MV) (w : W) : MW (Option W) := mThen (g w) (mBind t fun b => if b = true then mBind e fun y => fun _ S => .ok (some y) S else fun _ S => .ok none S)
def mLcLoop (g : MG) (t : MW Bool) (e : MV) (ρ : Env) : List W → List W → Sto → Res (List W)
  | [], acc, S => .ok acc S
  | w :: ws, acc, S => match mLcTurn g t e w ρ S with
    | .stuck => .stuck
    | .err x S' => .err x S'
    | .ok (some y) S' => if acc.length < sizeLine then mLcLoop g t e ρ ws (acc ++ [y]) S' else .stuck
    | .ok none S' => mLcLoop g t e ρ ws acc S'
def mLc (vs : List Nat) (ci : MW (List W)) (g : MG) (t : MW Bool) (e : MV) : MV := mBind ci fun ws => fun ρ S => match mLcLoop g t e (wipeE ρ vs) ws [] S with
  | .stuck => .stuck
  | .err x S' => .err x S'
  | .ok ys S' => .ok (.lst ys) S'
section
variable {X : Cx} {E : XK} {K : PySem.W.Frag} {vs : List Nat}
/-- into the block: D is laid and changed by the block alone -/
def ιd (ι : Im) (D : Addr) : Im := ⟨ι.f, D :: ι.mu⟩
def ιu (ι : Im) (m : List Addr) : Im := ⟨ι.f, m⟩
theorem enter {ι : Im} {S : Sto} {H : Hp} {D : Addr} {o : HO} (rl : Rl K ι S H) (hD : H D = none) (nt : noTup o := by trivial) : Mv ι S.length H (ιd ι D) S.length (upd H D o) ∧ Rl K (ιd ι D) S (upd H D o) := by
  have mv : Mv ι S.length H (ιd ι D) S.length (upd H D o) := ⟨Nat.le_refl _, fun _ _ => rfl, fun a u h => ⟨h.hd.same (upd_ne (h.hd.ne hD)), h.ne, fun z => by
    rcases List.mem_cons.mp z with z | z
    · exact h.hd.ne hD z
    · exact h.mu z⟩, fun a od u h => by rw [upd_ne (ne_of_none h hD)]; exact h⟩
  refine ⟨mv, rl.inj, fun l u e => (rl.obj l u e).mv mv (upd_ne (rl.ne hD l (List.getElem?_eq_some_iff.mp e).1)), fun a h => ?_, fun l hl h => ?_⟩
  · rcases List.mem_cons.mp h with z | z
    · subst z; exact ⟨o, upd_same, nt⟩
    · obtain ⟨u, q, nu⟩ := rl.mu a z
      exact ⟨u, by rw [upd_ne (ne_of_none q hD)]; exact q, nu⟩
  · rcases List.mem_cons.mp h with z | z
    · exact rl.ne hD l hl z
    · exact rl.mn l hl z
theorem change {ι : Im} {S : Sto} {H : Hp} {D : Addr} {o : HO} (rl : Rl K ι S H) (hD : D ∈ ι.mu) (nt : noTup o := by trivial) : Mv ι S.length H ι S.length (upd H D o) ∧ Rl K ι S (upd H D o) := by
  have mv : Mv ι S.length H ι S.length (upd H D o) := ⟨Nat.le_refl _, fun _ _ => rfl, fun a u h => ⟨h.hd.same (upd_ne (show a ≠ D from fun e => h.mu (e ▸ hD))), h.ne, h.mu⟩, fun a od u h => by
    rw [upd_ne (show a ≠ D from fun e => by
      obtain ⟨x, q, nx⟩ := rl.mu D hD
      rw [← e, h] at q
      cases q
      exact nx)]
    exact h⟩
  refine ⟨mv, rl.inj, fun l u e => (rl.obj l u e).mv mv (upd_ne fun z => rl.mn l (List.getElem?_eq_some_iff.mp e).1 (z ▸ hD)), fun a h => ?_, rl.mn⟩
  by_cases e : a = D
  · subst e; exact ⟨o, upd_same, nt⟩
  · obtain ⟨u, q, nu⟩ := rl.mu a h
    exact ⟨u, by rw [upd_ne e]; exact q, nu⟩
theorem leave {ι : Im} {S : Sto} {H : Hp} {D : Addr} {m : List Addr} (rl : Rl K ι S H) (hm : ι.mu = D :: m) : Mv ι S.length H (ιu ι m) S.length H ∧ Rl K (ιu ι m) S H := by
  have mv : Mv ι S.length H (ιu ι m) S.length H := ⟨Nat.le_refl _, fun _ _ => rfl, fun a u h => ⟨h.hd, h.ne, fun z => h.mu (hm ▸ List.mem_cons_of_mem _ z)⟩, fun _ _ _ h => h⟩
  exact ⟨mv, rl.inj, fun l u e => (rl.obj l u e).mv mv rfl, fun a h => rl.mu a (hm ▸ List.mem_cons_of_mem _ h), fun l hl h => rl.mn l hl (hm ▸ List.mem_cons_of_mem _ h)⟩
theorem sim_lc {ci : MW (List W)} {g : MG} {t : MW Bool} {e : MV} {σ : L2.St} {H : Hp} {Q : VK} (h : tOf K E (mLc vs ci g t e) σ H Q) : tLc (tOfI K E ci) (tOfGw K E vs g) (tOfB K E t) (tOf K E e) vs σ H Q := by
  obtain ⟨ρ, ι, S, re, rl, h⟩ := h
  refine ⟨ρ, ι, S, re, rl, (Post.bind h).mono fun ws S1 ι1 H1 e1 rl1 h1 J hJ D hD => ?_⟩
  have re1 := re.mono e1
  obtain ⟨mv0, rl0⟩ := enter (o := .lst []) rl1 hD
  refine ⟨fun i m H => ∃ ι S acc accV, RE K ι S.length H (wipeE ρ vs) (L2.wipe σ vs) ∧ Rl K ι S H ∧ Mv ι1 S1.length H1 ι S.length H ∧ ι.mu = D :: ι1.mu ∧ (∀ a, a ∈ ι1.mu → H a = H1 a) ∧ H D = some (.lst accV) ∧ Reps K ι S.length H acc accV ∧ i + m = ws.length ∧
    Post K E (match mLcLoop g t e (wipeE ρ vs) (ws.drop i) acc S with
      | .stuck => Res.stuck
      | .err x S' => .err x S'
      | .ok ys S' => .ok (W.lst ys) S') ι1 S1.length H1 (fun w S' ι' H' => ∀ v, Rep K ι' S'.length H' w v → Q v H'), ?_, ?_⟩
  · exact ⟨ws.length, ιd ι1 D, S1, [], [], (re1.mv mv0).wipe vs, rl0, mv0, rfl, fun a h => upd_ne fun z => rl1.nmu hD (z ▸ h), upd_same, .nil, Nat.zero_add _, h1⟩
  · rintro i m H2 ⟨ι2, S2, acc, accV, re2, rl2, mv2, mu2, pr2, hD2, ra2, em, h2⟩
    -- Ext into a block's state, for what is walked
    have toExt : ∀ {ι3 : Im} {S3 : Sto} {H3 : Hp}, Rl K ι3 S3 H3 → Mv ι1 S1.length H1 ι3 S3.length H3 → ι3.mu = D :: ι1.mu → (∀ a, a ∈ ι1.mu → H3 a = H1 a) → Ext ι1 S1.length H1 (ιu ι3 ι1.mu) S3.length H3 ∧ Rl K (ιu ι3 ι1.mu) S3 H3 := fun {ι3 S3 H3} rl3 mv3 mu3 pr3 =>
      ⟨⟨mv3.trans (leave rl3 mu3).1, rfl, pr3⟩, (leave rl3 mu3).2⟩
    obtain ⟨ex2, rlu2⟩ := toExt rl2 mv2 mu2 pr2
    obtain ⟨hstop, hgo⟩ := hJ ι2 S2 H2 mv2 rl2
    by_cases hi : i < ws.length
    · right
      have ed : ws.drop i = ws[i] :: ws.drop (i + 1) := List.drop_eq_getElem_cons hi
      rw [ed] at h2
      obtain ⟨go, yl⟩ := hgo i ws[i] (List.getElem?_eq_getElem hi)
      refine ⟨go, fun H' => ∃ ι S acc accV, RE K ι S.length H' (wipeE ρ vs) (L2.wipe σ vs) ∧ Rl K ι S H' ∧ Mv ι1 S1.length H1 ι S.length H' ∧ ι.mu = D :: ι1.mu ∧ (∀ a, a ∈ ι1.mu → H' a = H1 a) ∧ H' D = some (.lst accV) ∧ Reps K ι S.length H' acc accV ∧
        Post K E (match mLcLoop g t e (wipeE ρ vs) (ws.drop (i + 1)) acc S with
          | .stuck => Res.stuck
          | .err x S' => .err x S'
          | .ok ys S' => .ok (W.lst ys) S') ι1 S1.length H1 (fun w S' ι' H' => ∀ v, Rep K ι' S'.length H' w v → Q v H'), ?_, ?_⟩
      · rintro H' ⟨ι3, S3, acc3, accV3, a1, a2, a3, a4, a5, a6, a7, a8⟩
        exact ⟨m - 1, by omega, ι3, S3, acc3, accV3, a1, a2, a3, a4, a5, a6, a7, by omega, a8⟩
      · intro x H3 hy
        obtain ⟨e3, rl3, rx3⟩ := yl x H3 hy
        have mD : D ∈ ι2.mu := by rw [mu2]; exact List.mem_cons_self
        have h3 : Post K E (match (match mLcTurn g t e ws[i] (wipeE ρ vs) S2 with
            | .stuck => Res.stuck
            | .err x S' => .err x S'
            | .ok (some y) S' => if acc.length < sizeLine then mLcLoop g t e (wipeE ρ vs) (ws.drop (i + 1)) (acc ++ [y]) S' else .stuck
            | .ok none S' => mLcLoop g t e (wipeE ρ vs) (ws.drop (i + 1)) acc S') with
          | .stuck => Res.stuck
          | .err x S' => .err x S'
          | .ok ys S' => .ok (W.lst ys) S') ι1 S1.length H1 (fun w S' ι' H' => ∀ v, Rep K ι' S'.length H' w v → Q v H') := h2
        -- a state of the block that is reached from this one
        have reach : ∀ {ι4 : Im} {S4 : Sto} {H4 : Hp}, Ext ι2 S2.length H3 ι4 S4.length H4 → Mv ι1 S1.length H1 ι4 S4.length H4 ∧ ι4.mu = D :: ι1.mu ∧ (∀ a, a ∈ ι1.mu → H4 a = H1 a) ∧ H4 D = some (.lst accV) ∧ Reps K ι4 S4.length H4 acc accV := fun {ι4 S4 H4} e4 => by
          refine ⟨(mv2.trans e3.toMv).trans e4.toMv, e4.mu.trans mu2, fun a h => ?_, ?_, (ra2.mono e3).mono e4⟩
          · have ha : a ∈ ι2.mu := by rw [mu2]; exact List.mem_cons_of_mem _ h
            rw [e4.pr a ha, e3.pr a ha]
            exact pr2 a h
          · rw [e4.pr D mD, e3.pr D mD]
            exact hD2
        refine ⟨ws[i], wipeE ρ vs, ι2, S2, rx3, re2.mono e3, rl3, ?_⟩
        unfold mLcTurn mThen at h3
        -- errors leave as they are
        have leaveErr : ∀ {y : Xn} {S' : Sto}, Post K E (Res.err (α := W) y S') ι1 S1.length H1 (fun w S' ι' H' => ∀ v, Rep K ι' S'.length H' w v → Q v H') → ∀ {ι4 : Im} {H4 : Hp}, Ext ι2 S2.length H3 ι4 S'.length H4 → Rl K ι4 S' H4 → ∀ C d, RepX K ι4 S'.length H4 y C d → E C d H4 := fun {y S'} hE {ι4 H4} e4 rl4 C d rx => by
          obtain ⟨m4, mu4, pr4, _, _⟩ := reach e4
          obtain ⟨ex4, rlu4⟩ := toExt rl4 m4 mu4 pr4
          refine hE _ H4 ex4 rlu4 C d ?_
          obtain ⟨x1, x2⟩ := rx
          refine ⟨x1, ?_⟩
          rcases x2 with x2 | ⟨a, us, x3, x4, x5⟩
          · exact .inl x2
          · exact .inr ⟨a, us, x3, (leave rl4 mu4).1.fz _ _ x4, x5.mv (leave rl4 mu4).1⟩
        cases q : g ws[i] (wipeE ρ vs) S2 with
        | stuck => rw [q] at h3; exact h3
        | err y S' => rw [q] at h3; exact fun ι4 H4 e4 rl4 C d rx => leaveErr h3 e4 rl4 C d rx
        | ok ρ4 S4 =>
          rw [q] at h3
          intro ι4 H4 e4 rl4 σ4 re4 hw4
          refine ⟨hw4.trans (by
            have z : ∀ (τ : L2.St) (us : List Nat), L2.wipe (L2.wipe τ us) us = L2.wipe τ us := fun τ us => by
              have key : ∀ (as : List Nat) (υ : L2.St), (∀ a, a ∈ as → υ[a]? = some none ∨ υ[a]? = none) → L2.wipe υ as = υ := by
                intro as
                induction as with
                | nil => intro υ _; rfl
                | cons a as ih =>
                  intro υ hυ
                  unfold L2.wipe
                  rw [ih υ fun b hb => hυ b (List.mem_cons_of_mem _ hb)]
                  rcases hυ a List.mem_cons_self with z | z
                  · obtain ⟨hl, hz⟩ := List.getElem?_eq_some_iff.mp z
                    rw [← hz, List.set_getElem_self]
                  · exact List.set_eq_of_length_le (by simpa using z)
              refine key us _ fun a ha => ?_
              cases r : (L2.wipe τ us)[a]? with
              | none => exact .inr rfl
              | some y =>
                cases y with
                | none => exact .inl rfl
                | some v => exact absurd ha (L2.wipe_some r).2
            exact z σ vs), ?_⟩
          unfold mBind at h3
          refine ⟨ρ4, ι4, S4, re4, rl4, ?_⟩
          cases q2 : t ρ4 S4 with
          | stuck => simp only [q2] at h3; exact h3
          | err y S' => simp only [q2] at h3; exact fun ι5 H5 e5 rl5 C d rx => leaveErr h3 (e4.trans e5) rl5 C d rx
          | ok b S5 =>
            simp only [q2] at h3
            intro ι5 H5 e5 rl5
            cases b with
            | false =>
              rw [if_neg Bool.false_ne_true]
              simp only [Bool.false_eq_true, if_false] at h3
              obtain ⟨m5, mu5, pr5, hD5, ra5⟩ := reach (e4.trans e5)
              exact ⟨ι5, S5, acc, accV, ((re2.mono e3).mono e4).mono e5, rl5, m5, mu5, pr5, hD5, ra5, h3⟩
            | true =>
              rw [if_pos rfl]
              simp only [if_true] at h3
              refine ⟨ρ4, ι5, S5, re4.mono e5, rl5, ?_⟩
              cases q3 : e ρ4 S5 with
              | stuck => simp only [q3] at h3; exact h3
              | err y S' => simp only [q3] at h3; exact fun ι6 H6 e6 rl6 C d rx => leaveErr h3 ((e4.trans e5).trans e6) rl6 C d rx
              | ok y S6 =>
                simp only [q3] at h3
                intro ι6 H6 e6 rl6 yv ry
                obtain ⟨m6, mu6, pr6, hD6, ra6⟩ := reach ((e4.trans e5).trans e6)
                by_cases hz : acc.length < sizeLine
                · rw [if_pos hz] at h3
                  refine ⟨accV, hD6, by rw [← ra6.length]; exact hz, ?_⟩
                  have mD6 : D ∈ ι6.mu := by rw [mu6]; exact List.mem_cons_self
                  obtain ⟨mv7, rl7⟩ := change (o := .lst (accV ++ [yv])) rl6 mD6
                  refine ⟨ι6, S6, acc ++ [y], accV ++ [yv], ((((re2.mono e3).mono e4).mono e5).mono e6).mv mv7, rl7, m6.trans mv7, mu6, fun a h => ?_, upd_same, (ra6.mv mv7).append (.cons (ry.mv mv7) .nil), h3⟩
                  rw [upd_ne (show a ≠ D from fun z => rl1.nmu hD (z ▸ h))]
                  exact pr6 a h
                · rw [if_neg hz] at h3
                  exact h3.elim
    · left
      have ei : i = ws.length := by omega
      subst ei
      rw [List.drop_length] at h2
      refine ⟨hstop, ?_⟩
      have h3 := h2 (ιu ι2 ι1.mu) H2 ex2 rlu2 (.ref D)
      refine h3 (.lst ⟨.inl hD2, fun l hl z => rl2.mn l hl (mu2 ▸ z ▸ List.mem_cons_self), fun z => ?_⟩ (ra2.mv (leave rl2 mu2).1))
      exact rl1.nmu hD z
/-- [elt for tg in iter if ..] -/
theorem ce_lc {elt tg iter : Expr} {ifs : List Expr} {scope : Scope} {own : List (Str × Nat)} {pos : Pos} {ci : MW (List W)} {g : MG} {t : MW Bool} {e : MV} (hc : X.calm = true) (hN : X.N.Nodup) (ok : BlkOk X.N X.env.scope scope own) (hi : CI X E tg iter ci)
    (hg : ∀ (s : Shared) (H : Hp) (C : Addr) (cl : List (Str × Addr)) (fp : List Addr), CGw (X.blk s H scope (compEnvC scope cl C X.env) fp) E (own.map (·.2)) tg g)
    (ht : ∀ (s : Shared) (H : Hp) (C : Addr) (cl : List (Str × Addr)) (fp : List Addr), PTs (X.blk s H scope (compEnvC scope cl C X.env) fp) ifs (tOfB X.K E t))
    (he : ∀ (s : Shared) (H : Hp) (C : Addr) (cl : List (Str × Addr)) (fp : List Addr), CE (X.blk s H scope (compEnvC scope cl C X.env) fp) E elt e) (hs : ∀ x, foldedSetIterable iter X.env x = pure x := by intro _; rfl) :
    CE X E (.ListComp elt [⟨tg, iter, ifs, 0⟩] scope pos) (mLc (own.map (·.2)) ci g t e) :=
  PE.weak (pe_lc hc hN hi ok hg ht he hs) fun σ H Q h => sim_lc h
theorem cts_nil {Y : Cx} : PTs Y [] (tOfB K E mYes) := ⟨fun pins s σ H Q I ⟨ρ, ι, S, re, rl, h⟩ => pts_nil.run pins s σ H Q I (h ι H Ext.refl rl)⟩
theorem cts_one {Y : Cx} {c : Expr} {t : MW Bool} (h : PT Y c (tOfB K E t)) : PTs Y [c] (tOfB K E t) := pts_one h
/-- y = [elt for ..] on one line, y a local -/
theorem cs_setLc {i : Nat} {y : Str} {py : Pos} {elt tg iter : Expr} {ifs : List Expr} {scope : Scope} {own : List (Str × Nat)} {pos spos : Pos} {ci : MW (List W)} {g : MG} {t : MW Bool} {e : MV} (hc : X.calm = true) (hN : X.N.Nodup) (hy : X.N[i]? = some y) (hyl : X.env.scope.names.lookup y = some .local)
    (hsw : swapsWith (.ListComp elt [⟨tg, iter, ifs, 0⟩] scope pos) (some (.Name y py)) spos.line X.env = pure true) (ok : BlkOk X.N X.env.scope scope own) (hi : CI X E tg iter ci)
    (hg : ∀ (s : Shared) (H : Hp) (C : Addr) (cl : List (Str × Addr)) (fp : List Addr), CGw (X.blk s H scope (compEnvC scope cl C X.env) fp) E (own.map (·.2)) tg g)
    (ht : ∀ (s : Shared) (H : Hp) (C : Addr) (cl : List (Str × Addr)) (fp : List Addr), PTs (X.blk s H scope (compEnvC scope cl C X.env) fp) ifs (tOfB X.K E t))
    (he : ∀ (s : Shared) (H : Hp) (C : Addr) (cl : List (Str × Addr)) (fp : List Addr), CE (X.blk s H scope (compEnvC scope cl C X.env) fp) E elt e) (hs : ∀ x, foldedSetIterable iter X.env x = pure x := by intro _; rfl) :
    CS X E (.Assign [.Name y py] (.ListComp elt [⟨tg, iter, ifs, 0⟩] scope pos) spos) (mSet i (mLc (own.map (·.2)) ci g t e)) :=
  PS.weak (ps_setLc hc hN hy hyl hsw hi ok hg ht he hs) fun D σ H ⟨ρ, ι, S, re, rl, h⟩ => sim_lc ⟨ρ, ι, S, re, rl, (Post.bind h).mono fun w S1 ι1 H1 e1 rl1 h1 v rv => h1 ι1 H1 Ext.refl rl1 _ ((re.mono e1).set rv i)⟩
/-! ranges -/
def rngW (lo hi : Int) : List W := (List.range (hi - lo).toNat).map fun (k : Nat) => .int (lo + k)
def mRng1 (c : MW (List W)) : MW (List W) := mBind c fun ws => fun _ S => match ws with
  | [.int j] => if -(2 ^ 62) ≤ j ∧ j < 2 ^ 62 then .ok (rngW 0 j) S else .stuck
  | _ => .stuck
def mRng2 (c : MW (List W)) : MW (List W) := mBind c fun ws => fun _ S => match ws with
  | [.int i, .int j] => if -(2 ^ 62) ≤ i ∧ i < 2 ^ 62 ∧ -(2 ^ 62) ≤ j ∧ j < 2 ^ 62 then .ok (rngW i j) S else .stuck
  | _ => .stuck
theorem ci_range1 {tg a : Expr} {ta : MW (List W)} {p pos : Pos} (hg : Gl X "range") (hm : X.mg "range" = none) (ha : CA X E [a] ta) (hs : starEach [a] X.env = [(false, eval a X.env)] := by rfl) : CI X E tg (.Call (.Name "range" p) [a] [] pos) (mRng1 ta) :=
  PI.weak (pi_range1 hg hm ha hs) fun σ H R ⟨ρ, ι, S, re, rl, h⟩ => ⟨ρ, ι, S, re, rl, (Post.bind h).mono fun ws S1 ι1 H1 e1 rl1 h1 vs rvs => by
    cases rvs with
    | nil => exact h1.elim
    | cons a b =>
      cases b with
      | cons _ _ => cases a <;> exact h1.elim
      | nil =>
        cases a with
        | int j =>
          have h2 : Post X.K E (if -(2 ^ 62) ≤ j ∧ j < 2 ^ 62 then Res.ok (rngW 0 j) S1 else .stuck) ι1 S1.length H1 _ := h1
          by_cases z : -(2 ^ 62) ≤ j ∧ j < 2 ^ 62
          · rw [if_pos z] at h2
            refine ⟨j, rfl, z.1, z.2, h2 ι1 H1 Ext.refl rl1 _ ?_⟩
            have y := yl_range (K := X.K) (ι := ι1) (n := S1.length) (H := H1) 0 j.toNat
            rw [show j.toNat = (j - 0).toNat by rw [Int.sub_zero]] at y ⊢
            exact y
          · rw [if_neg z] at h2
            exact h2.elim
        | _ => exact h1.elim⟩
theorem ci_range2 {tg a b : Expr} {ta : MW (List W)} {p pos : Pos} (hg : Gl X "range") (hm : X.mg "range" = none) (ha : CA X E [a, b] ta) (hs : starEach [a, b] X.env = [(false, eval a X.env), (false, eval b X.env)] := by rfl) (hs2 : starEach [b] X.env = [(false, eval b X.env)] := by rfl) : CI X E tg (.Call (.Name "range" p) [a, b] [] pos) (mRng2 ta) :=
  PI.weak (pi_range2 hg hm ha hs hs2) fun σ H R ⟨ρ, ι, S, re, rl, h⟩ => ⟨ρ, ι, S, re, rl, (Post.bind h).mono fun ws S1 ι1 H1 e1 rl1 h1 vs rvs => by
    cases rvs with
    | nil => exact h1.elim
    | cons a b =>
      cases b with
      | nil => cases a <;> exact h1.elim
      | cons b c =>
        cases c with
        | cons _ _ => cases a <;> cases b <;> exact h1.elim
        | nil =>
          cases a with
          | int i =>
            cases b with
            | int j =>
              have h2 : Post X.K E (if -(2 ^ 62) ≤ i ∧ i < 2 ^ 62 ∧ -(2 ^ 62) ≤ j ∧ j < 2 ^ 62 then Res.ok (rngW i j) S1 else .stuck) ι1 S1.length H1 _ := h1
              by_cases z : -(2 ^ 62) ≤ i ∧ i < 2 ^ 62 ∧ -(2 ^ 62) ≤ j ∧ j < 2 ^ 62
              · rw [if_pos z] at h2
                exact ⟨i, j, rfl, z, h2 ι1 H1 Ext.refl rl1 _ (yl_range i (j - i).toNat)⟩
              · rw [if_neg z] at h2
                exact h2.elim
            | _ => exact h1.elim
          | _ => cases b <;> exact h1.elim⟩
end
end Mm

/-! The mirror layer: defs and their calls; what a def leaves behind. -/
namespace Mm
open PySem PySem.Spec PyProof.Rows L2
/-! ### leaving a def: what it made goes out of the store -/
mutual
/-- no object of the store from n on is named -/
def belW (n : Nat) : W → Bool
  | .loc l => decide (l < n)
  | .tup ws => belWs n ws
  | .ktp ws => belWs n ws
  | .lst ws => belWs n ws
  | .arr ws => belWs n ws
  | .dct _ ws => belWs n ws
  | .dcT _ ws => belWs n ws
  | .obj _ _ ws => belWs n ws
  | .exn _ _ ws => belWs n ws
  | _ => true
def belWs (n : Nat) : List W → Bool
  | [] => true
  | w :: ws => belW n w && belWs n ws
end
def belO (n : Nat) : O → Bool
  | .lst ws => belWs n ws
  | .dct _ ws => belWs n ws
  | .dcT _ ws => belWs n ws
  | .ins _ _ ws => belWs n ws
  | .dctL _ ws => belWs n ws
  | .dcTL _ ws => belWs n ws
mutual
/-- a value with the objects from n on written out -/
def frzW (S : Sto) (n : Nat) : Nat → W → Option W
  | 0, _ => none
  | k + 1, .loc l => if l < n then some (.loc l) else match S[l]? with
    | some (.lst ws) => (frzWs S n k ws).map .lst
    | some (.dct ks ws) => (frzWs S n k ws).map (.dct ks)
    | some (.dcT ks ws) => (frzWs S n k ws).map (.dcT ks)
    | some (.ins C fs ws) => (frzWs S n k ws).map (.obj C fs)
    | some (.dctL ks ws) => (frzWs S n k ws).map (.dct ks)
    | some (.dcTL ks ws) => (frzWs S n k ws).map (.dcT ks)
    | none => none
  | k + 1, .tup ws => (frzWs S n k ws).map .tup
  | k + 1, .ktp ws => (frzWs S n k ws).map .ktp
  | k + 1, .lst ws => (frzWs S n k ws).map .lst
  | k + 1, .arr ws => (frzWs S n k ws).map .arr
  | k + 1, .dct ks ws => (frzWs S n k ws).map (.dct ks)
  | k + 1, .dcT ks ws => (frzWs S n k ws).map (.dcT ks)
  | k + 1, .obj C fs ws => (frzWs S n k ws).map (.obj C fs)
  | k + 1, .exn C fs ws => (frzWs S n k ws).map (.exn C fs)
  | _ + 1, w => some w
def frzWs (S : Sto) (n : Nat) : Nat → List W → Option (List W)
  | _, [] => some []
  | 0, _ :: _ => none
  | k + 1, w :: ws => match frzW S n k w, frzWs S n k ws with
    | some u, some us => some (u :: us)
    | _, _ => none
end
/-- nothing in it is written out: it stays as it is -/
def finW (n : Nat) (w : W) (S : Sto) : Res W := if (S.take n).all (belO n) then
    (if belW n w then .ok w (S.take n) else match frzW S n 1000 w with
      | some u => .ok u (S.take n)
      | none => .stuck)
  else .stuck
section
variable {K : PySem.W.Frag} {ι : Im} {n m : Nat} {S : Sto} {H : Hp}
theorem Fz.less {a : Addr} {o : HO} (h : Fz ι m H a o) (le : n ≤ m) : Fz ι n H a o := ⟨h.hd, fun l hl => h.ne l (Nat.lt_of_lt_of_le hl le), h.mu⟩
theorem FzT.less {a : Addr} {xs : List V} (h : FzT K ι m H a xs) (le : n ≤ m) : FzT K ι n H a xs := Fz.less h le
theorem FzL.less {a : Addr} {xs : List V} (h : FzL K ι m H a xs) (le : n ≤ m) : FzL K ι n H a xs := by
  rcases h with ⟨o, h⟩ | h
  · exact .inl ⟨o, h.less le⟩
  · exact .inr h
mutual
theorem Rep.less (le : n ≤ m) : ∀ {w : W} {v : V}, belW n w = true → Rep K ι m H w v → Rep K ι n H w v
  | _, _, _, .non => .non
  | _, _, _, .bl b => .bl b
  | _, _, _, .int i => .int i
  | _, _, _, .str x => .str x
  | _, _, _, .ty x => .ty x
  | _, _, _, .glo x => .glo x
  | _, _, hb, .loc h => .loc (of_decide_eq_true (by unfold belW at hb; exact hb))
  | _, _, hb, .tup h r => .tup (h.less le) (Reps.less le (by unfold belW at hb; exact hb) r)
  | _, _, hb, .ktp h r => .ktp h (Reps.less le (by unfold belW at hb; exact hb) r)
  | _, _, hb, .lst h r => .lst (h.less le) (Reps.less le (by unfold belW at hb; exact hb) r)
  | _, _, hb, .arr h r => .arr (h.less le) (Reps.less le (by unfold belW at hb; exact hb) r)
  | _, _, hb, .dct h hl r => .dct (h.less le) hl (Reps.less le (by unfold belW at hb; exact hb) r)
  | _, _, hb, .dcT h hl r => .dcT (h.less le) hl (Reps.less le (by unfold belW at hb; exact hb) r)
  | _, _, hb, .obj h hl r => .obj (h.less le) hl (Reps.less le (by unfold belW at hb; exact hb) r)
  | _, _, hb, .exn h hd hl r => .exn (h.less le) (hd.imp id fun ⟨dd, q, z⟩ => ⟨dd, q, z.less le⟩) hl (Reps.less le (by unfold belW at hb; exact hb) r)
theorem Reps.less (le : n ≤ m) : ∀ {ws : List W} {vs : List V}, belWs n ws = true → Reps K ι m H ws vs → Reps K ι n H ws vs
  | _, _, _, .nil => .nil
  | _, _, hb, .cons h r => by
    unfold belWs at hb
    obtain ⟨h1, h2⟩ := Bool.and_eq_true_iff.mp hb
    exact .cons (Rep.less le h1 h) (Reps.less le h2 r)
end
theorem frzWs_len {S : Sto} {n : Nat} : ∀ {k : Nat} {ws us : List W}, frzWs S n k ws = some us → ws.length = us.length
  | k, [], us, h => by
    unfold frzWs at h
    cases h
    rfl
  | 0, w :: ws, us, h => by unfold frzWs at h; cases h
  | k + 1, w :: ws, us, h => by
    unfold frzWs at h
    cases q : frzW S n k w with
    | none => rw [q] at h; cases h
    | some u =>
      cases q2 : frzWs S n k ws with
      | none => rw [q, q2] at h; cases h
      | some us' =>
        rw [q, q2] at h
        cases h
        simp [frzWs_len q2]
theorem optMap {α β : Type} {o : Option α} {f : α → β} {b : β} (h : o.map f = some b) : ∃ a, o = some a ∧ f a = b := Option.map_eq_some_iff.mp h
mutual
theorem Rep.frz (rl : Rl K ι S H) (le : n ≤ S.length) : ∀ {k : Nat} {w u : W} {v : V}, frzW S n k w = some u → Rep K ι S.length H w v → Rep K ι n H u v
  | 0, w, u, v, h, _ => by unfold frzW at h; cases h
  | k + 1, w, u, v, h, r => by
    cases r with
    | non => unfold frzW at h; cases h; exact .non
    | bl b => unfold frzW at h; cases h; exact .bl b
    | int i => unfold frzW at h; cases h; exact .int i
    | str x => unfold frzW at h; cases h; exact .str x
    | ty x => unfold frzW at h; cases h; exact .ty x
    | glo x => unfold frzW at h; cases h; exact .glo x
    | @loc l hl =>
      unfold frzW at h
      by_cases z : l < n
      · rw [if_pos z] at h
        cases h
        exact .loc z
      · rw [if_neg z] at h
        have ne : ∀ i, i < n → ι i ≠ ι l := fun i hi e => z (by
          have := rl.inj i l (Nat.lt_of_lt_of_le hi le) hl e
          omega)
        split at h
        · rename_i ws q
          obtain ⟨us, h1, rfl⟩ := optMap h
          obtain ⟨xs, o1, o2⟩ := rl.obj l _ q
          exact .lst ⟨.inl o1, ne, rl.mn l hl⟩ (Reps.frz rl le h1 o2)
        · rename_i ks ws q
          obtain ⟨us, h1, rfl⟩ := optMap h
          obtain ⟨xs, o1, o2, o3⟩ := rl.obj l _ q
          exact .dct ⟨.inl o1, ne, rl.mn l hl⟩ (o2.trans (frzWs_len h1)) (Reps.frz rl le h1 o3)
        · rename_i ks ws q
          obtain ⟨us, h1, rfl⟩ := optMap h
          obtain ⟨xs, o1, o2, o3⟩ := rl.obj l _ q
          exact .dcT ⟨.inl o1, ne, rl.mn l hl⟩ (o2.trans (frzWs_len h1)) (Reps.frz rl le h1 o3)
        · rename_i C fs ws q
          obtain ⟨us, h1, rfl⟩ := optMap h
          obtain ⟨dx, xs, o1, o2, o3⟩ := rl.obj l _ q
          exact .obj ⟨.inl o1, ne, rl.mn l hl⟩ (o2.trans (frzWs_len h1)) (Reps.frz rl le h1 o3)
        · rename_i ks ws q
          obtain ⟨us, h1, rfl⟩ := optMap h
          obtain ⟨xs, od, o1, o2, o3⟩ := rl.obj l _ q
          exact .dct ⟨.inr ⟨rfl, od, o1⟩, ne, rl.mn l hl⟩ (o2.trans (frzWs_len h1)) (Reps.frz rl le h1 o3)
        · rename_i ks ws q
          obtain ⟨us, h1, rfl⟩ := optMap h
          obtain ⟨xs, od, o1, o2, o3⟩ := rl.obj l _ q
          exact .dcT ⟨.inr ⟨rfl, od, o1⟩, ne, rl.mn l hl⟩ (o2.trans (frzWs_len h1)) (Reps.frz rl le h1 o3)
        · cases h
    | tup hz r =>
      unfold frzW at h
      obtain ⟨us, h1, rfl⟩ := optMap h
      exact .tup (hz.less le) (Reps.frz rl le h1 r)
    | ktp hz r =>
      unfold frzW at h
      obtain ⟨us, h1, rfl⟩ := optMap h
      exact .ktp hz (Reps.frz rl le h1 r)
    | lst hz r =>
      unfold frzW at h
      obtain ⟨us, h1, rfl⟩ := optMap h
      exact .lst (hz.less le) (Reps.frz rl le h1 r)
    | arr hz r =>
      unfold frzW at h
      obtain ⟨us, h1, rfl⟩ := optMap h
      exact .arr (hz.less le) (Reps.frz rl le h1 r)
    | dct hz hl r =>
      unfold frzW at h
      obtain ⟨us, h1, rfl⟩ := optMap h
      exact .dct (hz.less le) (hl.trans (frzWs_len h1)) (Reps.frz rl le h1 r)
    | dcT hz hl r =>
      unfold frzW at h
      obtain ⟨us, h1, rfl⟩ := optMap h
      exact .dcT (hz.less le) (hl.trans (frzWs_len h1)) (Reps.frz rl le h1 r)
    | obj hz hl r =>
      unfold frzW at h
      obtain ⟨us, h1, rfl⟩ := optMap h
      exact .obj (hz.less le) (hl.trans (frzWs_len h1)) (Reps.frz rl le h1 r)
    | exn hz hd hl r =>
      unfold frzW at h
      obtain ⟨us, h1, rfl⟩ := optMap h
      exact .exn (hz.less le) (hd.imp id fun ⟨dd, q, z⟩ => ⟨dd, q, z.less le⟩) (hl.trans (frzWs_len h1)) (Reps.frz rl le h1 r)
theorem Reps.frz (rl : Rl K ι S H) (le : n ≤ S.length) : ∀ {k : Nat} {ws us : List W} {vs : List V}, frzWs S n k ws = some us → Reps K ι S.length H ws vs → Reps K ι n H us vs
  | k, [], us, vs, h, r => by
    unfold frzWs at h
    cases h
    cases r
    exact .nil
  | 0, w :: ws, us, vs, h, _ => by unfold frzWs at h; cases h
  | k + 1, w :: ws, us, vs, h, r => by
    unfold frzWs at h
    cases q : frzW S n k w with
    | none => rw [q] at h; cases h
    | some u =>
      cases q2 : frzWs S n k ws with
      | none => rw [q, q2] at h; cases h
      | some us' =>
        rw [q, q2] at h
        cases h
        cases r with
        | cons a b => exact .cons (Rep.frz rl le q a) (Reps.frz rl le q2 b)
end
theorem Rl.take (rl : Rl K ι S H) (hb : (S.take n).all (belO n) = true) (le : n ≤ S.length) : Rl K ι (S.take n) H := by
  have hl : (S.take n).length = n := by rw [List.length_take]; omega
  refine ⟨fun i j hi hj => rl.inj i j (by omega) (by omega), fun i o e => ?_, rl.mu, fun i hi => rl.mn i (by omega)⟩
  have hi : i < n := by
    have := (List.getElem?_eq_some_iff.mp e).1
    omega
  have e2 : S[i]? = Option.some o := by rw [← e, List.getElem?_take_of_lt hi]
  have ho : belO n o = true := List.all_eq_true.mp hb o (List.mem_of_getElem? e)
  rw [hl]
  have z := rl.obj i o e2
  cases o with
  | lst ws => obtain ⟨xs, a, b⟩ := z; exact ⟨xs, a, b.less le ho⟩
  | dct ks ws => obtain ⟨xs, a, b, c⟩ := z; exact ⟨xs, a, b, c.less le ho⟩
  | dcT ks ws => obtain ⟨xs, a, b, c⟩ := z; exact ⟨xs, a, b, c.less le ho⟩
  | ins C fs ws => obtain ⟨dx, xs, a, b, c⟩ := z; exact ⟨dx, xs, a, b, c.less le ho⟩
  | dctL ks ws => obtain ⟨xs, od, a, b, c⟩ := z; exact ⟨xs, od, a, b, c.less le ho⟩
  | dcTL ks ws => obtain ⟨xs, od, a, b, c⟩ := z; exact ⟨xs, od, a, b, c.less le ho⟩
/-- behind the leaving -/
theorem sim_fin {E : XK} {Q : VK} {w : W} {v : V} {ι0 : Im} {H0 : Hp} (rl : Rl K ι S H) (e : Ext ι0 n H0 ι S.length H) (r : Rep K ι S.length H w v) (h : PostV K E (finW n w S) ι0 n H0 Q) : Q v H := by
  unfold finW at h
  by_cases hb : (S.take n).all (belO n) = true
  · rw [if_pos hb] at h
    have hl : (S.take n).length = n := by rw [List.length_take]; have := e.le; omega
    have e' : Ext ι0 n H0 ι (S.take n).length H := by
      rw [hl]
      exact ⟨⟨Nat.le_refl _, e.io, fun a o z => (e.fz a o z).less e.le, e.fr⟩, e.mu, e.pr⟩
    have rl' := rl.take hb e.le
    by_cases hw : belW n w = true
    · rw [if_pos hw] at h
      exact h ι H e' rl' v (by rw [hl]; exact r.less e.le hw)
    · rw [if_neg hw] at h
      cases q : frzW S n 1000 w with
      | none => rw [q] at h; exact h.elim
      | some u => rw [q] at h; exact h ι H e' rl' v (by rw [hl]; exact r.frz rl e.le q)
  · rw [if_neg hb] at h
    exact h.elim
end
/-! ### a def -/
def slots (N : Nat) (ws : List W) : Env := ws.map some ++ List.replicate (N - ws.length) none
def mDef (N : Nat) (c : MS) : MF := fun ws S => match c (slots N ws) S with
  | .stuck => .stuck
  | .err x S' => .err x S'
  | .ok (.ret w, _) S' => finW S.length w S'
  | .ok (.next, _) S' => finW S.length .non S'
  | .ok _ _ => .stuck
/-- .. whose new objects stay in the store -/
def mDefK (N : Nat) (c : MS) : MF := fun ws S => match c (slots N ws) S with
  | .stuck => .stuck
  | .err x S' => .err x S'
  | .ok (.ret w, _) S' => .ok w S'
  | .ok (.next, _) S' => .ok .non S'
  | .ok _ _ => .stuck
/-- a def that raises nothing -/
def sp0 (K : PySem.W.Frag) (n : Nat) (m : MF) : Sp := fun vs H Q _ => vs.length = n ∧ ∃ ws ι S, Reps K ι S.length H ws vs ∧ Rl K ι S H ∧ PostV K E0 (m ws S) ι S.length H Q
structure FM (P : Program) (w : World) (K : PySem.W.Frag) (mg : Str → Option Value) (base : Heap) (k : Nat) (x : Str) (n : Nat) (m : MF) : Prop where
  ex : ∃ fd ps, ps.length = n ∧ FnOk P w K mg base CX0 k (He.ga K x) fd ps (sp0 K n m) ∧ Binds K fd ps []
  gl : mg x = some (.ref (He.ga K x))
  kp : PySem.W.keepIn K (.ref (He.ga K x)) = true
section
variable {P : Program} {w : World} {K : PySem.W.Frag} {mg : Str → Option Value} {base : Heap} {x : Str} {n k : Nat} {m : MF}
theorem RE.start {ι : Im} {H : Hp} {ws : List W} {vs : List V} {N : List Str} {S : Sto} (r : Reps K ι S.length H ws vs) : RE K ι S.length H (slots N.length ws) (L2.start N vs) := by
  have hl := r.length
  refine ⟨by unfold slots L2.start; simp [hl], fun i w q => ?_⟩
  unfold slots at q
  unfold L2.start
  by_cases h : i < ws.length
  · rw [List.getElem?_append_left (by simpa using h), List.getElem?_map] at q
    obtain ⟨u, e, q⟩ := Option.map_eq_some_iff.mp q
    cases q
    obtain ⟨v, ev, rv⟩ := r.get e
    refine ⟨v, ?_, rv⟩
    rw [List.getElem?_append_left (by rw [List.length_map, ← hl]; exact h), List.getElem?_map, ev]
    rfl
  · rw [List.getElem?_append_right (by simpa using h)] at q
    have := List.mem_of_getElem? q
    rw [List.mem_replicate] at this
    exact nomatch this.2
/-- the end of a def's body, for both kinds of leaving -/
theorem sim_def {E : XK} {Q : VK} {vs : List V} {ws : List W} {ι : Im} {S : Sto} {H : Hp} {N : List Str} {c : MS} (r : Reps K ι S.length H ws vs) (rl : Rl K ι S H) (h : PostV K E (mDef N.length c ws S) ι S.length H Q) :
    tOfS K E c { nx := fun _ H' => Q .non H', rt := Q } (L2.start N vs) H := by
  refine ⟨_, ι, S, RE.start r, rl, ?_⟩
  unfold mDef at h
  cases q : c (slots N.length ws) S with
  | stuck => rw [q] at h; exact h
  | err y S' => rw [q] at h; exact h
  | ok p S' =>
    rw [q] at h
    obtain ⟨f, ρ⟩ := p
    cases f with
    | next => exact fun ι' H' e' rl' σ' re' => sim_fin rl' e' .non h
    | ret u => exact fun ι' H' e' rl' σ' re' v rv => sim_fin rl' e' rv h
    | brk => exact h.elim
    | cont => exact h.elim
theorem sim_defK {E : XK} {Q : VK} {vs : List V} {ws : List W} {ι : Im} {S : Sto} {H : Hp} {N : List Str} {c : MS} (r : Reps K ι S.length H ws vs) (rl : Rl K ι S H) (h : PostV K E (mDefK N.length c ws S) ι S.length H Q) :
    tOfS K E c { nx := fun _ H' => Q .non H', rt := Q } (L2.start N vs) H := by
  refine ⟨_, ι, S, RE.start r, rl, ?_⟩
  unfold mDefK at h
  cases q : c (slots N.length ws) S with
  | stuck => rw [q] at h; exact h
  | err y S' => rw [q] at h; exact h
  | ok p S' =>
    rw [q] at h
    obtain ⟨f, ρ⟩ := p
    cases f with
    | next => exact fun ι' H' e' rl' σ' re' => h ι' H' e' rl' _ .non
    | ret u => exact fun ι' H' e' rl' σ' re' v rv => h ι' H' e' rl' v rv
    | brk => exact h.elim
    | cont => exact h.elim
/-- THE RULE for a def: from its body's mirror to its promise -/
theorem fm_of {params : Arguments} {body : List Stmt} {scope : Scope} {fd : FuncData} {N ps : List Str} {c : MS} (F : FunD K x x params body scope [] [] (He.ga K x) fd) (gl : mg x = some (.ref (He.ga K x))) (S : FnScope N ps scope) (bd : Binds K fd ps [])
    (hbody : ∀ (cdv : Value) (A : Around) (outer : List PySem.Env) (s : Shared) (H : Hp) (E : XK), Room k (A.deeper (envOfC x scope s.heap.objs.size (He.ga K x) cdv)) →
      CSs (cxOf CX0 P w K mg base N x scope (He.ga K x) cdv A outer s H E).nox E0 body c) : FM P w K mg base (k + 1) x ps.length (mDef N.length c) := by
  refine ⟨⟨fd, ps, rfl, ?_, bd⟩, gl, F.kp⟩
  refine F.ok S (fun vs H Q E h => h.1) fun cdv A outer s H vs Q E hr h => ?_
  obtain ⟨hl, ws, ι, S, r, rl, h⟩ := h
  exact ⟨_, PSs.nox (hbody cdv A outer s H E hr), sim_def r rl h⟩
theorem fm_ofK {params : Arguments} {body : List Stmt} {scope : Scope} {fd : FuncData} {N ps : List Str} {c : MS} (F : FunD K x x params body scope [] [] (He.ga K x) fd) (gl : mg x = some (.ref (He.ga K x))) (S : FnScope N ps scope) (bd : Binds K fd ps [])
    (hbody : ∀ (cdv : Value) (A : Around) (outer : List PySem.Env) (s : Shared) (H : Hp) (E : XK), Room k (A.deeper (envOfC x scope s.heap.objs.size (He.ga K x) cdv)) →
      CSs (cxOf CX0 P w K mg base N x scope (He.ga K x) cdv A outer s H E).nox E0 body c) : FM P w K mg base (k + 1) x ps.length (mDefK N.length c) := by
  refine ⟨⟨fd, ps, rfl, ?_, bd⟩, gl, F.kp⟩
  refine F.ok S (fun vs H Q E h => h.1) fun cdv A outer s H vs Q E hr h => ?_
  obtain ⟨hl, ws, ι, S, r, rl, h⟩ := h
  exact ⟨_, PSs.nox (hbody cdv A outer s H E hr), sim_defK r rl h⟩
end
section
variable {X : Cx} {x : Str} {n k : Nat} {m : MF} {e : Expr} {es : List Expr} {t : MW (List W)}
theorem ce_call {p pos : Pos} (F : FM X.prog X.w X.K X.mg X.base k x n m) (hr : Room k X.A) (hg : Gl X x) (ha : CA X E0 (e :: es) t) (hdb : (x == ("__debug__" : Str)) = false := by decide) (he : starEach (e :: es) X.env = (false, eval e X.env) :: starEach es X.env := by rfl) (hpl : (backTo pos (starEach es X.env)).any (·.1) = false := by rfl) :
    CE X E0 (.Call (.Name x p) (e :: es) [] pos) (mCall n m t) := by
  obtain ⟨⟨fd, ps, hn, ok, bd⟩, gl, kp⟩ := F
  refine PE.weak (pe_call ok hr hg gl kp bd .nil pass0 ha hdb he hpl) fun σ H Q ⟨ρ, ι, S, re, rl, h⟩ => ?_
  refine ⟨ρ, ι, S, re, rl, (Post.bind h).mono fun ws S1 ι1 H1 e1 rl1 h1 vs rvs => ?_⟩
  by_cases z : ws.length = n
  · rw [if_pos z] at h1
    rw [List.append_nil]
    exact ⟨by rw [← rvs.length]; exact z, ws, ι1, S1, rvs, rl1, h1⟩
  · rw [if_neg z] at h1
    exact h1.elim
theorem ce_call0 {p pos : Pos} (F : FM X.prog X.w X.K X.mg X.base k x 0 m) (hr : Room k X.A) (hg : Gl X x) (hdb : (x == ("__debug__" : Str)) = false := by decide) : CE X E0 (.Call (.Name x p) [] [] pos) (mCall 0 m mNil) := by
  obtain ⟨⟨fd, ps, hn, ok, bd⟩, gl, kp⟩ := F
  refine PE.weak (pe_call0 ok hr hg gl kp bd .nil pass0 hdb) fun σ H Q ⟨ρ, ι, S, re, rl, h⟩ => ?_
  exact ⟨rfl, [], ι, S, .nil, rl, h⟩
/-- a call of the def that a slot holds, one of some -/
def mCallA (i n : Nat) (fs : List (Str × MF)) (t : MW (List W)) : MV := mBind (mVar i) fun f => match f with
  | .glo x => (match fs.lookup x with
    | some m => mBind t fun ws => fun _ S => if ws.length = n then m ws S else .stuck
    | none => fun _ _ => .stuck)
  | _ => fun _ _ => .stuck
theorem ce_callA {i : Nat} {fs : List (Str × MF)} {p pos : Pos} (F : ∀ y m, fs.lookup y = some m → FM X.prog X.w X.K X.mg X.base k y n m) (hr : Room k X.A) (ha : CA X E0 (e :: es) t) (hN : X.N[i]? = some x := by rfl) (hv : Vis X.env.scope x := by first | exact Or.inl rfl | exact Or.inr (Or.inl rfl) | exact Or.inr (Or.inr rfl))
    (hdb : (x == ("__debug__" : Str)) = false := by decide) (hcd : (x == ("__classdict__" : Str)) = false := by decide) (he : starEach (e :: es) X.env = (false, eval e X.env) :: starEach es X.env := by rfl) (hpl : (backTo pos (starEach es X.env)).any (·.1) = false := by rfl) :
    CE X E0 (.Call (.Name x p) (e :: es) [] pos) (mCallA i n fs t) := by
  refine ⟨fun pins s σ H Q I ⟨ρ, ι, S, re, rl, h⟩ => ?_⟩
  have h1 := Post.bind h
  unfold mVar at h1
  split at h1
  · rename_i w q
    obtain ⟨v, ev, rv⟩ := re.at_ i w q
    have h2 := h1 ι H Ext.refl rl
    cases rv with
    | glo y =>
      have h3 : Post X.K E0 ((match fs.lookup y with
        | some m => mBind t fun ws => fun _ S => if ws.length = n then m ws S else .stuck
        | none => fun _ _ => .stuck) ρ S) ι S.length H _ := h2
      cases ql : fs.lookup y with
      | none => rw [ql] at h3; exact h3.elim
      | some m' =>
        rw [ql] at h3
        obtain ⟨⟨fd, ps, hn, ok, bd⟩, gl, kp⟩ := F y m' ql
        refine (pe_callL (i := i) (f := He.ga X.K y) (dvs := []) ok hr hN hv kp bd .nil pass0 ha hdb hcd he hpl).run pins s σ H Q I ⟨ev, ?_⟩
        refine ⟨ρ, ι, S, re, rl, (Post.bind h3).mono fun ws S1 ι1 H1 e1 rl1 h4 vs rvs => ?_⟩
        by_cases z : ws.length = n
        · rw [if_pos z] at h4
          rw [List.append_nil]
          exact ⟨by rw [← rvs.length]; exact z, ws, ι1, S1, rvs, rl1, h4⟩
        · rw [if_neg z] at h4
          exact h4.elim
    | _ => exact h2.elim
  · exact h1.elim
end
end Mm

/-! The mirror layer: the built-in operations. -/
namespace Mm
open PySem PySem.Spec PyProof.Rows L2
section
variable {K : PySem.W.Frag} {E : XK}
/-! ### numbers -/
def fSub : W → W → Sto → Res W
  | .int i, .int j, S => .ok (.int (i - j)) S
  | _, _, _ => .stuck
def fMod : W → W → Sto → Res W
  | .int i, .int j, S => if 0 < j then .ok (.int (i % j)) S else .stuck
  | _, _, _ => .stuck
def fDiv : W → W → Sto → Res W
  | .int i, .int j, S => if 0 < j ∧ j < 1073741824 then .ok (.int (i / j)) S else .stuck
  | _, _, _ => .stuck
def fPow : W → W → Sto → Res W
  | .int i, .int j, S => if 0 ≤ j ∧ j ≤ 1000000 ∧ i.natAbs < 2 ^ 64 then .ok (.int (i ^ j.toNat)) S else .stuck
  | _, _, _ => .stuck
def fNeg : W → Sto → Res W
  | .int i, S => .ok (.int (-i)) S
  | _, _ => .stuck
def fLt : W → W → Sto → Res W
  | .int i, .int j, S => .ok (.bl (decide (i < j))) S
  | _, _, _ => .stuck
def fLe : W → W → Sto → Res W
  | .int i, .int j, S => .ok (.bl (decide (i ≤ j))) S
  | _, _, _ => .stuck
def fGt : W → W → Sto → Res W
  | .int i, .int j, S => .ok (.bl (decide (j < i))) S
  | _, _, _ => .stuck
def fGe : W → W → Sto → Res W
  | .int i, .int j, S => .ok (.bl (decide (j ≤ i))) S
  | _, _, _ => .stuck
theorem sim_I0 {g : Int → Int → V} {gW : Int → Int → W} {f : W → W → Sto → Res W} (hf : ∀ i j S, f (.int i) (.int j) S = .ok (gW i j) S) (hn : ∀ x y S, (∀ i j, ¬ (x = .int i ∧ y = .int j)) → f x y S = .stuck) (hr : ∀ i j ι n H, Rep K ι n H (gW i j) (g i j)) : SimR K E (rI0 g) f := by
  intro x y xv yv ι S H Q rl rx ry h
  cases rx with
  | int i =>
    cases ry with
    | int j => rw [hf] at h; exact ⟨i, j, rfl, rfl, PostV.now h rl (hr i j _ _ _)⟩
    | _ => rw [hn _ _ _ (by rintro i j ⟨_, e⟩; cases e)] at h; exact h.elim
  | _ => rw [hn _ _ _ (by rintro i j ⟨e, _⟩; cases e)] at h; exact h.elim
theorem sim_I {C : Int → Int → Prop} {g : Int → Int → V} {gW : Int → Int → W} {f : W → W → Sto → Res W} (hf : ∀ i j S, f (.int i) (.int j) S = .stuck ∨ (C i j ∧ f (.int i) (.int j) S = .ok (gW i j) S)) (hn : ∀ x y S, (∀ i j, ¬ (x = .int i ∧ y = .int j)) → f x y S = .stuck) (hr : ∀ i j ι n H, Rep K ι n H (gW i j) (g i j)) : SimR K E (rI C g) f := by
  intro x y xv yv ι S H Q rl rx ry h
  cases rx with
  | int i =>
    cases ry with
    | int j =>
      rcases hf i j S with q | ⟨c, q⟩
      · rw [q] at h; exact h.elim
      · rw [q] at h; exact ⟨i, j, rfl, rfl, c, PostV.now h rl (hr i j _ _ _)⟩
    | _ => rw [hn _ _ _ (by rintro i j ⟨_, e⟩; cases e)] at h; exact h.elim
  | _ => rw [hn _ _ _ (by rintro i j ⟨e, _⟩; cases e)] at h; exact h.elim
theorem no_int2 {f : W → W → Sto → Res W} (h1 : ∀ i y S, (∀ j, y ≠ .int j) → f (.int i) y S = .stuck) (h2 : ∀ x y S, (∀ i, x ≠ .int i) → f x y S = .stuck) : ∀ x y S, (∀ i j, ¬ (x = .int i ∧ y = .int j)) → f x y S = .stuck := by
  intro x y S h
  by_cases e : ∃ i, x = .int i
  · obtain ⟨i, rfl⟩ := e
    exact h1 i y S fun j e => h i j ⟨rfl, e⟩
  · exact h2 x y S fun i q => e ⟨i, q⟩
theorem sim_sub : SimR K E (rI0 fun i j => .int (i - j)) fSub := sim_I0 (fun _ _ _ => rfl) (no_int2 (fun i y S h => by cases y <;> first | rfl | exact absurd rfl (h _)) (fun x y S h => by cases x <;> first | rfl | exact absurd rfl (h _))) fun i j _ _ _ => .int _
theorem sim_lt : SimR K E (rI0 fun i j => .bl (decide (i < j))) fLt := sim_I0 (fun _ _ _ => rfl) (no_int2 (fun i y S h => by cases y <;> first | rfl | exact absurd rfl (h _)) (fun x y S h => by cases x <;> first | rfl | exact absurd rfl (h _))) fun i j _ _ _ => .bl _
theorem sim_le : SimR K E (rI0 fun i j => .bl (decide (i ≤ j))) fLe := sim_I0 (fun _ _ _ => rfl) (no_int2 (fun i y S h => by cases y <;> first | rfl | exact absurd rfl (h _)) (fun x y S h => by cases x <;> first | rfl | exact absurd rfl (h _))) fun i j _ _ _ => .bl _
theorem sim_gt : SimR K E (rI0 fun i j => .bl (decide (j < i))) fGt := sim_I0 (fun _ _ _ => rfl) (no_int2 (fun i y S h => by cases y <;> first | rfl | exact absurd rfl (h _)) (fun x y S h => by cases x <;> first | rfl | exact absurd rfl (h _))) fun i j _ _ _ => .bl _
theorem sim_ge : SimR K E (rI0 fun i j => .bl (decide (j ≤ i))) fGe := sim_I0 (fun _ _ _ => rfl) (no_int2 (fun i y S h => by cases y <;> first | rfl | exact absurd rfl (h _)) (fun x y S h => by cases x <;> first | rfl | exact absurd rfl (h _))) fun i j _ _ _ => .bl _
theorem sim_mod : SimR K E (rI (fun _ j => 0 < j) fun i j => .int (i % j)) fMod := sim_I (gW := fun i j => .int (i % j)) (fun i j S => by
    by_cases z : 0 < j
    · exact .inr ⟨z, if_pos z⟩
    · exact .inl (if_neg z)) (no_int2 (fun i y S h => by cases y <;> first | rfl | exact absurd rfl (h _)) (fun x y S h => by cases x <;> first | rfl | exact absurd rfl (h _))) fun i j _ _ _ => .int _
theorem sim_div : SimR K E (rI CDiv fun i j => .int (i / j)) fDiv := sim_I (gW := fun i j => .int (i / j)) (fun i j S => by
    by_cases z : 0 < j ∧ j < 1073741824
    · exact .inr ⟨z, if_pos z⟩
    · exact .inl (if_neg z)) (no_int2 (fun i y S h => by cases y <;> first | rfl | exact absurd rfl (h _)) (fun x y S h => by cases x <;> first | rfl | exact absurd rfl (h _))) fun i j _ _ _ => .int _
theorem sim_pow : SimR K E (rI CPow fun i j => .int (i ^ j.toNat)) fPow := sim_I (gW := fun i j => .int (i ^ j.toNat)) (fun i j S => by
    by_cases z : 0 ≤ j ∧ j ≤ 1000000 ∧ i.natAbs < 2 ^ 64
    · exact .inr ⟨z, if_pos z⟩
    · exact .inl (if_neg z)) (no_int2 (fun i y S h => by cases y <;> first | rfl | exact absurd rfl (h _)) (fun x y S h => by cases x <;> first | rfl | exact absurd rfl (h _))) fun i j _ _ _ => .int _
theorem sim_neg : SimU K E (rU fun i => .int (-i)) fNeg := by
  intro x xv ι S H Q rl rx h
  cases rx with
  | int i => exact ⟨i, rfl, PostV.now h rl (.int _)⟩
  | _ => exact h.elim
/-! ### + -/
def fAdd (x y : W) (S : Sto) : Res W := match x, y with
  | .int i, .int j => .ok (.int (i + j)) S
  | .str a, .str b => if a.length + b.length ≤ sizeLine then .ok (.str (a ++ b)) S else .stuck
  | .tup a, .tup b => if a.length + b.length ≤ sizeLine then .ok (.tup (a ++ b)) S else .stuck
  | _, _ => match seqO S x, seqO S y with
    | some a, some b => if a.length + b.length ≤ sizeLine then .ok (.lst (a ++ b)) S else .stuck
    | _, _ => .stuck
def rAddA (K : PySem.W.Frag) : R2 := rOr (rI0 fun i j => .int (i + j)) (rOr (fun x y H Q => ∃ i j, x = .str i ∧ y = .str j ∧ i.length + j.length ≤ sizeLine ∧ Q (.str (i ++ j)) H) (rOr (rCatA K) rCat))
theorem op_addA {X : Cx} : OpR X (binaryOp .Add) (rAddA X.K) := opr_or op_add (opr_or op_add_str (opr_or op_catA op_cat))
theorem sim_catO {x y : W} {xv yv : V} {ι : Im} {S : Sto} {H : Hp} {Q : VK} (rl : Rl K ι S H) (rx : Rep K ι S.length H x xv) (ry : Rep K ι S.length H y yv) (h : PostV K E (match seqO S x, seqO S y with
    | some a, some b => if a.length + b.length ≤ sizeLine then Res.ok (.lst (a ++ b)) S else .stuck
    | _, _ => .stuck) ι S.length H Q) : rCat xv yv H Q := by
  cases q1 : seqO S x with
  | none => rw [q1] at h; exact h.elim
  | some a =>
    cases q2 : seqO S y with
    | none => rw [q1, q2] at h; exact h.elim
    | some b =>
      rw [q1, q2] at h
      have h' : PostV K E (if a.length + b.length ≤ sizeLine then Res.ok (.lst (a ++ b)) S else .stuck) ι S.length H Q := h
      by_cases z : a.length + b.length ≤ sizeLine
      · rw [if_pos z] at h'
        obtain ⟨p, xs, rfl, hx, r1⟩ := seqO_ok rl q1 rx
        obtain ⟨p2, ys, rfl, hy, r2⟩ := seqO_ok rl q2 ry
        exact ⟨p, p2, xs, ys, rfl, rfl, hx, hy, by rw [← r1.length, ← r2.length]; exact z, PostV.newL h' rl (r1.append r2)⟩
      · rw [if_neg z] at h'
        exact h'.elim
theorem sim_add : SimR K E (rAddA K) fAdd := by
  intro x y xv yv ι S H Q rl rx ry h
  have other : rCat xv yv H Q → rAddA K xv yv H Q := fun z => .inr (.inr (.inr z))
  cases rx with
  | int i =>
    cases ry with
    | int j => exact .inl ⟨i, j, rfl, rfl, PostV.now h rl (.int _)⟩
    | _ => exact h.elim
  | str a =>
    cases ry with
    | str b =>
      have h' : PostV K E (if a.length + b.length ≤ sizeLine then Res.ok (.str (a ++ b)) S else .stuck) ι S.length H Q := h
      by_cases z : a.length + b.length ≤ sizeLine
      · rw [if_pos z] at h'
        exact .inr (.inl ⟨a, b, rfl, rfl, z, PostV.now h' rl (.str _)⟩)
      · rw [if_neg z] at h'
        exact h'.elim
    | _ => exact h.elim
  | @tup ws a xs hz r =>
    cases ry with
    | @tup us b ys hz2 r2 =>
      have h' : PostV K E (if ws.length + us.length ≤ sizeLine then Res.ok (.tup (ws ++ us)) S else .stuck) ι S.length H Q := h
      by_cases z : ws.length + us.length ≤ sizeLine
      · rw [if_pos z] at h'
        refine .inr (.inr (.inl ⟨a, b, xs, ys, rfl, rfl, hz.sq, hz2.sq, by rw [← r.length, ← r2.length]; exact z, fun e => ?_, fun e e2 => ?_, fun _ _ => PostV.newT h' rl (r.append r2)⟩))
        · subst e
          cases r
          exact PostV.now h' rl (.tup hz2 r2)
        · subst e2
          cases r2
          rw [List.append_nil] at h'
          exact PostV.now h' rl (.tup hz r)
      · rw [if_neg z] at h'
        exact h'.elim
    | _ => exact h.elim
  | @loc l hl => cases ry <;> exact other (sim_catO rl (.loc hl) (by first | exact .non | exact .bl _ | exact .int _ | exact .str _ | exact .ty _ | exact .glo _ | exact .loc (by assumption) | exact .tup (by assumption) (by assumption) | exact .ktp (by assumption) (by assumption) | exact .lst (by assumption) (by assumption) | exact .arr (by assumption) (by assumption) | exact .dct (by assumption) (by assumption) (by assumption) | exact .dcT (by assumption) (by assumption) (by assumption) | exact .obj (by assumption) (by assumption) (by assumption) | exact .exn (by assumption) (by assumption) (by assumption) (by assumption)) h)
  | @lst ws a xs hz r => cases ry <;> exact other (sim_catO rl (.lst hz r) (by first | exact .non | exact .bl _ | exact .int _ | exact .str _ | exact .ty _ | exact .glo _ | exact .loc (by assumption) | exact .tup (by assumption) (by assumption) | exact .ktp (by assumption) (by assumption) | exact .lst (by assumption) (by assumption) | exact .arr (by assumption) (by assumption) | exact .dct (by assumption) (by assumption) (by assumption) | exact .dcT (by assumption) (by assumption) (by assumption) | exact .obj (by assumption) (by assumption) (by assumption) | exact .exn (by assumption) (by assumption) (by assumption) (by assumption)) h)
  | _ => exact h.elim
/-! ### * -/
def repS (x : Str) (n : Nat) : Str := ⟨(List.replicate n x.cps).foldl (· ++ ·) #[]⟩
def fMul (x y : W) (S : Sto) : Res W := match x, y with
  | .int i, .int j => if (-(2 ^ 64) < i ∧ i < 2 ^ 64) ∨ (-(2 ^ 64) < j ∧ j < 2 ^ 64) then .ok (.int (i * j)) S else .stuck
  | .str a, .int j => if 2 ≤ j ∧ j ≤ 100000 ∧ 1 ≤ a.length ∧ a.length ≤ 100 then .ok (.str (repS a j.toNat)) S else .stuck
  | _, _ => .stuck
def rMulS : R2 := fun x y H Q => ∃ (a : Str) (j : Int), x = .str a ∧ y = .int j ∧ (2 ≤ j ∧ j ≤ 100000 ∧ 1 ≤ a.length ∧ a.length ≤ 100) ∧ Q (.str (repS a j.toNat)) H
theorem op_mulS {X : Cx} : OpR X (binaryOp .Mult) rMulS := by
  intro pins s σ H x y v u Q I rx ry h
  obtain ⟨a, j, rfl, rfl, ⟨h1, h2, h3, h4⟩, q⟩ := h
  obtain ⟨t, rfl⟩ := rx
  obtain ⟨t', rfl⟩ := ry
  have hz : a.length * j.toNat ≤ 100 * 100000 := Nat.mul_le_mul h4 (by omega)
  have hl : Builtin.Str.tooLong (a.length * j.toNat) = false := decide_eq_false (by
    show ¬ (a.length * j.toNat > sizeLine)
    have : (100 * 100000 : Nat) ≤ sizeLine := by decide
    omega)
  have n1 : ¬ j < 1 := by omega
  have n2 : (j == 1 || a.length == 0) = false := by
    have e1 : (j == 1) = false := beq_eq_false_iff_ne.mpr (by omega)
    have e2 : (a.length == 0) = false := beq_eq_false_iff_ne.mpr (by omega)
    rw [e1, e2]
    rfl
  refine PySem.P.mul_str ?_ (fun _ _ => ?_) (fun _ _ => hl) ?_
  · rw [decide_eq_false (by omega), decide_eq_false (by omega)]
    rfl
  · intro hgt
    have h5 : (a.length : Int) * j ≤ 100 * 100000 := by
      have : ((a.length * j.toNat : Nat) : Int) ≤ ((100 * 100000 : Nat) : Int) := Int.ofNat_le.mpr hz
      rw [Int.natCast_mul, Int.toNat_of_nonneg (by omega)] at this
      exact this
    have h6 : (2 ^ 63 - 1) / j < (a.length : Int) := hgt
    have h7 : (2 ^ 63 - 1 : Int) < (a.length : Int) * j := Int.lt_mul_of_ediv_lt (by omega) h6
    omega
  · rw [if_neg n1, n2, if_neg Bool.false_ne_true]
    exact ⟨fits_reps hl, .str (repS a j.toNat), H, I.tok _, ⟨_, rfl⟩, q⟩
theorem sim_mul : SimR K E (rOr (rI CMul fun i j => .int (i * j)) rMulS) fMul := by
  intro x y xv yv ι S H Q rl rx ry h
  cases rx with
  | int i =>
    cases ry with
    | int j =>
      have h' : PostV K E (if (-(2 ^ 64) < i ∧ i < 2 ^ 64) ∨ (-(2 ^ 64) < j ∧ j < 2 ^ 64) then Res.ok (.int (i * j)) S else .stuck) ι S.length H Q := h
      by_cases z : (-(2 ^ 64) < i ∧ i < 2 ^ 64) ∨ (-(2 ^ 64) < j ∧ j < 2 ^ 64)
      · rw [if_pos z] at h'
        exact .inl ⟨i, j, rfl, rfl, z, PostV.now h' rl (.int _)⟩
      · rw [if_neg z] at h'
        exact h'.elim
    | _ => exact h.elim
  | str a =>
    cases ry with
    | int j =>
      have h' : PostV K E (if 2 ≤ j ∧ j ≤ 100000 ∧ 1 ≤ a.length ∧ a.length ≤ 100 then Res.ok (.str (repS a j.toNat)) S else .stuck) ι S.length H Q := h
      by_cases z : 2 ≤ j ∧ j ≤ 100000 ∧ 1 ≤ a.length ∧ a.length ≤ 100
      · rw [if_pos z] at h'
        exact .inr ⟨a, j, rfl, rfl, z, PostV.now h' rl (.str _)⟩
      · rw [if_neg z] at h'
        exact h'.elim
    | _ => exact h.elim
  | _ => exact h.elim
theorem op_mulA {X : Cx} : OpR X (binaryOp .Mult) (rOr (rI CMul fun i j => .int (i * j)) rMulS) := opr_or op_mul op_mulS
end
end Mm

/-! The mirror layer: comparisons, built-in calls, items, slices, methods. -/
namespace Mm
open PySem PySem.Spec PyProof.Rows L2
section
variable {K : PySem.W.Frag} {E : XK}
/-! ### == and != -/
/-- of None, truths, numbers, texts (not a truth with a number) -/
def eqS : W → W → Option Bool
  | .non, .non => some true
  | .non, .int _ => some false
  | .int _, .non => some false
  | .non, .bl _ => some false
  | .bl _, .non => some false
  | .non, .str _ => some false
  | .str _, .non => some false
  | .int i, .int j => some (decide (i = j))
  | .bl a, .bl b => some (decide (a = b))
  | .str a, .str b => some (decide (a = b))
  | .int _, .str _ => some false
  | .str _, .int _ => some false
  | .bl _, .str _ => some false
  | .str _, .bl _ => some false
  | _, _ => none
def fEq (x y : W) (S : Sto) : Res W := match x, y with
  | .tup ws, .tup [] => .ok (.bl ws.isEmpty) S
  | x, y => match eqS x y with
    | some b => .ok (.bl b) S
    | none => .stuck
def fNe (x y : W) (S : Sto) : Res W := match eqS x y with
  | some b => .ok (.bl (!b)) S
  | none => .stuck
/-- a tuple against the empty one -/
def rEqT0 (K : PySem.W.Frag) : R2 := fun x y H Q => ∃ a b xs, x = .ref a ∧ y = .ref b ∧ SqT K H a xs ∧ SqT K H b [] ∧ Q (.bl xs.isEmpty) H
theorem empty0 {xs : List V} {its : List Value} (r : Vals xs its) : ((List.range (min its.toArray.size 0)).all (fun _ => true) && its.toArray.size == 0) = xs.isEmpty := by
  cases r <;> simp
theorem op_eqT0 {X : Cx} (hu : X.A.units < cLine) : OpR X (compareOp .Eq) (rEqT0 X.K) := by
  intro pins s σ H x y v u Q I rx ry h
  obtain ⟨a, b, xs, rfl, rfl, ha, hb, q⟩ := h
  cases rx
  cases ry
  obtain ⟨its, r1, ⟨o1, ho1, hc1, n1, hd1⟩, _⟩ := I.tuple ha
  obtain ⟨its2, r2, ⟨o2, ho2, hc2, n2, hd2⟩, _⟩ := I.tuple hb
  cases r2
  refine SeqAt.eq_tupleAt (e := fun _ => true) ⟨o1, ho1, hc1, n1, hd1⟩ ⟨o2, ho2, hc2, n2, hd2⟩ hu (fun j _ h2 => absurd h2 (by simp)) ?_
  have e := empty0 r1
  have e2 : ((List.range (min its.toArray.size ([] : List Value).toArray.size)).all (fun _ => true) && its.toArray.size == ([] : List Value).toArray.size) = xs.isEmpty := e
  rw [e2]
  exact ⟨.bl _, H, I, rfl, q⟩
theorem eqS_ok {x y : W} {xv yv : V} {ι : Im} {n : Nat} {H : Hp} {b : Bool} (rx : Rep K ι n H x xv) (ry : Rep K ι n H y yv) (e : eqS x y = some b) : scal xv yv = true ∧ decide (xv = yv) = b := by
  cases rx <;> cases ry <;> first
    | (cases e; exact ⟨rfl, by first | rfl | simp⟩)
    | (cases e)
theorem sim_eq : SimR K E (rOr (rEqT0 K) rEq) fEq := by
  intro x y xv yv ι S H Q rl rx ry h
  unfold fEq at h
  split at h
  · rename_i ws
    cases rx with
    | @tup _ a xs hz r =>
      cases ry with
      | @tup _ b ys hz2 r2 =>
        cases r2
        refine .inl ⟨a, b, xs, rfl, rfl, hz.sq, hz2.sq, ?_⟩
        have e : ws.isEmpty = xs.isEmpty := by cases r <;> rfl
        rw [← e]
        exact PostV.now h rl (.bl _)
  · split at h
    · rename_i b q
      obtain ⟨h1, h2⟩ := eqS_ok rx ry q
      exact .inr ⟨h1, by rw [h2]; exact PostV.now h rl (.bl b)⟩
    · exact h.elim
theorem op_eqA {X : Cx} (hu : X.A.units < cLine) : OpR X (compareOp .Eq) (rOr (rEqT0 X.K) rEq) := opr_or (op_eqT0 hu) op_eq
theorem sim_ne : SimR K E rNe fNe := by
  intro x y xv yv ι S H Q rl rx ry h
  unfold fNe at h
  split at h
  · rename_i b q
    obtain ⟨h1, h2⟩ := eqS_ok rx ry q
    exact ⟨h1, by rw [h2]; exact PostV.now h rl (.bl _)⟩
  · exact h.elim
/-! ### is None -/
def fIsN : W → W → Sto → Res W
  | .non, .non, S => .ok (.bl true) S
  | _, .non, S => .ok (.bl false) S
  | _, _, _ => .stuck
def fNotN : W → W → Sto → Res W
  | .non, .non, S => .ok (.bl false) S
  | _, .non, S => .ok (.bl true) S
  | _, _, _ => .stuck
theorem sim_isN : SimR K E (fun x y H Q => y = .non ∧ Q (.bl (decide (x = .non))) H) fIsN := by
  intro x y xv yv ι S H Q rl rx ry h
  cases ry with
  | non => cases rx <;> exact ⟨rfl, by first | exact PostV.now h rl (.bl _)⟩
  | _ => cases rx <;> exact h.elim
theorem sim_notN : SimR K E (fun x y H Q => y = .non ∧ Q (.bl (!decide (x = .non))) H) fNotN := by
  intro x y xv yv ι S H Q rl rx ry h
  cases ry with
  | non => cases rx <;> exact ⟨rfl, by first | exact PostV.now h rl (.bl _)⟩
  | _ => cases rx <;> exact h.elim
/-! ### in, not in: one sign in a text; something flat in a list or tuple of flat things -/
def flatW : W → Bool
  | .non => true
  | .bl _ => true
  | .int _ => true
  | .str _ => true
  | _ => false
def eqF : W → W → Bool
  | .non, .non => true
  | .bl a, .bl b => a == b
  | .bl a, .int b => (if a then 1 else 0) == b
  | .int a, .bl b => a == (if b then 1 else 0)
  | .int a, .int b => a == b
  | .str a, .str b => a == b
  | _, _ => false
def seqA (S : Sto) (w : W) : Option (List W) := match w with
  | .tup ws => some ws
  | .ktp ws => some ws
  | w => seqL S w
def inW (x y : W) (S : Sto) : Option Bool := match x, y with
  | .str a, .str z => match a.cps.toList with
    | [c] => some (decide (c ∈ z.cps.toList))
    | _ => none
  | x, y => match seqA S y with
    | some ws => if flatW x = true ∧ ws.all flatW = true then some (ws.any fun y => eqF y x) else none
    | none => none
def fIn (x y : W) (S : Sto) : Res W := match inW x y S with
  | some b => .ok (.bl b) S
  | none => .stuck
def fNotIn (x y : W) (S : Sto) : Res W := match inW x y S with
  | some b => .ok (.bl (!b)) S
  | none => .stuck
theorem flat_ok {w : W} {v : V} {ι : Im} {n : Nat} {H : Hp} (r : Rep K ι n H w v) (h : flatW w = true) : flatV v = true := by
  cases r <;> first | rfl | cases h
theorem eqF_ok {x y : W} {xv yv : V} {ι : Im} {n : Nat} {H : Hp} (rx : Rep K ι n H x xv) (ry : Rep K ι n H y yv) (hx : flatW x = true) (hy : flatW y = true) : eqV xv yv = eqF x y := by
  cases rx <;> cases ry <;> first | rfl | cases hx | cases hy
theorem inV_ok {ι : Im} {n : Nat} {H : Hp} {x : W} {xv : V} (rx : Rep K ι n H x xv) (hx : flatW x = true) {ws : List W} {vs : List V} (r : Reps K ι n H ws vs) (h : ws.all flatW = true) : vs.all flatV = true ∧ inV xv vs = ws.any fun y => eqF y x := by
  induction ws generalizing vs with
  | nil => cases r; exact ⟨rfl, rfl⟩
  | cons w ws ih =>
    cases r with
    | cons a b =>
      rw [List.all_cons] at h
      obtain ⟨h1, h2⟩ := Bool.and_eq_true_iff.mp h
      obtain ⟨i1, i2⟩ := ih b h2
      refine ⟨by rw [List.all_cons, flat_ok a h1, i1]; rfl, ?_⟩
      unfold inV at i2 ⊢
      rw [List.any_cons, List.any_cons, eqF_ok a rx h1 hx, i2]
theorem seqA_ok {ι : Im} {S : Sto} {H : Hp} (rl : Rl K ι S H) {w : W} {v : V} {ws : List W} (e : seqA S w = some ws) (r : Rep K ι S.length H w v) : ∃ a xs, v = .ref a ∧ (SqL K H a xs ∨ SqT K H a xs) ∧ Reps K ι S.length H ws xs := by
  unfold seqA at e
  split at e
  · cases e
    cases r with
    | @tup _ a xs h r => exact ⟨a, xs, rfl, .inr h.sq, r⟩
  · cases e
    cases r with
    | @ktp _ a xs h r => exact ⟨a, xs, rfl, .inr (.inr h), r⟩
  · obtain ⟨a, xs, h1, h2, h3⟩ := seqL_ok rl e r
    exact ⟨a, xs, h1, .inl h2, h3⟩
def rInS : R2 := fun x y H Q => ∃ (c : Nat) (z : Str), x = .str ⟨#[c]⟩ ∧ y = .str z ∧ Q (.bl (decide (c ∈ z.cps.toList))) H
def rNotInS : R2 := fun x y H Q => ∃ (c : Nat) (z : Str), x = .str ⟨#[c]⟩ ∧ y = .str z ∧ Q (.bl (!decide (c ∈ z.cps.toList))) H
theorem inW_ok {ι : Im} {S : Sto} {H : Hp} (rl : Rl K ι S H) {x y : W} {xv yv : V} {b : Bool} (rx : Rep K ι S.length H x xv) (ry : Rep K ι S.length H y yv) (e : inW x y S = some b) :
    (∃ (c : Nat) (z : Str), xv = .str ⟨#[c]⟩ ∧ yv = .str z ∧ decide (c ∈ z.cps.toList) = b) ∨ ∃ p xs, yv = .ref p ∧ (SqL K H p xs ∨ SqT K H p xs) ∧ flatV xv = true ∧ xs.all flatV = true ∧ inV xv xs = b := by
  unfold inW at e
  split at e
  · rename_i a z
    cases rx
    cases ry
    split at e
    · rename_i c q
      cases e
      have ea : a = ⟨#[c]⟩ := by
        obtain ⟨cs⟩ := a
        have : cs = #[c] := by
          apply Array.toList_inj.mp
          exact q
        rw [this]
      subst ea
      exact .inl ⟨c, z, rfl, rfl, rfl⟩
    · cases e
  · split at e
    · rename_i ws q
      split at e
      · rename_i hc
        cases e
        obtain ⟨a, xs, h1, h2, h3⟩ := seqA_ok rl q ry
        obtain ⟨i1, i2⟩ := inV_ok rx hc.1 h3 hc.2
        exact .inr ⟨a, xs, h1, h2, flat_ok rx hc.1, i1, i2⟩
      · cases e
    · cases e
theorem sim_in : SimR K E (rOr rInS (rIn K false)) fIn := by
  intro x y xv yv ι S H Q rl rx ry h
  unfold fIn at h
  split at h
  · rename_i b q
    rcases inW_ok rl rx ry q with ⟨c, z, h1, h2, h3⟩ | ⟨p, xs, h1, h2, h3, h4, h5⟩
    · exact .inl ⟨c, z, h1, h2, by rw [h3]; exact PostV.now h rl (.bl b)⟩
    · exact .inr ⟨p, xs, h1, h2, h3, h4, by rw [h5]; exact PostV.now h rl (.bl b)⟩
  · exact h.elim
theorem sim_notIn : SimR K E (rOr rNotInS (rIn K true)) fNotIn := by
  intro x y xv yv ι S H Q rl rx ry h
  unfold fNotIn at h
  split at h
  · rename_i b q
    rcases inW_ok rl rx ry q with ⟨c, z, h1, h2, h3⟩ | ⟨p, xs, h1, h2, h3, h4, h5⟩
    · exact .inl ⟨c, z, h1, h2, by rw [h3]; exact PostV.now h rl (.bl _)⟩
    · exact .inr ⟨p, xs, h1, h2, h3, h4, by rw [h5]; exact PostV.now h rl (.bl _)⟩
  · exact h.elim
theorem op_inA {X : Cx} : OpR X (compareOp .In) (rOr rInS (rIn X.K false)) := opr_or op_in_sign op_in_seq
theorem op_notInA {X : Cx} : OpR X (compareOp .NotIn) (rOr rNotInS (rIn X.K true)) := opr_or op_notIn_sign op_notIn_seq
/-! ### isinstance(x, T), T a built-in class -/
def tyW : W → Option String
  | .non => some "NoneType"
  | .bl _ => some "bool"
  | .int _ => some "int"
  | .str _ => some "str"
  | .tup _ => some "tuple"
  | .ktp _ => some "tuple"
  | .lst _ => some "list"
  | .arr _ => some "list"
  | .dct _ _ => some "dict"
  | _ => none
/-- the answer, by names -/
def isiB (a b : String) : Option Bool := if a = b then some true else match a, b with
  | "bool", "int" => some true
  | "NoneType", "int" => some false | "NoneType", "bool" => some false | "NoneType", "str" => some false | "NoneType", "tuple" => some false | "NoneType", "list" => some false | "NoneType", "dict" => some false
  | "bool", "str" => some false | "bool", "tuple" => some false | "bool", "list" => some false | "bool", "dict" => some false
  | "int", "bool" => some false | "int", "str" => some false | "int", "tuple" => some false | "int", "list" => some false | "int", "dict" => some false
  | "str", "int" => some false | "str", "bool" => some false | "str", "tuple" => some false | "str", "list" => some false | "str", "dict" => some false
  | "tuple", "int" => some false | "tuple", "bool" => some false | "tuple", "str" => some false | "tuple", "list" => some false | "tuple", "dict" => some false
  | "list", "int" => some false | "list", "bool" => some false | "list", "str" => some false | "list", "tuple" => some false | "list", "dict" => some false
  | "dict", "int" => some false | "dict", "bool" => some false | "dict", "str" => some false | "dict", "tuple" => some false | "dict", "list" => some false
  | _, _ => none
def fIsi : MF := fun ws S => match ws with
  | [x, .ty n] => match tyW x with
    | some m => match isiB m n with
      | some b => .ok (.bl b) S
      | none => .stuck
    | none => .stuck
  | _ => .stuck
theorem tyW_ok {w : W} {v : V} {ι : Im} {n : Nat} {H : Hp} {t : String} (r : Rep K ι n H w v) (e : tyW w = some t) : TyX K H v (.type t) := by
  cases r with
  | non => cases e; exact .base .non
  | bl b => cases e; exact .base (.bl b)
  | int b => cases e; exact .base (.int b)
  | str b => cases e; exact .base (.str b)
  | tup h r =>
    cases e
    exact .base (.tup h.at_)
  | ktp h r =>
    cases e
    obtain ⟨o, its, m, h1, h2, _⟩ := h
    exact .kTuple h1 h2
  | lst h r => cases e; exact .base (.lst h.at_)
  | arr h r =>
    cases e
    rcases h with ⟨o, h⟩ | ⟨o, its, m, h1, h2, _⟩
    · exact .base (.frz h.at_)
    · exact .kList h1 h2
  | dct h hl r =>
    cases e
    rcases h.hd with q | ⟨_, od, q⟩
    · exact .base (.dK q)
    · exact .fDict q
  | _ => cases e
theorem isi_kit {a b : String} {r : Bool} (h : isiB a b = some r) (ha : a ∈ ["NoneType", "bool", "int", "str", "tuple", "list", "dict"]) (hb : b ∈ ["int", "bool", "str", "tuple", "list", "dict"]) : kitB a b = some r := by
  simp only [List.mem_cons, List.not_mem_nil, or_false] at ha hb
  rcases ha with rfl | rfl | rfl | rfl | rfl | rfl | rfl <;> rcases hb with rfl | rfl | rfl | rfl | rfl | rfl <;> (rw [← h]; decide +kernel)
end
end Mm

/-! The mirror layer: built-in calls, items, slices, methods. -/
namespace Mm
open PySem PySem.Spec PyProof.Rows L2
section
variable {K : PySem.W.Frag} {E : XK}
theorem isiB_in {a b : String} {r : Bool} (ne : a ≠ b) (h : isiB a b = some r) : a ∈ ["NoneType", "bool", "int", "str", "tuple", "list", "dict"] ∧ b ∈ ["int", "bool", "str", "tuple", "list", "dict"] := by
  unfold isiB at h
  rw [if_neg ne] at h
  split at h <;> first | (exact ⟨by decide, by decide⟩) | cases h
theorem isi_kit2 {a b : String} {r : Bool} (h : isiB a b = some r) : kitB a b = some r := by
  by_cases e : a = b
  · subst e
    unfold isiB at h
    rw [if_pos rfl] at h
    cases h
    unfold kitB
    rw [if_pos (by simp)]
  · obtain ⟨h1, h2⟩ := isiB_in e h
    exact isi_kit h h1 h2
theorem sim_isi : SimC K E (rIsi K) fIsi := by
  intro xs xv ι S H Q rl r h
  cases r with
  | nil => exact h.elim
  | cons a r =>
    cases r with
    | nil => exact h.elim
    | cons b r =>
      cases r with
      | cons _ _ => cases b <;> exact h.elim
      | nil =>
        cases b with
        | ty n =>
          unfold fIsi at h
          simp only at h
          split at h
          · rename_i m q
            split at h
            · rename_i k q2
              exact ⟨_, _, _, _, k, rfl, .ty n, tyW_ok a q, kit_ty (isi_kit2 q2), PostV.now h rl (.bl k)⟩
            · exact h.elim
          · exact h.elim
        | _ => exact h.elim
/-! ### len, all, any, abs, divmod, max, min, tuple, list -/
def fLen : MF := fun ws S => match ws with
  | [.str x] => if x.length ≤ sizeLine then .ok (.int x.length) S else .stuck
  | [w] => match seqA S w with
    | some ys => .ok (.int ys.length) S
    | none => .stuck
  | _ => .stuck
def rLenA (K : PySem.W.Frag) : List V → Hp → VK → Prop := fun xs H Q => ∃ x n, xs = [x] ∧ LenV K x H n ∧ Q (.int n) H
theorem sim_len : SimC K E (rLenA K) fLen := by
  intro xs xv ι S H Q rl r h
  cases r with
  | nil => exact h.elim
  | @cons w v _ _ a r =>
    cases r with
    | cons _ _ => cases a <;> exact h.elim
    | nil =>
      unfold fLen at h
      split at h
      · rename_i x q
        cases q
        cases a
        split at h
        · rename_i hz
          exact ⟨_, x.length, rfl, ⟨hz, rfl⟩, PostV.now h rl (.int _)⟩
        · exact h.elim
      · rename_i w' hne q
        cases q
        split at h
        · rename_i ys q
          obtain ⟨p, xs, rfl, h2, h3⟩ := seqA_ok rl q a
          refine ⟨_, ys.length, rfl, ?_, PostV.now h rl (.int _)⟩
          rcases h2 with h2 | h2
          · exact .inl ⟨xs, h2, h3.length⟩
          · exact .inr ⟨xs, h2, h3.length⟩
        · exact h.elim
      · exact h.elim
def bools : List W → Option (List Bool)
  | [] => some []
  | .bl b :: ws => (bools ws).map (b :: ·)
  | _ :: _ => none
theorem bools_ok {ι : Im} {n : Nat} {H : Hp} : ∀ {ws : List W} {vs : List V} {bs : List Bool}, bools ws = some bs → Reps K ι n H ws vs → vs = bs.map V.bl
  | [], _, bs, e, r => by
    cases r
    cases e
    rfl
  | w :: ws, _, bs, e, r => by
    cases r with
    | cons a b =>
      cases a with
      | bl k =>
        have e' : (bools ws).map (k :: ·) = some bs := e
        obtain ⟨bs', e1, rfl⟩ := Option.map_eq_some_iff.mp e'
        rw [bools_ok e1 b]
        rfl
      | _ => cases e
def fAll : MF := fun ws S => match ws with
  | [w] => match seqL S w with
    | some ys => match bools ys with
      | some bs => .ok (.bl (bs.all id)) S
      | none => .stuck
    | none => .stuck
  | _ => .stuck
def fAny : MF := fun ws S => match ws with
  | [w] => match seqL S w with
    | some ys => match bools ys with
      | some bs => .ok (.bl (bs.any id)) S
      | none => .stuck
    | none => .stuck
  | _ => .stuck
theorem sim_all : SimC K E (rAll K) fAll := by
  intro xs xv ι S H Q rl r h
  cases r with
  | nil => exact h.elim
  | cons a r =>
    cases r with
    | cons _ _ => exact h.elim
    | nil =>
      unfold fAll at h
      simp only at h
      split at h
      · rename_i ys q
        split at h
        · rename_i bs q2
          obtain ⟨p, vs, rfl, h2, h3⟩ := seqL_ok rl q a
          exact ⟨p, bs, rfl, by rw [← bools_ok q2 h3]; exact h2, PostV.now h rl (.bl _)⟩
        · exact h.elim
      · exact h.elim
theorem sim_any : SimC K E (rAny K) fAny := by
  intro xs xv ι S H Q rl r h
  cases r with
  | nil => exact h.elim
  | cons a r =>
    cases r with
    | cons _ _ => exact h.elim
    | nil =>
      unfold fAny at h
      simp only at h
      split at h
      · rename_i ys q
        split at h
        · rename_i bs q2
          obtain ⟨p, vs, rfl, h2, h3⟩ := seqL_ok rl q a
          exact ⟨p, bs, rfl, by rw [← bools_ok q2 h3]; exact h2, PostV.now h rl (.bl _)⟩
        · exact h.elim
      · exact h.elim
def fAbs : MF := fun ws S => match ws with
  | [.int i] => .ok (.int (if i < 0 then -i else i)) S
  | _ => .stuck
theorem sim_abs : SimC K E (fun xs H Q => ∃ i, xs = [.int i] ∧ Q (.int (if i < 0 then -i else i)) H) fAbs := by
  intro xs xv ι S H Q rl r h
  cases r with
  | nil => exact h.elim
  | cons a r =>
    cases r with
    | cons _ _ => cases a <;> exact h.elim
    | nil =>
      cases a with
      | int i => exact ⟨i, rfl, PostV.now h rl (.int _)⟩
      | _ => exact h.elim
def two (f : Int → Int → Sto → Res W) : MF := fun ws S => match ws with
  | [.int i, .int j] => f i j S
  | _ => .stuck
theorem sim_two {f : Int → Int → Sto → Res W} {r : List V → Hp → VK → Prop} (hr : ∀ (i j : Int) (ι : Im) (S : Sto) (H : Hp) (Q : VK), Rl K ι S H → PostV K E (f i j S) ι S.length H Q → r [.int i, .int j] H Q) : SimC K E r (two f) := by
  intro xs xv ι S H Q rl r' h
  cases r' with
  | nil => exact h.elim
  | cons a r' =>
    cases r' with
    | nil => cases a <;> exact h.elim
    | cons b r' =>
      cases r' with
      | cons _ _ => cases a <;> cases b <;> exact h.elim
      | nil =>
        cases a with
        | int i =>
          cases b with
          | int j => exact hr i j ι S H Q rl h
          | _ => exact h.elim
        | _ => cases b <;> exact h.elim
def fMax2 : MF := two fun i j S => .ok (.int (if j > i then j else i)) S
def fMin2 : MF := two fun i j S => .ok (.int (if j < i then j else i)) S
def fDivmod : MF := two fun i j S => if 0 < j ∧ j < 1073741824 then .ok (.tup [.int (i / j), .int (i % j)]) S else .stuck
theorem sim_max2 : SimC K E (fun xs H Q => ∃ i j, xs = [.int i, .int j] ∧ Q (.int (if j > i then j else i)) H) fMax2 := sim_two fun i j ι S H Q rl h => ⟨i, j, rfl, PostV.now h rl (.int _)⟩
theorem sim_min2 : SimC K E (fun xs H Q => ∃ i j, xs = [.int i, .int j] ∧ Q (.int (if j < i then j else i)) H) fMin2 := sim_two fun i j ι S H Q rl h => ⟨i, j, rfl, PostV.now h rl (.int _)⟩
theorem sim_divmod : SimC K E (fun xs H Q => ∃ i j, xs = [.int i, .int j] ∧ CDiv i j ∧ ∀ p, H p = none → Q (.ref p) (upd H p (.tup [.int (i / j), .int (i % j)]))) fDivmod := sim_two fun i j ι S H Q rl h => by
  by_cases z : 0 < j ∧ j < 1073741824
  · rw [if_pos z] at h
    exact ⟨i, j, rfl, z, PostV.newT h rl (.cons (.int _) (.cons (.int _) .nil))⟩
  · rw [if_neg z] at h
    exact h.elim
def fTuple : MF := fun ws S => match ws with
  | [.tup ys] => .ok (.tup ys) S
  | [w] => match seqL S w with
    | some ys => .ok (.tup ys) S
    | none => .stuck
  | _ => .stuck
theorem sim_tuple : SimC K E (fun xs H Q => ∃ p ys, xs = [.ref p] ∧ ((SqL K H p ys ∧ ∀ l, H l = none → Q (.ref l) (upd H l (.tup ys))) ∨ (SqT K H p ys ∧ Q (.ref p) H))) fTuple := by
  intro xs xv ι S H Q rl r h
  cases r with
  | nil => exact h.elim
  | cons a r =>
    cases r with
    | cons _ _ => cases a <;> exact h.elim
    | nil =>
      unfold fTuple at h
      split at h
      · rename_i ys q
        cases q
        cases a with
        | @tup _ p vs hz r => exact ⟨p, vs, rfl, .inr ⟨hz.sq, PostV.now h rl (.tup hz r)⟩⟩
      · rename_i w' hne q
        cases q
        split at h
        · rename_i ys q
          obtain ⟨p, vs, rfl, h2, h3⟩ := seqL_ok rl q a
          exact ⟨p, vs, rfl, .inl ⟨h2, PostV.newT h rl h3⟩⟩
        · exact h.elim
      · exact h.elim
def fList : MF := fun ws S => match ws with
  | [w] => match seqA S w with
    | some ys => .ok (.lst ys) S
    | none => .stuck
  | _ => .stuck
/-- a list that will be changed -/
def fListM : MF := fun ws S => match ws with
  | [w] => match seqA S w with
    | some ys => .ok (.loc S.length) (S ++ [.lst ys])
    | none => .stuck
  | _ => .stuck
def rListA (K : PySem.W.Frag) : List V → Hp → VK → Prop := fun xs H Q => ∃ p ys, xs = [.ref p] ∧ (SqL K H p ys ∨ SqT K H p ys) ∧ ∀ l, H l = none → Q (.ref l) (upd H l (.lst ys))
theorem sim_list : SimC K E (rListA K) fList := by
  intro xs xv ι S H Q rl r h
  cases r with
  | nil => exact h.elim
  | cons a r =>
    cases r with
    | cons _ _ => exact h.elim
    | nil =>
      unfold fList at h
      simp only at h
      split at h
      · rename_i ys q
        obtain ⟨p, vs, rfl, h2, h3⟩ := seqA_ok rl q a
        exact ⟨p, vs, rfl, h2, PostV.newL h rl h3⟩
      · exact h.elim
theorem sim_listM : SimC K E (rListA K) fListM := by
  intro xs xv ι S H Q rl r h
  cases r with
  | nil => exact h.elim
  | cons a r =>
    cases r with
    | cons _ _ => exact h.elim
    | nil =>
      unfold fListM at h
      simp only at h
      split at h
      · rename_i ys q
        obtain ⟨p, vs, rfl, h2, h3⟩ := seqA_ok rl q a
        exact ⟨p, vs, rfl, h2, PostV.newLoc h rl h3⟩
      · exact h.elim
/-! ### items -/
theorem ixN_get {α β : Type} {xs : List α} {ys : List β} {i : Int} {a : α} (hl : xs.length = ys.length) (h : atI xs i = some a) : ∃ j : Nat, xs[j]? = some a ∧ ∀ b, ys[j]? = some b → atI ys i = some b := by
  unfold atI at h
  obtain ⟨j, hj, h2⟩ := Option.bind_eq_some_iff.mp h
  refine ⟨j, h2, fun b hb => ?_⟩
  unfold atI
  rw [← hl, hj]
  exact hb
theorem Reps.atI {ι : Im} {n : Nat} {H : Hp} {ws : List W} {vs : List V} {i : Int} {w : W} (r : Reps K ι n H ws vs) (h : L2.atI ws i = some w) : ∃ v, L2.atI vs i = some v ∧ Rep K ι n H w v := by
  obtain ⟨j, h1, h2⟩ := ixN_get r.length h
  obtain ⟨v, hv, rv⟩ := r.get h1
  exact ⟨v, h2 v hv, rv⟩
def fIx (x y : W) (S : Sto) : Res W := match x, y with
  | .str z, .int i => if z.length ≤ sizeLine then (match atI z.cps.toList i with
    | some c => .ok (.str ⟨#[c]⟩) S
    | none => .stuck) else .stuck
  | x, .int i => match seqA S x with
    | some ws => (match atI ws i with
      | some w => .ok w S
      | none => .stuck)
    | none => .stuck
  | _, _ => .stuck
theorem sim_ix : SimR K E (rIx K) fIx := by
  intro x y xv yv ι S H Q rl rx ry h
  unfold fIx at h
  split at h
  · rename_i z i
    cases rx
    cases ry
    split at h
    · rename_i hz
      split at h
      · rename_i c q
        exact .inr (.inr ⟨z, i, c, rfl, rfl, hz, q, PostV.now h rl (.str _)⟩)
      · exact h.elim
    · exact h.elim
  · rename_i i hne
    cases ry
    split at h
    · rename_i ws q
      split at h
      · rename_i w q2
        obtain ⟨p, vs, rfl, h2, h3⟩ := seqA_ok rl q rx
        obtain ⟨v, hv, rv⟩ := h3.atI q2
        rcases h2 with h2 | h2
        · exact .inl ⟨p, vs, i, v, rfl, rfl, h2, hv, PostV.now h rl rv⟩
        · exact .inr (.inl ⟨p, vs, i, v, rfl, rfl, h2, hv, PostV.now h rl rv⟩)
      · exact h.elim
    · exact h.elim
  · exact h.elim
/-! ### slices -/
def cutW (xs : List W) (lo hi : Option Int) : List W := (xs.drop (HT.sIx xs.length 0 lo)).take (HT.sIx xs.length xs.length hi - HT.sIx xs.length 0 lo)
def fSl (x : W) (lo hi : Option Int) (S : Sto) : Res W := match x with
  | .str z => if z.length ≤ sizeLine then .ok (.str (cutS z lo hi)) S else .stuck
  | .tup ws => .ok (.tup (cutW ws lo hi)) S
  | x => match seqL S x with
    | some ws => .ok (.lst (cutW ws lo hi)) S
    | none => .stuck
theorem Reps.cut {ι : Im} {n : Nat} {H : Hp} {ws : List W} {vs : List V} (r : Reps K ι n H ws vs) (lo hi : Option Int) : Reps K ι n H (cutW ws lo hi) (cutV vs lo hi) := by
  unfold cutW cutV
  rw [r.length]
  exact (r.drop _).take _
def rSlAny (K : PySem.W.Frag) : V → Option Int → Option Int → Hp → VK → Prop := fun x lo hi H Q => rSlS x lo hi H Q ∨ (rSlA K x lo hi H Q ∨ rSlL K x lo hi H Q)
theorem sl_any {X : Cx} : SlR X (rSlAny X.K) := SlR.or sl_str (SlR.or sl_tupA sl_list)
theorem cutV_all {vs : List V} {lo hi : Option Int} (h : HT.sIx vs.length 0 lo = 0 ∧ HT.sIx vs.length vs.length hi = vs.length) : cutV vs lo hi = vs := by
  unfold cutV
  rw [h.1, h.2]
  simp
theorem sim_sl {x : W} {xv : V} {lo hi : Option Int} {ι : Im} {S : Sto} {H : Hp} {Q : VK} (rl : Rl K ι S H) (rx : Rep K ι S.length H x xv) (h : PostV K E (fSl x lo hi S) ι S.length H Q) : rSlAny K xv lo hi H Q := by
  unfold fSl at h
  split at h
  · rename_i z
    cases rx
    split at h
    · rename_i hz
      exact .inl ⟨z, rfl, hz, PostV.now h rl (.str _)⟩
    · exact h.elim
  · rename_i ws
    cases rx with
    | @tup _ a vs hz r =>
      refine .inr (.inl ⟨a, vs, rfl, hz.sq, fun e => ?_, fun _ => PostV.newT h rl (r.cut lo hi)⟩)
      have rc := r.cut lo hi
      rw [cutV_all e] at rc
      exact PostV.now h rl (.tup hz rc)
  · split at h
    · rename_i ws q
      obtain ⟨p, vs, rfl, h2, h3⟩ := seqL_ok rl q rx
      exact .inr (.inr ⟨p, vs, rfl, h2, PostV.newL h rl (h3.cut lo hi)⟩)
    · exact h.elim
def mNoPart : MW (Option Int) := fun _ S => .ok none S
def mPart (c : MV) : MW (Option Int) := mBind c fun w => fun _ S => match w with
  | .int i => .ok (some i) S
  | _ => .stuck
def mSl (c : MV) (lo hi : MW (Option Int)) : MV := mBind c fun x => mBind lo fun l => mBind hi fun u => fun _ S => fSl x l u S
def tOfO (K : PySem.W.Frag) (E : XK) (c : MW (Option Int)) : TO := fun σ H Q => ∃ ρ ι S, RE K ι S.length H ρ σ ∧ Rl K ι S H ∧ Post K E (c ρ S) ι S.length H fun o _ _ H' => Q o H'
abbrev CO (X : Cx) (E : XK) (e : Option Expr) (c : MW (Option Int)) : Prop := PO X e (tOfO X.K E c)
theorem PO.weak {X : Cx} {e : Option Expr} {t t' : TO} (h : PO X e t) (k : ∀ σ H Q, t' σ H Q → t σ H Q) : PO X e t' := ⟨fun pins s σ H Q I q => h.run pins s σ H Q I (k σ H Q q)⟩
theorem co_none {X : Cx} : CO X E none mNoPart := PO.weak po_none fun σ H Q ⟨ρ, ι, S, re, rl, h⟩ => h ι H Ext.refl rl
theorem co_some {X : Cx} {e : Expr} {c : MV} (h : CE X E e c) : CO X E (some e) (mPart c) := PO.weak (po_some h) fun σ H Q ⟨ρ, ι, S, re, rl, h⟩ => ⟨ρ, ι, S, re, rl, (Post.bind h).mono fun w S1 ι1 H1 e1 rl1 h1 v rv => by
  cases rv with
  | int i => exact ⟨i, rfl, h1 ι1 H1 Ext.refl rl1⟩
  | _ => exact h1.elim⟩
theorem ce_sl {X : Cx} {e : Expr} {lo hi : Option Expr} {c : MV} {cl ch : MW (Option Int)} {p2 pos : Pos} (he : CE X E e c) (hl : CO X E lo cl) (hu : CO X E hi ch) : CE X E (.Subscript e (.Slice lo hi none p2) pos) (mSl c cl ch) :=
  PE.weak (pe_slice sl_any he hl hu) fun σ H Q ⟨ρ, ι, S, re, rl, h⟩ => ⟨ρ, ι, S, re, rl, (Post.bind h).mono fun x S1 ι1 H1 e1 rl1 h1 xv rx =>
    ⟨ρ, ι1, S1, re.mono e1, rl1, (Post.bind h1).mono fun l S2 ι2 H2 e2 rl2 h2 => ⟨ρ, ι2, S2, (re.mono e1).mono e2, rl2, (Post.bind h2).mono fun u S3 ι3 H3 e3 rl3 h3 => sim_sl rl3 ((rx.mono e2).mono e3) h3⟩⟩⟩
end
end Mm

/-! The mirror layer: methods, reversed slices of tuples, dicts of the module. -/
namespace Mm
open PySem PySem.Spec PyProof.Rows L2
section
variable {K : PySem.W.Frag} {E : XK}
/-! ### methods -/
def mM0 (f : W → Sto → Res W) (c : MV) : MV := mBind c fun x => fun _ S => f x S
def mM1 (f : W → W → Sto → Res W) (c d : MV) : MV := mBind c fun x => match x with
  | .str a => mBind d fun y => fun _ S => f (.str a) y S
  | _ => fun _ _ => .stuck
def fIslower : W → Sto → Res W
  | .str a, S => .ok (.bl (Txt.islower a)) S
  | _, _ => .stuck
def fIsdigit : W → Sto → Res W
  | .str a, S => .ok (.bl (Txt.isdigit a)) S
  | _, _ => .stuck
theorem ce_islower {X : Cx} {o : Expr} {c : MV} {apos pos : Pos} (ho : CE X E o c) (hbase : attributeBase o "islower" X.env (eval o X.env) = eval o X.env := by rfl) (hline : (apos.endLine == pos.line) = true := by rfl) : CE X E (.Call (.Attribute o "islower" apos) [] [] pos) (mM0 fIslower c) :=
  PE.weak (pe_m0 PySem.F.slot_str_islower PySem.F.type_str_islower mt_islower ho hbase hline) fun σ H Q ⟨ρ, ι, S, re, rl, h⟩ => ⟨ρ, ι, S, re, rl, (Post.bind h).mono fun x S1 ι1 H1 e1 rl1 h1 xv rx => by
    cases rx with
    | str a => exact ⟨⟨a, rfl⟩, a, rfl, rfl, trivial, PostV.now h1 rl1 (.bl _)⟩
    | _ => exact h1.elim⟩
theorem ce_isdigit {X : Cx} {o : Expr} {c : MV} {apos pos : Pos} (ho : CE X E o c) (hbase : attributeBase o "isdigit" X.env (eval o X.env) = eval o X.env := by rfl) (hline : (apos.endLine == pos.line) = true := by rfl) : CE X E (.Call (.Attribute o "isdigit" apos) [] [] pos) (mM0 fIsdigit c) :=
  PE.weak (pe_m0 PySem.F.slot_str_isdigit PySem.F.type_str_isdigit mt_isdigit ho hbase hline) fun σ H Q ⟨ρ, ι, S, re, rl, h⟩ => ⟨ρ, ι, S, re, rl, (Post.bind h).mono fun x S1 ι1 H1 e1 rl1 h1 xv rx => by
    cases rx with
    | str a => exact ⟨⟨a, rfl⟩, a, rfl, rfl, trivial, PostV.now h1 rl1 (.bl _)⟩
    | _ => exact h1.elim⟩
def textsW : List W → Option (List Str)
  | [] => some []
  | .str x :: ws => (textsW ws).map (x :: ·)
  | _ :: _ => none
theorem textsW_ok {ι : Im} {n : Nat} {H : Hp} : ∀ {ws : List W} {vs : List V} {xs : List Str}, textsW ws = some xs → Reps K ι n H ws vs → vs = xs.map V.str
  | [], _, xs, e, r => by
    cases r
    cases e
    rfl
  | w :: ws, _, xs, e, r => by
    cases r with
    | cons a b =>
      cases a with
      | str k =>
        have e' : (textsW ws).map (k :: ·) = some xs := e
        obtain ⟨xs', e1, rfl⟩ := Option.map_eq_some_iff.mp e'
        rw [textsW_ok e1 b]
        rfl
      | _ => cases e
def fJoin (x y : W) (S : Sto) : Res W := match x with
  | .str a => match seqA S y with
    | some ws => match textsW ws with
      | some ys => if (ys.map (·.length)).sum + ys.length * a.length ≤ 16777216 then .ok (.str (Txt.join a ys)) S else .stuck
      | none => .stuck
    | none => .stuck
  | _ => .stuck
theorem ce_join {X : Cx} {o e : Expr} {c d : MV} {apos pos : Pos} (ho : CE X E o c) (he : CE X E e d) (hs : starEach [e] X.env = [(false, eval e X.env)] := by rfl) (hbase : attributeBase o "join" X.env (eval o X.env) = eval o X.env := by rfl) (hline : (apos.endLine == pos.line) = true := by rfl) :
    CE X E (.Call (.Attribute o "join" apos) [e] [] pos) (mM1 fJoin c d) :=
  PE.weak (pe_join ho he hs hbase hline) fun σ H Q ⟨ρ, ι, S, re, rl, h⟩ => ⟨ρ, ι, S, re, rl, (Post.bind h).mono fun x S1 ι1 H1 e1 rl1 h1 xv rx => by
    cases rx with
    | str a =>
      refine ⟨⟨a, rfl⟩, ρ, ι1, S1, re.mono e1, rl1, (Post.bind h1).mono fun y S2 ι2 H2 e2 rl2 h2 yv ry => ?_⟩
      unfold fJoin at h2
      simp only at h2
      split at h2
      · rename_i ws q
        split at h2
        · rename_i ys q2
          split at h2
          · rename_i hz
            obtain ⟨p, vs, rfl, h3, h4⟩ := seqA_ok rl2 q ry
            refine ⟨a, p, ys, rfl, rfl, ?_, hz, PostV.now h2 rl2 (.str _)⟩
            rw [← textsW_ok q2 h4]
            exact h3
          · exact h2.elim
        · exact h2.elim
      · exact h2.elim
    | _ => exact h1.elim⟩
/-- xs.append(e), xs an object of the store -/
def mAppend (c : MV) (t : MW (List W)) : MV := mBind c fun x => match x with
  | .loc l => (fun ρ S => match S[l]? with
    | some (.lst _) => mBind t (fun us => match us with
      | [w] => (fun _ S' => match S'[l]? with
        | some (.lst ws) => if ws.length < sizeLine then .ok .non (S'.set l (.lst (ws ++ [w]))) else .stuck
        | _ => .stuck)
      | _ => fun _ _ => .stuck) ρ S
    | _ => .stuck)
  | _ => fun _ _ => .stuck
theorem ce_append {X : Cx} {o e : Expr} {es : List Expr} {c : MV} {t : MW (List W)} {apos cpos : Pos} (ho : CE X E o c) (ha : CA X E (e :: es) t)
    (hbase : attributeBase o "append" X.env (eval o X.env) = eval o X.env := by rfl)
    (hfew : ((backTo cpos (starEach (e :: es) X.env)).all (fun x => !x.1) && (backToKw cpos (keywordEach [] X.env)).all (fun x => x.1.isSome) && decide ((e :: es).length + ([] : List Keyword).length + (if ([] : List Keyword).isEmpty then 0 else 1) < 30)) = true := by rfl)
    (hline : (apos.endLine == cpos.line) = true := by rfl) (hs : starEach (e :: es) X.env = (false, eval e X.env) :: starEach es X.env := by rfl) (hplain : (backTo cpos (starEach es X.env)).any (·.1) = false := by rfl) :
    CE X E (.Call (.Attribute o "append" apos) (e :: es) [] cpos) (mAppend c t) :=
  PE.weak (pe_bm PySem.F.plainAttrs_list PySem.F.slot_list_append PySem.F.type_list_append mt_append ho ha hbase hfew hline hs hplain) fun σ H Q ⟨ρ, ι, S, re, rl, h⟩ => ⟨ρ, ι, S, re, rl, (Post.bind h).mono fun x S1 ι1 H1 e1 rl1 h1 xv rx => by
    cases rx with
    | @loc l hl =>
      simp only at h1
      split at h1
      · rename_i ws0 q0
        obtain ⟨xs0, o1, o2⟩ := rl1.obj l _ q0
        refine ⟨.inl ⟨rfl, xs0, .inl (.inl o1)⟩, ρ, ι1, S1, re.mono e1, rl1, (Post.bind h1).mono fun us S2 ι2 H2 e2 rl2 h2 vs rvs => ?_⟩
        cases rvs with
        | nil => exact h2.elim
        | @cons w v _ _ a b =>
          cases b with
          | cons _ _ => exact h2.elim
          | nil =>
            simp only at h2
            split at h2
            · rename_i ws q
              split at h2
              · rename_i hz
                have hl2 : l < S2.length := Nat.lt_of_lt_of_le hl e2.le
                obtain ⟨xs, p1, p2⟩ := rl2.obj l _ q
                have ei := e2.io l hl
                refine ⟨ι1 l, xs, v, rfl, rfl, by rw [← ei]; exact p1, by rw [← p2.length]; exact hz, ?_⟩
                rw [← ei]
                have ex := Ext.set (o := .lst (xs ++ [v])) rl2 hl2 (nofz p1)
                exact h2 ι2 _ (by rw [List.length_set]; exact ex) (rl2.set hl2 (nofz p1) ⟨_, upd_same, (p2.mono ex).append (.cons (a.mono ex) .nil)⟩) _ .non
              · exact h2.elim
            · exact h2.elim
      · exact h1.elim
    | _ => exact h1.elim⟩
end
end Mm

/-! The mirror layer: starred targets. -/
namespace Mm
open PySem PySem.Spec PyProof.Rows L2
section
variable {X : Cx} {E : XK}
/-- what a tuple gives to n targets, the i-th of them starred -/
def starV {α : Type} (xs : List α) (n i : Nat) : List α × List α × List α := (xs.take i, (xs.drop i).take (xs.length + 1 - n), (xs.drop i).drop (xs.length + 1 - n))
theorem unpack_starI {pins : List (Addr × Obj)} {σ : L2.St} {H : Hp} {s : Shared} {l : Addr} {vs : List V} {its : List Value} {n i : Nat} {Q : List Value → Shared → Prop} {EE : Value → Shared → Prop} (I : Inv X pins σ H s) (hh : X.A.handled = none) (hl : IsTup s.heap l its.toArray) (rv : Vals vs its)
    (hi : i < n) (hn : n ≤ vs.length + 1) (hz : vs.length ≤ sizeLine)
    (h : ∀ D s' us, H D = none → Inv X pins σ (upd H D (.lst (starV vs n i).2.1)) s' → Vals ((starV vs n i).1 ++ [.ref D] ++ (starV vs n i).2.2) us → Q us s') : wpAny (model X.prog X.w) X.A (unpackItems (.ref l) n (some i)) Q EE s := by
  have hlen := rv.length
  have hsz : its.toArray.size = vs.length := by rw [List.size_toArray]; exact hlen.symm
  have hll : l < s.heap.objs.size := by obtain ⟨o, ho, _⟩ := hl; exact Heap.lt_size ho
  have hlt : l ≠ s.heap.objs.size := Nat.ne_of_lt hll
  unfold unpackItems notIterableAtAll
  refine wpAny_bind (wpAny_bind (wpAny_specialOf hl.typeIs slot_tuple_iter.lookup (wpAny_pure ?_)))
  simp only [Bool.false_eq_true, if_false]
  refine wpAny_bind (wpAny_holding (iter_tuple hl ?_))
  refine wpAny_bind (wpAny_holding (draw_tuple hlt i 0 _ _ ⟨_, Heap.get?_push_size _ rfl, rfl, rfl⟩ (hl.push _) (by rw [hsz]; omega) fun g1 it1 sb1 => ?_))
  have tup1 : IsTup g1 l its.toArray := (hl.push _).extBut sb1.extBut hlt
  rw [Nat.zero_add] at it1
  obtain ⟨oi, hoi, _⟩ := id it1
  obtain ⟨ol, hol, _⟩ := id tup1
  rw [List.drop_zero]
  have efl : (its.toArray.toList.take i).length = i := by simp; omega
  rw [if_neg (by rw [efl]; omega)]
  refine wpAny_bind (wpAny_holding (PySem.W.kun_collect (s := { s with heap := g1 }) (T := "tuple_iterator") (.inr (.inr (.inr rfl))) (Walks.tuple (A := X.A.in1) hh s.heap.objs.size l hlt its.toArray) (fun j u st => st.1.typeIs) (k := i) (by rw [hsz]; omega) ⟨it1, tup1⟩ (Heap.lt_size hoi) (Heap.lt_size hol)
    (fun g2 tk hk => ?_) (by rw [hsz]; exact hz)))
  have keep : ∀ b o, s.heap.get? b = some o → g2.get? b = some o := fun b o e => hk b o (Nat.ne_of_lt (Heap.lt_size e)) (sb1.extBut b o (Nat.ne_of_lt (Heap.lt_size e)) (Heap.get?_push_of_some _ e))
  have I2 : Inv X pins σ H { s with heap := g2, toks := tk } := I.kept (t' := tk) keep
  have er : (its.toArray.toList.drop i).length = vs.length - i := by simp; omega
  show wpAny _ _ (if (its.toArray.toList.drop i).length < n - 1 - i then _ else _) _ _ _
  rw [if_neg (by rw [er]; omega)]
  have em : (its.toArray.toList.drop i).length - (n - 1 - i) = vs.length + 1 - n := by rw [er]; omega
  show wpAny _ _ (newList ((its.toArray.toList.drop i).take ((its.toArray.toList.drop i).length - (n - 1 - i))) >>= fun d => pure (its.toArray.toList.take i ++ [d] ++ (its.toArray.toList.drop i).drop ((its.toArray.toList.drop i).length - (n - 1 - i)))) _ _ _
  rw [em]
  have el : its.toArray.toList = its := by simp
  rw [el]
  have hsm : ((its.drop i).take (vs.length + 1 - n)).length ≤ sizeLine := by rw [List.length_take, List.length_drop]; omega
  refine wpAny_bind (wpAny_newObj_type (wpAny_pure ?_) (by show _ ≤ sizeLine; rw [List.size_toArray]; exact hsm))
  have rm : Vals (starV vs n i).2.1 ((its.drop i).take (vs.length + 1 - n)) := (rv.drop i).take _
  refine h g2.objs.size _ _ (I2.hok.fresh (Nat.le_refl _)) (I2.laid (t' := tk) (o := .lst (starV vs n i).2.1) (fun b o e => Heap.get?_push_of_some _ e) (Nat.le_refl _) ⟨by rw [rm.length]; exact hsm, _, 0, rm, Heap.get?_push_size _ rfl⟩) ?_
  exact ((rv.take i).append (.cons (show RelV (.ref g2.objs.size) (.ref g2.objs.size) from rfl) .nil)).append ((rv.drop i).drop _)
def gStar (K : PySem.W.Frag) (n i : Nat) (t : TGs) : TG := fun v σ H Q => ∃ a xs, v = .ref a ∧ SqT K H a xs ∧ n ≤ xs.length + 1 ∧ ∀ D, H D = none → t ((starV xs n i).1 ++ [.ref D] ++ (starV xs n i).2.2) σ (upd H D (.lst (starV xs n i).2.1)) Q
theorem pg_star {es : List Expr} {k : Nat} {t : TGs} {n i : Nat} {pos : Pos} (hc : X.calm = true) (h : PGs X es t) (hi : i < n) (hn : (assignEach es X.env).length = n) (hst : (assignEach es X.env).findIdx? (·.1) = some i) : PG X (.Tuple es k pos) (gStar X.K n i t) := by
  refine ⟨fun pins s σ H v u Q I r hw => ?_⟩
  obtain ⟨a, xs, rfl, hq, hl, hw⟩ := hw
  cases r
  obtain ⟨its, rv, ht, hz⟩ := I.tuple hq
  rw [assign_Tuple]
  refine wpAny_bind (wpAny_standAt ?_)
  unfold unpack
  rw [hn, hst]
  refine wpAny_bind (wpAny_holding (unpack_starI I (I.ok.hd hc) ht rv hi hl hz fun D s' us hD I' rus => ?_))
  exact h.run pins s' σ _ _ us Q I' rus (hw D hD)
theorem pgs_star {e : Expr} {es : List Expr} {t : TG} {u : TGs} {p : Pos} (h1 : PG X e t) (h2 : PGs X es u) (hs : (assignEach (.Starred e p :: es) X.env).map (·.2) = assign e X.env :: (assignEach es X.env).map (·.2) := by rfl) : PGs X (.Starred e p :: es) (gCons t u) := by
  refine ⟨fun pins s σ H vs us Q I r h => ?_⟩
  obtain ⟨v, vr, e1, h⟩ := h
  subst e1
  cases r with
  | cons r rr =>
    rw [hs]
    refine assignInOrder_cons (thn (h1.run pins s σ H _ _ _ I r h) fun _ s1 z => ?_)
    obtain ⟨σ1, H1, I1, q1⟩ := z
    exact h2.run pins s1 σ1 H1 _ _ Q I1 rr q1
def mgStar (n i : Nat) (gs : MGs) : MG := fun w => match w with
  | .tup ws => if n ≤ ws.length + 1 then gs ((starV ws n i).1 ++ [.lst (starV ws n i).2.1] ++ (starV ws n i).2.2) else fun _ _ => .stuck
  | _ => fun _ _ => .stuck
theorem cgs_star {e : Expr} {es : List Expr} {g : MG} {gs : MGs} {p : Pos} (h1 : CG X E e g) (h2 : CGs X E es gs) (hs : (assignEach (.Starred e p :: es) X.env).map (·.2) = assign e X.env :: (assignEach es X.env).map (·.2) := by rfl) : CGs X E (.Starred e p :: es) (mgCons g gs) :=
  PGs.weak (pgs_star h1 h2 hs) fun vs σ H Q ⟨ws, ρ, ι, S, rws, re, rl, h⟩ => by
    cases rws with
    | nil => exact h.elim
    | @cons w v ws vs a b =>
      refine ⟨v, vs, rfl, w, ρ, ι, S, a, re, rl, (Post.then h).mono fun ρ1 S1 ι1 H1 e1 rl1 q1 σ1 re1 => ?_⟩
      exact ⟨ws, ρ1, ι1, S1, b.mono e1, re1, rl1, q1⟩
theorem cg_star {es : List Expr} {k : Nat} {gs : MGs} {n i : Nat} {pos : Pos} (hc : X.calm = true) (h : CGs X E es gs) (hi : i < n := by decide) (hn : (assignEach es X.env).length = n := by rfl) (hst : (assignEach es X.env).findIdx? (·.1) = some i := by rfl) : CG X E (.Tuple es k pos) (mgStar n i gs) :=
  PG.weak (pg_star hc h hi hn hst) fun v σ H Q ⟨w, ρ, ι, S, rw', re, rl, h⟩ => by
    cases rw' with
    | @tup ws a xs hz r =>
      have h' : Post X.K E ((if n ≤ ws.length + 1 then gs ((starV ws n i).1 ++ [.lst (starV ws n i).2.1] ++ (starV ws n i).2.2) else fun _ _ => Res.stuck) ρ S) ι S.length H _ := h
      by_cases z : n ≤ ws.length + 1
      · rw [if_pos z] at h'
        refine ⟨a, xs, rfl, hz.sq, by rw [← r.length]; exact z, fun D hD => ?_⟩
        have ex := Ext.new (o := .lst (starV xs n i).2.1) rl hD
        have rm : Reps X.K ι S.length H (starV ws n i).2.1 (starV xs n i).2.1 := by
          unfold starV
          rw [r.length]
          exact (r.drop i).take _
        have rl' : Reps X.K ι S.length H (starV ws n i).2.2 (starV xs n i).2.2 := by
          unfold starV
          rw [r.length]
          exact (r.drop i).drop _
        refine ⟨_, ρ, ι, S, (((r.take i).mono ex).append (.cons (.lst (Fz.new rl hD) (rm.mono ex)) .nil)).append (rl'.mono ex), re.mono ex, rl.new hD, Post.from h' ex⟩
      · rw [if_neg z] at h'
        exact h'.elim
    | _ => exact h.elim
end
end Mm

/-! The mirror layer: zip(a, b, strict=True). -/
namespace Mm
open PySem PySem.Spec PyProof.Rows L2
/-! ### the zip object -/
abbrev ZipS (h : Heap) (z ti tu : Addr) (f0 : Value) : Prop := h.get? z = some { cls := .type "zip", dict := none, data := .fields #[f0, .bool false, .bool true, .ref ti, .ref tu], slots := #[] }
abbrev kwS : List (Str × Value) := [(Str.ofString "strict", .bool true)]
theorem zs_typeCall (a b : Value) : checkTypeCall "zip" ⟨[a, b], kwS⟩ = pure () := by kernel_rfl
theorem zs_newCall (a b : Value) : checkBuiltinCall "zip.__new__" ⟨[.type "zip", a, b], kwS⟩ = pure () := by kernel_rfl
theorem zs_init (o a b : Value) : argsOk "object.__init__" ⟨[o, a, b], kwS⟩ := by unfold argsOk; kernel_rfl
abbrev zsT (h : Heap) (o1 o2 : Obj) : Heap := ((h.push o1).push o2).push { cls := .type "tuple", data := .seq #[.ref h.objs.size, .ref (h.push o1).objs.size] }
abbrev zsU (h : Heap) (o1 o2 : Obj) : Heap := (zsT h o1 o2).push { cls := .type "tuple", data := .seq #[.none, .none] }
abbrev zsZ (h : Heap) (o1 o2 : Obj) : Heap := (zsU h o1 o2).push { cls := .type "zip", data := .fields #[.none, .bool false, .bool true, .ref ((h.push o1).push o2).objs.size, .ref (zsT h o1 o2).objs.size] }
theorem meets_zipS {v1 v2 : Value} {o1 o2 : Obj} {G1 G2 : Heap → Prop} (B1 : Begins v1 o1 G1) (B2 : Begins v2 o2 G2) :
    Meets (Builtin.«zip.__new__» ⟨[.type "zip", v1, v2], kwS⟩) (fun _ R s => (G1 s.heap ∧ G2 s.heap) ∧ R (.ok (.ret (.ref (zsU s.heap o1 o2).objs.size))) { s with heap := zsZ s.heap o1 o2 }) :=
  .of_wp fun prog w A R s h => by
    obtain ⟨hp, gs, dr, tk, os⟩ := s
    obtain ⟨⟨b1, b2⟩, fin⟩ := h
    have hsub := sub_zip
    have it1 : ∀ {A2 : Around} {E2 : Value → Shared → Prop} {Q2 : Value → Shared → Prop}, Q2 (.ref hp.objs.size) ⟨hp.push o1, gs, dr, tk, os⟩ → wpAny (model prog w) A2 (pyIter v1) Q2 E2 ⟨hp, gs, dr, tk, os⟩ := fun q => B1.iter prog w _ _ ⟨hp, gs, dr, tk, os⟩ _ b1 q
    have it2 : ∀ {A2 : Around} {E2 : Value → Shared → Prop} {Q2 : Value → Shared → Prop}, Q2 (.ref (hp.push o1).objs.size) ⟨(hp.push o1).push o2, gs, dr, tk, os⟩ → wpAny (model prog w) A2 (pyIter v2) Q2 E2 ⟨hp.push o1, gs, dr, tk, os⟩ :=
      fun q => B2.iter prog w _ _ ⟨hp.push o1, gs, dr, tk, os⟩ _ (B2.keeps _ _ b2 fun b o' e => Heap.get?_push_of_some _ e) q
    have k1 : (Str.ofString "strict" != ("strict" : Str)) = false := by decide +kernel
    have k2 : (Str.ofString "strict" == ("strict" : Str)) = true := by decide +kernel
    wp_walk using it1, it2
    exact ⟨_, rfl, fin⟩
end Mm

namespace Mm
open PySem PySem.Spec PyProof.Rows L2
section
variable {prog : Program} {w : World} {A : Around} {E : Value → Shared → Prop} {s : Shared} {z ti tu i1 i2 : Addr} {fp1 fp2 : List Addr} {n1 n2 i : Nat} {P1 P2 : Nat → Value → Prop} {St1 St2 : Nat → Heap → Prop} {a1 a2 : Value}
/-- zip(v1, v2, strict=True): its five new cells -/
theorem zipS_begins {v1 v2 : Value} {o1 o2 : Obj} {G1 G2 : Heap → Prop} {Q : Value → Shared → Prop} (B1 : Begins v1 o1 G1) (B2 : Begins v2 o2 G2) (b1 : G1 s.heap) (b2 : G2 s.heap)
    (h : ∀ h', ZipS h' (s.heap.objs.size + 4) (s.heap.objs.size + 2) (s.heap.objs.size + 3) .none → IsTupOf2 h' (s.heap.objs.size + 2) (.ref s.heap.objs.size) (.ref (s.heap.objs.size + 1)) → IsTupOf2 h' (s.heap.objs.size + 3) .none .none →
      h'.get? s.heap.objs.size = some o1 → h'.get? (s.heap.objs.size + 1) = some o2 → (∀ c o, s.heap.get? c = some o → h'.get? c = some o) → Q (.ref (s.heap.objs.size + 4)) { s with heap := h' }) :
    wpAny (model prog w) A (call (.type "zip") [v1, v2] kwS) Q E s := by
  refine callType_newKw F.called_zip (by decide) (zs_typeCall _ _) (zs_newCall _ _) (fun obj => zs_init obj _ _) F.entry_zip_new (meets_zipS B1 B2) ⟨⟨b1, b2⟩, ?_⟩
  have y1 : (s.heap.push o1).objs.size = s.heap.objs.size + 1 := by rw [Heap.size_push]
  have y2 : ((s.heap.push o1).push o2).objs.size = s.heap.objs.size + 2 := by rw [Heap.size_push, y1]
  have y3 : (zsT s.heap o1 o2).objs.size = s.heap.objs.size + 3 := by rw [Heap.size_push, y2]
  have y4 : (zsU s.heap o1 o2).objs.size = s.heap.objs.size + 4 := by rw [Heap.size_push, y3]
  have c4 : (zsZ s.heap o1 o2).get? (zsU s.heap o1 o2).objs.size = some { cls := .type "zip", data := .fields #[.none, .bool false, .bool true, .ref ((s.heap.push o1).push o2).objs.size, .ref (zsT s.heap o1 o2).objs.size] } := Heap.get?_push_size _ rfl
  have c3 : (zsZ s.heap o1 o2).get? (zsT s.heap o1 o2).objs.size = some { cls := .type "tuple", data := .seq #[.none, .none] } := Heap.get?_push_of_some _ (Heap.get?_push_size _ rfl)
  have up : ∀ c o, ((s.heap.push o1).push o2).get? c = some o → (zsZ s.heap o1 o2).get? c = some o := fun c o e => Heap.get?_push_of_some _ (Heap.get?_push_of_some _ (Heap.get?_push_of_some _ e))
  have c2 : (zsZ s.heap o1 o2).get? ((s.heap.push o1).push o2).objs.size = some { cls := .type "tuple", data := .seq #[.ref s.heap.objs.size, .ref (s.heap.push o1).objs.size] } := Heap.get?_push_of_some _ (Heap.get?_push_of_some _ (Heap.get?_push_size _ rfl))
  have c1 : (zsZ s.heap o1 o2).get? (s.heap.push o1).objs.size = some o2 := up _ _ (Heap.get?_push_size _ B2.free)
  have c0 : (zsZ s.heap o1 o2).get? s.heap.objs.size = some o1 := up _ _ (Heap.get?_push_of_some _ (Heap.get?_push_size _ B1.free))
  rw [y4, y3, y2] at c4
  rw [y3] at c3
  rw [y2, y1] at c2
  rw [y1] at c1
  show _ ∧ _
  rw [y4]
  exact ⟨⟨_, c4, rfl⟩, h _ c4 c2 c3 c0 c1 fun c o e => up c o (Heap.get?_push_of_some _ (Heap.get?_push_of_some _ e))⟩
/-! ### asking a strict zip: one walk for both endings -/
section steps
variable {f0 x : Value} {k : Nat} {α : Type} {Q : α → Shared → Prop}
/-- a field of the zip is read, the rest goes on with it -/
theorem ZipS.rd {f : Value → Sem α} (hz : ZipS s.heap z ti tu f0) (hx : (#[f0, .bool false, .bool true, .ref ti, .ref tu] : Array Value)[k]? = some x) (go : wpAny (model prog w) A (f x) Q E s) :
    wpAny (model prog w) A (field (.ref z) k >>= f) Q E s := wpAny_bind (wpAny_field hz rfl hx go)
/-- asked within the zip: some thing as long as there is one -/
theorem ask_some {it : Addr} {fp : List Addr} {n : Nat} {P : Nat → Value → Prop} {St : Nat → Heap → Prop} {Q : Option Value → Shared → Prop} (D : Draws prog w A it fp n P St) (st : St i s.heap) (hi : i < n)
    (go : ∀ x h' tk, P i x ∧ St (i + 1) h' ∧ Heap.SameBut it s.heap h' → Q (some x) { s with heap := h', toks := tk }) : wpAny (model prog w) A (Builtin.SmallTypes.nextOrEnd (.ref it)) Q E s := by
  rw [Builtin.SmallTypes.nextOrEnd]
  apply wpAny_bind; apply wpAny_attempt
  apply D.item i s _ _ hi st
  intro x h' tk p q r
  exact wpAny_pure (go x h' tk ⟨p, q, r⟩)
/-- none at the end -/
theorem ask_none {it : Addr} {fp : List Addr} {n : Nat} {P : Nat → Value → Prop} {St : Nat → Heap → Prop} {Q : Option Value → Shared → Prop} (D : Draws prog w A it fp n P St) (st : St n s.heap)
    (go : ∀ h', Heap.ExtBut it s.heap h' → Q none { s with heap := h' }) : wpAny (model prog w) A (Builtin.SmallTypes.nextOrEnd (.ref it)) Q E s := by
  rw [Builtin.SmallTypes.nextOrEnd]
  apply wpAny_bind; apply wpAny_attempt
  apply D.done s _ _ st
  rintro h' e hx ⟨o, ho, hc⟩
  exact wpAny_bind (wpAny_isInstance (b := true) ⟨o, ho, hc⟩ isSubtype_stop (wpAny_pure (go h' hx)))
end steps
/-- what a turn of the zip leaves of the cells that are not its own -/
def Stays (z tu i1 i2 : Addr) (h h' : Heap) : Prop := ∀ c o, c ≠ z → c ≠ tu → c ≠ i1 → c ≠ i2 → h.get? c = some o → h'.get? c = some o
theorem Stays.ext {z tu i1 i2 : Addr} {h h' h'' : Heap} (a : Stays z tu i1 i2 h h') (b : ∀ c o, c ≠ z → c ≠ tu → c ≠ i1 → c ≠ i2 → h'.get? c = some o → h''.get? c = some o) : Stays z tu i1 i2 h h'' :=
  fun c o p q r t e => b c o p q r t (a c o p q r t e)
/-- a strict zip of two is asked: both have a thing (then the pair is handed out), or both are at their end (then it stops) -/
theorem zipS_ask {j : Nat} {Q : Fin → Shared → Prop} (S : ZipSep2 z ti tu i1 i2 fp1 fp2) (D1 : Draws prog w A i1 fp1 n1 P1 St1) (D2 : Draws prog w A i2 fp2 n2 P2 St2)
    (hz : ZipS s.heap z ti tu .none) (hti : IsTupOf2 s.heap ti (.ref i1) (.ref i2)) (st1 : St1 i s.heap) (st2 : St2 j s.heap)
    (how : (i < n1 ∧ i < n2 ∧ j = i ∧ IsTupOf2 s.heap tu a1 a2 ∧ ∀ x1 x2 h' tk, P1 i x1 ∧ P2 i x2 → ZipS h' z ti tu (rawInt s.heap.objs.size) ∧ IsTupOf2 h' tu x1 x2 ∧ IsTupOf2 h' s.heap.objs.size x1 x2 → St1 (i + 1) h' ∧ St2 (i + 1) h' →
        h'.objs.size = s.heap.objs.size + 1 → Stays z tu i1 i2 s.heap h' → Q (.done (.ret (.ref s.heap.objs.size))) { s with heap := h', toks := tk }) ∨
      (i = n1 ∧ j = n2 ∧ A.handled = none ∧ ∀ h' e, Stays z tu i1 i2 s.heap h' → (∃ o, h'.get? e = some o ∧ o.cls = .type "StopIteration") → E (.ref e) { s with heap := h' })) :
    wpAny (model prog w) A (Builtin.«zip.__next__» ⟨[.ref z], []⟩) Q E s := by
  rcases s with ⟨hp, g, d, tk0, os⟩
  change wpAny _ _ (field (.ref z) 2 >>= _) _ _ _
  apply hz.rd rfl
  change wpAny _ _ (field (.ref z) 3 >>= _) _ _ _
  apply hz.rd rfl
  apply wpAny_bind; apply wpAny_seqItems hti rfl
  change wpAny _ _ (Builtin.SmallTypes.ownedTupleIsFree (.ref z) >>= _) _ _ _
  rw [Builtin.SmallTypes.ownedTupleIsFree]
  apply wpAny_bind; apply hz.rd rfl; apply wpAny_pure
  rw [if_pos rfl]
  apply wpAny_bind; apply wpAny_rule; apply hz.rd rfl
  apply wpAny_bind; apply wpAny_setField_rec hz (by simp)
  intro k0 zk0 (sb0 : Heap.SameBut z hp k0)
  replace zk0 : ZipS k0 z ti tu .ellipsis := zk0
  have m0 : Stays z tu i1 i2 hp k0 := fun c o cz _ _ _ e => sb0.extBut _ _ cz e
  replace st1 : St1 i k0 := D1.over st1 sb0 S.zf1
  replace st2 : St2 j k0 := D2.over st2 sb0 S.zf2
  apply wpAny_bind
  simp only [List.zipIdx_cons, List.zipIdx_nil, List.forIn_cons, List.forIn_nil]
  apply wpAny_bind; apply wpAny_bind; apply wpAny_onRaise
  change wpAny _ _ (Builtin.SmallTypes.nextOrEnd (.ref i1)) _ _ ⟨k0, g, d, tk0, os⟩
  rcases how with ⟨lt1, lt2, ji, htu, hQ⟩ | ⟨e1, e2, hh, hE⟩
  · rw [ji] at st2
    apply ask_some D1 st1 lt1
    rintro x1 q1 tk1 ⟨px1, sn1, (sq1 : Heap.SameBut i1 k0 q1)⟩
    have m1 := m0.ext fun c o _ _ c1 _ e => sq1.extBut _ _ c1 e
    have u1 : IsTupOf2 q1 tu a1 a2 := sq1.extBut _ _ S.Ti1 (sb0.extBut _ _ S.TOz htu)
    apply wpAny_bind; apply wpAny_seqItems (s := ⟨q1, g, d, tk1, os⟩) u1 rfl
    apply wpAny_bind; apply updateSeq_IsTupOf2 (s := ⟨q1, g, d, tk1, os⟩) u1
    intro k1 (u2 : IsTupOf2 k1 tu x1 a2) (sb1 : Heap.SameBut tu q1 k1)
    have m2 := m1.ext fun c o _ ct _ _ e => sb1.extBut _ _ ct e
    apply wpAny_bind; apply wpAny_letGo; apply wpAny_pure
    apply wpAny_bind; apply wpAny_bind; apply wpAny_onRaise
    change wpAny _ _ (Builtin.SmallTypes.nextOrEnd (.ref i2)) _ _ ⟨k1, g, d, tk1, os⟩
    apply ask_some D2 (D2.over (D2.over st2 sq1 S.sep1_2) sb1 S.Tf2) lt2
    rintro x2 q2 tk2 ⟨px2, sn2, (sq2 : Heap.SameBut i2 k1 q2)⟩
    have m3 := m2.ext fun c o _ _ _ c2 e => sq2.extBut _ _ c2 e
    have u3 : IsTupOf2 q2 tu x1 a2 := sq2.extBut _ _ S.Ti2 u2
    apply wpAny_bind; apply wpAny_seqItems (s := ⟨q2, g, d, tk2, os⟩) u3 rfl
    apply wpAny_bind; apply updateSeq_IsTupOf2 (s := ⟨q2, g, d, tk2, os⟩) u3
    intro k2 (u4 : IsTupOf2 k2 tu x1 x2) (sb2 : Heap.SameBut tu q2 k2)
    have m4 := m3.ext fun c o _ ct _ _ e => sb2.extBut _ _ ct e
    have zz : ZipS k2 z ti tu .ellipsis := by
      apply sb2.extBut _ _ S.TOz.symm; apply sq2.extBut _ _ S.zi2; apply sb1.extBut _ _ S.TOz.symm; exact sq1.extBut _ _ S.zi1 zk0
    have len : k2.objs.size = hp.objs.size := by rw [sb2.1, sq2.1, sb1.1, sq1.1, sb0.1]
    have j1 : St1 (i + 1) k2 := D1.over (D1.over (D1.over sn1 sb1 S.Tf1) sq2 S.sep2_1) sb2 S.Tf1
    have j2 : St2 (i + 1) k2 := D2.over sn2 sb2 S.Tf2
    apply wpAny_bind; apply wpAny_letGo; apply wpAny_pure; apply wpAny_pure
    apply wpAny_bind; apply wpAny_seqItems (s := ⟨k2, g, d, tk2, os⟩) u4 rfl
    apply wpAny_bind; refine wpAny_newTuple ?_
    change wpAny _ _ (Builtin.SmallTypes.ownedTupleHandOut (.ref z) (.ref k2.objs.size) >>= _) _ _ ⟨k2.push { cls := .type "tuple", data := .seq #[x1, x2] }, g, d, tk2, os⟩
    generalize hk3 : k2.push { cls := .type "tuple", data := .seq #[x1, x2] } = k3
    have old : ∀ c o, k2.get? c = some o → k3.get? c = some o := fun c o e => hk3 ▸ Heap.get?_push_of_some _ e
    have own : IsTupOf2 k3 k2.objs.size x1 x2 := hk3 ▸ Heap.get?_push_size _ rfl
    have len3 : k3.objs.size = k2.objs.size + 1 := hk3 ▸ Heap.size_push ..
    have ne : k2.objs.size ≠ z := Nat.ne_of_gt (Heap.lt_size zz)
    rw [Builtin.SmallTypes.ownedTupleHandOut]
    apply wpAny_bind; apply wpAny_bind
    apply wpAny_setField_rec (s := ⟨k3, g, d, tk2, os⟩) (old _ _ zz) (by simp)
    intro k4 z4 (sb4 : Heap.SameBut z k3 k4)
    replace z4 : ZipS k4 z ti tu (rawInt k2.objs.size) := z4
    apply wpAny_setField_rec z4 (by simp)
    intro k5 z5 (sb5 : Heap.SameBut z k4 k5)
    replace z5 : ZipS k5 z ti tu (rawInt k2.objs.size) := z5
    have last : ∀ c o, c ≠ z → k3.get? c = some o → k5.get? c = some o := fun c o cz e => sb5.extBut _ _ cz (sb4.extBut _ _ cz e)
    have m5 := m4.ext fun c o cz _ _ _ e => last c o cz (old c o e)
    have w1 : St1 (i + 1) k5 := D1.frame _ _ _ j1 fun b hb o e => last b o (fun q => S.zf1 (q ▸ hb)) (old b o e)
    have w2 : St2 (i + 1) k5 := D2.frame _ _ _ j2 fun b hb o e => last b o (fun q => S.zf2 (q ▸ hb)) (old b o e)
    have w3 : IsTupOf2 k5 k2.objs.size x1 x2 := last _ _ ne own
    have w4 : IsTupOf2 k5 tu x1 x2 := last _ _ S.TOz (old _ _ u4)
    have w5 : k5.objs.size = k2.objs.size + 1 := by rw [sb5.1, sb4.1, len3]
    rw [len] at z5 w3 w5
    apply wpAny_pure
    change Q (.done (.ret (.ref k2.objs.size))) ⟨k5, g, d, tk2, os⟩
    rw [len]
    exact hQ x1 x2 k5 tk2 ⟨px1, px2⟩ ⟨z5, w4, w3⟩ ⟨w1, w2⟩ w5 m5
  · subst e1; subst e2
    apply ask_none D1 st1
    intro q1 (sq1 : Heap.ExtBut i1 k0 q1)
    have m1 := m0.ext fun c o _ _ c1 _ e => sq1 _ _ c1 e
    apply wpAny_bind; apply wpAny_setField_rec (s := ⟨q1, g, d, tk0, os⟩) (sq1 _ _ S.zi1 zk0) (by simp)
    intro k1 _ (sb1 : Heap.SameBut z q1 k1)
    have m2 := m1.ext fun c o cz _ _ _ e => sb1.extBut _ _ cz e
    replace st2 : St2 _ k1 := D2.frame _ _ _ (D2.frame _ _ _ st2 fun b hb o e => sq1 b o (fun q => S.sep1_2 (q ▸ hb)) e) fun b hb o e => sb1.extBut b o (fun q => S.zf2 (q ▸ hb)) e
    apply wpAny_bind
    with_unfolding_all apply wpAny_bind
    simp only [List.drop_succ_cons, List.drop_zero, List.zipIdx_cons, List.zipIdx_nil, List.forIn_cons, List.forIn_nil]
    apply wpAny_bind; apply wpAny_bind; apply ask_none (s := ⟨k1, g, d, tk0, os⟩) D2 st2
    intro q2 (sq2 : Heap.ExtBut i2 k1 q2)
    have m3 := m2.ext fun c o _ _ _ c2 e => sq2 _ _ c2 e
    simp only [Option.isSome_none, Bool.false_eq_true, if_false]
    apply wpAny_pure; apply wpAny_pure; apply wpAny_bind; apply wpAny_rule
    rw [Builtin.SmallTypes.stopIteration]
    simp only [newExc, newTuple]
    apply wpAny_bind; apply wpAny_bind; refine wpAny_newObj_type ?_ (by size_fits)
    apply wpAny_bind (m := firstArgMember _ _); apply wpAny_of_eq (a := Value.none) (by first | rfl | (simp only [firstArgMember]; rfl))
    refine wpAny_newObj_type ?_ (by size_fits)
    simp only [raiseNew]
    apply wpAny_bind; apply wpAny_handled
    rw [hh]
    refine wpAny_bind (wpAny_pure (wpAny_throw ?_))
    exact hE _ _ (m3.ext fun c o _ _ _ _ e => Heap.get?_push_of_some _ (Heap.get?_push_of_some _ e)) ⟨_, Heap.get?_push_size _ rfl, rfl⟩
theorem zipS_next_item {Q : Value → Shared → Prop} (S : ZipSep2 z ti tu i1 i2 fp1 fp2) (D1 : Draws prog w A i1 fp1 n1 P1 St1) (D2 : Draws prog w A i2 fp2 n2 P2 St2)
    (hz : ZipS s.heap z ti tu .none) (hti : IsTupOf2 s.heap ti (.ref i1) (.ref i2)) (htu : IsTupOf2 s.heap tu a1 a2) (st1 : St1 i s.heap) (st2 : St2 i s.heap) (lt1 : i < n1) (lt2 : i < n2)
    (hQ : ∀ x1 x2 h' tk, P1 i x1 → P2 i x2 → ZipS h' z ti tu (rawInt s.heap.objs.size) → IsTupOf2 h' tu x1 x2 → St1 (i + 1) h' → St2 (i + 1) h' → IsTupOf2 h' s.heap.objs.size x1 x2 → h'.objs.size = s.heap.objs.size + 1 →
      (∀ c o, c ≠ z → c ≠ tu → c ≠ i1 → c ≠ i2 → s.heap.get? c = some o → h'.get? c = some o) → Q (.ref s.heap.objs.size) { s with heap := h', toks := tk }) :
    wpAny (model prog w) A (Builtin.«zip.__next__» ⟨[.ref z], []⟩) (fun fin s' => ∃ v, fin = .done (.ret v) ∧ Q v s') E s :=
  zipS_ask S D1 D2 hz hti st1 st2 (.inl ⟨lt1, lt2, rfl, htu, fun x1 x2 h' tk p q r t u => ⟨_, rfl, hQ x1 x2 h' tk p.1 p.2 q.1 q.2.1 r.1 r.2 q.2.2 t u⟩⟩)
theorem zipS_next_end {Q : Fin → Shared → Prop} (hh : A.handled = none) (S : ZipSep2 z ti tu i1 i2 fp1 fp2) (D1 : Draws prog w A i1 fp1 n1 P1 St1) (D2 : Draws prog w A i2 fp2 n2 P2 St2)
    (hz : ZipS s.heap z ti tu .none) (hti : IsTupOf2 s.heap ti (.ref i1) (.ref i2)) (st1 : St1 n1 s.heap) (st2 : St2 n2 s.heap)
    (hE : ∀ h' e, (∀ c o, c ≠ z → c ≠ tu → c ≠ i1 → c ≠ i2 → s.heap.get? c = some o → h'.get? c = some o) → (∃ o, h'.get? e = some o ∧ o.cls = .type "StopIteration") → E (.ref e) { s with heap := h' }) :
    wpAny (model prog w) A (Builtin.«zip.__next__» ⟨[.ref z], []⟩) Q E s :=
  zipS_ask (a1 := .none) (a2 := .none) S D1 D2 hz hti st1 st2 (.inr ⟨rfl, rfl, hh, hE⟩)
end
end Mm

namespace Mm
open PySem PySem.Spec PyProof.Rows L2
/-! ### a list or a tuple, told by a truth -/
def SqB (k : Bool) (K : PySem.W.Frag) (H : Hp) (a : Addr) (xs : List V) : Prop := match k with
  | true => SqT K H a xs
  | false => SqL K H a xs
def IterB (k : Bool) (h : Heap) (it a : Addr) (i : Nat) : Prop := match k with
  | true => h.IsTupleIter it a i
  | false => h.IsListIter it a i
def SeqB (k : Bool) (h : Heap) (a : Addr) (its : Array Value) : Prop := match k with
  | true => h.IsTuple a its
  | false => h.IsList a its
def iterO (k : Bool) (a : Addr) : Obj := match k with
  | true => { cls := .type "tuple_iterator", data := .fields #[.ref a, .int 0 0] }
  | false => { cls := .type "list_iterator", data := .fields #[.ref a, .int 0 0] }
theorem drawsB {prog : Program} {w : World} {A : Around} (k : Bool) (hh : A.handled = none) (it a : Addr) (hne : a ≠ it) (its : Array Value) : Draws prog w A it [it, a] its.size (fun i v => its[i]? = some v) (fun i h => IterB k h it a i ∧ SeqB k h a its) := by
  cases k
  · exact Draws.list hh it a hne its
  · exact Draws.tuple hh it a hne its
theorem beginsB (k : Bool) (a : Addr) (its : Array Value) : Begins (.ref a) (iterO k a) fun h => SeqB k h a its := by
  cases k
  · exact begins_list a its
  · exact begins_tuple a its
theorem iterB_new {k : Bool} {h : Heap} {it a : Addr} (e : h.get? it = some (iterO k a)) : IterB k h it a 0 := by
  cases k
  · exact ⟨_, e, rfl, rfl⟩
  · exact ⟨_, e, rfl, rfl⟩
theorem IterB.obj {k : Bool} {h : Heap} {it a : Addr} {i : Nat} (x : IterB k h it a i) : ∃ o, h.get? it = some o ∧ ∀ v, o.data ≠ .cell v := by
  cases k
  · obtain ⟨o, e, _, d⟩ := x
    exact ⟨o, e, fun v q => by rw [d] at q; cases q⟩
  · obtain ⟨o, e, _, d⟩ := x
    exact ⟨o, e, fun v q => by rw [d] at q; cases q⟩
theorem IterB.at {k : Bool} {h h' : Heap} {it a : Addr} {i : Nat} (x : IterB k h it a i) (e : ∀ o, h.get? it = some o → h'.get? it = some o) : IterB k h' it a i := by
  cases k
  · exact Heap.IsListIter.at x e
  · exact Heap.IsTupleIter.at x e
theorem SqB.seq {k : Bool} {X : Cx} {pins : List (Addr × Obj)} {σ : L2.St} {H : Hp} {s : Shared} {a : Addr} {xs : List V} (I : Inv X pins σ H s) (h : SqB k X.K H a xs) : ∃ its : List Value, Vals xs its ∧ SeqB k s.heap a its.toArray ∧ a < s.heap.objs.size := by
  cases k
  · obtain ⟨its, rv, p, _⟩ := I.list h
    exact ⟨its, rv, p.isList, p.lt⟩
  · obtain ⟨its, rv, p, _⟩ := I.tuple h
    obtain ⟨o, ho, _⟩ := id p
    exact ⟨its, rv, p, Heap.lt_size ho⟩
theorem SqB.inj {k : Bool} {X : Cx} {pins : List (Addr × Obj)} {σ : L2.St} {H : Hp} {s : Shared} {a : Addr} {xs ys : List V} (I : Inv X pins σ H s) (h : SqB k X.K H a xs) (h' : SqB k X.K H a ys) : xs = ys := by
  cases k
  · exact I.list_inj h h'
  · exact I.tuple_inj h h'
/-- the pairs -/
def ItS (k1 k2 : Bool) (K : PySem.W.Frag) (a b : Addr) : It where
  go := fun i H => ∃ (xs ys : List V) (x y : V), SqB k1 K H a xs ∧ SqB k2 K H b ys ∧ xs[i]? = some x ∧ ys[i]? = some y
  yld := fun i H v H' => ∃ T x y, v = .ref T ∧ H T = none ∧ H' = upd H T (.tup [x, y]) ∧ (∀ xs, SqB k1 K H a xs → xs[i]? = some x) ∧ ∀ ys, SqB k2 K H b ys → ys[i]? = some y
  stop := fun i H => ∃ xs ys : List V, SqB k1 K H a xs ∧ SqB k2 K H b ys ∧ xs.length = i ∧ ys.length = i
structure Apart (z ti tu i1 i2 a b : Addr) : Prop where
  sep : ZipSep2 z ti tu i1 i2 [i1, a] [i2, b]
  ai : a ≠ i1
  bi : b ≠ i2
theorem apart_new (n a b : Nat) (ha : a < n) (hb : b < n) : Apart (n + 4) (n + 2) (n + 3) n (n + 1) a b :=
  ⟨zip_sep2 (N := n) (fp1 := [a]) (fp2 := [b]) (fun c hc => by rw [List.mem_singleton.mp hc]; exact ha) (fun c hc => by rw [List.mem_singleton.mp hc]; exact hb), by show (a : Nat) ≠ n; omega, by show (b : Nat) ≠ n + 1; omega⟩
theorem go_zipS {prog : Program} {w : World} {A : Around} {E : Value → Shared → Prop} {s : Shared} {elts : List Expr} {k : Nat} {pos : Pos} {z ti tu T : Addr} {Q : Unit → Shared → Prop} (hz : ZipS s.heap z ti tu (rawInt T))
    (hQ : ∀ h', ZipS h' z ti tu .none → Heap.SameBut z s.heap h' → Q () { s with heap := h' }) : wpAny (model prog w) A (letOwnedTupleGo (.Tuple elts k pos) (.ref z) (.ref T)) Q E s := by
  unfold letOwnedTupleGo
  refine wpAny_bind (wpAny_load hz ?_)
  simp only
  rw [if_pos (by simp)]
  exact wpAny_bind (wpAny_rule (wpAny_setField_rec hz (by simp) fun h' z' sb => hQ h' z' sb))
theorem next_zipS {prog : Program} {w : World} {A : Around} {E : Value → Shared → Prop} {s : Shared} {z ti tu i1 i2 : Addr} {fp1 fp2 : List Addr} {n1 n2 i : Nat} {P1 P2 : Nat → Value → Prop} {St1 St2 : Nat → Heap → Prop} {a1 a2 : Value} {Q : Option Value → Shared → Prop} (S : ZipSep2 z ti tu i1 i2 fp1 fp2)
    (D1 : Draws prog w A.in1 i1 fp1 n1 P1 St1) (D2 : Draws prog w A.in1 i2 fp2 n2 P2 St2) (hz : ZipS s.heap z ti tu .none) (hti : IsTupOf2 s.heap ti (.ref i1) (.ref i2)) (htu : IsTupOf2 s.heap tu a1 a2) (st1 : St1 i s.heap) (st2 : St2 i s.heap) (lt1 : i < n1) (lt2 : i < n2)
    (hQ : ∀ x1 x2 h' tk, P1 i x1 → P2 i x2 → ZipS h' z ti tu (rawInt s.heap.objs.size) → IsTupOf2 h' tu x1 x2 → St1 (i + 1) h' → St2 (i + 1) h' → IsTupOf2 h' s.heap.objs.size x1 x2 → h'.objs.size = s.heap.objs.size + 1 →
      (∀ c o, c ≠ z → c ≠ tu → c ≠ i1 → c ≠ i2 → s.heap.get? c = some o → h'.get? c = some o) → Q (some (.ref s.heap.objs.size)) { s with heap := h', toks := tk }) : wpAny (model prog w) A (pyNext (.ref z)) Q E s := by
  have ty : s.TypeIs (.ref z) "zip" := ⟨_, hz, rfl⟩
  unfold pyNext
  exact wpAny_bind (wpAny_attempt (wpAny_callSpecial?_slot (name := Str.ofString "__next__") ty F.slot_zip_next (wpAny_call_entry F.slot_zip_next ty F.entry_zip_next
    (zipS_next_item S D1 D2 hz hti htu st1 st2 lt1 lt2 fun x1 x2 h' tk y1 y2 b1 b2 d1 d2 b5 b6 b7 => wpAny_pure (hQ x1 x2 h' tk y1 y2 b1 b2 d1 d2 b5 b6 b7)) (F.args_zip_next_1 _))))
theorem end_zipS {prog : Program} {w : World} {A : Around} {E : Value → Shared → Prop} {s : Shared} {z ti tu i1 i2 : Addr} {fp1 fp2 : List Addr} {n1 n2 : Nat} {P1 P2 : Nat → Value → Prop} {St1 St2 : Nat → Heap → Prop} {Q : Option Value → Shared → Prop} (hh : A.handled = none) (S : ZipSep2 z ti tu i1 i2 fp1 fp2)
    (D1 : Draws prog w A.in1 i1 fp1 n1 P1 St1) (D2 : Draws prog w A.in1 i2 fp2 n2 P2 St2) (hz : ZipS s.heap z ti tu .none) (hti : IsTupOf2 s.heap ti (.ref i1) (.ref i2)) (st1 : St1 n1 s.heap) (st2 : St2 n2 s.heap)
    (hQ : ∀ h', (∀ c o, c ≠ z → c ≠ tu → c ≠ i1 → c ≠ i2 → s.heap.get? c = some o → h'.get? c = some o) → Q none { s with heap := h' }) : wpAny (model prog w) A (pyNext (.ref z)) Q E s := by
  have ty : s.TypeIs (.ref z) "zip" := ⟨_, hz, rfl⟩
  unfold pyNext
  refine wpAny_bind (wpAny_attempt (wpAny_callSpecial?_slot (name := Str.ofString "__next__") ty F.slot_zip_next (wpAny_call_entry F.slot_zip_next ty F.entry_zip_next
    (zipS_next_end (A := A.in1) hh S D1 D2 hz hti st1 st2 fun h' e hk he => ?_) (F.args_zip_next_1 _))))
  obtain ⟨o, ho, hc⟩ := he
  exact wpAny_bind (wpAny_isInstance (T := "StopIteration") (b := true) ⟨o, ho, hc⟩ isSubtype_stop (wpAny_pure (hQ _ hk)))
theorem turn_zipS {P : Program} {w : World} {K : PySem.W.Frag} {elts : List Expr} {kk : Nat} {tpos : Pos} {k1 k2 : Bool} {a b z ti tu i1 i2 : Addr} (D : Apart z ti tu i1 i2 a b) :
    Turn P w K (.Tuple elts kk tpos) (ItS k1 k2 K a b) [z, ti, tu, i1, i2] z (fun i h => ZipS h z ti tu .none ∧ IsTupOf2 h ti (.ref i1) (.ref i2) ∧ (∃ x y, IsTupOf2 h tu x y) ∧ IterB k1 h i1 a i ∧ IterB k2 h i2 b i) where
  mem := by simp
  obj := fun i h st c hc => by
    obtain ⟨hz, h1, ⟨x, y, h2⟩, h3, h4⟩ := st
    simp only [List.mem_cons, List.not_mem_nil, or_false] at hc
    rcases hc with q | q | q | q | q <;> subst q
    · exact ⟨_, hz, fun v q => nomatch q⟩
    · exact ⟨_, h1, fun v q => nomatch q⟩
    · exact ⟨_, h2, fun v q => nomatch q⟩
    · exact h3.obj
    · exact h4.obj
  keep := fun i h h' st k => by
    obtain ⟨hz, h1, ⟨x, y, h2⟩, h3, h4⟩ := st
    exact ⟨k z (by simp) _ hz, k ti (by simp) _ h1, ⟨x, y, k tu (by simp) _ h2⟩, h3.at fun o q => k i1 (by simp) o q, h4.at fun o q => k i2 (by simp) o q⟩
  item := by
    intro X hP hw hK hc i pins s σ H E I hf st hg
    subst hP hw hK
    obtain ⟨hz, hti, ⟨x0, y0, htu⟩, h1, h2⟩ := st
    obtain ⟨xs, ys, x, y, qx, qy, hx, hy⟩ := hg
    obtain ⟨us, rv, p1, _⟩ := qx.seq I
    obtain ⟨us2, rv2, p2, _⟩ := qy.seq I
    obtain ⟨u, hu, ru⟩ := rv.get hx
    obtain ⟨u2, hu2, ru2⟩ := rv2.get hy
    have zl : z < s.heap.objs.size := Heap.lt_size hz
    have lt1 : i < us.toArray.size := by rw [List.size_toArray]; exact (List.getElem?_eq_some_iff.mp hu).1
    have lt2 : i < us2.toArray.size := by rw [List.size_toArray]; exact (List.getElem?_eq_some_iff.mp hu2).1
    refine next_zipS D.sep (drawsB (A := X.A.in1) k1 (I.ok.hd hc) i1 a D.ai us.toArray) (drawsB (A := X.A.in1) k2 (I.ok.hd hc) i2 b D.bi us2.toArray) hz hti htu ⟨h1, p1⟩ ⟨h2, p2⟩ lt1 lt2 fun y1 y2 h' tk e1 e2 z' tu' j1 j2 hT hsz hk => ?_
    have ey1 : y1 = u := by
      have e3 : us[i]? = some y1 := by simpa using e1
      rw [hu] at e3
      exact (Option.some.inj e3).symm
    have ey2 : y2 = u2 := by
      have e3 : us2[i]? = some y2 := by simpa using e2
      rw [hu2] at e3
      exact (Option.some.inj e3).symm
    subst ey1 ey2
    refine ⟨_, rfl, go_zipS (s := { s with heap := h', toks := tk }) z' fun h'' z'' sb => ?_⟩
    have t2 : h''.get? s.heap.objs.size = some { cls := .type "tuple", data := .seq #[y1, y2] } := (sb.2 _ (Nat.ne_of_gt zl)).trans hT
    have new : ObjOk X.prog X.w (upd H s.heap.objs.size (.tup [x, y])) h'' s.heap.objs.size (.tup [x, y]) := ⟨by show 2 ≤ sizeLine; decide, [y1, y2], .cons ru (.cons ru2 .nil), ⟨_, t2, rfl, _, rfl⟩⟩
    have keepc : ∀ c o, c ∉ [z, ti, tu, i1, i2] → s.heap.get? c = some o → h''.get? c = some o := fun c o hb q => by
      simp only [List.mem_cons, List.not_mem_nil, or_false, not_or] at hb
      exact (sb.2 c hb.1).trans (hk c o hb.1 hb.2.2.1 hb.2.2.2.1 hb.2.2.2.2 q)
    have I1 : Inv X pins σ (upd H s.heap.objs.size (.tup [x, y])) { s with heap := h'', toks := tk } := I.turnedNew (t' := tk) (ch := [z, ti, tu, i1, i2]) keepc hf (Nat.le_refl _) new
    refine ⟨.ref s.heap.objs.size, _, I1, rfl, ⟨_, x, y, rfl, I.hok.fresh (Nat.le_refl _), rfl, fun l hl => by rw [hl.inj I qx]; exact hx, fun l hl => by rw [hl.inj I qy]; exact hy⟩, ⟨z'', ?_, ⟨y1, y2, ?_⟩, ?_, ?_⟩, fun c hcm => ?_⟩
    · exact (sb.2 _ D.sep.TIz).trans (hk _ _ D.sep.TIz D.sep.TITO D.sep.TIi1 D.sep.TIi2 hti)
    · exact (sb.2 _ D.sep.TOz).trans tu'
    · exact j1.1.at fun o q => (sb.2 _ D.sep.zi1.symm).trans q
    · exact j2.1.at fun o q => (sb.2 _ D.sep.zi2.symm).trans q
    · have hlt : c < s.heap.objs.size := by
        simp only [List.mem_cons, List.not_mem_nil, or_false] at hcm
        rcases hcm with q | q | q | q | q <;> subst q
        · exact zl
        · exact Heap.lt_size hti
        · exact Heap.lt_size htu
        · obtain ⟨_, e1, _⟩ := h1.obj; exact Heap.lt_size e1
        · obtain ⟨_, e1, _⟩ := h2.obj; exact Heap.lt_size e1
      rw [upd_ne (Nat.ne_of_lt hlt)]
      exact (hf c hcm).1
  done := by
    intro X hP hw hK hc i pins s σ H E I hf st hg
    subst hP hw hK
    obtain ⟨hz, hti, ⟨x0, y0, htu⟩, h1, h2⟩ := st
    obtain ⟨xs, ys, qx, qy, lx, ly⟩ := hg
    obtain ⟨us, rv, p1, _⟩ := qx.seq I
    obtain ⟨us2, rv2, p2, _⟩ := qy.seq I
    have n1 : us.toArray.size = i := by rw [List.size_toArray, ← rv.length]; exact lx
    have n2 : us2.toArray.size = i := by rw [List.size_toArray, ← rv2.length]; exact ly
    refine end_zipS (I.ok.hd hc) D.sep (drawsB (A := X.A.in1) k1 (I.ok.hd hc) i1 a D.ai us.toArray) (drawsB (A := X.A.in1) k2 (I.ok.hd hc) i2 b D.bi us2.toArray) hz hti ⟨by rw [n1]; exact h1, p1⟩ ⟨by rw [n2]; exact h2, p2⟩ fun h' hk => ⟨rfl, ?_⟩
    refine I.turnedL (t' := s.toks) (ch := [z, ti, tu, i1, i2]) (fun c o hb q => ?_) hf
    simp only [List.mem_cons, List.not_mem_nil, or_false, not_or] at hb
    exact hk c o hb.1 hb.2.2.1 hb.2.2.2.1 hb.2.2.2.2 q
  self := fun A i s Q E st h => by
    have ty : s.TypeIs (.ref z) "zip" := ⟨_, st.1, rfl⟩
    refine wpAny_pyIter_slot ty F.slot_zip_iter (wpAny_call_entry F.slot_zip_iter ty F.entry_zip_iter ?_ (F.args_zip_iter_1 _))
    show wpAny _ _ (ret (.ref z)) _ _ s
    exact wpAny_pure ⟨_, rfl, "zip", _, ty, F.slot_zip_next.lookup, h⟩
end Mm

namespace Mm
open PySem PySem.Spec PyProof.Rows L2
section
variable {X : Cx} {E : XK}
theorem callWith_tyKw {M : Model} {A : Around} {EE : Value → Shared → Prop} {s : Shared} {pos : Pos} {T : String} {args : List (Bool × Sem Value)} {kws : List (Option Str × Sem Value)} {Q : Value → Shared → Prop} (h1 : args.any (·.1) = false) (h2 : kws.any (·.1.isNone) = false)
    (h : wpAny M A (evalArgs (.type T) true args kws) (fun a s1 => wpAny M A (call (.type T) a.pos a.kw) Q EE s1) EE s) : wpAny M A (callWith pos (.type T) [] args kws) Q EE s := by
  unfold callWith
  refine wpAny_bind (wpAny_holding (wpAny_mono h (fun a s1 k1 => wpAny_bind (wpAny_standAt ?_)) fun _ _ x => x))
  simp only [h1, h2, Bool.or_false]
  exact wpAny_bind (wpAny_pure (wpAny_bind (wpAny_mono k1 (fun r s2 hr => wpAny_bind (wpAny_holding (wpAny_point (wpAny_pure hr)))) fun _ _ x => x)))
/-- zip(a, b, strict=True), each a list or a tuple -/
def iZipS (K : PySem.W.Frag) (ta : TA) : TI := fun σ H R => ta σ H fun vs H1 => ∃ a b xs ys k1 k2, vs = [.ref a, .ref b] ∧ SqB k1 K H1 a xs ∧ SqB k2 K H1 b ys ∧ R (ItS k1 k2 K a b) H1
theorem pi_zipS {e e2 : Expr} {ta : TA} {p pos tpos kp kp2 : Pos} {j : Nat} {elts : List Expr} {kk : Nat} (hg : Gl X "zip") (hm : X.mg "zip" = none) (ha : PA X [e, e2] ta)
    (hs : starEach [e, e2] X.env = (false, eval e X.env) :: starEach [e2] X.env := by rfl) (hpl : (backTo pos (starEach [e, e2] X.env)).any (·.1) = false := by rfl) (hbt : backTo pos (starEach [e, e2] X.env) = (false, eval e X.env) :: backTo pos (starEach [e2] X.env) := by rfl) :
    PI X (.Tuple elts kk tpos) (.Call (.Name "zip" p) [e, e2] [⟨some "strict", .Constant (.bool true) j kp, kp2⟩] pos) (iZipS X.K ta) := by
  refine ⟨fun pins s σ H R I h => ?_⟩
  refine wpAny_Call_Name_kw (ld_blt I hg hm PyProof.Rows.boot_zip ?_)
  refine callWith_tyKw hpl rfl ?_
  have hA := ha.run pos pins s σ H _ I h
  rw [hbt] at hA ⊢
  refine evalArgs_kwB rfl (thn hA fun us s1 z => ?_)
  obtain ⟨vs, H1, I1, r1, a, b, xs, ys, k1, k2, ex, qx, qy, q⟩ := z
  subst ex
  refine kws_cons (Constant_bool (kws_nil ?_))
  cases r1 with
  | cons r rr =>
    cases rr with
    | cons r' rr =>
      cases rr
      cases r
      cases r'
      obtain ⟨us1, rv1, p1, la⟩ := qx.seq I1
      obtain ⟨us2, rv2, p2, lb⟩ := qy.seq I1
      refine zipS_begins (beginsB k1 a us1.toArray) (beginsB k2 b us2.toArray) p1 p2 fun h' hz hti htu g1 g2 hk => ?_
      have ty : Shared.TypeIs { s1 with heap := h' } (.ref (s1.heap.objs.size + 4)) "zip" := ⟨_, hz, rfl⟩
      have D := apart_new s1.heap.objs.size a b la lb
      have T := turn_zipS (P := X.prog) (w := X.w) (K := X.K) (elts := elts) (kk := kk) (tpos := tpos) (k1 := k1) (k2 := k2) D
      have st : ZipS h' (s1.heap.objs.size + 4) (s1.heap.objs.size + 2) (s1.heap.objs.size + 3) .none ∧ IsTupOf2 h' (s1.heap.objs.size + 2) (.ref s1.heap.objs.size) (.ref (s1.heap.objs.size + 1)) ∧ (∃ x y, IsTupOf2 h' (s1.heap.objs.size + 3) x y) ∧ IterB k1 h' s1.heap.objs.size a 0 ∧ IterB k2 h' (s1.heap.objs.size + 1) b 0 := ⟨hz, hti, ⟨_, _, htu⟩, iterB_new g1, iterB_new g2⟩
      refine T.self X.A 0 { s1 with heap := h' } _ _ st ?_
      have I2 : Inv X pins σ H1 { s1 with heap := h' } := I1.kept (t' := s1.toks) hk
      refine ⟨s1.heap.objs.size + 4, _, _, _, H1, rfl, I2, T, st, fun c hc => ?_, q⟩
      simp only [List.mem_cons, List.not_mem_nil, or_false] at hc
      have hle : s1.heap.objs.size ≤ c := by
        rcases hc with z | z | z | z | z <;> subst z
        · exact Nat.le_add_right _ _
        · exact Nat.le_add_right _ _
        · exact Nat.le_add_right _ _
        · exact Nat.le_refl _
        · exact Nat.le_add_right _ _
      exact I1.fpOk hle (I1.hok.fresh hle)
/-! its mirror: lists and tuples that stand still -/
def still : W → Option (List W)
  | .tup ws => some ws
  | .ktp ws => some ws
  | .lst ws => some ws
  | .arr ws => some ws
  | _ => none
def pairs : List W → List W → List W
  | x :: xs, y :: ys => .tup [x, y] :: pairs xs ys
  | _, _ => []
def mZipS (t : MW (List W)) : MW (List W) := mBind t fun ws => fun _ S => match ws with
  | [x, y] => match still x, still y with
    | some xs, some ys => if xs.length = ys.length then .ok (pairs xs ys) S else .stuck
    | _, _ => .stuck
  | _ => .stuck
theorem still_ok {K : PySem.W.Frag} {ι : Im} {n : Nat} {H : Hp} {w : W} {v : V} {ws : List W} (r : Rep K ι n H w v) (e : still w = some ws) : ∃ a xs k, v = .ref a ∧ Reps K ι n H ws xs ∧ ∀ ι' n' H', Mv ι n H ι' n' H' → SqB k K H' a xs := by
  cases r with
  | @tup _ a xs h r => cases e; exact ⟨a, xs, true, rfl, r, fun _ _ _ e => (e.fzT h).sq⟩
  | @ktp _ a xs h r => cases e; exact ⟨a, xs, true, rfl, r, fun _ _ _ e => .inr h⟩
  | @lst _ a xs h r => cases e; exact ⟨a, xs, false, rfl, r, fun _ _ _ e => .inl (.inl (e.fz _ _ h).at_)⟩
  | @arr _ a xs h r => cases e; exact ⟨a, xs, false, rfl, r, fun _ _ _ e => (e.fzL h).sq⟩
  | _ => cases e
theorem pairs_get : ∀ {xs ys : List W} {i : Nat} {w : W}, (pairs xs ys)[i]? = some w → ∃ x y, xs[i]? = some x ∧ ys[i]? = some y ∧ w = .tup [x, y]
  | [], _, i, w, h => by cases i <;> cases h
  | _ :: _, [], i, w, h => by cases i <;> cases h
  | x :: xs, y :: ys, 0, w, h => by
    cases h
    exact ⟨x, y, rfl, rfl, rfl⟩
  | x :: xs, y :: ys, i + 1, w, h => pairs_get (xs := xs) (ys := ys) (i := i) h
theorem pairs_len : ∀ {xs ys : List W}, xs.length = ys.length → (pairs xs ys).length = xs.length
  | [], _, _ => rfl
  | x :: xs, [], h => by cases h
  | x :: xs, y :: ys, h => by
    show (pairs xs ys).length + 1 = xs.length + 1
    rw [pairs_len (Nat.succ.inj h)]
theorem yl_zipS {K : PySem.W.Frag} {ι : Im} {n : Nat} {H : Hp} {xs ys : List W} {xv yv : List V} {a b : Addr} {k1 k2 : Bool} (hl : xs.length = ys.length) (rx : Reps K ι n H xs xv) (ry : Reps K ι n H ys yv) (sx : ∀ ι' n' H', Mv ι n H ι' n' H' → SqB k1 K H' a xv) (sy : ∀ ι' n' H', Mv ι n H ι' n' H' → SqB k2 K H' b yv) :
    Yl K (ItS k1 k2 K a b) (pairs xs ys) ι n H := by
  intro ι1 S1 H1 e1 rl1
  have qx := sx _ _ _ e1
  have qy := sy _ _ _ e1
  refine ⟨⟨xv, yv, qx, qy, by rw [pairs_len hl, rx.length], by rw [pairs_len hl, hl, ry.length]⟩, fun i w q => ?_⟩
  obtain ⟨x, y, hx, hy, rfl⟩ := pairs_get q
  obtain ⟨v, ev, rv⟩ := (rx.mv e1).get hx
  obtain ⟨u, eu, ru⟩ := (ry.mv e1).get hy
  refine ⟨⟨xv, yv, v, u, qx, qy, ev, eu⟩, fun z H' hz => ?_⟩
  obtain ⟨T, v', u', rfl, hT, rfl, f1, f2⟩ := hz
  have e3 : v = v' := Option.some.inj (ev.symm.trans (f1 xv qx))
  have e4 : u = u' := Option.some.inj (eu.symm.trans (f2 yv qy))
  subst e3 e4
  have ex := Ext.new (o := .tup [v, u]) rl1 hT
  exact ⟨ex, rl1.new hT, .tup (Fz.new rl1 hT) (.cons (rv.mono ex) (.cons (ru.mono ex) .nil))⟩
theorem ci_zipS {e e2 : Expr} {t : MW (List W)} {p pos tpos kp kp2 : Pos} {j : Nat} {elts : List Expr} {kk : Nat} (hg : Gl X "zip") (hm : X.mg "zip" = none) (ha : CA X E [e, e2] t)
    (hs : starEach [e, e2] X.env = (false, eval e X.env) :: starEach [e2] X.env := by rfl) (hpl : (backTo pos (starEach [e, e2] X.env)).any (·.1) = false := by rfl) (hbt : backTo pos (starEach [e, e2] X.env) = (false, eval e X.env) :: backTo pos (starEach [e2] X.env) := by rfl) :
    CI X E (.Tuple elts kk tpos) (.Call (.Name "zip" p) [e, e2] [⟨some "strict", .Constant (.bool true) j kp, kp2⟩] pos) (mZipS t) :=
  PI.weak (pi_zipS hg hm ha hs hpl hbt) fun σ H R ⟨ρ, ι, S, re, rl, h⟩ => ⟨ρ, ι, S, re, rl, (Post.bind h).mono fun ws S1 ι1 H1 e1 rl1 h1 vs rvs => by
    cases rvs with
    | nil => exact h1.elim
    | @cons x v _ _ a r =>
      cases r with
      | nil => exact h1.elim
      | @cons y u _ _ b r =>
        cases r with
        | cons _ _ => exact h1.elim
        | nil =>
          simp only at h1
          split at h1
          · rename_i xs ys q1 q2
            split at h1
            · rename_i hl
              obtain ⟨p1, xv, k1, rfl, rx, sx⟩ := still_ok a q1
              obtain ⟨p2, yv, k2, rfl, ry, sy⟩ := still_ok b q2
              exact ⟨p1, p2, xv, yv, k1, k2, rfl, sx _ _ _ Mv.refl, sy _ _ _ Mv.refl, h1 ι1 H1 Ext.refl rl1 _ (yl_zipS hl rx ry sx sy)⟩
            · exact h1.elim
          · exact h1.elim⟩
end
end Mm

/-! The mirror layer: dicts with text keys of the module's top; t[::-1]. -/
namespace Mm
open PySem PySem.Spec PyProof.Rows L2
/-! ### what the top has written, by names -/
mutual
def repB (K : PySem.W.Frag) : W → Value → Bool
  | .non, .none => true
  | .bl b, .bool c => b == c
  | .int i, .int j _ => decide (i = j)
  | .str x, .str y _ => decide (x = y)
  | .ty n, .type m => decide (n = m)
  | .glo x, .ref a => decide (a = He.ga K x)
  | .ktp ws, .ref a => (match K.lookup a with
    | some ⟨.type c, _, .seq its _, _⟩ => decide (c = "tuple") && (decide (its.size ≤ sizeLine) && repsB K ws its.toList)
    | _ => false)
  | .arr ws, .ref a => (match K.lookup a with
    | some ⟨.type c, none, .seq its _, _⟩ => decide (c = "list") && (decide (its.size ≤ sizeLine) && repsB K ws its.toList)
    | _ => false)
  | _, _ => false
def repsB (K : PySem.W.Frag) : List W → List Value → Bool
  | [], [] => true
  | w :: ws, u :: us => repB K w u && repsB K ws us
  | _, _ => false
end
mutual
theorem repB_ok {K : PySem.W.Frag} : ∀ {w : W} {u : Value}, repB K w u = true → ∃ v, RelV v u ∧ ∀ ι n H, Rep K ι n H w v
  | .non, u, h => by
    cases u <;> unfold repB at h <;> first | exact ⟨.non, rfl, fun _ _ _ => .non⟩ | cases h
  | .bl b, u, h => by
    cases u <;> unfold repB at h <;> first | cases h | (cases eq_of_beq h; exact ⟨.bl b, rfl, fun _ _ _ => .bl b⟩)
  | .int i, u, h => by
    cases u <;> unfold repB at h <;> first | cases h | (cases of_decide_eq_true h; exact ⟨.int i, ⟨_, rfl⟩, fun _ _ _ => .int i⟩)
  | .str x, u, h => by
    cases u <;> unfold repB at h <;> first | cases h | (cases of_decide_eq_true h; exact ⟨.str x, ⟨_, rfl⟩, fun _ _ _ => .str x⟩)
  | .ty n, u, h => by
    cases u <;> unfold repB at h <;> first | cases h | (cases of_decide_eq_true h; exact ⟨.ty n, rfl, fun _ _ _ => .ty n⟩)
  | .glo x, u, h => by
    cases u <;> unfold repB at h <;> first | cases h | (cases of_decide_eq_true h; exact ⟨.ref (He.ga K x), rfl, fun _ _ _ => .glo x⟩)
  | .loc l, u, h => by cases u <;> unfold repB at h <;> cases h
  | .tup ws, u, h => by cases u <;> unfold repB at h <;> cases h
  | .ktp ws, u, h => by
    cases u <;> unfold repB at h <;> try cases h
    rename_i a
    split at h
    · rename_i c d its m sl q
      obtain ⟨h1, h2⟩ := Bool.and_eq_true_iff.mp h
      obtain ⟨h3, h4⟩ := Bool.and_eq_true_iff.mp h2
      obtain ⟨vs, rv, rr⟩ := repsB_ok h4
      exact ⟨.ref a, rfl, fun ι n H => .ktp (⟨_, its, m, q, congrArg Value.type (of_decide_eq_true h1), rfl, of_decide_eq_true h3, rv⟩) (rr ι n H)⟩
    · cases h
  | .lst ws, u, h => by cases u <;> unfold repB at h <;> cases h
  | .arr ws, u, h => by
    cases u <;> unfold repB at h <;> try cases h
    rename_i a
    split at h
    · rename_i c its m sl q
      obtain ⟨h1, h2⟩ := Bool.and_eq_true_iff.mp h
      obtain ⟨h3, h4⟩ := Bool.and_eq_true_iff.mp h2
      obtain ⟨vs, rv, rr⟩ := repsB_ok h4
      exact ⟨.ref a, rfl, fun ι n H => .arr (.inr ⟨_, its, m, q, congrArg Value.type (of_decide_eq_true h1), rfl, rfl, of_decide_eq_true h3, rv⟩) (rr ι n H)⟩
    · cases h
  | .dct ks ws, u, h => by cases u <;> unfold repB at h <;> cases h
  | .dcT ks ws, u, h => by cases u <;> unfold repB at h <;> cases h
  | .obj C fs ws, u, h => by cases u <;> unfold repB at h <;> cases h
  | .exn C fs ws, u, h => by cases u <;> unfold repB at h <;> cases h
theorem repsB_ok {K : PySem.W.Frag} : ∀ {ws : List W} {us : List Value}, repsB K ws us = true → ∃ vs, Vals vs us ∧ ∀ ι n H, Reps K ι n H ws vs
  | [], us, h => by
    cases us with
    | nil => exact ⟨[], .nil, fun _ _ _ => .nil⟩
    | cons _ _ => unfold repsB at h; cases h
  | w :: ws, us, h => by
    cases us with
    | nil => unfold repsB at h; cases h
    | cons u us =>
      unfold repsB at h
      obtain ⟨h1, h2⟩ := Bool.and_eq_true_iff.mp h
      obtain ⟨v, a1, a2⟩ := repB_ok h1
      obtain ⟨vs, b1, b2⟩ := repsB_ok h2
      exact ⟨v :: vs, .cons a1 b1, fun ι n H => .cons (a2 ι n H) (b2 ι n H)⟩
end
/-- the module's name x is a dict with these text keys and values -/
structure KDW (K : PySem.W.Frag) (w : World) (x : Str) (kvs : List (Str × W)) : Prop where
  d : ∃ es n, KDict K w (He.ga K x) es n
  at_ : ∀ z v, kvs.lookup z = some v → ∃ u u', PySem.W.nsIn K (He.ga K x) z = some (some u) ∧ RelV u' u ∧ ∀ ι n H, Rep K ι n H v u'
  no : ∀ z, kvs.lookup z = none → PySem.W.nsIn K (He.ga K x) z = some none
def kdwB (K : PySem.W.Frag) (x : Str) (kvs : List (Str × W)) : Bool := kvs.all fun q => match PySem.W.nsIn K (He.ga K x) q.1 with
  | some (some u) => repB K q.2 u
  | _ => false
theorem ns_none {K : PySem.W.Frag} {w : World} {a : Addr} {ks : List Str} (h : He.dicW K a = some (He.keysIn w.params ks)) {z : Str} (hz : z ∉ ks) : PySem.W.nsIn K a z = some none := by
  unfold He.dicW at h
  split at h
  · rename_i c es n sl q
    split at h
    · have e : es.toList.map He.keyOf = He.keysIn w.params ks := Option.some.inj h
      have keys : ∀ d, d ∈ es.toList → ∃ y t, d.key = .str y t ∧ y ∈ ks := by
        intro d hd
        have m : He.keyOf d ∈ es.toList.map He.keyOf := List.mem_map.mpr ⟨d, hd, rfl⟩
        rw [e] at m
        unfold He.keysIn at m
        obtain ⟨k, hk, ek⟩ := List.mem_map.mp m
        unfold He.keyOf at ek
        split at ek
        · rename_i y t qy
          have e3 := congrArg Prod.fst (Option.some.inj ek)
          exact ⟨y, t, qy, by rw [← show k = y from e3]; exact hk⟩
        · cases ek
      unfold PySem.W.nsIn
      rw [q]
      simp only
      have f1 : es.toList.find? (fun d => d.key.isStr z) = none := by
        rw [List.find?_eq_none]
        intro d hd
        obtain ⟨y, t, ek, hy⟩ := keys d hd
        rw [ek]
        intro hh
        have : y = z := by simpa [Value.isStr] using hh
        exact hz (this ▸ hy)
      rw [f1]
      simp only
      rw [if_neg]
      intro hany
      obtain ⟨d, hd, hr⟩ := List.any_eq_true.mp hany
      obtain ⟨y, t, ek, _⟩ := keys d hd
      unfold DictEntry.refKey at hr
      rw [ek] at hr
      cases hr
    · cases h
  · cases h
theorem lookup_mem {α : Type} {z : Str} {v : α} : ∀ {l : List (Str × α)}, l.lookup z = some v → (z, v) ∈ l
  | [], h => by cases h
  | (k, u) :: l, h => by
    rw [List.lookup_cons] at h
    cases q : (z == k) with
    | true =>
      rw [q] at h
      cases h
      rw [eq_of_beq q]
      exact List.mem_cons_self
    | false =>
      rw [q] at h
      exact List.mem_cons_of_mem _ (lookup_mem h)
theorem lookup_no {α : Type} {z : Str} : ∀ {l : List (Str × α)}, l.lookup z = none → z ∉ l.map (·.1)
  | [], _ => by simp
  | (k, u) :: l, h => by
    rw [List.lookup_cons] at h
    cases q : (z == k) with
    | true => rw [q] at h; cases h
    | false =>
      rw [q] at h
      intro hm
      rcases List.mem_cons.mp hm with e | e
      · rw [e] at q
        simp at q
      · exact lookup_no h e
theorem kdw_of {K : PySem.W.Frag} {w : World} {x : Str} {kvs : List (Str × W)} (h1 : He.dicW K (He.ga K x) = some (He.keysIn w.params (kvs.map (·.1)))) (h2 : kdwB K x kvs = true) : KDW K w x kvs := by
  refine ⟨He.dicW_ok h1, fun z v e => ?_, fun z e => ns_none h1 (lookup_no e)⟩
  have h3 := List.all_eq_true.mp h2 (z, v) (lookup_mem e)
  simp only at h3
  split at h3
  · rename_i u q
    obtain ⟨u', a, b⟩ := repB_ok h3
    exact ⟨u, u', q, a, b⟩
  · cases h3
section
variable {X : Cx} {E : XK} {x : Str} {kvs : List (Str × W)}
/-- x[e], x a dict of the top -/
def fItemK (x : Str) (kvs : List (Str × W)) (d k : W) (S : Sto) : Res W := match d, k with
  | .glo y, .str z => if y = x then (match kvs.lookup z with
    | some v => .ok v S
    | none => .stuck) else .stuck
  | _, _ => .stuck
def rItemK (K : PySem.W.Frag) (x : Str) : R2 := fun d k H Q => ∃ (z : Str) (u0 : Value) (v0 : V), d = .ref (He.ga K x) ∧ k = .str z ∧ PySem.W.nsIn K (He.ga K x) z = some (some u0) ∧ RelV v0 u0 ∧ Q v0 H
theorem ix_kd {es : Array DictEntry} {n : Nat} (D : KDict X.K X.w (He.ga X.K x) es n) : IxR X (rItemK X.K x) := by
  intro value slice pins s σ H d k v u Q I rx ry h hs
  obtain ⟨z, u0, v0, rfl, rfl, e, r, q⟩ := h
  cases rx
  exact tail_any (kd_type D I) PySem.F.slot_dict_getitem.lookup (op_item_kd D pins s σ H (.ref (He.ga X.K x)) (.str z) _ _ Q I rfl ry ⟨z, u0, v0, rfl, rfl, e, r, q⟩) hs
theorem sim_itemK (D : KDW X.K X.w x kvs) : SimR X.K E (rItemK X.K x) (fItemK x kvs) := by
  intro d k dv kv ι S H Q rl rx ry h
  cases rx with
  | glo y =>
    cases ry with
    | str z =>
      have h' : PostV X.K E (if y = x then (match kvs.lookup z with
        | some v => Res.ok v S
        | none => .stuck) else .stuck) ι S.length H Q := h
      by_cases e : y = x
      · subst e
        rw [if_pos rfl] at h'
        split at h'
        · rename_i v q
          obtain ⟨u, u', a1, a2, a3⟩ := D.at_ z v q
          exact ⟨z, u, u', rfl, rfl, a1, a2, PostV.now h' rl (a3 _ _ _)⟩
        · exact h'.elim
      · rw [if_neg e] at h'
        exact h'.elim
    | _ => exact h.elim
  | _ => exact h.elim
theorem ce_itemK {a b : Expr} {ca cb : MV} {pos : Pos} (D : KDW X.K X.w x kvs) (ha : CE X E a ca) (hb : CE X E b cb) (hs : PlainIx b) : CE X E (.Subscript a b pos) (mOp (fItemK x kvs) ca cb) :=
  D.d.elim fun es h => h.elim fun n h => ce_ix (ix_kd h) (sim_itemK D) ha hb hs
/-- x.get(e), x a dict of the top -/
def mGetK (kvs : List (Str × W)) (c : MV) : MV := mBind c fun w => fun _ S => match w with
  | .str z => .ok ((kvs.lookup z).getD .non) S
  | _ => .stuck
theorem ce_getK {e : Expr} {c : MV} {p apos cpos : Pos} (D : KDW X.K X.w x kvs) (hg : Gl X x) (hm : X.mg x = some (.ref (He.ga X.K x))) (he : CE X E e c) (m : M1 X (.Name x p) "get" apos e cpos) (hd : (x == ("__debug__" : Str)) = false := by decide) :
    CE X E (.Call (.Attribute (.Name x p) "get" apos) [e] [] cpos) (mGetK kvs c) := by
  obtain ⟨es, n, kd⟩ := D.d
  refine ⟨fun pins s σ H Q I ⟨ρ, ι, S, re, rl, h⟩ => ?_⟩
  refine wpAny_Call_method m.base m.few m.line PySem.F.plainAttrs_dict PySem.F.slot_dict_get PySem.F.type_dict_get (ld_glob I hg hm ?_ hd)
  refine ⟨kd_type kd I, fun b q => ?_, ?_⟩
  · cases q
    exact ⟨_, I.kIn _ _ kd.at_, rfl⟩
  · rw [m.trees]
    refine Calls.callWith_builtin rfl (Calls.evalArgs_plain (Calls.spliced_cons (thn (he.run pins s σ H (fun y H2 => ∃ z, y = .str z ∧ ∀ v, (∃ u, PySem.W.nsIn X.K (He.ga X.K x) z = some u ∧ RelV v (u.getD .none)) → Q v H2) I ?_) fun iv s2 w => Calls.spliced_nil ?_)))
    · refine ⟨ρ, ι, S, re, rl, (Post.bind h).mono fun y S1 ι1 H1 e1 rl1 h1 yv ry => ?_⟩
      cases ry with
      | str z =>
        refine ⟨z, rfl, fun v ⟨u, a1, a2⟩ => ?_⟩
        have h2 : PostV X.K E (.ok ((kvs.lookup z).getD .non) S1) ι1 S1.length H1 Q := h1
        cases q : kvs.lookup z with
        | none =>
          rw [q] at h2
          rw [D.no z q] at a1
          cases a1
          cases RelV.inj (show RelV .non Value.none from rfl) a2
          exact PostV.now h2 rl1 .non
        | some v0 =>
          rw [q] at h2
          obtain ⟨u0, u', b1, b2, b3⟩ := D.at_ z v0 q
          rw [b1] at a1
          cases a1
          cases b2.inj a2
          exact PostV.now h2 rl1 (b3 _ _ _)
      | _ => exact h1.elim
    · obtain ⟨y, H2, I2, ry, z, rfl, fin⟩ := w
      obtain ⟨t, rfl⟩ := ry
      have mp := PySem.W.mapOf_K (prog := X.prog) (w := X.w) I2.kIn kd.at_ kd.lit
      obtain ⟨u, hu⟩ : ∃ u, PySem.W.nsIn X.K (He.ga X.K x) z = some u := by
        cases q : kvs.lookup z with
        | none => exact ⟨_, D.no z q⟩
        | some v0 =>
          obtain ⟨u0, u', b1, _⟩ := D.at_ z v0 q
          exact ⟨_, b1⟩
      refine call_meetsIn PySem.F.slot_dict_get mp.typeIs PySem.F.entry_dict_get (PySem.F.args_dict_get_2 _ _) (meets_dict_get (PySem.strKind X.prog X.w) (He.ga X.K x) (PySem.strKind_is X.prog X.w z t) kd.low) ⟨_, mp, ?_⟩
      rw [PySem.W.find_K kd.at_ hu]
      have rv : ∃ v, RelV v (u.getD .none) := by
        cases u with
        | none => exact ⟨.non, rfl⟩
        | some u0 =>
          cases q : kvs.lookup z with
          | none => rw [D.no z q] at hu; cases hu
          | some v0 =>
            obtain ⟨u1, u', b1, b2, _⟩ := D.at_ z v0 q
            rw [b1] at hu
            cases hu
            exact ⟨u', b2⟩
      obtain ⟨v, rv⟩ := rv
      exact ⟨v, H2, I2.tok _, rv, fin v ⟨u, hu, rv⟩⟩
end
end Mm

/-! The mirror layer: t[::-1] of a tuple. -/
namespace Mm
open PySem PySem.Spec PyProof.Rows L2
section
variable {prog : Program} {w : World} {A : Around} {E : Value → Shared → Prop} {s : Shared}
theorem places_rev (n : Nat) : Builtin.Slice.slicePlaces ((n : Int) - 1) (-1) (-1) = n := by
  rw [Builtin.Slice.slicePlaces, if_neg (by decide)]
  split
  · have : (- -1 : Int) = 1 := rfl
    rw [this, Int.ediv_one]; omega
  · omega
theorem fm_ext {α β : Type} {f g : α → Option β} : ∀ {l : List α}, (∀ a, a ∈ l → f a = g a) → l.filterMap f = l.filterMap g
  | [], _ => rfl
  | a :: l, h => by rw [List.filterMap_cons, List.filterMap_cons, h a List.mem_cons_self, fm_ext fun b hb => h b (List.mem_cons_of_mem _ hb)]
theorem pick_rev (xs : List Value) : ((List.range xs.length).filterMap fun (k : Nat) => xs.toArray[(((xs.length : Int) - 1) + (k : Int) * -1).toNat]?) = xs.reverse := by
  have e : ((List.range xs.length).filterMap fun (k : Nat) => xs.toArray[(((xs.length : Int) - 1) + (k : Int) * -1).toNat]?) = (List.range xs.length).filterMap ((fun j : Nat => xs.toArray[j]?) ∘ fun k => xs.length - 1 - k) := by
    refine fm_ext fun k hk => ?_
    have := List.mem_range.mp hk
    rw [show (((xs.length : Int) - 1) + (k : Int) * -1).toNat = xs.length - 1 - k by omega]
    rfl
  rw [e, ← List.filterMap_map, PySem.W.krv_range, List.filterMap_reverse]
  have z := PySem.W.krv_all xs.toArray
  rw [List.size_toArray] at z
  rw [z]
theorem item_tuple_rev {t sl : Addr} {xs : List Value} {vs : Value} {Q : Value → Shared → Prop} (ht : IsTup s.heap t xs.toArray) (hs : s.heap.IsSliceOf sl .none .none vs) (ps : IsPart vs (some (-1))) (hz : xs.length ≤ sizeLine)
    (h : Q (.ref s.heap.objs.size) { s with heap := s.heap.push { cls := .type "tuple", data := .seq xs.reverse.toArray } }) : wpAny (model prog w) A (getItem (.ref t) (.ref sl)) Q E s := by
  have ⟨os, hos, hcs, hds⟩ := hs
  have tup := ht.typeIs
  rw [getItem]
  try with_reducible apply wpAny_holding
  try (apply wpAny_bind; apply wpAny_pure)
  apply wpAny_bind; apply wpAny_sequenceKey tup (by decide)
  apply wpAny_bind; apply wpAny_callSpecial?_slot (name := Str.ofString "__getitem__") tup PyProof.Rows.slot_tuple_getitem
  refine wpAny_call_entry PyProof.Rows.slot_tuple_getitem tup PyProof.Rows.entry_tuple_getitem ?_ (PyProof.Rows.args_tuple_getitem _ _)
  change wpAny _ _ (Builtin.Tuple.tupleItemsOf (.ref t) >>= _) _ _ s
  apply wpAny_bind; apply tupleItemsOf_ ht
  apply wpAny_bind; apply wpAny_typeOf (show s.TypeIs (.ref sl) "slice" from ⟨os, hos, hcs⟩)
  rw [if_pos (by decide)]
  apply wpAny_bind
  rw [Builtin.Slice.sliceApplied, Builtin.Slice.sliceFields]
  apply wpAny_bind
  apply wpAny_bind; apply wpAny_field hos hds (x := .none) rfl
  apply wpAny_bind; apply wpAny_field hos hds (x := .none) rfl
  apply wpAny_bind; apply wpAny_field hos hds (x := vs) rfl
  apply wpAny_pure
  refine wpAny_bind (HT.slicePart_ ps ?_)
  show wpAny _ _ (if ((-1 : Int) == 0) = true then _ else _) _ _ s
  rw [if_neg (by decide)]
  refine wpAny_bind (HT.slicePart_ .none (wpAny_bind (HT.slicePart_ .none (wpAny_bind (wpAny_pure ?_)))))
  show wpAny _ _ (pure (((xs.toArray.size : Nat) : Int) - 1, (-1 : Int), Builtin.Slice.slicePlaces (((xs.toArray.size : Nat) : Int) - 1) (-1) (-1))) _ _ s
  rw [places_rev]
  refine wpAny_pure ?_
  simp only
  rw [if_neg (by
    intro q
    rw [Bool.and_eq_true, Bool.and_eq_true] at q
    exact absurd q.1.2 (by decide))]
  have ep : ((List.range xs.toArray.size).filterMap fun (k : Nat) => xs.toArray[(((xs.toArray.size : Nat) : Int) - 1 + (k : Int) * -1).toNat]?) = xs.reverse := by
    rw [List.size_toArray]
    exact pick_rev xs
  rw [ep]
  have fit : sizeOk (.seq xs.reverse.toArray) := by
    show xs.reverse.toArray.size ≤ sizeLine
    rw [List.size_toArray, List.length_reverse]
    exact hz
  first
    | exact wpAny_bind (m := Builtin.Tuple.tupleExact _) (wpAny_newObj_type (wpAny_pure ⟨_, rfl, wpAny_pure h⟩) fit)
    | exact wpAny_bind (m := Builtin.Tuple.tupleExact _) (wpAny_newObj_type (wpAny_bind (wpAny_pure (wpAny_pure ⟨_, rfl, wpAny_pure h⟩))) fit)
    | exact wpAny_bind (wpAny_bind (m := Builtin.Tuple.tupleExact _) (wpAny_newObj_type (wpAny_pure (wpAny_pure ⟨_, rfl, wpAny_pure h⟩)) fit))
    | exact wpAny_bind (wpAny_bind (m := Builtin.Tuple.tupleExact _) (wpAny_newObj_type (wpAny_pure ⟨_, rfl, wpAny_pure h⟩) fit))
end
section
variable {X : Cx} {E : XK}
def tRevT (K : PySem.W.Frag) (te : TE) : TE := fun σ H Q => te σ H fun x H1 => ∃ a xs, x = .ref a ∧ SqT K H1 a xs ∧ ∀ p, H1 p = none → Q (.ref p) (upd H1 p (.tup xs.reverse))
theorem pe_revT {e : Expr} {te : TE} {k : Nat} {p1 p2 p3 pos : Pos} (he : PE X e te) : PE X (.Subscript e (.Slice none none (some (.UnaryOp .USub (.Constant (.int 1) k p1) p2)) p3) pos) (tRevT X.K te) := by
  refine ⟨fun pins s σ H Q I h => ?_⟩
  refine Subscript_ (thn (he.run pins s σ H _ I h) fun v s1 z1 => ?_)
  obtain ⟨x, H1, I1, r1, a, xs, rfl, hx, q⟩ := z1
  cases r1
  have part : PO X (some (.UnaryOp .USub (.Constant (.int 1) k p1) p2)) (tPart (tUn (rU fun i => .int (-i)) (tC (.int 1)))) := po_some (pe_un un_neg pe_int)
  refine wpAny_Slice ?_
  rw [evalPart_none]
  refine wpAny_pure (wpAny_pure ?_)
  refine thn (part.run pins s1 σ H1 (fun o H4 => o = some (-1) ∧ H4 = H1) I1 ⟨1, rfl, -1, rfl, rfl, rfl⟩) fun vs s4 z4 => ?_
  obtain ⟨o, H4, I4, ps, rfl, rfl⟩ := z4
  have I5 : Inv X pins σ H4 { s4 with heap := s4.heap.push { cls := .type "slice", data := .fields #[.none, .none, vs] } } := I4.kept (t' := s4.toks) fun b ob z => Heap.get?_push_of_some _ z
  obtain ⟨its, r, ht, hz⟩ := I5.tuple hx
  refine tail_any (ops := [.ref a, .ref s4.heap.objs.size]) ht.typeIs PyProof.Rows.slot_tuple_getitem.lookup ?_ (by with_unfolding_all rfl)
  refine item_tuple_rev ht (Heap.IsSliceOf.new _ _ _ vs) ps (by rw [← r.length]; exact hz) ?_
  refine ⟨.ref _, _, I5.laid (t' := s4.toks) (o := .tup xs.reverse) (fun b ob z => Heap.get?_push_of_some _ z) (Nat.le_refl _) ?_, rfl, q _ (I5.hok.fresh (Nat.le_refl _))⟩
  exact ⟨by rw [List.length_reverse]; exact hz, its.reverse, r.reverse, ⟨_, Heap.get?_push_size _ rfl, rfl, _, rfl⟩⟩
def mRev (c : MV) : MV := mBind c fun w => fun _ S => match w with
  | .tup ws => .ok (.tup ws.reverse) S
  | w => match seqL S w with
    | some ws => .ok (.lst ws.reverse) S
    | none => .stuck
theorem ce_rev {e : Expr} {c : MV} {k : Nat} {p1 p2 p3 pos : Pos} (he : CE X E e c) : CE X E (.Subscript e (.Slice none none (some (.UnaryOp .USub (.Constant (.int 1) k p1) p2)) p3) pos) (mRev c) :=
  PE.weak (pe_or2 (pe_revT he) (pe_revL he)) fun σ H Q ⟨ρ, ι, S, re, rl, h⟩ => by
    have h' := Post.bind h
    cases q : c ρ S with
    | stuck => rw [q] at h'; exact h'.elim
    | err x S' => exact .inl ⟨ρ, ι, S, re, rl, by rw [q] at h' ⊢; exact h'⟩
    | ok w S' =>
      rw [q] at h'
      by_cases hw : ∃ ws, w = .tup ws
      · obtain ⟨ws, rfl⟩ := hw
        refine .inl ⟨ρ, ι, S, re, rl, ?_⟩
        rw [q]
        intro ι1 H1 e1 rl1 v rv
        cases rv with
        | @tup _ a xs hz r => exact ⟨a, xs, rfl, hz.sq, PostV.newT (h' ι1 H1 e1 rl1) rl1 r.reverse⟩
      · refine .inr ⟨ρ, ι, S, re, rl, ?_⟩
        rw [q]
        intro ι1 H1 e1 rl1 v rv
        have h2 := h' ι1 H1 e1 rl1
        simp only at h2
        split at h2
        · exact absurd ⟨_, rfl⟩ hw
        · split at h2
          · rename_i ws q2
            obtain ⟨a, xs, rfl, h3, h4⟩ := seqL_ok rl1 q2 rv
            exact ⟨a, xs, rfl, h3, PostV.newL h2 rl1 h4.reverse⟩
          · exact h2.elim
end
end Mm

/-! The mirror layer: list + list as an object of the store; levels. -/
namespace Mm
open PySem PySem.Spec PyProof.Rows L2
section
variable {K : PySem.W.Frag} {E : XK}
def fAddM (x y : W) (S : Sto) : Res W := match seqO S x, seqO S y with
  | some a, some b => if a.length + b.length ≤ sizeLine then .ok (.loc S.length) (S ++ [.lst (a ++ b)]) else .stuck
  | _, _ => .stuck
theorem sim_addM : SimR K E (rAddA K) fAddM := by
  intro x y xv yv ι S H Q rl rx ry h
  refine .inr (.inr (.inr ?_))
  unfold fAddM at h
  cases q1 : seqO S x with
  | none => rw [q1] at h; exact h.elim
  | some a =>
    cases q2 : seqO S y with
    | none => rw [q1, q2] at h; exact h.elim
    | some b =>
      rw [q1, q2] at h
      have h' : PostV K E (if a.length + b.length ≤ sizeLine then Res.ok (.loc S.length) (S ++ [.lst (a ++ b)]) else .stuck) ι S.length H Q := h
      by_cases z : a.length + b.length ≤ sizeLine
      · rw [if_pos z] at h'
        obtain ⟨p, xs, rfl, hx, r1⟩ := seqO_ok rl q1 rx
        obtain ⟨p2, ys, rfl, hy, r2⟩ := seqO_ok rl q2 ry
        exact ⟨p, p2, xs, ys, rfl, rfl, hx, hy, by rw [← r1.length, ← r2.length]; exact z, PostV.newLoc h' rl (r1.append r2)⟩
      · rw [if_neg z] at h'
        exact h'.elim
end
theorem FM.mono {P : Program} {w : World} {K : PySem.W.Frag} {mg : Str → Option Value} {base : Heap} {j k : Nat} {x : Str} {n : Nat} {m : MF} (F : FM P w K mg base j x n m) (h : j ≤ k) : FM P w K mg base k x n m := by
  obtain ⟨⟨fd, ps, hn, ok, bd⟩, gl, kp⟩ := F
  exact ⟨⟨fd, ps, hn, ok.mono h, bd⟩, gl, kp⟩
/-- the same rule, for the very function object -/
theorem fnd_of {P : Program} {w : World} {K : PySem.W.Frag} {mg : Str → Option Value} {base : Heap} {x : Str} {k : Nat} {params : Arguments} {body : List Stmt} {scope : Scope} {fd : FuncData} {N ps : List Str} {c : MS} (F : FunD K x x params body scope [] [] (He.ga K x) fd) (S : FnScope N ps scope)
    (hbody : ∀ (cdv : Value) (A : Around) (outer : List PySem.Env) (s : Shared) (H : Hp) (E : XK), Room k (A.deeper (envOfC x scope s.heap.objs.size (He.ga K x) cdv)) →
      CSs (cxOf CX0 P w K mg base N x scope (He.ga K x) cdv A outer s H E).nox E0 body c) : FnOk P w K mg base CX0 (k + 1) (He.ga K x) fd ps (sp0 K ps.length (mDef N.length c)) := by
  refine F.ok S (fun vs H Q E h => h.1) fun cdv A outer s H vs Q E hr h => ?_
  obtain ⟨hl, ws, ι, S, r, rl, h⟩ := h
  exact ⟨_, PSs.nox (hbody cdv A outer s H E hr), sim_def r rl h⟩
/-- the script is a list that nothing changes -/
theorem sp_start {K : PySem.W.Frag} {m : MF} {H : Hp} {a : Addr} {ns : List Int} (hO : Only H) (hS : SqL K H a (ns.map V.int)) (hm : ∃ S', m [.arr (ns.map W.int)] [] = .ok (.bl true) S') (E : XK) : sp0 K 1 m [.ref a] H (fun v _ => v = .bl true) E := by
  obtain ⟨S', e⟩ := hm
  have rs : ∀ (is : List Int), Reps K ⟨fun _ => a, []⟩ 0 H (is.map W.int) (is.map V.int) := by
    intro is
    induction is with
    | nil => exact .nil
    | cons i is ih => exact .cons (.int i) ih
  have hz : FzL K ⟨fun _ => a, []⟩ 0 H a (ns.map V.int) := by
    rcases hS with (h | ⟨o, h⟩) | h
    · rcases hO a with q | ⟨o, xs, q⟩
      · rw [q] at h; cases h
      · rw [q] at h; cases h
    · exact .inl ⟨o, .inl h, fun l hl => absurd hl (Nat.not_lt_zero _), fun hm => by cases hm⟩
    · exact .inr h
  refine ⟨rfl, [.arr (ns.map W.int)], ⟨fun _ => a, []⟩, [], .cons (.arr hz (rs ns)) .nil, ⟨fun l m hl => absurd hl (Nat.not_lt_zero _), fun l o q => by simp at q, fun b hb => (by cases hb), fun l hl => absurd hl (Nat.not_lt_zero _)⟩, ?_⟩
  rw [e]
  intro ι' H' _ _ v rv
  cases rv
  rfl
theorem tab_key {fa : List He.Fa} {fn : List He.DefD} {ts : List He.Tab} {w : World} {K : PySem.W.Frag} (c : He.SaysT fa fn ts w K) (i : Nat) {t : He.Tab} (h : ts[i]? = some t) : He.dicW K (t.1 K) = some (He.keysIn w.params t.2) := by
  have e : ts.map (fun t => He.dicW K (t.1 K)) = ts.map fun t => some (He.keysIn w.params t.2) := congrArg (fun z : He.AlT => z.2) c
  have e2 : (ts.map fun t => He.dicW K (t.1 K))[i]? = (ts.map fun t => some (He.keysIn w.params t.2))[i]? := by rw [e]
  rw [List.getElem?_map, List.getElem?_map, h] at e2
  exact Option.some.inj e2
end Mm

/-! The mirror layer: dicts. -/
namespace Mm
open PySem PySem.Spec PyProof.Rows L2
/-! ### keys -/
def keyW : W → Option Key
  | .int i => some (.inl i)
  | .str x => some (.inr x)
  | _ => none
def keysW : List W → Option (List Key)
  | [] => some []
  | w :: ws => match keyW w, keysW ws with
    | some k, some ks => some (k :: ks)
    | _, _ => none
inductive Dk where
  | K (ks : List Key) (ws : List W) | T (ks : List (List Key)) (ws : List W)
def dicO (S : Sto) : W → Option Dk
  | .dct ks ws => some (.K ks ws)
  | .dcT ks ws => some (.T ks ws)
  | .loc l => match S[l]? with
    | some (.dct ks ws) => some (.K ks ws)
    | some (.dcT ks ws) => some (.T ks ws)
    | some (.dctL ks ws) => some (.K ks ws)
    | some (.dcTL ks ws) => some (.T ks ws)
    | _ => none
  | _ => none
def look {κ : Type} [DecidableEq κ] : List κ → List W → κ → Option W
  | k' :: ks, w :: ws, k => if k' = k then some w else look ks ws k
  | _, _, _ => none
def dGetK (d : Dk) (k : W) : Option (Option W) := match d with
  | .K ks ws => (match keyW k with
    | some kk => some (look ks ws kk)
    | none => none)
  | .T ks ws => (match k with
    | .tup us => (match keysW us with
      | some kk => some (look ks ws kk)
      | none => none)
    | _ => none)
def dGet (S : Sto) (d k : W) : Option (Option W) := match dicO S d with
  | some q => dGetK q k
  | none => none
def RepP (K : PySem.W.Frag) (ι : Im) (n : Nat) (H : Hp) : Option W → Option V → Prop
  | some w, some v => Rep K ι n H w v
  | none, none => True
  | _, _ => False
section
variable {K : PySem.W.Frag} {ι : Im} {n : Nat} {S : Sto} {H : Hp}
theorem keyW_ok {w : W} {v : V} {k : Key} (e : keyW w = some k) (r : Rep K ι n H w v) : v = kV k := by
  cases r with
  | int i => cases e; rfl
  | str x => cases e; rfl
  | _ => cases e
theorem keysW_ok : ∀ {ws : List W} {vs : List V} {ks : List Key}, keysW ws = some ks → Reps K ι n H ws vs → vs = ks.map kV
  | [], _, _, e, r => by
    cases e
    cases r
    rfl
  | w :: ws, _, ks, e, r => by
    cases r with
    | cons a b =>
      unfold keysW at e
      cases q1 : keyW w with
      | none => rw [q1] at e; cases e
      | some k =>
        cases q2 : keysW ws with
        | none => rw [q1, q2] at e; cases e
        | some ks' =>
          rw [q1, q2] at e
          cases e
          rw [keyW_ok q1 a, keysW_ok q2 b]
          rfl
theorem look_ok {κ : Type} [DecidableEq κ] : ∀ {ks : List κ} {ws : List W} {xs : List V} (k : κ), ks.length = ws.length → Reps K ι n H ws xs → RepP K ι n H (look ks ws k) (valV (ks.zip xs) k)
  | [], ws, xs, k, hl, r => by
    cases ws with
    | nil => exact True.intro
    | cons w ws => cases hl
  | k' :: ks, [], xs, k, hl, r => by cases hl
  | k' :: ks, w :: ws, xs, k, hl, r => by
    cases r with
    | @cons _ v _ vs a b =>
      unfold look
      rw [List.zip_cons_cons]
      by_cases h : k' = k
      · rw [if_pos h, valV_pos (p := (k', v)) h]
        exact a
      · rw [if_neg h, valV_neg (p := (k', v)) h]
        exact look_ok k (by simpa using hl) b
/-- a dict, wherever it stands -/
def DkOk (K : PySem.W.Frag) (ι : Im) (n : Nat) (H : Hp) (a : Addr) : Dk → Prop
  | .K ks ws => ∃ xs, HasD H a (.dK (ks.zip xs)) ∧ ks.length = ws.length ∧ Reps K ι n H ws xs
  | .T ks ws => ∃ xs, HasD H a (.dT (ks.zip xs)) ∧ ks.length = ws.length ∧ Reps K ι n H ws xs
theorem dic_ok (rl : Rl K ι S H) {w : W} {v : V} {d : Dk} (e : dicO S w = some d) (r : Rep K ι S.length H w v) : ∃ a, v = .ref a ∧ DkOk K ι S.length H a d := by
  cases r with
  | @dct ks ws a xs h hl r => cases e; exact ⟨a, rfl, xs, h.hd, hl, r⟩
  | @dcT ks ws a xs h hl r => cases e; exact ⟨a, rfl, xs, h.hd, hl, r⟩
  | @loc l h =>
    have e' : (match S[l]? with
      | some (O.dct ks ws) => some (Dk.K ks ws)
      | some (O.dcT ks ws) => some (Dk.T ks ws)
      | some (O.dctL ks ws) => some (Dk.K ks ws)
      | some (O.dcTL ks ws) => some (Dk.T ks ws)
      | _ => none) = some d := e
    split at e'
    · rename_i ks ws q
      cases e'
      obtain ⟨xs, g1, g2, g3⟩ := rl.obj l _ q
      exact ⟨_, rfl, xs, .inl g1, g2, g3⟩
    · rename_i ks ws q
      cases e'
      obtain ⟨xs, g1, g2, g3⟩ := rl.obj l _ q
      exact ⟨_, rfl, xs, .inl g1, g2, g3⟩
    · rename_i ks ws q
      cases e'
      obtain ⟨xs, od, g1, g2, g3⟩ := rl.obj l _ q
      exact ⟨_, rfl, xs, .inr ⟨rfl, od, g1⟩, g2, g3⟩
    · rename_i ks ws q
      cases e'
      obtain ⟨xs, od, g1, g2, g3⟩ := rl.obj l _ q
      exact ⟨_, rfl, xs, .inr ⟨rfl, od, g1⟩, g2, g3⟩
    · cases e'
  | _ => cases e
theorem dGet_ok (rl : Rl K ι S H) {d k : W} {x y : V} {o : Option W} (e : dGet S d k = some o) (rx : Rep K ι S.length H d x) (ry : Rep K ι S.length H k y) : ∃ a o', x = .ref a ∧ DGet H a y o' ∧ RepP K ι S.length H o o' := by
  unfold dGet at e
  split at e
  · rename_i q hq
    obtain ⟨a, rfl, h⟩ := dic_ok rl hq rx
    cases q with
    | K ks ws =>
      obtain ⟨xs, h1, h2, h3⟩ := h
      unfold dGetK at e
      simp only at e
      split at e
      · rename_i kk qk
        cases e
        rw [keyW_ok qk ry]
        exact ⟨a, _, rfl, (.inl ⟨_, kk, h1.rd, rfl, rfl⟩ : DGet H a (kV kk) _), look_ok kk h2 h3⟩
      · cases e
    | T ks ws =>
      obtain ⟨xs, h1, h2, h3⟩ := h
      unfold dGetK at e
      simp only at e
      split at e
      · rename_i us
        split at e
        · rename_i kk qk
          cases e
          cases ry with
          | @tup _ b ys hz r =>
            have hb := hz.at_
            rw [keysW_ok qk r] at hb
            exact ⟨a, _, rfl, (.inr ⟨_, kk, b, h1.rd, rfl, hb, rfl⟩ : DGet H a (.ref b) _), look_ok kk h2 h3⟩
        · cases e
      · cases e
  · cases e
theorem dic_isD (rl : Rl K ι S H) {w : W} {v : V} {d : Dk} (e : dicO S w = some d) (r : Rep K ι S.length H w v) : ∃ a, v = .ref a ∧ IsD H a := by
  obtain ⟨a, rfl, h⟩ := dic_ok rl e r
  cases d with
  | K ks ws => obtain ⟨xs, h1, _⟩ := h; exact ⟨a, rfl, .inl ⟨_, h1.rd⟩⟩
  | T ks ws => obtain ⟨xs, h1, _⟩ := h; exact ⟨a, rfl, .inr ⟨_, h1.rd⟩⟩
end
/-! ### d[k], k in d, d.get -/
def fDGet (d k : W) (S : Sto) : Res W := match dGet S d k with
  | some (some w) => .ok w S
  | _ => .stuck
def fDIn (k d : W) (S : Sto) : Res W := match dGet S d k with
  | some o => .ok (.bl o.isSome) S
  | none => .stuck
def fDNotIn (k d : W) (S : Sto) : Res W := match dGet S d k with
  | some o => .ok (.bl (!o.isSome)) S
  | none => .stuck
def mDGet1 (cd ck : MV) : MV := mBind cd fun d => fun ρ S => match dicO S d with
  | some _ => mBind ck (fun k => fun _ S => match dGet S d k with
    | some o => .ok (o.getD .non) S
    | none => .stuck) ρ S
  | none => .stuck
def mDGet2 (cd ck cx : MV) : MV := mBind cd fun d => fun ρ S => match dicO S d with
  | some _ => mBind ck (fun k => mBind cx fun x => fun _ S => match dGet S d k with
    | some o => .ok (o.getD x) S
    | none => .stuck) ρ S
  | none => .stuck
section
variable {X : Cx} {E : XK} {o i e f : Expr} {co ci ce cf : MV} {pos apos cpos : Pos}
theorem ce_dget (hu : X.A.units + 1 < cLine) (ho : CE X E o co) (hi : CE X E i ci) (hs : NoSl i) : CE X E (.Subscript o i pos) (mOp fDGet co ci) :=
  PE.weak (pe_dget hu ho hi hs) fun σ H Q ⟨ρ, ι, S, re, rl, h⟩ => by
    refine ⟨ρ, ι, S, re, rl, (Post.bind h).mono fun d S1 ι1 H1 e1 rl1 h1 x rx => ?_⟩
    refine ⟨ρ, ι1, S1, re.mono e1, rl1, (Post.bind h1).mono fun k S2 ι2 H2 e2 rl2 h2 y ry => ?_⟩
    unfold fDGet at h2
    split at h2
    · rename_i w q
      obtain ⟨a, o', rfl, g, rp⟩ := dGet_ok rl2 q (rx.mono e2) ry
      cases o' with
      | none => exact rp.elim
      | some v => exact ⟨a, v, rfl, g, PostV.now h2 rl2 rp⟩
    · exact h2.elim
theorem ce_din (hu : X.A.units + 1 < cLine) (hi : CE X E i ci) (ho : CE X E o co) (hm : behindInMarks .In o = false := by rfl) : CE X E (.Compare i [.In] [o] pos) (mOp fDIn ci co) :=
  PE.weak (pe_cmp (pc_din hu hi ho) hm) fun σ H Q ⟨ρ, ι, S, re, rl, h⟩ => by
    refine ⟨ρ, ι, S, re, rl, (Post.bind h).mono fun k S1 ι1 H1 e1 rl1 h1 y ry => ?_⟩
    refine ⟨ρ, ι1, S1, re.mono e1, rl1, (Post.bind h1).mono fun d S2 ι2 H2 e2 rl2 h2 x rx => ?_⟩
    unfold fDIn at h2
    split at h2
    · rename_i w q
      obtain ⟨a, o', rfl, g, rp⟩ := dGet_ok rl2 q rx (ry.mono e2)
      refine ⟨a, o', rfl, g, ?_⟩
      have : o'.isSome = w.isSome := by cases w <;> cases o' <;> first | rfl | exact rp.elim
      rw [this]
      exact PostV.now h2 rl2 (.bl _)
    · exact h2.elim
theorem ce_dnotin (hu : X.A.units + 1 < cLine) (hi : CE X E i ci) (ho : CE X E o co) (hm : behindInMarks .NotIn o = false := by rfl) : CE X E (.Compare i [.NotIn] [o] pos) (mOp fDNotIn ci co) :=
  PE.weak (pe_cmp (pc_dnotin hu hi ho) hm) fun σ H Q ⟨ρ, ι, S, re, rl, h⟩ => by
    refine ⟨ρ, ι, S, re, rl, (Post.bind h).mono fun k S1 ι1 H1 e1 rl1 h1 y ry => ?_⟩
    refine ⟨ρ, ι1, S1, re.mono e1, rl1, (Post.bind h1).mono fun d S2 ι2 H2 e2 rl2 h2 x rx => ?_⟩
    unfold fDNotIn at h2
    split at h2
    · rename_i w q
      obtain ⟨a, o', rfl, g, rp⟩ := dGet_ok rl2 q rx (ry.mono e2)
      refine ⟨a, o', rfl, g, ?_⟩
      have : o'.isSome = w.isSome := by cases w <;> cases o' <;> first | rfl | exact rp.elim
      rw [this]
      exact PostV.now h2 rl2 (.bl _)
    · exact h2.elim
theorem ce_get1 (hu : X.A.units + 1 < cLine) (ho : CE X E o co) (he : CE X E e ce) (m : M1 X o "get" apos e cpos) : CE X E (.Call (.Attribute o "get" apos) [e] [] cpos) (mDGet1 co ce) :=
  PE.weak (pe_dget1 hu ho he m) fun σ H Q ⟨ρ, ι, S, re, rl, h⟩ => by
    refine ⟨ρ, ι, S, re, rl, (Post.bind h).mono fun d S1 ι1 H1 e1 rl1 h1 x rx => ?_⟩
    split at h1
    · rename_i q hq
      obtain ⟨a, rfl, hd⟩ := dic_isD rl1 hq rx
      refine ⟨a, rfl, hd, ρ, ι1, S1, re.mono e1, rl1, (Post.bind h1).mono fun k S2 ι2 H2 e2 rl2 h2 y ry => ?_⟩
      split at h2
      · rename_i w q
        obtain ⟨a', o', ea, g, rp⟩ := dGet_ok rl2 q (rx.mono e2) ry
        cases ea
        refine ⟨o', g, ?_⟩
        cases w with
        | none => cases o' with
          | none => exact PostV.now h2 rl2 .non
          | some v => exact rp.elim
        | some w => cases o' with
          | none => exact rp.elim
          | some v => exact PostV.now h2 rl2 rp
      · exact h2.elim
    · exact h1.elim
theorem ce_get2 (hu : X.A.units + 1 < cLine) (ho : CE X E o co) (he : CE X E e ce) (hf : CE X E f cf) (m : M2 X o "get" apos e f cpos) : CE X E (.Call (.Attribute o "get" apos) [e, f] [] cpos) (mDGet2 co ce cf) :=
  PE.weak (pe_dget2 hu ho he hf m) fun σ H Q ⟨ρ, ι, S, re, rl, h⟩ => by
    refine ⟨ρ, ι, S, re, rl, (Post.bind h).mono fun d S1 ι1 H1 e1 rl1 h1 x rx => ?_⟩
    split at h1
    · rename_i q hq
      obtain ⟨a, rfl, hd⟩ := dic_isD rl1 hq rx
      refine ⟨a, rfl, hd, ρ, ι1, S1, re.mono e1, rl1, (Post.bind h1).mono fun k S2 ι2 H2 e2 rl2 h2 y ry => ?_⟩
      refine ⟨ρ, ι2, S2, (re.mono e1).mono e2, rl2, (Post.bind h2).mono fun z S3 ι3 H3 e3 rl3 h3 zv rz => ?_⟩
      split at h3
      · rename_i w q
        obtain ⟨a', o', ea, g, rp⟩ := dGet_ok rl3 q ((rx.mono e2).mono e3) (ry.mono e3)
        cases ea
        refine ⟨o', g, ?_⟩
        cases w with
        | none => cases o' with
          | none => exact PostV.now h3 rl3 rz
          | some v => exact rp.elim
        | some w => cases o' with
          | none => exact rp.elim
          | some v => exact PostV.now h3 rl3 rp
      · exact h3.elim
    · exact h1.elim
end
/-! ### {}, d[k] = v -/
def mDNewK : MV := fun _ S => .ok (.loc S.length) (S ++ [.dct [] []])
def mDNewT : MV := fun _ S => .ok (.loc S.length) (S ++ [.dcT [] []])
def repl {κ α : Type} [DecidableEq κ] : List κ → List α → κ → α → List α
  | k' :: ks, w' :: ws, k, w => (if k' = k then w else w') :: repl ks ws k w
  | _, ws, _, _ => ws
def putW {κ : Type} [DecidableEq κ] (ks : List κ) (ws : List W) (k : κ) (w : W) : List κ × List W :=
  if (ks.any fun k' => decide (k' = k)) = true then (ks, repl ks ws k w) else (ks ++ [k], ws ++ [w])
def fDPut : W → W → W → Sto → Res Unit := fun d k w S => match d with
  | .loc l => (match S[l]? with
    | some (.dct ks ws) => (match keyW k with
      | some kk => if ks.length < sizeLine then .ok () (S.set l (.dct (putW ks ws kk w).1 (putW ks ws kk w).2)) else .stuck
      | none => .stuck)
    | some (.dcT ks ws) => (match k with
      | .tup us => (match keysW us with
        | some kk => if ks.length < sizeLine then .ok () (S.set l (.dcT (putW ks ws kk w).1 (putW ks ws kk w).2)) else .stuck
        | none => .stuck)
      | _ => .stuck)
    | _ => .stuck)
  | _ => .stuck
section
variable {K : PySem.W.Frag} {ι : Im} {n : Nat} {S : Sto} {H : Hp} {X : Cx} {E : XK} {pos : Pos}
theorem ce_dnewK : CE X E (.Dict [] [] pos) mDNewK :=
  PE.weak pe_dnewK fun σ H Q ⟨ρ, ι, S, re, rl, h⟩ => fun p hp => by
    have e := Ext.push (o := .dK []) rl hp
    have e2 : (ιx ι S.length p) S.length = p := ιx_at
    refine h _ _ (by simpa using e) (rl.push hp ⟨[], upd_same, rfl, .nil⟩) _ ?_
    rw [show V.ref p = V.ref ((ιx ι S.length p) S.length) by rw [e2]]
    exact .loc (by simp)
theorem ce_dnewT : CE X E (.Dict [] [] pos) mDNewT :=
  PE.weak pe_dnewT fun σ H Q ⟨ρ, ι, S, re, rl, h⟩ => fun p hp => by
    have e := Ext.push (o := .dT []) rl hp
    have e2 : (ιx ι S.length p) S.length = p := ιx_at
    refine h _ _ (by simpa using e) (rl.push hp ⟨[], upd_same, rfl, .nil⟩) _ ?_
    rw [show V.ref p = V.ref ((ιx ι S.length p) S.length) by rw [e2]]
    exact .loc (by simp)
theorem repl_len {κ α : Type} [DecidableEq κ] : ∀ {ks : List κ} {ws : List α} {k : κ} {w : α}, (repl ks ws k w).length = ws.length
  | [], ws, _, _ => by cases ws <;> rfl
  | _ :: _, [], _, _ => rfl
  | k' :: ks, w' :: ws, k, w => by unfold repl; simp [repl_len]
theorem Reps.repl {κ : Type} [DecidableEq κ] {w : W} {v : V} (hw : Rep K ι n H w v) : ∀ {ks : List κ} {ws : List W} {xs : List V} {k : κ}, Reps K ι n H ws xs → Reps K ι n H (Mm.repl ks ws k w) (Mm.repl ks xs k v)
  | [], ws, xs, k, r => by cases r <;> first | exact .nil | exact .cons (by assumption) (by assumption)
  | k' :: ks, _, _, k, .nil => .nil
  | k' :: ks, _, _, k, .cons a b => by
    unfold Mm.repl
    refine .cons ?_ (Reps.repl hw b)
    by_cases h : k' = k
    · rw [if_pos h, if_pos h]; exact hw
    · rw [if_neg h, if_neg h]; exact a
theorem zip_repl {κ : Type} [DecidableEq κ] {v : V} {k : κ} : ∀ {ks : List κ} {xs : List V}, (ks.zip xs).map (fun kv => if kv.1 = k then (kv.1, v) else kv) = ks.zip (repl ks xs k v)
  | [], xs => by cases xs <;> rfl
  | _ :: _, [] => rfl
  | k' :: ks, x :: xs => by
    unfold repl
    rw [List.zip_cons_cons, List.map_cons, List.zip_cons_cons, zip_repl]
    congr 1
    by_cases h : k' = k
    · simp [h]
    · simp [h]
theorem zip_any {κ : Type} [DecidableEq κ] {k : κ} : ∀ {ks : List κ} {xs : List V}, ks.length = xs.length → ((ks.zip xs).any fun kv => decide (kv.1 = k)) = ks.any fun k' => decide (k' = k)
  | [], xs, _ => by cases xs <;> rfl
  | _ :: _, [], h => by cases h
  | k' :: ks, x :: xs, h => by
    rw [List.zip_cons_cons, List.any_cons, List.any_cons, zip_any (by simpa using h)]
theorem put_ok {κ : Type} [DecidableEq κ] {ks : List κ} {ws : List W} {xs : List V} {k : κ} {w : W} {v : V} (hl : ks.length = ws.length) (r : Reps K ι n H ws xs) (hw : Rep K ι n H w v) :
    ∃ ys, putK (ks.zip xs) k v = (putW ks ws k w).1.zip ys ∧ (putW ks ws k w).1.length = (putW ks ws k w).2.length ∧ Reps K ι n H (putW ks ws k w).2 ys := by
  have hlx : ks.length = xs.length := hl.trans r.length
  unfold putK putW
  rw [zip_any hlx]
  by_cases h : (ks.any fun k' => decide (k' = k)) = true
  · rw [if_pos h, if_pos h, zip_repl]
    exact ⟨_, rfl, by rw [repl_len]; exact hl, r.repl hw⟩
  · rw [if_neg h, if_neg h]
    refine ⟨xs ++ [v], ?_, by simp [hl], r.append (.cons hw .nil)⟩
    rw [List.zip_append hlx]
    rfl
theorem sim_dput : SimSet K E rSetD fDPut := by
  intro d k w dv kv v ι S H Q rl rd rk rv h
  cases rd with
  | @loc l hl =>
    have h' := h
    unfold fDPut at h'
    simp only at h'
    split at h'
    · rename_i ks ws q
      split at h'
      · rename_i kk qk
        by_cases z : ks.length < sizeLine
        · rw [if_pos z] at h'
          obtain ⟨xs, h1, h2, h3⟩ := rl.obj l _ q
          rw [keyW_ok qk rk]
          have hz : (ks.zip xs).length < sizeLine := by rw [List.length_zip]; omega
          refine ⟨ι l, _, rfl, DPut.k h1 hz, ?_⟩
          have e := Ext.set (o := .dK (putK (ks.zip xs) kk v)) rl hl (nofz h1)
          obtain ⟨ys, p1, p2, p3⟩ := put_ok (k := kk) h2 (h3.mono e) (rv.mono e)
          exact h' ι _ (by rw [List.length_set]; exact e) (rl.set hl (nofz h1) ⟨ys, by rw [upd_same, p1], p2, p3⟩)
        · rw [if_neg z] at h'; exact h'.elim
      · exact h'.elim
    · rename_i ks ws q
      split at h'
      · rename_i us
        split at h'
        · rename_i kk qk
          by_cases z : ks.length < sizeLine
          · rw [if_pos z] at h'
            obtain ⟨xs, h1, h2, h3⟩ := rl.obj l _ q
            cases rk with
            | @tup _ b ys hzz r =>
              have hb := hzz.at_
              rw [keysW_ok qk r] at hb
              have hz : (ks.zip xs).length < sizeLine := by rw [List.length_zip]; omega
              refine ⟨ι l, _, rfl, DPut.t h1 hb hz, ?_⟩
              have e := Ext.set (o := .dT (putK (ks.zip xs) kk v)) rl hl (nofz h1)
              obtain ⟨zs, p1, p2, p3⟩ := put_ok (k := kk) h2 (h3.mono e) (rv.mono e)
              exact h' ι _ (by rw [List.length_set]; exact e) (rl.set hl (nofz h1) ⟨zs, by rw [upd_same, p1], p2, p3⟩)
          · rw [if_neg z] at h'; exact h'.elim
        · exact h'.elim
      · exact h'.elim
    · exact h'.elim
  | _ => exact h.elim
end
end Mm

/-! The mirror layer: d.setdefault(k, x) of a dict of the store with int and text keys. -/
namespace Mm
open PySem PySem.Spec PyProof.Rows L2
def mSetd (cd ck cx : MV) : MV := mBind cd fun d => fun ρ S => match dicO S d with
  | some _ => mBind ck (fun k => mBind cx fun x => fun _ S => match d, keyW k with
    | .loc l, some kk => (match S[l]? with
      | some (.dct ks ws) => if ks.length < sizeLine then (match look ks ws kk with
        | some w => .ok w S
        | none => .ok x (S.set l (.dct (ks ++ [kk]) (ws ++ [x])))) else .stuck
      | _ => .stuck)
    | _, _ => .stuck) ρ S
  | none => .stuck
theorem look_any {κ : Type} [DecidableEq κ] {k : κ} : ∀ {ks : List κ} {ws : List W}, ks.length = ws.length → look ks ws k = none → (ks.any fun k' => decide (k' = k)) = false
  | [], _, _, _ => rfl
  | k' :: ks, [], h, _ => by cases h
  | k' :: ks, w :: ws, h, e => by
    unfold look at e
    by_cases z : k' = k
    · rw [if_pos z] at e; cases e
    · rw [if_neg z] at e
      rw [List.any_cons, look_any (by simpa using h) e, decide_eq_false z]
      rfl
section
variable {X : Cx} {E : XK} {o e f : Expr} {co ce cf : MV} {apos cpos : Pos}
theorem ce_setd (ho : CE X E o co) (he : CE X E e ce) (hf : CE X E f cf) (m : M2 X o "setdefault" apos e f cpos) : CE X E (.Call (.Attribute o "setdefault" apos) [e, f] [] cpos) (mSetd co ce cf) :=
  PE.weak (pe_dsetd ho he hf m) fun σ H Q ⟨ρ, ι, S, re, rl, h⟩ => by
    refine ⟨ρ, ι, S, re, rl, (Post.bind h).mono fun d S1 ι1 H1 e1 rl1 h1 x rx => ?_⟩
    split at h1
    · rename_i q hq
      obtain ⟨a, rfl, hd⟩ := dic_isD rl1 hq rx
      refine ⟨a, rfl, hd, ρ, ι1, S1, re.mono e1, rl1, (Post.bind h1).mono fun k S2 ι2 H2 e2 rl2 h2 y ry => ?_⟩
      refine ⟨ρ, ι2, S2, (re.mono e1).mono e2, rl2, (Post.bind h2).mono fun z S3 ι3 H3 e3 rl3 h3 zv rz => ?_⟩
      split at h3
      · rename_i l kk qk
        have rx3 := (rx.mono e2).mono e3
        generalize ha : V.ref a = av at rx3
        cases rx3 with
        | loc hl =>
          cases ha
          split at h3
          · rename_i ks ws qs
            obtain ⟨xs, g1, g2, g3⟩ := rl3.obj l _ qs
            by_cases hz : ks.length < sizeLine
            · rw [if_pos hz] at h3
              have lk := look_ok (K := X.K) (ι := ι3) (n := S3.length) (H := H3) kk g2 g3
              refine ⟨_, kk, g1, keyW_ok qk (ry.mono e3), by rw [List.length_zip]; omega, fun v hv => ?_, fun hn => ?_⟩
              · rw [hv] at lk
                cases ql : look ks ws kk with
                | none => rw [ql] at lk; exact lk.elim
                | some w =>
                  rw [ql] at lk h3
                  exact PostV.now h3 rl3 lk
              · rw [hn] at lk
                cases ql : look ks ws kk with
                | some w => rw [ql] at lk; exact lk.elim
                | none =>
                  rw [ql] at h3
                  have ex := Ext.set (o := .dK (putK (ks.zip xs) kk zv)) rl3 hl (nofz g1)
                  obtain ⟨ys, p1, p2, p3⟩ := put_ok (k := kk) g2 (g3.mono ex) (rz.mono ex)
                  have pw : putW ks ws kk z = (ks ++ [kk], ws ++ [z]) := by
                    unfold putW
                    rw [look_any g2 ql, if_neg Bool.false_ne_true]
                  rw [pw] at p1 p2 p3
                  refine h3 ι3 _ (by rw [List.length_set]; exact ex) (rl3.set hl (nofz g1) ⟨ys, by rw [upd_same, p1], p2, p3⟩) zv ?_
                  rw [List.length_set]
                  exact rz.mono ex
            · rw [if_neg hz] at h3; exact h3.elim
          · exact h3.elim
      · exact h3.elim
    · exact h1.elim
end
end Mm

/-! The mirror layer: for i, x in enumerate(s), s a list or a tuple. -/
namespace Mm
open PySem PySem.Spec PyProof.Rows L2
theorem meets_enum1 {v : Value} {o : Obj} {H : Heap → Prop} (B : Begins v o H) :
    Meets (Builtin.«enumerate.__new__» ⟨[.type "enumerate", v], []⟩) (fun _ R s => H s.heap ∧
      R (.ok (.ret (.ref (s.heap.push o).objs.size))) { s with heap := (s.heap.push o).push { cls := .type "enumerate", data := .fields #[.none, .bool false, .ref s.heap.objs.size, rawInt 0, .none, .none] } }) :=
  .of_wp fun prog w A R s h => by
    obtain ⟨hp, g, d, tk, os⟩ := s
    obtain ⟨h1, h⟩ := h
    have hsub := sub_enumerate
    have q1 : ∀ {A' : Around} {E : Value → Shared → Prop} {Q : Value → Shared → Prop}, Q (.ref hp.objs.size) ⟨hp.push o, g, d, tk, os⟩ → wpAny (model prog w) A' (pyIter v) Q E ⟨hp, g, d, tk, os⟩ := fun q => B.iter prog w _ _ ⟨hp, g, d, tk, os⟩ _ h1 q
    wp_walk using q1
    refine wpAny_stack_any fun st => wpAny_pure ?_
    split
    · rename_i c _ _ _ _ _
      cases (c == Value.type "enumerate") <;>
      · wp_walk using q1
        exact ⟨_, rfl, h⟩
    · wp_walk using q1
      exact ⟨_, rfl, h⟩
theorem call_enum1 {prog : Program} {w : World} {A : Around} {E : Value → Shared → Prop} {s : Shared} {v : Value} {o : Obj} {H : Heap → Prop} {Q : Value → Shared → Prop} (B : Begins v o H) (h1 : H s.heap)
    (h : ∀ h', IsEnum h' (s.heap.objs.size + 1) s.heap.objs.size 0 .none → h'.get? s.heap.objs.size = some o → h'.objs.size = s.heap.objs.size + 2 → (∀ b o, s.heap.get? b = some o → h'.get? b = some o) → Q (.ref (s.heap.objs.size + 1)) { s with heap := h' }) :
    wpAny (model prog w) A (call (.type "enumerate") [v]) Q E s := by
  apply callType_new F.called_enumerate (by decide) (F.typeCall_enumerate_1 _) (F.newCall_enumerate_1 _) (fun obj => F.args_object_init_2 obj _) F.entry_enumerate_new (meets_enum1 B)
  refine ⟨h1, ?_⟩
  have n1 : (s.heap.push o).objs.size = s.heap.objs.size + 1 := Heap.size_push ..
  have at1 := Heap.get?_push_size (s.heap.push o) (o := { cls := .type "enumerate", data := .fields #[.none, .bool false, .ref s.heap.objs.size, rawInt 0, .none, .none] }) rfl
  have n2 := Heap.size_push (s.heap.push o) { cls := .type "enumerate", data := .fields #[.none, .bool false, .ref s.heap.objs.size, rawInt 0, .none, .none] }
  have old : ∀ b u, (s.heap.push o).get? b = some u → ((s.heap.push o).push { cls := .type "enumerate", data := .fields #[.none, .bool false, .ref s.heap.objs.size, rawInt 0, .none, .none] }).get? b = some u := fun b u => Heap.get?_push_of_some _
  change _ ∧ _
  generalize (s.heap.push o).push { cls := .type "enumerate", data := .fields #[.none, .bool false, .ref s.heap.objs.size, rawInt 0, .none, .none] } = h' at at1 n2 old ⊢
  rw [n1] at at1 n2 ⊢
  refine ⟨⟨_, at1, rfl⟩, h h' at1 (old _ _ (Heap.get?_push_size _ B.free)) n2 ?_⟩
  intro b u e
  exact old b u (Heap.get?_push_of_some _ e)
/-- the numbered items -/
def ItE (k : Bool) (K : PySem.W.Frag) (a : Addr) : It where
  go := fun i H => ∃ (xs : List V) (x : V), SqB k K H a xs ∧ xs[i]? = some x
  yld := fun i H v H' => ∃ T x, v = .ref T ∧ H T = none ∧ H' = upd H T (.tup [.int (i : Nat), x]) ∧ ∀ xs, SqB k K H a xs → xs[i]? = some x
  stop := fun i H => ∃ xs : List V, SqB k K H a xs ∧ xs.length = i
theorem turn_enumB {P : Program} {w : World} {K : PySem.W.Frag} {elts : List Expr} {kk : Nat} {tpos : Pos} {k : Bool} {a e it : Addr} (hei : e ≠ it) (hea : e ≠ a) (hai : a ≠ it) :
    Turn P w K (.Tuple elts kk tpos) (ItE k K a) [e, it] e (fun i h => (∃ old, IsEnum h e it ((i : Nat) : Int) old) ∧ IterB k h it a i) where
  mem := .head _
  obj := by
    rintro i h ⟨⟨old, at_⟩, hi⟩ c hc
    rcases List.mem_cons.1 hc with rfl | hc
    · exact ⟨_, at_, nofun⟩
    · rw [List.mem_singleton.1 hc]; exact hi.obj
  keep := by
    rintro i h h' ⟨⟨old, at_⟩, hi⟩ kp
    exact ⟨⟨old, kp e (.head _) _ at_⟩, hi.at (kp it (.tail _ (.head _)))⟩
  item := by
    rintro X rfl rfl rfl calm i pins s σ H E I own ⟨⟨old, at_⟩, hi⟩ ⟨xs, x, sq, nth⟩
    obtain ⟨us, rv, here, -⟩ := sq.seq I
    obtain ⟨u, nthu, ru⟩ := rv.get nth
    have below : ∀ c ∈ [e, it], c < s.heap.objs.size := by
      intro c hc
      rcases List.mem_cons.1 hc with rfl | hc
      · exact Heap.lt_size at_
      · rw [List.mem_singleton.1 hc]; exact hi.obj.elim fun _ q => Heap.lt_size q.1
    have lt : i < us.toArray.size := (List.size_toArray).symm ▸ (List.getElem?_eq_some_iff.1 nthu).1
    apply wpAny_pyNext_enum_itemD (drawsB (A := X.A.in1) k (I.ok.hd calm) it a hai us.toArray) at_ ⟨hi, here⟩ lt hei (by simp [hei, hea])
    intro y h1 tk isy own1 it1 tup1 _ oth1
    obtain rfl : u = y := Option.some.inj (nthu.symm.trans (by simpa using isy))
    refine ⟨_, rfl, ?_⟩
    apply wpAny_letOwnedTupleGo_enum (s := { s with heap := h1, toks := tk + 1 }) own1
    intro h2 own2 sb
    have tup2 : h2.get? s.heap.objs.size = some { cls := .type "tuple", data := .seq #[.int i tk, u] } := by
      rw [← tup1]; exact sb.2 _ (Nat.ne_of_gt (below e (.head _)))
    have oth2 : ∀ c o, c ∉ [e, it] → s.heap.get? c = some o → h2.get? c = some o := fun c o nc q => by
      have ne : c ≠ e := fun z => nc (z ▸ .head _)
      rw [← oth1 c o ne (fun z => nc (z ▸ .tail _ (.head _))) q]; exact sb.2 c ne
    have pairOk : ObjOk X.prog X.w (upd H s.heap.objs.size (.tup [.int (i : Nat), x])) h2 s.heap.objs.size (.tup [.int (i : Nat), x]) :=
      ⟨(by decide : 2 ≤ sizeLine), [.int i tk, u], .cons ⟨_, rfl⟩ (.cons ru .nil), ⟨_, tup2, rfl, _, rfl⟩⟩
    refine ⟨.ref s.heap.objs.size, _, I.turnedNew (t' := tk + 1) (ch := [e, it]) oth2 own (Nat.le_refl _) pairOk, rfl, ⟨_, x, rfl, I.hok.fresh (Nat.le_refl _), rfl, ?_⟩, ⟨⟨u, ?_⟩, it1.1.at fun o q => (sb.2 _ hei.symm).trans q⟩, ?_⟩
    · intro l hl
      rw [hl.inj I sq]; exact nth
    · rw [Int.natCast_succ]; exact own2
    · intro c hc
      exact (upd_ne (Nat.ne_of_lt (below c hc))).trans (own c hc).1
  done := by
    rintro X rfl rfl rfl calm i pins s σ H E I own ⟨⟨old, at_⟩, hi⟩ ⟨xs, sq, len⟩
    obtain ⟨us, rv, here, -⟩ := sq.seq I
    have n1 : us.toArray.size = i := by rw [List.size_toArray, ← rv.length, len]
    apply wpAny_pyNext_enum_endD (drawsB (A := X.A.in1) k (I.ok.hd calm) it a hai us.toArray) at_ ⟨n1.symm ▸ hi, here⟩
    intro h' eb
    refine ⟨rfl, I.turnedL (t' := s.toks) (ch := [e, it]) ?_ own⟩
    intro c o nc
    exact eb c o fun z => nc (z ▸ .tail _ (.head _))
  self := by
    rintro A i s Q E ⟨⟨_, at_⟩, _⟩ go
    exact wpAny_pyIter_enum at_ go
section
variable {X : Cx} {E : XK}
def iEnumB (K : PySem.W.Frag) (ta : TA) : TI := fun σ H R => ta σ H fun vs H1 => ∃ a xs k, vs = [.ref a] ∧ SqB k K H1 a xs ∧ R (ItE k K a) H1
theorem pi_enumB {e : Expr} {ta : TA} {p pos tpos : Pos} {elts : List Expr} {kk : Nat} (hg : Gl X "enumerate") (hm : X.mg "enumerate" = none) (ha : PA X [e] ta) (hs : starEach [e] X.env = [(false, eval e X.env)] := by rfl) :
    PI X (.Tuple elts kk tpos) (.Call (.Name "enumerate" p) [e] [] pos) (iEnumB X.K ta) := by
  constructor
  intro pins s σ H R I h
  refine Call_ (ld_blt I hg hm boot_enumerate ?_)
  refine PyProof.Rows.callWith_type1 (thn (ha.run pos pins s σ H _ I h) ?_) hs rfl
  rintro us s1 ⟨vs, H1, I1, r1, a, xs, k, rfl, sq, q⟩
  rw [Vals.ref1 r1]
  obtain ⟨items, rv, here, below⟩ := sq.seq I1
  have n1 : s1.heap.objs.size ≠ a := Nat.ne_of_gt below
  have n2 : s1.heap.objs.size + 1 ≠ a := Nat.ne_of_gt (Nat.lt_succ_of_lt below)
  apply call_enum1 (beginsB k a items.toArray) here
  intro h' at_ it_at _ kp
  apply wpAny_pyIter_enum at_
  refine ⟨_, [s1.heap.objs.size + 1, s1.heap.objs.size], _, _, H1, rfl, I1.kept (t' := s1.toks) kp, turn_enumB (Nat.succ_ne_self _) n2 n1.symm, ⟨⟨.none, at_⟩, iterB_new it_at⟩, ?_, q⟩
  intro b hb
  have new : s1.heap.objs.size ≤ b := by
    rcases List.mem_cons.1 hb with rfl | hb
    · exact Nat.le_succ _
    · rw [List.mem_singleton.1 hb]; exact Nat.le_refl _
  exact I1.fpOk new (I1.hok.fresh new)
def numd : Nat → List W → List W
  | _, [] => []
  | i, w :: ws => .tup [.int (i : Nat), w] :: numd (i + 1) ws
def mEnum (t : MW (List W)) : MW (List W) := mBind t fun ws => fun _ S => match ws with
  | [x] => (match still x with
    | some xs => .ok (numd 0 xs) S
    | none => .stuck)
  | _ => .stuck
theorem numd_len : ∀ {ws : List W} {j : Nat}, (numd j ws).length = ws.length
  | [], _ => rfl
  | w :: ws, j => by show (numd (j + 1) ws).length + 1 = ws.length + 1; rw [numd_len]
theorem numd_get : ∀ {ws : List W} {j i : Nat} {w : W}, (numd j ws)[i]? = some w → ∃ x, ws[i]? = some x ∧ w = .tup [.int ((j + i : Nat) : Int), x]
  | [], j, i, w, h => by cases i <;> cases h
  | x :: ws, j, 0, w, h => by cases h; exact ⟨x, rfl, rfl⟩
  | x :: ws, j, i + 1, w, h => by
    obtain ⟨y, h1, h2⟩ := numd_get (ws := ws) (j := j + 1) (i := i) h
    exact ⟨y, h1, by rw [h2]; congr 4; omega⟩
theorem yl_enum {K : PySem.W.Frag} {ι : Im} {n : Nat} {H : Hp} {xs : List W} {xv : List V} {a : Addr} {k : Bool} (rx : Reps K ι n H xs xv) (sx : ∀ ι' n' H', Mv ι n H ι' n' H' → SqB k K H' a xv) : Yl K (ItE k K a) (numd 0 xs) ι n H := by
  intro ι1 S1 H1 e1 rl1
  have qx := sx _ _ _ e1
  refine ⟨⟨xv, qx, by rw [numd_len, rx.length]⟩, fun i w q => ?_⟩
  obtain ⟨x, hx, rfl⟩ := numd_get q
  obtain ⟨v, ev, rv⟩ := (rx.mv e1).get hx
  refine ⟨⟨xv, v, qx, ev⟩, fun z H' hz => ?_⟩
  obtain ⟨T, v', rfl, hT, rfl, f1⟩ := hz
  have e3 : v = v' := Option.some.inj (ev.symm.trans (f1 xv qx))
  subst e3
  have ex := Ext.new (o := .tup [.int (i : Nat), v]) rl1 hT
  refine ⟨ex, rl1.new hT, ?_⟩
  rw [Nat.zero_add]
  exact .tup (Fz.new rl1 hT) (.cons (.int _) (.cons (rv.mono ex) .nil))
theorem ci_enum {e : Expr} {t : MW (List W)} {p pos tpos : Pos} {elts : List Expr} {kk : Nat} (hg : Gl X "enumerate") (hm : X.mg "enumerate" = none) (ha : CA X E [e] t) (hs : starEach [e] X.env = [(false, eval e X.env)] := by rfl) :
    CI X E (.Tuple elts kk tpos) (.Call (.Name "enumerate" p) [e] [] pos) (mEnum t) :=
  PI.weak (pi_enumB hg hm ha hs) fun σ H R ⟨ρ, ι, S, re, rl, h⟩ => ⟨ρ, ι, S, re, rl, (Post.bind h).mono fun ws S1 ι1 H1 e1 rl1 h1 vs rvs => by
    cases rvs with
    | nil => exact h1.elim
    | @cons x v _ _ a r =>
      cases r with
      | cons _ _ => exact h1.elim
      | nil =>
        simp only at h1
        split at h1
        · rename_i xs q1
          obtain ⟨p1, xv, k1, rfl, rx, sx⟩ := still_ok a q1
          exact ⟨p1, xv, k1, rfl, sx _ _ _ Mv.refl, h1 ι1 H1 Ext.refl rl1 _ (yl_enum rx sx)⟩
        · exact h1.elim⟩
end
end Mm

/-! The mirror layer: int, sum, sorted of ints; what is never come to. -/
namespace Mm
open PySem PySem.Spec PyProof.Rows L2
/-! ### what is never come to: any text, with a mirror that says nothing -/
def mNo {α : Type} : MW α := fun _ _ => .stuck
section
variable {X : Cx} {E : XK}
theorem ce_no {e : Expr} : CE X E e mNo := ⟨fun pins s σ H Q I ⟨ρ, ι, S, re, rl, h⟩ => h.elim⟩
theorem ct_no {e : Expr} : CT X E e mNo := ⟨fun pins s σ H Q I ⟨ρ, ι, S, re, rl, h⟩ => h.elim⟩
theorem cs_no {st : Stmt} : CS X E st mNo := ⟨fun pins s σ H D I ⟨ρ, ι, S, re, rl, h⟩ => h.elim⟩
theorem css_no {st : List Stmt} : CSs X E st mNo := ⟨fun pins s σ H D I ⟨ρ, ι, S, re, rl, h⟩ => h.elim⟩
end
/-! ### int(x) of a truth, of an int -/
def fInt : MF := fun ws S => match ws with
  | [.int i] => .ok (.int i) S
  | [.bl b] => .ok (.int (if b then 1 else 0)) S
  | _ => .stuck
section
variable {K : PySem.W.Frag} {E : XK}
theorem sim_int : SimC K E (fun xs H Q => (∃ i, xs = [.int i] ∧ Q (.int i) H) ∨ ∃ k, xs = [.bl k] ∧ Q (.int (if k then 1 else 0)) H) fInt := by
  intro xs xv ι S H Q rl r h
  cases r with
  | nil => exact h.elim
  | cons a r =>
    cases r with
    | cons _ _ => cases a <;> exact h.elim
    | nil =>
      cases a with
      | int i => exact .inl ⟨i, rfl, PostV.now h rl (.int _)⟩
      | bl b => exact .inr ⟨b, rfl, PostV.now h rl (.int _)⟩
      | _ => exact h.elim
/-! ### lists of ints -/
def intsW : List W → Option (List Int)
  | [] => some []
  | .int i :: ws => (intsW ws).map (i :: ·)
  | _ :: _ => none
theorem intsW_ok {ι : Im} {n : Nat} {H : Hp} : ∀ {ws : List W} {vs : List V} {ns : List Int}, intsW ws = some ns → Reps K ι n H ws vs → vs = ns.map V.int
  | [], _, _, e, r => by
    cases e
    cases r
    rfl
  | w :: ws, _, ns, e, r => by
    cases r with
    | cons a b =>
      cases a with
      | int i =>
        have e' : (intsW ws).map (i :: ·) = some ns := e
        obtain ⟨ms, h1, rfl⟩ := Option.map_eq_some_iff.mp e'
        rw [intsW_ok h1 b]
        rfl
      | _ => cases e
theorem intsW_map : ∀ {ns : List Int}, intsW (ns.map W.int) = some ns
  | [] => rfl
  | n :: ns => by
    show (intsW (ns.map W.int)).map (n :: ·) = _
    rw [intsW_map]
    rfl
theorem reps_ints {ι : Im} {n : Nat} {H : Hp} : ∀ (ns : List Int), Reps K ι n H (ns.map W.int) (ns.map V.int)
  | [] => .nil
  | i :: ns => .cons (.int i) (reps_ints ns)
def fSum : MF := fun ws S => match ws with
  | [w] => (match seqL S w with
    | some ys => (match intsW ys with
      | some ns => .ok (.int ns.sum) S
      | none => .stuck)
    | none => .stuck)
  | _ => .stuck
theorem sim_sum : SimC K E (rSum K) fSum := by
  intro xs xv ι S H Q rl r h
  cases r with
  | nil => exact h.elim
  | cons a r =>
    cases r with
    | cons _ _ => exact h.elim
    | nil =>
      unfold fSum at h
      simp only at h
      split at h
      · rename_i ys q
        split at h
        · rename_i ns q2
          obtain ⟨p, vs, rfl, h2, h3⟩ := seqL_ok rl q a
          rw [intsW_ok q2 h3] at h2
          exact ⟨p, ns, rfl, h2, PostV.now h rl (.int _)⟩
        · exact h.elim
      · exact h.elim
def srtI (ns : List Int) : List Int := ns.mergeSort fun a b => decide (a ≤ b)
theorem srtI_one {ns ns' : List Int} (h : ns'.Perm ns) (s : ns'.Pairwise (· ≤ ·)) : ns' = srtI ns := by
  refine List.Perm.eq_of_pairwise (le := (· ≤ ·)) (fun a b _ _ h1 h2 => Int.le_antisymm h1 h2) s ?_ (h.trans (List.mergeSort_perm _ _).symm)
  have := List.pairwise_mergeSort (le := fun a b : Int => decide (a ≤ b)) (fun a b c h1 h2 => decide_eq_true (Int.le_trans (of_decide_eq_true h1) (of_decide_eq_true h2))) (fun a b => by
    rcases Int.le_total a b with h | h <;> simp [h]) ns
  exact this.imp fun h => of_decide_eq_true h
def fSortI : MF := fun ws S => match ws with
  | [w] => (match seqL S w with
    | some ys => (match intsW ys with
      | some ns => if ns.length < 64 then .ok (.lst ((srtI ns).map W.int)) S else .stuck
      | none => .stuck)
    | none => .stuck)
  | _ => .stuck
theorem sim_sortI : SimC K E (rSorted K) fSortI := by
  intro xs xv ι S H Q rl r h
  cases r with
  | nil => exact h.elim
  | cons a r =>
    cases r with
    | cons _ _ => exact h.elim
    | nil =>
      unfold fSortI at h
      simp only at h
      split at h
      · rename_i ys q
        split at h
        · rename_i ns q2
          by_cases z : ns.length < 64
          · rw [if_pos z] at h
            obtain ⟨p, vs, rfl, h2, h3⟩ := seqL_ok rl q a
            rw [intsW_ok q2 h3] at h2
            refine ⟨p, ns, rfl, h2, z, fun ns' p' hp hs hn => ?_⟩
            rw [srtI_one hp hs]
            exact PostV.newL h rl (reps_ints _) p' hn
          · rw [if_neg z] at h; exact h.elim
        · exact h.elim
      · exact h.elim
end
end Mm

/-! The mirror layer: own classes: o.f, o.f = v, C(..), o.m(..). -/
namespace Mm
open PySem PySem.Spec PyProof.Rows L2
def insO (S : Sto) : W → Option (Str × List Str × List W)
  | .obj C fs ws => some (C, fs, ws)
  | .loc l => (match S[l]? with
    | some (.ins C fs ws) => some (C, fs, ws)
    | _ => none)
  | _ => none
section
variable {K : PySem.W.Frag} {ι : Im} {n : Nat} {S : Sto} {H : Hp}
theorem ins_ok (rl : Rl K ι S H) {w : W} {v : V} {C : Str} {fs : List Str} {ws : List W} (e : insO S w = some (C, fs, ws)) (r : Rep K ι S.length H w v) :
    ∃ a dx xs, v = .ref a ∧ H a = some (.ins (He.ga K C) dx (fs.zip xs)) ∧ fs.length = ws.length ∧ Reps K ι S.length H ws xs := by
  cases r with
  | @obj C' fs' ws' a dx xs h hl r => cases e; exact ⟨a, dx, xs, rfl, h.at_, hl, r⟩
  | @loc l h =>
    have e' : (match S[l]? with
      | some (O.ins C fs ws) => some (C, fs, ws)
      | _ => none) = some (C, fs, ws) := e
    split at e'
    · rename_i q
      cases e'
      obtain ⟨dx, xs, h1, h2, h3⟩ := rl.obj l _ q
      exact ⟨_, dx, xs, rfl, h1, h2, h3⟩
    · cases e'
  | _ => cases e
theorem look_lookup : ∀ {fs : List Str} {ws : List W} {xs : List V} (f : Str), fs.length = ws.length → Reps K ι n H ws xs → RepP K ι n H (look fs ws f) ((fs.zip xs).lookup f)
  | [], ws, xs, f, hl, r => by
    cases ws with
    | nil => exact True.intro
    | cons w ws => cases hl
  | g :: fs, [], xs, f, hl, r => by cases hl
  | g :: fs, w :: ws, xs, f, hl, r => by
    cases r with
    | @cons _ v _ vs a b =>
      unfold look
      rw [List.zip_cons_cons, List.lookup_cons]
      by_cases h : g = f
      · rw [if_pos h, show (f == g) = true by rw [h]; exact beq_self_eq_true f]
        exact a
      · rw [if_neg h, show (f == g) = false from beq_eq_false_iff_ne.mpr fun z => h z.symm]
        exact look_lookup f (by simpa using hl) b
/-- a field, in its place or at the end -/
def setF (fs : List Str) (ws : List W) (f : Str) (w : W) : List Str × List W := match fs, ws with
  | g :: fs, u :: ws => if g = f then (g :: fs, w :: ws) else (g :: (setF fs ws f w).1, u :: (setF fs ws f w).2)
  | _, _ => ([f], [w])
theorem setF_ok {f : Str} {w : W} {v : V} (hw : Rep K ι n H w v) : ∀ {fs : List Str} {ws : List W} {xs : List V}, fs.length = ws.length → Reps K ι n H ws xs →
    ∃ ys, putF f v (fs.zip xs) = (setF fs ws f w).1.zip ys ∧ (setF fs ws f w).1.length = (setF fs ws f w).2.length ∧ Reps K ι n H (setF fs ws f w).2 ys
  | [], [], _, _, .nil => ⟨[v], rfl, rfl, .cons hw .nil⟩
  | g :: fs, u :: ws, _, hl, .cons (v := x) (vs := xs) a b => by
    unfold setF
    rw [List.zip_cons_cons]
    unfold putF
    by_cases h : g = f
    · rw [if_pos h, if_pos h]
      exact ⟨v :: xs, rfl, hl, .cons hw b⟩
    · rw [if_neg h, if_neg h]
      obtain ⟨ys, p1, p2, p3⟩ := setF_ok hw (fs := fs) (ws := ws) (xs := xs) (by simpa using hl) b
      exact ⟨x :: ys, by rw [p1]; rfl, by simp [p2], .cons a p3⟩
  | [], _ :: _, _, hl, _ => by cases hl
  | _ :: _, [], _, hl, _ => by cases hl
end
/-! ### o.f -/
/-- what is known of the classes whose instances may stand there -/
def FldOk (K : PySem.W.Frag) (Cs : List Str) (f : Str) : Prop := ∀ C, C ∈ Cs → Cls K (He.ga K C) ∧ NoAttr K (He.ga K C) f
def mFld (Cs : List Str) (f : Str) (c : MV) : MV := mBind c fun w => fun _ S => match insO S w with
  | some (C, fs, ws) => if C ∈ Cs then (match look fs ws f with
    | some u => .ok u S
    | none => .stuck) else .stuck
  | none => .stuck
/-- o.f = v -/
def mFldSet (Cs : List Str) (f : Str) (co cv : MV) : MS := mBind cv fun v => mBind co fun o => fun ρ S => match o with
  | .loc l => (match S[l]? with
    | some (.ins C fs ws) => if C ∈ Cs ∧ fs.length < 1000 then .ok (.next, ρ) (S.set l (.ins C (setF fs ws f v).1 (setF fs ws f v).2)) else .stuck
    | _ => .stuck)
  | _ => .stuck
section
variable {X : Cx} {E : XK} {e o value : Expr} {c co cv : MV} {f : Str} {Cs : List Str} {pos pos' : Pos}
theorem ce_fld (F : FldOk X.K Cs f) (he : CE X E e c) (hb : attributeBase e f X.env (eval e X.env) = eval e X.env := by rfl) : CE X E (.Attribute e f pos) (mFld Cs f c) :=
  PE.weak (pe_fld he hb) fun σ H Q ⟨ρ, ι, S, re, rl, h⟩ => by
    refine ⟨ρ, ι, S, re, rl, (Post.bind h).mono fun w S1 ι1 H1 e1 rl1 h1 x rx => ?_⟩
    split at h1
    · rename_i C fs ws q
      by_cases hC : C ∈ Cs
      · rw [if_pos hC] at h1
        obtain ⟨a, dx, xs, rfl, h2, h3, h4⟩ := ins_ok rl1 q rx
        have lk := look_lookup (K := X.K) (ι := ι1) (n := S1.length) (H := H1) f h3 h4
        split at h1
        · rename_i u qu
          rw [qu] at lk
          cases ql : (fs.zip xs).lookup f with
          | none => rw [ql] at lk; exact lk.elim
          | some v =>
            rw [ql] at lk
            exact ⟨a, _, dx, _, v, rfl, h2, (F C hC).1, (F C hC).2, ql, PostV.now h1 rl1 lk⟩
        · exact h1.elim
      · rw [if_neg hC] at h1; exact h1.elim
    · exact h1.elim
theorem cs_fld (F : FldOk X.K Cs f) (ho : CE X E o co) (hv : CE X E value cv) (hs : swapsWith value (some (.Attribute o f pos')) pos.line X.env = pure false := by rfl) : CS X E (.Assign [.Attribute o f pos'] value pos) (mFldSet Cs f co cv) :=
  PS.weak (ps_fld ho hv hs) fun D σ H ⟨ρ, ι, S, re, rl, h⟩ => by
    refine ⟨ρ, ι, S, re, rl, (Post.bind h).mono fun v S1 ι1 H1 e1 rl1 h1 y ry => ?_⟩
    refine ⟨ρ, ι1, S1, re.mono e1, rl1, (Post.bind h1).mono fun w S2 ι2 H2 e2 rl2 h2 x rx => ?_⟩
    split at h2
    · rename_i l
      cases rx with
      | loc hl =>
        split at h2
        · rename_i C fs ws q
          by_cases z : C ∈ Cs ∧ fs.length < 1000
          · rw [if_pos z] at h2
            obtain ⟨dx, xs, g1, g2, g3⟩ := rl2.obj l _ q
            have ex := Ext.set (o := .ins (He.ga X.K C) dx (putF f y (fs.zip xs))) rl2 hl (nofz g1)
            obtain ⟨ys, p1, p2, p3⟩ := setF_ok ((ry.mono e2).mono ex) (f := f) g2 (g3.mono ex)
            refine ⟨ι2 l, _, dx, _, rfl, g1, (F C z.1).1, (F C z.1).2, by rw [List.length_zip]; omega, ?_⟩
            exact h2 ι2 _ (by rw [List.length_set]; exact ex) (rl2.set hl (nofz g1) ⟨dx, ys, by rw [upd_same, p1], p2, p3⟩) σ (by rw [List.length_set]; exact ((re.mono e1).mono e2).mono ex)
          · rw [if_neg z] at h2; exact h2.elim
        · exact h2.elim
    · exact h2.elim
end
end Mm

/-! The mirror layer: C(..) and o.m(..) of own classes. -/
namespace Mm
open PySem PySem.Spec PyProof.Rows L2
/-- a def at an address, its last parameters' defaults ds -/
def FMa (P : Program) (w : World) (K : PySem.W.Frag) (mg : Str → Option Value) (base : Heap) (k : Nat) (f : Addr) (n : Nat) (m : MF) (ds : List W) : Prop :=
  ∃ fd ps vs us, ps.length = n ∧ FnOk P w K mg base CX0 k f fd ps (sp0 K n m) ∧ Binds K fd ps us ∧ Vals vs us ∧ ∀ ι j H, Reps K ι j H ds vs
def mMake (C : Str) (n : Nat) (m : MF) (ds : List W) (t : MW (List W)) : MV := mBind t fun ws => fun _ S => if (ws ++ ds).length + 1 = n then (match m (.loc S.length :: (ws ++ ds)) (S ++ [.ins C [] []]) with
  | .ok .non S' => if S.length < S'.length then .ok (.loc S.length) S' else .stuck
  | _ => .stuck) else .stuck
def mMeth (C : Str) (n : Nat) (m : MF) (name : Str) (ds : List W) (c : MV) (t : MW (List W)) : MV := mBind c fun o => fun ρ S => match insO S o with
  | some (C', fs, ws) => if C' = C ∧ look fs ws name = none then mBind t (fun us => fun _ S => if (us ++ ds).length + 1 = n then m (o :: (us ++ ds)) S else .stuck) ρ S else .stuck
  | none => .stuck
section
variable {X : Cx} {x C : Str} {n k : Nat} {m : MF} {ds : List W} {f : Addr} {e : Expr} {es : List Expr} {t : MW (List W)} {o : Expr} {c : MV}
theorem make_ok {K : PySem.W.Frag} {ι : Im} {S : Sto} {H : Hp} {ws : List W} {vs dvs : List V} {Q : VK} {y dx : Addr} (rl : Rl K ι S H) (r : Reps K ι S.length H ws vs) (rd : ∀ ι j H, Reps K ι j H ds dvs) (hy : H y = none) (hd : H dx = none) (ne : dx ≠ y)
    (h : PostV K E0 (if (ws ++ ds).length + 1 = n then (match m (.loc S.length :: (ws ++ ds)) (S ++ [.ins C [] []]) with
      | .ok .non S' => if S.length < S'.length then Res.ok (.loc S.length) S' else .stuck
      | _ => .stuck) else .stuck) ι S.length H Q) : sp0 K n m (.ref y :: (vs ++ dvs)) (upd (upd H dx (.own y)) y (.ins (He.ga K C) dx [])) (fun v H2 => v = .non ∧ Q (.ref y) H2) E0 := by
  by_cases z : (ws ++ ds).length + 1 = n
  · rw [if_pos z] at h
    have hy2 : (upd H dx (.own y)) y = none := by rw [upd_ne (Ne.symm ne)]; exact hy
    have rl1 := rl.new (o := .own y) hd
    have e1 := Ext.new (o := .own y) rl hd
    have e2 := Ext.push (o := .ins (He.ga K C) dx []) rl1 hy2
    have rl2 : Rl K (ιx ι S.length y) (S ++ [.ins C [] []]) (upd (upd H dx (.own y)) y (.ins (He.ga K C) dx [])) := rl1.push hy2 ⟨dx, [], upd_same, rfl, .nil⟩
    have e12 : Ext ι S.length H (ιx ι S.length y) (S.length + 1) (upd (upd H dx (.own y)) y (.ins (He.ga K C) dx [])) := e1.trans e2
    have hl : (S ++ [O.ins C [] []]).length = S.length + 1 := by simp
    have rr : Rep K (ιx ι S.length y) (S.length + 1) (upd (upd H dx (.own y)) y (.ins (He.ga K C) dx [])) (.loc S.length) (.ref y) := by
      have : (ιx ι S.length y) S.length = y := ιx_at
      rw [show V.ref y = V.ref ((ιx ι S.length y) S.length) by rw [this]]
      exact .loc (Nat.lt_succ_self _)
    refine ⟨?_, .loc S.length :: (ws ++ ds), ιx ι S.length y, S ++ [.ins C [] []], ?_, rl2, ?_⟩
    · rw [← z]
      simp only [List.length_cons, List.length_append]
      rw [← r.length, ← (rd ι 0 H).length]
    · rw [hl]
      exact .cons rr ((r.mono e12).append (rd _ _ _))
    · cases q : m (.loc S.length :: (ws ++ ds)) (S ++ [.ins C [] []]) with
      | stuck => rw [q] at h; exact h.elim
      | err a b => rw [q] at h; exact h.elim
      | ok u S' =>
        rw [q] at h
        cases u with
        | non =>
          have h' : PostV K E0 (if S.length < S'.length then Res.ok (.loc S.length) S' else .stuck) ι S.length H Q := h
          by_cases z2 : S.length < S'.length
          · rw [if_pos z2] at h'
            intro ι' H' e' rl' v rv
            cases rv
            refine ⟨rfl, ?_⟩
            rw [hl] at e'
            refine h' ι' H' (e12.trans e') rl' (.ref y) ?_
            have e3 : ι' S.length = y := by
              rw [e'.io S.length (Nat.lt_succ_self _)]
              exact ιx_at
            rw [← e3]
            exact .loc z2
          · rw [if_neg z2] at h'; exact h'.elim
        | _ => exact h.elim
  · rw [if_neg z] at h; exact h.elim
theorem ce_make {p pos : Pos} (M : Mk X.K (He.ga X.K x) f) (F : FMa X.prog X.w X.K X.mg X.base k f n m ds) (hr : Room (k + 1) X.A) (hg : Gl X x) (hm : X.mg x = some (.ref (He.ga X.K x))) (ha : CA X E0 (e :: es) t)
    (hdb : (x == ("__debug__" : Str)) = false := by decide) (he : starEach (e :: es) X.env = (false, eval e X.env) :: starEach es X.env := by rfl) (hpl : (backTo pos (starEach es X.env)).any (·.1) = false := by rfl) :
    CE X E0 (.Call (.Name x p) (e :: es) [] pos) (mMake x n m ds t) := by
  obtain ⟨fd, ps, dvs, us, hn, ok, bd, vd, rd⟩ := F
  refine PE.weak (pe_make M ok hr hg hm bd vd pass0 ha hdb he hpl) fun σ H Q ⟨ρ, ι, S, re, rl, h⟩ => ?_
  refine ⟨ρ, ι, S, re, rl, (Post.bind h).mono fun ws S1 ι1 H1 e1 rl1 h1 vs rvs => fun y dx hy hd ne => ?_⟩
  exact make_ok rl1 rvs rd hy hd ne h1
theorem look_none {K : PySem.W.Frag} {ι : Im} {j : Nat} {H : Hp} {fs : List Str} {ws : List W} {xs : List V} {name : Str} (hl : fs.length = ws.length) (r : Reps K ι j H ws xs) (e : look fs ws name = none) : (fs.zip xs).lookup name = none := by
  have lk := look_lookup (K := K) (ι := ι) (n := j) (H := H) name hl r
  rw [e] at lk
  cases q : (fs.zip xs).lookup name with
  | none => rfl
  | some v => rw [q] at lk; exact lk.elim
theorem ce_meth {name : Str} {apos pos : Pos} {pl : Sem Bool} (cl : Cls X.K (He.ga X.K C)) (hm : Meth X.K (He.ga X.K C) name f) (F : FMa X.prog X.w X.K X.mg X.base k f n m ds) (hr : Room k X.A) (ho : CE X E0 o c) (ha : CA X E0 (e :: es) t)
    (hst : starEach (e :: es) X.env = (false, eval e X.env) :: starEach es X.env := by rfl) (hpl : (backTo pos (starEach es X.env)).any (·.1) = false := by rfl)
    (ht : eval (.Call (.Attribute o name apos) (e :: es) [] pos) X.env = (do
      let ov ← eval o X.env
      standAt apos.atName
      let (f, first) ← holding [ov] (getMethod ov name pl)
      callWith pos f first (backTo pos (starEach (e :: es) X.env)) (backToKw pos (keywordEach [] X.env))) := by rfl) :
    CE X E0 (.Call (.Attribute o name apos) (e :: es) [] pos) (mMeth C n m name ds c t) := by
  obtain ⟨fd, ps, dvs, us, hn, ok, bd, vd, rd⟩ := F
  refine PE.weak (pe_meth ho cl hm ok hr bd vd pass0 ha hst hpl ht) fun σ H Q ⟨ρ, ι, S, re, rl, h⟩ => ?_
  refine ⟨ρ, ι, S, re, rl, (Post.bind h).mono fun w S1 ι1 H1 e1 rl1 h1 x rx => ?_⟩
  split at h1
  · rename_i C' fs ws q
    by_cases z : C' = C ∧ look fs ws name = none
    · rw [if_pos z] at h1
      obtain ⟨rfl, zl⟩ := z
      obtain ⟨a, dx, xs, rfl, h2, h3, h4⟩ := ins_ok rl1 q rx
      refine ⟨a, dx, _, rfl, h2, look_none h3 h4 zl, ρ, ι1, S1, re.mono e1, rl1, (Post.bind h1).mono fun us' S2 ι2 H2 e2 rl2 h5 vs rvs => ?_⟩
      by_cases z2 : (us' ++ ds).length + 1 = n
      · rw [if_pos z2] at h5
        refine ⟨?_, w :: (us' ++ ds), ι2, S2, .cons (rx.mono e2) (rvs.append (rd _ _ _)), rl2, h5⟩
        rw [← z2]
        simp only [List.length_cons, List.length_append]
        rw [← rvs.length, ← (rd ι2 0 H2).length]
      · rw [if_neg z2] at h5; exact h5.elim
    · rw [if_neg z] at h1; exact h1.elim
  · exact h1.elim
theorem ce_meth0 {name : Str} {apos pos : Pos} {pl : Sem Bool} (cl : Cls X.K (He.ga X.K C)) (hm : Meth X.K (He.ga X.K C) name f) (F : FMa X.prog X.w X.K X.mg X.base k f n m ds) (hr : Room k X.A) (ho : CE X E0 o c)
    (ht : eval (.Call (.Attribute o name apos) [] [] pos) X.env = (do
      let ov ← eval o X.env
      standAt apos.atName
      let (f, first) ← holding [ov] (getMethod ov name pl)
      callWith pos f first (backTo pos (starEach [] X.env)) (backToKw pos (keywordEach [] X.env))) := by rfl) :
    CE X E0 (.Call (.Attribute o name apos) [] [] pos) (mMeth C n m name ds c mNil) := by
  obtain ⟨fd, ps, dvs, us, hn, ok, bd, vd, rd⟩ := F
  refine PE.weak (pe_meth0 ho cl hm ok hr bd vd pass0 ht) fun σ H Q ⟨ρ, ι, S, re, rl, h⟩ => ?_
  refine ⟨ρ, ι, S, re, rl, (Post.bind h).mono fun w S1 ι1 H1 e1 rl1 h1 x rx => ?_⟩
  split at h1
  · rename_i C' fs ws q
    by_cases z : C' = C ∧ look fs ws name = none
    · rw [if_pos z] at h1
      obtain ⟨rfl, zl⟩ := z
      obtain ⟨a, dx, xs, rfl, h2, h3, h4⟩ := ins_ok rl1 q rx
      refine ⟨a, dx, _, rfl, h2, look_none h3 h4 zl, ?_⟩
      have h5 : PostV X.K E0 (if ([] ++ ds).length + 1 = n then m (w :: ([] ++ ds)) S1 else .stuck) ι1 S1.length H1 Q := h1
      by_cases z2 : ([] ++ ds).length + 1 = n
      · rw [if_pos z2] at h5
        refine ⟨?_, w :: ([] ++ ds), ι1, S1, .cons rx (rd _ _ _), rl1, h5⟩
        rw [← z2]
        simp only [List.length_cons, List.nil_append]
        rw [← (rd ι1 0 H1).length]
      · rw [if_neg z2] at h5; exact h5.elim
    · rw [if_neg z] at h1; exact h1.elim
  · exact h1.elim
end
end Mm

/-! The mirror layer: isinstance(x, C), C an own class. -/
namespace Mm
open PySem PySem.Spec PyProof.Rows L2
def kinds : List String := ["NoneType", "bool", "int", "str", "tuple", "list", "dict"]
/-- the head's look at it: built-in kinds are none of it; each own class in Ds with its answer -/
def isiOB (K : PySem.W.Frag) (C : Str) (Ds : List (Str × Bool)) : Bool := (kinds.all fun t => decide (PySem.W.kitOne K (.type t) (.ref (He.ga K C)) = some false)) &&
  Ds.all fun d => decide (PySem.W.plainGet K (He.ga K d.1) Str.empty = true) && (decide (PySem.W.hasDictIn K (He.ga K d.1) = true) && (decide (PySem.W.plainOver K (He.ga K d.1) = true) &&
    (decide (PySem.W.findIn K (.ref (He.ga K d.1)) "__setattr__" = some (some (.builtin "object.__setattr__"))) && (decide (PySem.W.findIn K (.ref (He.ga K d.1)) "__class__" = some (some (.builtin "object.__class__"))) &&
    (decide (PySem.W.specialIn K (.builtin "object.__class__") "__get__" = some (some (.builtin "getset_descriptor.__get__"))) && (decide (PySem.W.takesIn K (.builtin "object.__class__") = some true) &&
    (decide (PySem.W.mroIn K (He.ga K d.1) (.type "object") = some true) && decide (PySem.W.kitOne K (.ref (He.ga K d.1)) (.ref (He.ga K C)) = some d.2))))))))
def fIsiO (C : Str) (Ds : List (Str × Bool)) : MF := fun ws S => match ws with
  | [x, .glo C'] => if C' = C then (match tyW x with
    | some _ => .ok (.bl false) S
    | none => (match insO S x with
      | some (D, _, _) => (match Ds.lookup D with
        | some b => .ok (.bl b) S
        | none => .stuck)
      | none => .stuck)) else .stuck
  | _ => .stuck
theorem tyW_kinds {w : W} {t : String} (e : tyW w = some t) : t ∈ kinds := by
  cases w <;> first | (cases e; decide) | cases e
theorem sim_isiO {K : PySem.W.Frag} {E : XK} {C : Str} {Ds : List (Str × Bool)} (B : isiOB K C Ds = true) : SimC K E (rIsi K) (fIsiO C Ds) := by
  intro xs xv ι S H Q rl r h
  obtain ⟨b1, b2⟩ := Bool.and_eq_true_iff.mp B
  cases r with
  | nil => exact h.elim
  | @cons x v _ _ a r =>
    cases r with
    | nil => exact h.elim
    | @cons y u _ _ b r =>
      cases r with
      | cons _ _ => cases b <;> exact h.elim
      | nil =>
        cases b with
        | glo C' =>
          unfold fIsiO at h
          simp only at h
          by_cases hC : C' = C
          · subst hC
            rw [if_pos rfl] at h
            split at h
            · rename_i t q
              exact ⟨_, _, _, _, false, rfl, .own _, tyW_ok a q, of_decide_eq_true (List.all_eq_true.mp b1 t (tyW_kinds q)), PostV.now h rl (.bl false)⟩
            · split at h
              · rename_i D fs ws q
                split at h
                · rename_i k ql
                  obtain ⟨p, dx, zs, rfl, h2, h3, h4⟩ := ins_ok rl q a
                  have f := List.all_eq_true.mp b2 (D, k) (lookup_mem ql)
                  simp only [Bool.and_eq_true, decide_eq_true_eq] at f
                  obtain ⟨f1, f2, f3, f4, f5, f6, f7, f8, f9⟩ := f
                  exact ⟨_, _, _, _, k, rfl, .own _, .base (.ins h2 ⟨f1, f2, f3, f4⟩ f5 f6 f7 f8), f9, PostV.now h rl (.bl k)⟩
                · exact h.elim
              · exact h.elim
          · rw [if_neg hC] at h; exact h.elim
        | _ => exact h.elim
end Mm

/-! Comprehensions of any kind, by what is done with each thing that is made: one for, two fors. -/
namespace Gc
open PySem PySem.Spec PyProof.Rows L2

/-- what is asked of a clause's tests -/
abbrev asks (ifs : List Expr) (env : PySem.Env) : Sem Bool := forIn ifs true fun c r => if r = true then do let ok ← isTrue c env (eval c env); pure (ForInStep.yield ok) else pure (ForInStep.yield r)
/-- what a comprehension's loop is, at a level -/
def LoopIs (prog : Program) (w : World) (ex : Expr) (lv : Nat) : Prop := ∀ (it acc : Value) (env : PySem.Env), (∀ A : Around, A.under (.compLoop ex lv it acc env) = A) ∧
  (model prog w).den (.compLoop ex lv it acc env) = (compTurn ex lv it acc env).onRaise (fun x => do noteFrame x env; theTreesLotGoes x)
section
variable {prog : Program} {w : World} {A : Around} {R : Result → Shared → Prop} {s : Shared} {ex tg iter : Expr} {ifs : List Expr} {it acc : Value} {env : PySem.Env}
/-- the loop of the innermost clause -/
theorem inmost {lv : Nat} {put : Sem Unit} (hu : LoopIs prog w ex lv) (ht : compTurn ex lv it acc env = (do
      standAt iter.pos
      match ← pyNext it with
      | none => pure (.done .next)
      | some v =>
        letOwnedTupleGo tg it v
        assign tg env v
        let mut ok := true
        for c in ifs do
          if ok then ok ← isTrue c env (eval c env)
        if ok then
          put
        again (.compLoop ex lv it acc env)))
    (J : Nat → Shared → Prop)
    (turn : ∀ n s, J n s → wpAny (model prog w) A (pyNext it) (fun r s₁ => match r with
      | none => R (.ok .next) s₁
      | some v => wpAny (model prog w) A (letOwnedTupleGo tg it v) (fun _ s₂ => wpAny (model prog w) A (assign tg env v) (fun _ s₃ =>
          wpAny (model prog w) A (asks ifs env) (fun ok s₄ =>
            if ok = true then wpAny (model prog w) A put (fun _ s₅ => ∃ m, m < n ∧ J m s₅) (notedBy (model prog w) A env fun e s' => R (.error e) s') s₄
            else ∃ m, m < n ∧ J m s₄) (notedBy (model prog w) A env fun e s' => R (.error e) s') s₃) (notedBy (model prog w) A env fun e s' => R (.error e) s') s₂) (notedBy (model prog w) A env fun e s' => R (.error e) s') s₁) (notedBy (model prog w) A env fun e s' => R (.error e) s') s)
    (n : Nat) (h : J n s) : codeAny (model prog w) A (.compLoop ex lv it acc env) R s := by
  refine codeAny_loop rfl J (fun n s hJ => ?_) n h
  rw [(hu it acc env).1, (hu it acc env).2]
  refine wpAny_noted ?_
  rw [ht]
  refine wpAny_bind (wpAny_standAt (wpAny_bind (wpAny_mono (turn n s hJ) (fun r s1 q1 => ?_) fun _ _ z => z)))
  cases r with
  | none => exact wpAny_pure q1
  | some v =>
    refine wpAny_bind (wpAny_mono q1 (fun _ s2 q2 => ?_) fun _ _ z => z)
    refine wpAny_bind (wpAny_mono q2 (fun _ s3 q3 => ?_) fun _ _ z => z)
    refine wpAny_bind (wpAny_mono q3 (fun ok s4 q4 => ?_) fun _ _ z => z)
    cases ok with
    | false => exact wpAny_pure ⟨rfl, q4⟩
    | true => exact wpAny_bind (wpAny_mono q4 (fun _ s5 q5 => wpAny_pure ⟨rfl, q5⟩) fun _ _ z => z)
/-- the loop of a first clause, a second within -/
theorem outmost {i1 : Expr} (hu : LoopIs prog w ex 0) (ht : compTurn ex 0 it acc env = (do
      standAt iter.pos
      match ← pyNext it with
      | none => pure (.done .next)
      | some v =>
        letOwnedTupleGo tg it v
        assign tg env v
        let mut ok := true
        for c in ifs do
          if ok then ok ← isTrue c env (eval c env)
        if ok then
          let x ← eval i1 env
          standAt i1.pos
          let x ← foldedSetIterable i1 env x
          let _ ← runOwn (.compStart ex 1 (← holding [x] (pyIter x)) acc env) env
        again (.compLoop ex 0 it acc env)))
    (hf : ∀ x, foldedSetIterable i1 env x = pure x) (J : Nat → Shared → Prop)
    (turn : ∀ n s, J n s → wpAny (model prog w) A (pyNext it) (fun r s₁ => match r with
      | none => R (.ok .next) s₁
      | some v => wpAny (model prog w) A (letOwnedTupleGo tg it v) (fun _ s₂ => wpAny (model prog w) A (assign tg env v) (fun _ s₃ =>
          wpAny (model prog w) A (asks ifs env) (fun ok s₄ =>
            if ok = true then wpAny (model prog w) A (eval i1 env) (fun x s₅ => wpAny (model prog w) A (pyIter x) (fun it1 s₆ =>
              codeAny (model prog w) A (.compStart ex 1 it1 acc env) (fun r s' => match r with
                | .ok _ => ∃ m, m < n ∧ J m s'
                | .error _ => False) s₆) (notedBy (model prog w) A env fun e s' => R (.error e) s') s₅) (notedBy (model prog w) A env fun e s' => R (.error e) s') s₄
            else ∃ m, m < n ∧ J m s₄) (notedBy (model prog w) A env fun e s' => R (.error e) s') s₃) (notedBy (model prog w) A env fun e s' => R (.error e) s') s₂) (notedBy (model prog w) A env fun e s' => R (.error e) s') s₁) (notedBy (model prog w) A env fun e s' => R (.error e) s') s)
    (n : Nat) (h : J n s) : codeAny (model prog w) A (.compLoop ex 0 it acc env) R s := by
  refine codeAny_loop rfl J (fun n s hJ => ?_) n h
  rw [(hu it acc env).1, (hu it acc env).2]
  refine wpAny_noted ?_
  rw [ht]
  refine wpAny_bind (wpAny_standAt (wpAny_bind (wpAny_mono (turn n s hJ) (fun r s1 q1 => ?_) fun _ _ z => z)))
  cases r with
  | none => exact wpAny_pure q1
  | some v =>
    refine wpAny_bind (wpAny_mono q1 (fun _ s2 q2 => ?_) fun _ _ z => z)
    refine wpAny_bind (wpAny_mono q2 (fun _ s3 q3 => ?_) fun _ _ z => z)
    refine wpAny_bind (wpAny_mono q3 (fun ok s4 q4 => ?_) fun _ _ z => z)
    cases ok with
    | false => exact wpAny_pure ⟨rfl, q4⟩
    | true =>
      refine wpAny_bind (wpAny_mono q4 (fun x s5 q5 => ?_) fun _ _ z => z)
      refine wpAny_bind (wpAny_standAt (wpAny_bind (wpAny_of_eq (hf x) (wpAny_bind (wpAny_holding (wpAny_mono q5 (fun it1 s6 q6 => ?_) fun _ _ z => z))))))
      refine wpAny_bind (wpAny_runOwn ?_)
      rw [Around.mark_none]
      refine codeAny_mono q6 fun r s' hr => ?_
      cases r with
      | ok f =>
        first
          | exact wpAny_pure ⟨rfl, hr⟩
          | exact wpAny_bind (wpAny_pure (wpAny_pure ⟨rfl, hr⟩))
      | error e => exact hr.elim
end
section
variable {X : Cx}
abbrev PutT := Addr → L2.St → Hp → (Hp → Prop) → Prop
/-- what is done with each thing: within the block, at the new object -/
def PutOk (X : Cx) (ce : PySem.Env) (pins : List (Addr × Obj)) (put : PySem.Env → Addr → Sem Unit) (tp : PutT) : Prop := ∀ (s : Shared) (σ : L2.St) (H : Hp) (D : Addr) (N : Hp → Prop), Inv X pins σ H s → tp D σ H N →
  wpAny (model X.prog X.w) X.A (put ce D) (fun _ s' => ∃ H', Inv X pins σ H' s' ∧ N H') X.xe s
/-- all turns of a walk, by an invariant of one's own with a measure: Fin behind the last; at each one what step asks, with the wish that leads on -/
abbrev Laps (J : It) (H : Hp) (Fin : Hp → Prop) (step : V → Hp → (Hp → Prop) → Prop) : Prop := ∃ W : Nat → Nat → Hp → Prop, (∃ m, W 0 m H) ∧
  ∀ i m H, W i m H → (J.stop i H ∧ Fin H) ∨ (J.go i H ∧ ∃ Nx : Hp → Prop, (∀ H', Nx H' → ∃ m', m' < m ∧ W (i + 1) m' H') ∧ ∀ x H', J.yld i H x H' → step x H' Nx)
/-- one clause: bound, tested, done -/
abbrev Clause (g : TG) (tt : TT) (vs : List Nat) (σ : L2.St) (x : V) (H : Hp) (yes : L2.St → Hp → Prop) (no : Hp → Prop) : Prop :=
  g x (wipe σ vs) H fun σ2 H2 => wipe σ2 vs = wipe σ vs ∧ tt σ2 H2 fun b H3 => if b = true then yes σ2 H3 else no H3
def tG1 (A0 : Addr → HO) (tp : PutT) (wi : TI) (g : TG) (tt : TT) (vs : List Nat) : TE := fun σ H Q => wi σ H fun J H1 => ∀ D, H1 D = none →
  Laps J (upd H1 D (A0 D)) (Q (.ref D)) fun x H' Nx => Clause g tt vs σ x H' (fun σ2 H3 => tp D σ2 H3 Nx) Nx
def tG2 (A0 : Addr → HO) (tp : PutT) (wi : TI) (g : TG) (tt : TT) (wi1 : TI) (g1 : TG) (tt1 : TT) (vs vs1 : List Nat) : TE := fun σ H Q => wi σ H fun J H1 => ∀ D, H1 D = none →
  Laps J (upd H1 D (A0 D)) (Q (.ref D)) fun x H' Nx => Clause g tt vs σ x H' (fun σ2 H3 => wi1 σ2 H3 fun J1 H4 => Laps J1 H4 Nx fun y H5 Nx1 => Clause g1 tt1 vs1 σ2 y H5 (fun σ3 H6 => tp D σ3 H6 Nx1) Nx1) Nx
end
/-! ### a walk, wherever it stands -/
/-- the walk stands at its turn i, out of the reach of what is tracked -/
structure Wk (Z : Cx) (pins : List (Addr × Obj)) (fp : List Addr) (tn : Nat → Heap → Prop) (τ : L2.St) (i : Nat) (H : Hp) (s : Shared) : Prop where
  inv : Inv Z pins τ H s
  here : tn i s.heap
  off : ∀ b ∈ fp, FpOk Z pins H b
/-- the slots τ tell nothing that the slots ρ don't tell -/
structure Less (τ ρ : L2.St) : Prop where
  len : τ.length = ρ.length
  sub : ∀ (j : Nat) v, τ[j]? = some (some v) → ρ[j]? = some (some v)
theorem less_wipe {ρ : L2.St} {vs : List Nat} : Less (wipe ρ vs) ρ := ⟨wipe_length _ _, fun _ _ e => (wipe_some e).1⟩
theorem less_of {τ ρ : L2.St} {vs : List Nat} (e : wipe ρ vs = τ) : Less τ ρ := e ▸ less_wipe
section
variable {Z : Cx} {pins : List (Addr × Obj)} {fp : List Addr} {it : Addr} {tn : Nat → Heap → Prop} {J : It} {τ : L2.St} {i : Nat} {H : Hp} {s : Shared} {tg : Expr} {ifs : List Expr} {g : TG} {tt : TT}
/-- what was yielded is bound and tested; the way back to the walk is kept -/
theorem Wk.turn {vs : List Nat} {Kp : L2.St → Bool → Hp → Prop} {E : Value → Shared → Prop} (k : Wk Z pins fp tn τ i H s) (T : Turn Z.prog Z.w Z.K tg J fp it tn) (hc : Z.calm = true) (hz : Z.xe = fun _ _ => False) (pg : PG Z tg g) (pt : PTs Z ifs tt) (go : J.go i H)
    (step : ∀ x H', J.yld i H x H' → g x τ H' fun σ2 H2 => wipe σ2 vs = τ ∧ tt σ2 H2 (Kp σ2)) :
    wpAny (model Z.prog Z.w) Z.A (pyNext (.ref it)) (fun r s1 => ∃ u, r = some u ∧ wpAny (model Z.prog Z.w) Z.A (letOwnedTupleGo tg (.ref it) u) (fun _ s2 => wpAny (model Z.prog Z.w) Z.A (assign tg Z.env u) (fun _ s3 =>
      wpAny (model Z.prog Z.w) Z.A (asks ifs Z.env) (fun b s4 => ∃ pn ρ H4, Inv Z pn ρ H4 s4 ∧ wipe ρ vs = τ ∧ Kp ρ b H4 ∧ ∀ {ρ' : L2.St} {H' : Hp} {s' : Shared}, Inv Z pn ρ' H' s' → Less τ ρ' → Wk Z pins fp tn τ (i + 1) H' s') E s3) E s2) E s1) E s := by
  have quiet : ∀ {α : Type} {t : Sem α} {Q Q' : α → Shared → Prop} {s : Shared}, wpAny (model Z.prog Z.w) Z.A t Q Z.xe s → (∀ a s, Q a s → Q' a s) → wpAny (model Z.prog Z.w) Z.A t Q' E s := fun h f => by
    rw [hz] at h
    exact thnF h f
  refine thn (T.item Z rfl rfl rfl hc i pins s τ H E k.inv k.off k.here go) fun r s1 ⟨u, e, h1⟩ => ⟨u, e, thn h1 fun _ s2 ⟨x, H2, I2, rx, y2, at2, free2⟩ => ?_⟩
  have off2 : ∀ b ∈ fp, FpOk Z pins H2 b := fun b hb => ⟨free2 b hb, (k.off b hb).2⟩
  have whole := T.obj _ _ at2
  refine quiet (pg.run _ s2 τ H2 x u _ (I2.pinned off2 whole) rx (step x H2 y2)) fun _ s3 ⟨ρ, H3, I3, ew, q3⟩ => quiet (pt.run _ s3 ρ H3 _ I3 q3) fun b s4 ⟨H4, I4, q4⟩ => ?_
  refine ⟨_, ρ, H4, I4, ew, q4, fun {ρ' H' s'} I' ls => ?_⟩
  have still : ∀ b ∈ fp, ∀ o, s2.heap.get? b = some o → s'.heap.get? b = some o ∧ H' b = none := fun b hb o e =>
    (I'.pin (b, o) (List.mem_append_right _ (List.mem_append_right _ (mem_pinsAt hb e)))).imp id And.left
  refine ⟨I'.unpinned.weak ls.len ls.sub, T.keep _ _ _ at2 fun b hb o e => (still b hb o e).1, fun b hb => ⟨?_, (k.off b hb).2⟩⟩
  obtain ⟨o, e, _⟩ := whole b hb
  exact (still b hb o e).2
/-- the loop of the last clause -/
theorem loop_put {ex iter : Expr} {lv : Nat} {vs : List Nat} {D : Addr} {put : PySem.Env → Addr → Sem Unit} {tp : PutT} {R : Result → Shared → Prop} {Fin : Hp → Prop} (hu : LoopIs Z.prog Z.w ex lv) (ht : compTurn ex lv (.ref it) (.ref D) Z.env = (do
      standAt iter.pos
      match ← pyNext (.ref it) with
      | none => pure (.done .next)
      | some v =>
        letOwnedTupleGo tg (.ref it) v
        assign tg Z.env v
        let mut ok := true
        for c in ifs do
          if ok then ok ← isTrue c Z.env (eval c Z.env)
        if ok then
          put Z.env D
        again (.compLoop ex lv (.ref it) (.ref D) Z.env)))
    (T : Turn Z.prog Z.w Z.K tg J fp it tn) (hc : Z.calm = true) (hz : Z.xe = fun _ _ => False) (pg : PG Z tg g) (pt : PTs Z ifs tt) (pp : ∀ pn, PutOk Z Z.env pn put tp) (W : Nat → Nat → Hp → Prop)
    (turn : ∀ i m H, W i m H → (J.stop i H ∧ Fin H) ∨ (J.go i H ∧ ∃ Nx : Hp → Prop, (∀ H', Nx H' → ∃ m', m' < m ∧ W (i + 1) m' H') ∧ ∀ x H', J.yld i H x H' → g x τ H' fun σ2 H2 => wipe σ2 vs = τ ∧ tt σ2 H2 fun b H3 => if b = true then tp D σ2 H3 Nx else Nx H3))
    (fin : ∀ H s, Inv Z pins τ H s → Fin H → R (.ok .next) s) {m : Nat} (k : Wk Z pins fp tn τ i H s) (w0 : W i m H) : codeAny (model Z.prog Z.w) Z.A (.compLoop ex lv (.ref it) (.ref D) Z.env) R s := by
  refine inmost hu ht (fun n s' => ∃ i H', Wk Z pins fp tn τ i H' s' ∧ W i n H') ?_ m ⟨i, H, k, w0⟩
  rintro n s1 ⟨i1, H1, k1, w1⟩
  rcases turn i1 n H1 w1 with ⟨stop, fn⟩ | ⟨go, Nx, less, step⟩
  · refine thn (T.done Z rfl rfl rfl hc i1 pins s1 τ H1 _ k1.inv k1.off k1.here stop) fun r s2 ⟨e, I2⟩ => ?_
    rw [e]
    exact fin H1 s2 I2 fn
  · refine thn (k1.turn T hc hz pg pt go step) fun r s2 ⟨u, e, h2⟩ => ?_
    rw [e]
    refine thn h2 fun _ s3 h3 => thn h3 fun _ s4 h4 => thn h4 fun b s5 ⟨pn, ρ, H5, I5, ew, q5, back⟩ => ?_
    have on : ∀ {H' : Hp} {s' : Shared}, Inv Z pn ρ H' s' → Nx H' → ∃ m, m < n ∧ ∃ i H', Wk Z pins fp tn τ i H' s' ∧ W i m H' := fun I' nx => by
      obtain ⟨m', lt, w'⟩ := less _ nx
      exact ⟨m', lt, _, _, back I' (less_of ew), w'⟩
    cases b with
    | false => exact on I5 q5
    | true =>
      have h6 := pp pn s5 ρ H5 D Nx I5 q5
      rw [hz] at h6
      exact thnF h6 fun _ s6 ⟨H6, I6, nx⟩ => on I6 nx
end
section
variable {X : Cx}
variable {ex tg iter : Expr} {ifs : List Expr} {scope : Scope} {own : List (PySem.Str × Nat)} {pos' : Pos} {wi : TI} {g : TG} {tt : TT} {new : Sem Value} {ob : World → Obj} {A0 : Addr → HO} {put : PySem.Env → Addr → Sem Unit} {tp : PutT}
/-- the block is opened: its walk stands at its first turn; from within there is a way out -/
theorem opened {cs : List Comprehension} (hcl0 : clausesOf ex = ⟨tg, iter, ifs, 0⟩ :: cs) {pins : List (Addr × Obj)} {s : Shared} {σ : L2.St} {H : Hp} {use : Option (Value → Sem Unit)} {Qf : Value → Shared → Prop} {Rd : It → Hp → Prop} (I : Inv X pins σ H s) (hN : X.N.Nodup) (hi : PI X tg iter wi) (ok : BlkOk X.N X.env.scope scope own)
    (hs : ∀ x, foldedSetIterable iter X.env x = pure x)
    (hnew : ∀ {A : Around} {E : Value → Shared → Prop} {s : Shared} {Q : Value → Shared → Prop}, Q (.ref s.heap.objs.size) { s with heap := s.heap.push (ob X.w) } → wpAny (model X.prog X.w) A new Q E s)
    (hob : ∀ (H : Hp) (h : Heap), sysModules < h.objs.size → ObjOk X.prog X.w H (h.push (ob X.w)) h.objs.size (A0 h.objs.size))
    (h : wi σ H Rd)
    (run : ∀ (it D C : Addr) (fp : List Addr) (tn : Nat → Heap → Prop) (J : It) (H2 : Hp) (cl : List (PySem.Str × Addr)) (s3 s4 : Shared), Turn X.prog X.w X.K tg J fp it tn → H2 D = none → Rd J H2 →
      Wk (X.blk s3 (upd H2 D (A0 D)) scope (compEnvC scope cl C X.env) fp) [] fp tn (wipe σ (own.map (·.2))) 0 (upd H2 D (A0 D)) s4 →
      (∀ (ρ : L2.St) (H' : Hp) (s' : Shared), Inv (X.blk s3 (upd H2 D (A0 D)) scope (compEnvC scope cl C X.env) fp) [] ρ H' s' → Inv X pins σ H' s' ∧ (∃ m, s'.heap.Ns C m) ∧ FpOk X pins H' C) →
      codeAny (model X.prog X.w) X.A (.compStart ex 0 (.ref it) (.ref D) (compEnvC scope cl C X.env)) (compPost (model X.prog X.w) X.A X.xe use Qf (.ref D) C) s4) :
    wpAny (model X.prog X.w) X.A (comprehension ex scope X.env pos' new false (eval iter X.env) use) Qf X.xe s := by
  refine wpAny_comprehension_free (use := use) hcl0 hs (closure_ok fun y hy e => ?_) ok.kind (fun y hy e => (ok.uniq y hy).trans (congrArg some e)) (thn (hi.run pins s σ H Rd I h) fun _ s1 h1 => thn h1 fun v s2 h2 => ?_)
  · cases ok.free y hy e with
    | inl z => exact I.ok.has _ (.inl z)
    | inr z => exact I.ok.has _ (.inr z)
  obtain ⟨it, fp, tn, J, H2, rfl, I2, T, at2, off2, rd⟩ := h2
  refine hnew (newEnv_comp ?_)
  have new : H2 s2.heap.objs.size = none := I2.hok.fresh (Nat.le_refl _)
  have I3 := I2.laid (o := A0 s2.heap.objs.size) (t' := s2.toks) (fun _ _ e => Heap.get?_push_of_some (ob X.w) e) (Nat.le_refl _) (hob (upd H2 s2.heap.objs.size (A0 s2.heap.objs.size)) s2.heap I2.big)
  have low : ∀ b ∈ fp, b < s2.heap.objs.size := fun b hb => (T.obj _ _ at2 b hb).elim fun _ e => Heap.lt_size e.1
  have off3 : ∀ b ∈ fp, FpOk X pins (upd H2 s2.heap.objs.size (A0 s2.heap.objs.size)) b ∧ b < (s2.heap.push (ob X.w)).objs.size := fun b hb =>
    ⟨⟨(upd_ne (Nat.ne_of_lt (low b hb))).trans (off2 b hb).1, (off2 b hb).2⟩, Nat.lt_of_lt_of_le (low b hb) (by rw [Heap.size_push]; exact Nat.le_succ _)⟩
  have I4 := block_start I3 ok hN off3
  refine run it _ _ fp tn J H2 _ _ _ T new rd ⟨I4, T.keep _ _ _ at2 fun b _ o e => pushCells_keeps _ _ _ _ (Heap.get?_push_of_some _ (Heap.get?_push_of_some _ e)), fun b hb => ?_⟩ fun ρ H' s' I' => ?_
  · exact ⟨(off3 b hb).1.1, (I4.ok.exf b hb).1, I4.ok.exfs b hb, .inl hb, fun x c e => (I4.ok.exf b hb).2 x c e, fun p hp => nomatch hp⟩
  · have away := fun b hb => (off3 b hb).1.2
    have out := I3.call' (ch := fp) I'.os I'.base I'.hok I'.bare fun b hb => ⟨(away b hb).2.2.1, (away b hb).1, (away b hb).2.2.2.1, (away b hb).2.2.2.2⟩
    obtain ⟨m, ns, _⟩ := I'.loc
    exact ⟨out, ⟨m, ns⟩, I3.fpOk (Nat.le_refl _) I'.free⟩
theorem core1 (hcl0 : clausesOf ex = [⟨tg, iter, ifs, 0⟩]) (hun : LoopIs X.prog X.w ex 0) {pins : List (Addr × Obj)} {s : Shared} {σ : L2.St} {H : Hp} {Q : VK} {use : Option (Value → Sem Unit)} {Qf : Value → Shared → Prop} (I : Inv X pins σ H s) (hc : X.calm = true) (hN : X.N.Nodup) (hi : PI X tg iter wi) (ok : BlkOk X.N X.env.scope scope own)
    (hg : ∀ (s : Shared) (H : Hp) (C : Addr) (cl : List (PySem.Str × Addr)) (fp : List Addr), PG (X.blk s H scope (compEnvC scope cl C X.env) fp) tg g) (ht : ∀ (s : Shared) (H : Hp) (C : Addr) (cl : List (PySem.Str × Addr)) (fp : List Addr), PTs (X.blk s H scope (compEnvC scope cl C X.env) fp) ifs tt)
    (hp : ∀ (s : Shared) (H : Hp) (C : Addr) (cl : List (PySem.Str × Addr)) (fp : List Addr) (pins : List (Addr × Obj)), PutOk (X.blk s H scope (compEnvC scope cl C X.env) fp) (compEnvC scope cl C X.env) pins put tp)
    (hs : ∀ x, foldedSetIterable iter X.env x = pure x)
    (hnew : ∀ {A : Around} {E : Value → Shared → Prop} {s : Shared} {Q : Value → Shared → Prop}, Q (.ref s.heap.objs.size) { s with heap := s.heap.push (ob X.w) } → wpAny (model X.prog X.w) A new Q E s)
    (hob : ∀ (H : Hp) (h : Heap), sysModules < h.objs.size → ObjOk X.prog X.w H (h.push (ob X.w)) h.objs.size (A0 h.objs.size))
    (hturn : ∀ (it : Value) (D : Addr) (env : PySem.Env), compTurn ex 0 it (.ref D) env = (do
      standAt iter.pos
      match ← pyNext it with
      | none => pure (.done .next)
      | some v =>
        letOwnedTupleGo tg it v
        assign tg env v
        let mut ok := true
        for c in ifs do
          if ok then ok ← isTrue c env (eval c env)
        if ok then
          put env D
        again (.compLoop ex 0 it (.ref D) env)))
    (hstart : ∀ {A : Around} {R : Result → Shared → Prop} {s : Shared} {it acc : Value} {env : PySem.Env}, codeAny (model X.prog X.w) A (.compLoop ex 0 it acc env) R s →
      wpAny (model X.prog X.w) A (pyIter it) (fun it' s' => codeAny (model X.prog X.w) A (.compLoop ex 0 it' acc env) R s') (notedBy (model X.prog X.w) A env fun x s' => R (.error x) s') s → codeAny (model X.prog X.w) A (.compStart ex 0 it acc env) R s)
    (h : tG1 A0 tp wi g tt (own.map (·.2)) σ H Q) (hRR : ∀ D C s' m H', Inv X pins σ H' s' → Q (.ref D) H' → s'.heap.Ns C m → FpOk X pins H' C → compPost (model X.prog X.w) X.A X.xe use Qf (.ref D) C (.ok .next) s') :
    wpAny (model X.prog X.w) X.A (comprehension ex scope X.env pos' new false (eval iter X.env) use) Qf X.xe s := by
  refine opened hcl0 I hN hi ok hs hnew hob h fun it D C fp tn J H2 cl s3 s4 T new rd k out => ?_
  obtain ⟨W, ⟨m, w0⟩, turn⟩ := rd D new
  have loop := loop_put (Z := X.blk s3 (upd H2 D (A0 D)) scope (compEnvC scope cl C X.env) fp) (R := compPost (model X.prog X.w) X.A X.xe use Qf (.ref D) C) hun (hturn _ _ _) T hc rfl (hg _ _ _ _ _) (ht _ _ _ _ _) (hp _ _ _ _ _) W turn (fun H' s' I' q => ?_) k w0
  · exact hstart loop (T.self X.A 0 _ _ _ k.here loop)
  · obtain ⟨I0, ⟨n, ns⟩, f⟩ := out _ _ _ I'
    exact hRR D C s' n H' I0 q ns f
theorem core2 {tg1 iter1 : Expr} {ifs1 : List Expr} {vs1 : List Nat} {wi1 : TI} {g1 : TG} {tt1 : TT} (hcl0 : clausesOf ex = [⟨tg, iter, ifs, 0⟩, ⟨tg1, iter1, ifs1, 0⟩]) (hun : LoopIs X.prog X.w ex 0) (hun1 : LoopIs X.prog X.w ex 1) {pins : List (Addr × Obj)} {s : Shared} {σ : L2.St} {H : Hp} {Q : VK} {use : Option (Value → Sem Unit)} {Qf : Value → Shared → Prop} (I : Inv X pins σ H s) (hc : X.calm = true) (hN : X.N.Nodup) (hi : PI X tg iter wi) (ok : BlkOk X.N X.env.scope scope own) (hv : ∀ i ∈ vs1, i ∈ own.map (·.2))
    (hg : ∀ (s : Shared) (H : Hp) (C : Addr) (cl : List (PySem.Str × Addr)) (fp : List Addr), PG (X.blk s H scope (compEnvC scope cl C X.env) fp) tg g) (ht : ∀ (s : Shared) (H : Hp) (C : Addr) (cl : List (PySem.Str × Addr)) (fp : List Addr), PTs (X.blk s H scope (compEnvC scope cl C X.env) fp) ifs tt)
    (hp : ∀ (s : Shared) (H : Hp) (C : Addr) (cl : List (PySem.Str × Addr)) (fp : List Addr) (pins : List (Addr × Obj)), PutOk (X.blk s H scope (compEnvC scope cl C X.env) fp) (compEnvC scope cl C X.env) pins put tp)
    (hi1 : ∀ (s : Shared) (H : Hp) (C : Addr) (cl : List (PySem.Str × Addr)) (fp : List Addr), PI (X.blk s H scope (compEnvC scope cl C X.env) fp) tg1 iter1 wi1)
    (hg1 : ∀ (s : Shared) (H : Hp) (C : Addr) (cl : List (PySem.Str × Addr)) (fp : List Addr), PG (X.blk s H scope (compEnvC scope cl C X.env) fp) tg1 g1) (ht1 : ∀ (s : Shared) (H : Hp) (C : Addr) (cl : List (PySem.Str × Addr)) (fp : List Addr), PTs (X.blk s H scope (compEnvC scope cl C X.env) fp) ifs1 tt1)
    (hs : ∀ x, foldedSetIterable iter X.env x = pure x) (hs1 : ∀ env x, foldedSetIterable iter1 env x = pure x)
    (hnew : ∀ {A : Around} {E : Value → Shared → Prop} {s : Shared} {Q : Value → Shared → Prop}, Q (.ref s.heap.objs.size) { s with heap := s.heap.push (ob X.w) } → wpAny (model X.prog X.w) A new Q E s)
    (hob : ∀ (H : Hp) (h : Heap), sysModules < h.objs.size → ObjOk X.prog X.w H (h.push (ob X.w)) h.objs.size (A0 h.objs.size))
    (hturn : ∀ (it : Value) (D : Addr) (env : PySem.Env), compTurn ex 0 it (.ref D) env = (do
      standAt iter.pos
      match ← pyNext it with
      | none => pure (.done .next)
      | some v =>
        letOwnedTupleGo tg it v
        assign tg env v
        let mut ok := true
        for c in ifs do
          if ok then ok ← isTrue c env (eval c env)
        if ok then
          let x ← eval iter1 env
          standAt iter1.pos
          let x ← foldedSetIterable iter1 env x
          let _ ← runOwn (.compStart ex 1 (← holding [x] (pyIter x)) (.ref D) env) env
        again (.compLoop ex 0 it (.ref D) env)))
    (hturn1 : ∀ (it : Value) (D : Addr) (env : PySem.Env), compTurn ex 1 it (.ref D) env = (do
      standAt iter1.pos
      match ← pyNext it with
      | none => pure (.done .next)
      | some v =>
        letOwnedTupleGo tg1 it v
        assign tg1 env v
        let mut ok := true
        for c in ifs1 do
          if ok then ok ← isTrue c env (eval c env)
        if ok then
          put env D
        again (.compLoop ex 1 it (.ref D) env)))
    (hstart : ∀ {A : Around} {R : Result → Shared → Prop} {s : Shared} {it acc : Value} {env : PySem.Env} (lv : Nat), lv < 2 → codeAny (model X.prog X.w) A (.compLoop ex lv it acc env) R s →
      wpAny (model X.prog X.w) A (pyIter it) (fun it' s' => codeAny (model X.prog X.w) A (.compLoop ex lv it' acc env) R s') (notedBy (model X.prog X.w) A env fun x s' => R (.error x) s') s → codeAny (model X.prog X.w) A (.compStart ex lv it acc env) R s)
    (h : tG2 A0 tp wi g tt wi1 g1 tt1 (own.map (·.2)) vs1 σ H Q) (hRR : ∀ D C s' m H', Inv X pins σ H' s' → Q (.ref D) H' → s'.heap.Ns C m → FpOk X pins H' C → compPost (model X.prog X.w) X.A X.xe use Qf (.ref D) C (.ok .next) s') :
    wpAny (model X.prog X.w) X.A (comprehension ex scope X.env pos' new false (eval iter X.env) use) Qf X.xe s := by
  refine opened hcl0 I hN hi ok hs hnew hob h fun it D C fp tn J H2 cl s3 s4 T new rd k out => ?_
  obtain ⟨W, ⟨m, w0⟩, turn⟩ := rd D new
  have loop : codeAny (model X.prog X.w) X.A (.compLoop ex 0 (.ref it) (.ref D) (compEnvC scope cl C X.env)) (compPost (model X.prog X.w) X.A X.xe use Qf (.ref D) C) s4 := by
    refine outmost hun (hturn _ _ _) (hs1 _) (fun n s' => ∃ i H', Wk (X.blk s3 (upd H2 D (A0 D)) scope (compEnvC scope cl C X.env) fp) [] fp tn (wipe σ (own.map (·.2))) i H' s' ∧ W i n H') ?_ m ⟨0, _, k, w0⟩
    rintro n s5 ⟨i, H5, k5, w5⟩
    rcases turn i n H5 w5 with ⟨stop, q⟩ | ⟨go, Nx, less, step⟩
    · refine thn (T.done (X.blk s3 (upd H2 D (A0 D)) scope (compEnvC scope cl C X.env) fp) rfl rfl rfl hc i [] s5 _ H5 _ k5.inv k5.off k5.here stop) fun r s6 ⟨e, I6⟩ => ?_
      rw [e]
      obtain ⟨I0, ⟨m', ns⟩, f⟩ := out _ _ _ I6
      exact hRR D C s6 m' H5 I0 q ns f
    · refine thn (k5.turn T hc rfl (hg _ _ _ _ _) (ht _ _ _ _ _) go step) fun r s6 ⟨u, e, h6⟩ => ?_
      rw [e]
      refine thn h6 fun _ s7 h7 => thn h7 fun _ s8 h8 => thn h8 fun b s9 ⟨pn, ρ, H9, I9, ew, q9, back⟩ => ?_
      have on : ∀ {ρ' : L2.St} {H' : Hp} {s' : Shared}, Inv (X.blk s3 (upd H2 D (A0 D)) scope (compEnvC scope cl C X.env) fp) pn ρ' H' s' → Less (wipe σ (own.map (·.2))) ρ' → Nx H' →
          ∃ m, m < n ∧ ∃ i H', Wk (X.blk s3 (upd H2 D (A0 D)) scope (compEnvC scope cl C X.env) fp) [] fp tn (wipe σ (own.map (·.2))) i H' s' ∧ W i m H' := fun I' ls nx => by
        obtain ⟨m', lt, w'⟩ := less _ nx
        exact ⟨m', lt, _, _, back I' ls, w'⟩
      cases b with
      | false => exact on I9 (less_of ew) q9
      | true =>
        refine thnF ((hi1 _ _ _ _ _).run pn s9 ρ H9 _ I9 q9) fun _ s10 h10 => thnF h10 fun v s11 h11 => ?_
        obtain ⟨it1, fp1, tn1, J1, H11, rfl, I11, T1, at1, off1, W1, ⟨m1, w1⟩, turn1⟩ := h11
        have inner := loop_put (Z := X.blk s3 (upd H2 D (A0 D)) scope (compEnvC scope cl C X.env) fp) (R := fun r s' => match r with
            | .ok _ => ∃ m, m < n ∧ ∃ i H', Wk (X.blk s3 (upd H2 D (A0 D)) scope (compEnvC scope cl C X.env) fp) [] fp tn (wipe σ (own.map (·.2))) i H' s' ∧ W i m H'
            | .error _ => False) hun1 (hturn1 _ _ _) T1 hc rfl (hg1 _ _ _ _ _) (ht1 _ _ _ _ _) (hp _ _ _ _ _) W1 turn1 (fun H' s' I' nx => ?_) (k := ⟨I11.weak less_wipe.len less_wipe.sub, at1, off1⟩) w1
        · exact hstart 1 (by decide) inner (T1.self X.A 0 _ _ _ at1 inner)
        · refine on I' ⟨(less_of ew).len.trans (wipe_length ρ vs1).symm, fun j v e => ?_⟩ nx
          rw [← ew] at e
          obtain ⟨e1, e2⟩ := wipe_some e
          rw [wipe_out fun z => e2 (hv j z)]
          exact e1
  exact hstart 0 (by decide) loop (T.self X.A 0 _ _ _ k.here loop)
/-- what holds of a comprehension, whatever is done with it -/
def CoreFor (X : Cx) (ex : Expr) (scope : Scope) (pos' : Pos) (new : Sem Value) (iter : Expr) (tt' : TE) : Prop := ∀ {pins : List (Addr × Obj)} {s : Shared} {σ : L2.St} {H : Hp} {Q : VK} {use : Option (Value → Sem Unit)} {Qf : Value → Shared → Prop}, Inv X pins σ H s → tt' σ H Q →
  (∀ D C s' m H', Inv X pins σ H' s' → Q (.ref D) H' → s'.heap.Ns C m → FpOk X pins H' C → compPost (model X.prog X.w) X.A X.xe use Qf (.ref D) C (.ok .next) s') → wpAny (model X.prog X.w) X.A (comprehension ex scope X.env pos' new false (eval iter X.env) use) Qf X.xe s
/-- as a value -/
theorem pe_by {tt' : TE} (hex : eval ex X.env = comprehension ex scope X.env pos' new false (eval iter X.env))
    (core : CoreFor X ex scope pos' new iter tt') : PE X ex tt' := by
  refine ⟨fun pins s σ H Q I h => ?_⟩
  rw [hex]
  refine core I h fun D C s' m H' I' q hn f => ⟨m, hn, fun h'' sb => ?_⟩
  obtain ⟨f0, f1, f2, f3, f4, f5⟩ := f
  exact ⟨.ref D, H', I'.turned (t' := s'.toks) (fun b o hb e => (sb.2 b hb).trans e) f0 f1 f3 f4 f5, rfl, q⟩
/-- y = it, on one line, y a local -/
theorem ps_by {tt' : TE} {i : Nat} {y : PySem.Str} {py spos : Pos} (hN : X.N.Nodup) (hy : X.N[i]? = some y) (hyl : X.env.scope.names.lookup y = some .local) (hsw : swapsWith ex (some (.Name y py)) spos.line X.env = pure true)
    (hex : ∀ u, evalThenUse ex X.env u = (do let _ ← comprehension ex scope X.env pos' new false (eval iter X.env) (some u)))
    (core : CoreFor X ex scope pos' new iter tt') :
    PS X (.Assign [.Name y py] ex spos) (tAsg tt' (gName i)) := by
  refine ⟨fun pins s σ H D I h => ?_⟩
  rw [exec_Assign_Name_used _ _ _ _ hsw]
  refine wpAny_bind (wpAny_standAt (wpAny_bind ?_))
  rw [hex]
  refine wpAny_bind (thn (core (use := some _) (Q := fun x H1 => gName i x σ H1 D.nx) (Qf := fun _ => SP X pins D .next) I h ?_) fun _ _ q => wpAny_pure (wpAny_pure q))
  intro L C s1 m H1 I1 q ns off
  refine wpAny_assign_Name (store_ok2 (v := .ref L) I1 hN hy (.inl hyl) rfl (fun s2 I2 st => ?_) (.inr hyl))
  obtain ⟨a, same, far⟩ := st
  have ne : C ≠ a := by
    rcases far with rfl | z
    · exact off.2.1
    · exact fun e => off.2.2.2.2.1 y a z e.symm
  exact ⟨m, ns.sameBut same ne, fun h2 gone => ⟨_, H1, I2.turned (t' := s2.toks) (fun b o nb e => (gone.2 b nb).trans e) off.1 off.2.1 off.2.2.2.1 off.2.2.2.2.1 off.2.2.2.2.2, q⟩⟩
end
end Gc

/-! Sets of texts: the keys in the order in which they came. -/
namespace Gc
open PySem PySem.Spec PyProof.Rows L2

def txt (e : Int × Value) : PySem.Str := match e.2 with
  | .str k _ => k
  | _ => Str.empty
def Tx (w : World) (e : Int × Value) : Prop := ∃ k tk, e.2 = Value.str k tk ∧ e.1 = hashStr w k
/-- a set of the texts ks at a -/
def SetT (w : World) (h : Heap) (a : Addr) (ks : List PySem.Str) : Prop := ∃ o es ep t, h.get? a = some o ∧ o.ExactSet ∧ o.data = .set es ep t ∧ (∀ e ∈ es.toList, Tx w e) ∧ (es.toList.map txt).Perm ks ∧ ks.Nodup ∧
  es.size < scanBound ∧ t.fits es.size = true ∧ Ris t.place.toList ∧ (w.params.followText "set-order" = true ∨ t.led = true)
def addT (ks : List PySem.Str) (k : PySem.Str) : List PySem.Str := if k ∈ ks then ks else ks ++ [k]
section
variable {P : Program} {w : World} {A : Around} {E : Value → Shared → Prop} {s : Shared} {a : Addr} {ks : List PySem.Str}
theorem SetT.at {h h' : Heap} (R : SetT w h a ks) (k : ∀ o, h.get? a = some o → h'.get? a = some o) : SetT w h' a ks := by
  obtain ⟨o, es, ep, t, ho, r⟩ := R
  exact ⟨o, es, ep, t, k o ho, r⟩
theorem tx_elems {l : List (Int × Value)} (g : ∀ e ∈ l, Tx w e) : ElemsOf (PySem.strKind P w) l := fun e he => by
  obtain ⟨k, tk, h1, h2⟩ := g e he
  exact ⟨⟨k, by rw [h1]; show Value.isStrOf k (.str k tk) = true; simp [Value.isStrOf], h2⟩, by rw [h1] <;> rfl⟩
theorem tx_is {e : Int × Value} (g : Tx w e) (k : PySem.Str) : (PySem.strKind P w).is k e.2 = true ↔ txt e = k := by
  obtain ⟨j, tk, h1, _⟩ := g
  unfold txt
  rw [h1]
  show Value.isStrOf k (.str j tk) = true ↔ j = k
  exact ⟨fun h => eq_of_beq h, fun h => h ▸ beq_self_eq_true _⟩
theorem tx_mem {l : List (Int × Value)} (g : ∀ e ∈ l, Tx w e) (k : PySem.Str) : k ∈ l.map txt ↔ ∃ e ∈ l, (PySem.strKind P w).is k e.2 = true := by
  rw [List.mem_map]
  exact ⟨fun ⟨e, he, q⟩ => ⟨e, he, (tx_is (g e he) k).2 q⟩, fun ⟨e, he, q⟩ => ⟨e, he, (tx_is (g e he) k).1 q⟩⟩
theorem SetT.len {h : Heap} (R : SetT w h a ks) : ks.length < scanBound := by
  obtain ⟨o, es, ep, t, ho, hx, hd, g, pm, nd, hb, _⟩ := R
  have := pm.length_eq
  rw [List.length_map, Array.length_toList] at this
  omega
theorem key_is (k : PySem.Str) (tk : Tok) : (PySem.strKind P w).is k (.str k tk) = true := by
  show Value.isStrOf k (.str k tk) = true
  exact beq_self_eq_true k
/-- the inside of a set of the texts ks -/
structure Inn (w : World) (ks : List PySem.Str) (es : Array (Int × Value)) (t : SetTable) : Prop where
  tx : ∀ e ∈ es.toList, Tx w e
  pm : (es.toList.map txt).Perm ks
  nd : ks.Nodup
  small : es.size < scanBound
  fits : t.fits es.size = true
  ris : Ris t.place.toList
  led : w.params.followText "set-order" = true ∨ t.led = true
section inn
variable {es : Array (Int × Value)} {t : SetTable} {k : PySem.Str} {tk : Tok} {o : Obj} {ep : Nat}
theorem Inn.set {h : Heap} (J : Inn w ks es t) (ho : h.get? a = some o) (hx : o.ExactSet) (hd : o.data = .set es ep t) : SetT w h a ks :=
  ⟨o, es, ep, t, ho, hx, hd, J.tx, J.pm, J.nd, J.small, J.fits, J.ris, J.led⟩
theorem SetT.inn {h : Heap} (R : SetT w h a ks) : ∃ o es ep t, h.get? a = some o ∧ o.ExactSet ∧ o.data = .set es ep t ∧ Inn w ks es t := by
  rcases R with ⟨o, es, ep, t, ho, hx, hd, r1, r2, r3, r4, r5, r6, r7⟩
  exact ⟨o, es, ep, t, ho, hx, hd, ⟨r1, r2, r3, r4, r5, r6, r7⟩⟩
/-- laid anew in a wider table, all stays -/
theorem Inn.relaid (J : Inn w ks es t) (n : Nat) : Inn w ks (relayAll t es n).1 (relayAll t es n).2.1 := by
  have p : (relayAll t es n).1.toList.Perm es.toList := relayAll_perm t es n
  have l : (relayAll t es n).1.size = es.size := by simpa using p.length_eq
  exact { tx := fun e he => J.tx e (p.mem_iff.1 he), pm := (p.map txt).trans J.pm, nd := J.nd, small := l ▸ J.small, fits := relayAll_fits t es n, ris := relayAll_ris t es n, led := J.led.imp_right fun q => (relayAll_led t es n).trans q }
/-- a new text laid into it -/
theorem Inn.laid (J : Inn w ks es t) (new : k ∉ ks) (room : ks.length + 1 < scanBound) : Inn w (ks ++ [k]) (layNew t es (hashStr w k) (.str k tk)).1 (layNew t es (hashStr w k) (.str k tk)).2.1 := by
  have p : (layNew t es (hashStr w k) (.str k tk)).1.toList.Perm (es.toList ++ [(hashStr w k, .str k tk)]) := by
    rw [← Array.toList_push]; exact layNew_perm t es (hashStr w k) (.str k tk)
  have q : ((layNew t es (hashStr w k) (.str k tk)).1.toList.map txt).Perm (ks ++ [k]) := by
    have := p.map txt
    rw [List.map_append] at this
    exact this.trans (J.pm.append_right [k])
  constructor
  · intro e he
    have := p.mem_iff.1 he
    simp only [List.mem_append, List.mem_singleton] at this
    rcases this with z | rfl
    · exact J.tx e z
    · exact ⟨k, tk, rfl, rfl⟩
  · exact q
  · rw [List.nodup_append]
    refine ⟨J.nd, by simp, ?_⟩
    rintro x hx y hy rfl
    rw [List.mem_singleton] at hy
    exact new (hy ▸ hx)
  · have := q.length_eq
    simp at this
    omega
  · exact layNew_fits t es _ _
  · exact layNew_ris t es _ _ J.ris
  · exact J.led.imp_right fun z => (layNew_led t es _ _).trans z
/-- a table whose hashes are no longer plain holds the same -/
theorem Inn.dull (J : Inn w ks es t) (b : Bool) : Inn w ks es (if b = true then t else { t with plain := false }) := by
  cases b
  · exact { J with fits := SetTable.fits_plain_off J.fits }
  · exact J
/-- the inside written back -/
theorem Inn.put {es' : Array (Int × Value)} {t' : SetTable} {Q : Unit → Shared → Prop} (J : Inn w ks es' t') (ho : s.heap.get? a = some o) (hx : o.ExactSet) (hd : o.data = .set es ep t)
    (go : ∀ h' o' ep', Heap.SameBut a s.heap h' → h'.get? a = some o' → o'.ExactSet → o'.data = .set es' ep' t' → Q () { s with heap := h' }) : wpAny (model P w) A (storeSet a es' t') Q E s :=
  wpAny_storeSet_of ho hd (go _ _ _ (Heap.SameBut.update s.heap a (Obj.putSet es' t')) (store_at (es' := es') (t' := t') ho hd) hx rfl) (fits_of_scanBound J.small)
/-- the end of an adding: the inside is written, and laid anew where the table is too full -/
theorem Inn.ends {gw : Bool → Sem Unit} {dummy : Bool} {xs : Array (Int × Value)} {t2 : SetTable} {Q : Option Bool → Shared → Prop} (idl : ∀ (b : Bool) (s' : Shared) (Q' : Unit → Shared → Prop), Q' () s' → wpAny (model P w) A (gw b) Q' E s')
    (J : Inn w ks xs t2) (ho : s.heap.get? a = some o) (hx : o.ExactSet) (hd : o.data = .set es ep t) (go : ∀ h', Heap.SameBut a s.heap h' → SetT w h' a ks → Q (some true) { s with heap := h' }) :
    wpAny (model P w) A (storeSet a xs t2 >>= fun _ => if (!dummy && t2.tooFull) = true then gw (relayAll t2 xs (SetTable.grown xs.size)).2.2 >>= fun _ => storeSet a (relayAll t2 xs (SetTable.grown xs.size)).1 (relayAll t2 xs (SetTable.grown xs.size)).2.1 >>= fun _ => pure (some true) else pure (some true)) Q E s := by
  apply wpAny_bind; apply J.put ho hx hd
  intro h1 o1 e1 same1 at1 x1 d1
  by_cases full : (!dummy && t2.tooFull) = true
  · rw [if_pos full]
    refine wpAny_bind (idl _ _ _ ?_)
    have J2 := J.relaid (SetTable.grown xs.size)
    apply wpAny_bind; apply J2.put (s := { s with heap := h1 }) at1 x1 d1
    intro h2 o2 e2 same2 at2 x2 d2
    exact wpAny_pure (go h2 (same1.trans same2) (J2.set at2 x2 d2))
  · rw [if_neg full]
    exact wpAny_pure (go h1 same1 (J.set at1 x1 d1))
/-- the search through a small set, and what is laid behind it -/
theorem Inn.scan {Q : Option Bool → Shared → Prop} (J : Inn w ks es t) (ho : s.heap.get? a = some o) (hx : o.ExactSet) (hd : o.data = .set es ep t) (room : ks.length + 1 < scanBound)
    (go : ∀ b h', Heap.SameBut a s.heap h' → SetT w h' a (addT ks k) → Q (some b) { s with heap := h' }) : wpAny (model P w) A (setAddByScan a (.str k tk) (hashStr w k) es t) Q E s := by
  have own : ElemsOf (PySem.strKind P w) es.toList := tx_elems J.tx
  rw [setAddByScan]
  apply wpAny_bind; apply wpAny_rule
  apply wpAny_bind; apply wpAny_setScan_of (knd := PySem.strKind P w) (k := k) (key_is k tk) ho hd J.fits own
  have there : k ∈ ks ↔ ∃ e ∈ es.toList, (PySem.strKind P w).is k e.2 = true := J.pm.mem_iff.symm.trans (tx_mem J.tx k)
  rcases hf : List.findIdx? (fun e => (PySem.strKind P w).is k e.2) es.toList with _ | n
  · have new : k ∉ ks := by
      rw [there]
      rintro ⟨e, he, q⟩
      rw [List.findIdx?_eq_none_iff] at hf
      exact absurd q (by simp [hf e he])
    have J1 := J.laid (tk := tk) new room
    have eqk : addT ks k = ks ++ [k] := if_neg new
    rw [← eqk] at J1
    simp only [hf]
    generalize layNew t es (hashStr w k) (.str k tk) = Z at J1 ⊢
    rcases Z with ⟨xs, t1, dummy, gave⟩
    replace J1 : Inn w (addT ks k) xs t1 := J1
    dsimp only
    refine wpAny_bind ?_
    cases gave
    all_goals
      first | refine wpAny_pure ?_ | refine wpAny_rule ?_
      split
      · apply wpAny_bind
        rw [hashByValue_scannable 8 rfl]
        apply wpAny_pure
        refine (J1.dull _).ends ?_ ho hx hd (go true)
        intro b s' Q' q
        cases b
        · exact wpAny_pure q
        · exact wpAny_rule q
      · refine Inn.ends ?_ J1 ho hx hd (go true)
        intro b s' Q' q
        cases b
        · exact wpAny_pure q
        · exact wpAny_rule q
  · obtain ⟨hn, is, -⟩ := List.findIdx?_eq_some_iff_getElem.1 hf
    have old : k ∈ ks := there.2 ⟨_, List.getElem_mem hn, is⟩
    simp only [hf]
    apply wpAny_pure
    apply go false s.heap (Heap.SameBut.refl a s.heap)
    rw [addT, if_pos old]
    exact J.set ho hx hd
end inn
theorem setT_add {k : PySem.Str} {tk : Tok} {Q : Value → Shared → Prop} (R : SetT w s.heap a ks) (room : ks.length + 1 < scanBound)
    (hQ : ∀ h', Heap.SameBut a s.heap h' → SetT w h' a (addT ks k) → Q .none { s with heap := h', toks := s.toks + 1 }) : wpAny (model P w) A (call (.builtin "set.add") [.ref a, .str k tk]) Q E s := by
  obtain ⟨o, es, ep, t, ho, hx, hd, J⟩ := R.inn
  refine wpAny_call_entry F.slot_set_add ⟨o, ho, hx.1⟩ F.entry_set_add ?_ (F.args_set_add_2 _ _)
  rw [Builtin.«set.add», Builtin.Frozenset.oneOther]
  simp only [List.isEmpty_nil, bind_assoc, Builtin.Frozenset.addrOf, setAdd]
  refine wpAny_bind (wpAny_pure (wpAny_bind (wpAny_pure ?_)))
  apply wpAny_bind; apply wpAny_holding; apply wpAny_bind
  apply (PySem.strKind P w).pyHash (k := k) (key_is k tk)
  rw [setAddHashed, setAddHashedIn]
  apply wpAny_holding; apply wpAny_bind; apply wpAny_setState_of (s := { s with toks := s.toks + 1 }) ho hd J.fits
  dsimp only
  rw [byScan_of rfl J.small (tx_elems (P := P) J.tx), if_pos rfl]
  apply wpAny_bind
  apply J.scan (s := { s with toks := s.toks + 1 }) ho hx hd room
  intro b h' same R'
  exact wpAny_pure (wpAny_pure ⟨_, rfl, hQ h' same R'⟩)
end
end Gc
namespace Gc
open PySem PySem.Spec PyProof.Rows L2
/-! ### a new set, as tracked things -/
abbrev setOb (w : World) : Obj := { cls := .type "set", dict := none, data := .set #[] 0 (.fresh 0 0 (!w.params.followText "set-order")) }
theorem setT_fresh {h : Heap} (w : World) : SetT w (h.push (setOb w)) h.objs.size [] :=
  ⟨_, #[], 0, _, Heap.get?_push_size _ rfl, ⟨rfl, rfl, rfl⟩, rfl, (fun e he => by simp at he), .nil, .nil, by decide, by rfl, .nil, by
    show _ ∨ (!w.params.followText "set-order") = true
    cases w.params.followText "set-order"
    · exact .inr rfl
    · exact .inl rfl⟩
def SetTO (w : World) (ks : List PySem.Str) (a : Addr) : HO := .ext fun h => SetT w h a ks
theorem setTO_new {w : World} {P : Program} {H : Hp} {h : Heap} {a : Addr} {ks : List PySem.Str} (R : SetT w h a ks) : ObjOk P w H h a (SetTO w ks a) := by
  have ⟨o, _, _, _, ho, _⟩ := R
  exact ⟨R, ⟨o, ho⟩, fun h1 h2 p k => SetT.at p k⟩
section
variable {X : Cx}
theorem setTO_get {pins : List (Addr × Obj)} {σ : L2.St} {H : Hp} {s : Shared} {a : Addr} {ks : List PySem.Str} (I : Inv X pins σ H s) (ha : H a = some (SetTO X.w ks a)) : SetT X.w s.heap a ks := (I.hok a _ ha).1
/-- a text put into it -/
def putT (w : World) (te : TE) : PutT := fun D σ H N => te σ H fun y H1 => ∃ z ks, y = .str z ∧ H1 D = some (SetTO w ks D) ∧ ks.length + 1 < scanBound ∧ N (upd H1 D (SetTO w (addT ks z) D))
theorem put_set {elt : Expr} {te : TE} {pins : List (Addr × Obj)} (he : PE X elt te) : PutOk X X.env pins (fun env D => (do let v ← eval elt env; standAt elt.pos; let _ ← call (.builtin "set.add") [.ref D, v])) (putT X.w te) := by
  intro s σ H D N I h
  refine wpAny_bind (thn (he.run pins s σ H _ I h) fun v s1 ⟨y, H1, I1, r1, z, ks, ey, hD, hz, q⟩ => ?_)
  subst ey
  obtain ⟨tk, rfl⟩ := r1
  refine wpAny_bind (wpAny_standAt (wpAny_bind (setT_add (setTO_get I1 hD) hz fun h' sb new => wpAny_pure ?_)))
  have he : ∃ u, h'.get? D = some u := by
    have ⟨o, _, _, _, ho, _⟩ := new
    exact ⟨o, ho⟩
  exact ⟨_, I1.write (e := D) (t' := s1.toks + 1) (by rw [hD]; trivial) (.inl rfl) (fun b u hb hu => (sb.2 b hb).trans hu) he (setTO_new new), q⟩
theorem newSet_at {P : Program} {w : World} {A : Around} {E : Value → Shared → Prop} {s : Shared} {Q : Value → Shared → Prop} (h : Q (.ref s.heap.objs.size) { s with heap := s.heap.push (setOb w) }) : wpAny (model P w) A (newSet (.type "set")) Q E s := PpSet.newSet_ok h
theorem start1_set {prog : Program} {w : World} {A : Around} {R : Result → Shared → Prop} {s : Shared} {elt t0 i0 t1 i1 : Expr} {ifs0 ifs1 : List Expr} {scope : Scope} {pos : Pos} {it acc : Value} {env : PySem.Env}
    (h0 : codeAny (model prog w) A (.compLoop (.SetComp elt [⟨t0, i0, ifs0, 0⟩, ⟨t1, i1, ifs1, 0⟩] scope pos) 1 it acc env) R s)
    (h : wpAny (model prog w) A (pyIter it) (fun it' s' => codeAny (model prog w) A (.compLoop (.SetComp elt [⟨t0, i0, ifs0, 0⟩, ⟨t1, i1, ifs1, 0⟩] scope pos) 1 it' acc env) R s') (notedBy (model prog w) A env fun x s' => R (.error x) s') s) :
    codeAny (model prog w) A (.compStart (.SetComp elt [⟨t0, i0, ifs0, 0⟩, ⟨t1, i1, ifs1, 0⟩] scope pos) 1 it acc env) R s := by
  apply codeAny_of_tree
  change wpAny _ _ ((compStart _ 1 it acc env).onRaise (fun x => do noteFrame x env; standAt theWindowsPlace)) _ _ s
  apply wpAny_notedAt
  unfold compStart
  change wpAny _ _ (ask >>= _) _ _ s
  apply wpAny_bind; apply wpAny_askSetting
  refine wpAny_ite_split (fun _ => ?_) fun _ => ?_
  · first
      | exact wpAny_pure ⟨rfl, h0⟩
      | (apply wpAny_bind; exact wpAny_pure (wpAny_pure ⟨rfl, h0⟩))
  · apply wpAny_bind; apply wpAny_rule
    change wpAny _ _ (standAt i1.pos >>= _) _ _ s
    apply wpAny_bind; apply wpAny_standAt; apply wpAny_bind
    apply wpAny_mono h
    · intro it' s' z; exact wpAny_pure ⟨rfl, z⟩
    · intro _ _ x; exact x
variable {elt tg iter tg1 iter1 : Expr} {ifs ifs1 : List Expr} {scope : Scope} {own : List (PySem.Str × Nat)} {vs1 : List Nat} {pos : Pos} {wi wi1 : TI} {g g1 : TG} {tt tt1 : TT} {te : TE}
/-- {elt for tg in iter if ..} of texts -/
theorem core_sc1 (hc : X.calm = true) (hN : X.N.Nodup) (hi : PI X tg iter wi) (ok : BlkOk X.N X.env.scope scope own)
    (hg : ∀ (s : Shared) (H : Hp) (C : Addr) (cl : List (PySem.Str × Addr)) (fp : List Addr), PG (X.blk s H scope (compEnvC scope cl C X.env) fp) tg g) (ht : ∀ (s : Shared) (H : Hp) (C : Addr) (cl : List (PySem.Str × Addr)) (fp : List Addr), PTs (X.blk s H scope (compEnvC scope cl C X.env) fp) ifs tt)
    (he : ∀ (s : Shared) (H : Hp) (C : Addr) (cl : List (PySem.Str × Addr)) (fp : List Addr), PE (X.blk s H scope (compEnvC scope cl C X.env) fp) elt te) (hs : ∀ x, foldedSetIterable iter X.env x = pure x := by intro _; rfl) :
    CoreFor X (.SetComp elt [⟨tg, iter, ifs, 0⟩] scope pos) scope (firstIterPos [⟨tg, iter, ifs, 0⟩] pos) (newSet (.type "set")) iter (tG1 (SetTO X.w []) (putT X.w te) wi g tt (own.map (·.2))) := fun I h hRR =>
  core1 (pos' := firstIterPos [⟨tg, iter, ifs, 0⟩] pos) (new := newSet (.type "set")) (ob := setOb) rfl (fun _ _ _ => ⟨fun _ => rfl, rfl⟩) I hc hN hi ok hg ht (fun s H C cl fp pins => put_set (he s H C cl fp)) hs (fun h => newSet_at h) (fun H h _ => setTO_new (setT_fresh X.w)) (fun _ _ _ => rfl) (fun h0 h => PpSet.codeAny_compStart_set h0 h) h hRR
theorem core_sc2 (hc : X.calm = true) (hN : X.N.Nodup) (hi : PI X tg iter wi) (ok : BlkOk X.N X.env.scope scope own) (hv : ∀ i ∈ vs1, i ∈ own.map (·.2))
    (hg : ∀ (s : Shared) (H : Hp) (C : Addr) (cl : List (PySem.Str × Addr)) (fp : List Addr), PG (X.blk s H scope (compEnvC scope cl C X.env) fp) tg g) (ht : ∀ (s : Shared) (H : Hp) (C : Addr) (cl : List (PySem.Str × Addr)) (fp : List Addr), PTs (X.blk s H scope (compEnvC scope cl C X.env) fp) ifs tt)
    (hi1 : ∀ (s : Shared) (H : Hp) (C : Addr) (cl : List (PySem.Str × Addr)) (fp : List Addr), PI (X.blk s H scope (compEnvC scope cl C X.env) fp) tg1 iter1 wi1)
    (hg1 : ∀ (s : Shared) (H : Hp) (C : Addr) (cl : List (PySem.Str × Addr)) (fp : List Addr), PG (X.blk s H scope (compEnvC scope cl C X.env) fp) tg1 g1) (ht1 : ∀ (s : Shared) (H : Hp) (C : Addr) (cl : List (PySem.Str × Addr)) (fp : List Addr), PTs (X.blk s H scope (compEnvC scope cl C X.env) fp) ifs1 tt1)
    (he : ∀ (s : Shared) (H : Hp) (C : Addr) (cl : List (PySem.Str × Addr)) (fp : List Addr), PE (X.blk s H scope (compEnvC scope cl C X.env) fp) elt te) (hs : ∀ x, foldedSetIterable iter X.env x = pure x := by intro _; rfl) (hs1 : ∀ env x, foldedSetIterable iter1 env x = pure x := by intro _ _; rfl) :
    CoreFor X (.SetComp elt [⟨tg, iter, ifs, 0⟩, ⟨tg1, iter1, ifs1, 0⟩] scope pos) scope (firstIterPos [⟨tg, iter, ifs, 0⟩, ⟨tg1, iter1, ifs1, 0⟩] pos) (newSet (.type "set")) iter (tG2 (SetTO X.w []) (putT X.w te) wi g tt wi1 g1 tt1 (own.map (·.2)) vs1) := fun I h hRR =>
  core2 (pos' := firstIterPos [⟨tg, iter, ifs, 0⟩, ⟨tg1, iter1, ifs1, 0⟩] pos) (new := newSet (.type "set")) (ob := setOb) rfl (fun _ _ _ => ⟨fun _ => rfl, rfl⟩) (fun _ _ _ => ⟨fun _ => rfl, rfl⟩) I hc hN hi ok hv hg ht (fun s H C cl fp pins => put_set (he s H C cl fp)) hi1 hg1 ht1 hs hs1 (fun h => newSet_at h) (fun H h _ => setTO_new (setT_fresh X.w)) (fun _ _ _ => rfl) (fun _ _ _ => rfl)
    (fun {A R s it acc env} lv hlv h0 h => match lv, hlv, h0, h with
      | 0, _, h0, h => PpSet.codeAny_compStart_set h0 h
      | 1, _, h0, h => start1_set h0 h) h hRR
/-- sorted(a set of texts) -/
def rSortT (w : World) : List V → Hp → VK → Prop := fun vs H Q => ∃ (a : Addr) (ks : List PySem.Str), vs = [V.ref a] ∧ H a = some (SetTO w ks a) ∧ ∀ (ys : List PySem.Str) (p : Addr), ys.Perm ks → sortedS ys = true → H p = none → Q (.ref p) (upd H p (.lst (ys.map V.str)))
theorem strs_of : ∀ l : List Value, (∀ v ∈ l, ∃ k tk, v = Value.str k tk) → StrsAre l (l.map fun v => txt (0, v))
  | [], _ => .nil
  | v :: l, hl => by
    obtain ⟨k, tk, rfl⟩ := hl v (.head _)
    exact .cons k tk (strs_of l fun u hu => hl u (.tail _ hu))
/-- what stood ahead of a new sorted list stands behind it -/
theorem sorted_old {h : Heap} {vs : List Value} {out : Array Value} {b : Addr} {u : Obj} (e : h.get? b = some u) : (sortedHeap (h.push (seqObj "list" vs.toArray 0)) h.objs.size vs out).get? b = some u := by
  have lt : b < h.objs.size := Heap.lt_size e
  have lt2 : b < (h.push (seqObj "list" vs.toArray 0)).objs.size := (size_push' _ _).symm ▸ Nat.lt_of_lt_of_le lt (Nat.le_succ _)
  rw [sortedHeap_old (fun z => Nat.lt_irrefl _ (z ▸ lt)) lt2]
  exact Heap.get?_push_of_some _ e
theorem cr_sortT (hc : X.calm = true) : CallR X (.builtin "sorted") (rSortT X.w) := by
  rintro pins s σ H vs us Q I r ⟨a, ks, rfl, ha, q⟩
  rw [Vals.ref1 r]
  obtain ⟨o, es, ep, t, ho, hx, hd, J⟩ := (setTO_get I ha).inn
  apply Calls.call_function_entry kind_sorted plain_sorted entry_sorted (args_sorted1 _)
  rw [Builtin.«sorted»]
  apply wpAny_bind (m := checkCount "sorted" 1 1 _); apply wpAny_pure
  apply wpAny_bind; apply collect_set (A := X.A.in1) (I.ok.hd hc) ⟨o, ho, hx.1, hd⟩ J.fits J.small J.ris J.led
  intro s1 out k1 z1 g1 o1 p1
  have hst : StrsAre out (out.map fun v => txt (0, v)) := by
    apply strs_of
    intro v hv
    have := p1.mem_iff.1 hv
    simp only [List.mem_map] at this
    obtain ⟨e, he, rfl⟩ := this
    obtain ⟨k, tk, h1, -⟩ := J.tx e he
    exact ⟨k, tk, h1⟩
  have pks : (out.map fun v => txt (0, v)).Perm ks := by
    have := p1.map fun v => txt (0, v)
    rw [List.map_map] at this
    exact this.trans J.pm
  have short : out.length ≤ sizeLine := by
    have := p1.length_eq
    simp only [List.length_map, Array.length_toList] at this
    exact this ▸ fits_of_scanBound J.small
  apply wpAny_bind; refine wpAny_newList ?_ short
  have L : (s1.heap.push (seqObj "list" out.toArray 0)).get? s1.heap.objs.size = some (seqObj "list" out.toArray 0) := Heap.get?_push_size _ rfl
  apply wpAny_bind; apply wpAny_holding
  refine wpAny_call_entry slot_list_sort ⟨_, L, rfl⟩ entry_list_sort ?_ (args_list_sort _)
  apply list_sort_treeKAny strKind_oneLt L hst.keysOf (fun v₁ v₂ rest e => keyKind_strs (by rw [← e]; exact hst)) short
  intro st' a1 a2
  refine ⟨_, rfl, ?_⟩
  obtain ⟨ys, y1, y2, y3⟩ := sorted_out_str hst a1 a2
  obtain ⟨c, at_⟩ := sortedHeap_at (vs := out) (out := (arrOf st').map (·.2)) L
  have I1 : Inv X pins σ H s1 := I.call' (ch := []) o1 (Un.kept k1) (I.hok.kept k1) (by rw [g1]; exact I.bare) (fun _ z => nomatch z)
  have leny : (ys.map V.str).length ≤ sizeLine := by
    rw [List.length_map, y2.length_eq, List.length_map]; exact short
  apply wpAny_pure
  refine ⟨_, rfl, .ref s1.heap.objs.size, upd H s1.heap.objs.size (.lst (ys.map V.str)), ?_, rfl, q ys _ (y2.trans pks) y3 (I.hok.fresh z1)⟩
  exact I1.laid (t' := s1.toks) (fun b u e => sorted_old e) (Nat.le_refl _) ⟨leny, _, c, vals_of_strs y1, at_⟩
end
end Gc

/-! Dict comprehensions, keys of both kinds, one for and two. -/
namespace Gc
open PySem PySem.Spec PyProof.Rows L2
section
variable {X : Cx}
theorem put_pair {A : Around} {E : Value → Shared → Prop} {pins : List (Addr × Obj)} {σ : L2.St} {H H' : Hp} {s : Shared} {a : Addr} {y v : V} {u r : Value} {Q : Unit → Shared → Prop} (hu : A.units < cLine) (I : Inv X pins σ H s) (g : DPut H a y v H') (ry : RelV y u) (rv : RelV v r) (h : ∀ s', Inv X pins σ H' s' → Q () s') :
    wpAny (model X.prog X.w) A (dictSet a u r) Q E s := by
  rcases g with ⟨kvs, k, at_, rfl, few, rfl⟩ | ⟨kvs, k, b, at_, rfl, key, few, rfl⟩
  · obtain ⟨_, mods, ps, keyed, ds⟩ := dk_of I.hok at_
    refine wpAny_dictSet_pairs (kV_is ry) ds (hsz := keyed.length ▸ Nat.le_of_lt few) fun h2 ds2 sb => h _ (d_write I (at_ ▸ trivial) sb (ds2.elim fun q z => ⟨q, z.choose_spec.choose_spec.1⟩) (dk_new ?_ mods (keyed.put k rv) ds2))
    exact Nat.le_trans (length_putK kvs k v) few
  · obtain rfl : u = Value.ref b := ry
    obtain ⟨_, mods, ps, keyed, ds⟩ := dt_of I.hok at_
    refine wpAny_dictSet_heap hu (key_of I.hok key) ds (hsz := Paired.length keyed ▸ Nat.le_of_lt few) fun h2 ds2 sb => h _ ?_
    obtain ⟨q, es, ep, hq, rest⟩ := ds2
    have same : ∀ c ys, H c = some (.tup ys) → upd H a (.dT (putK kvs k v)) c = some (.tup ys) := fun c ys ec => (upd_ne (ne_of ec at_ fun z => nomatch z)).trans ec
    exact d_write I (at_ ▸ trivial) sb ⟨q, hq⟩ ⟨Nat.le_trans (length_putK kvs k v) few, mods, _, (keyed.put k key rv).keeps same, q, es, ep, hq, rest.1, rest.2.1, rest.2.2.1, rest.2.2.2.2⟩
def putD (tk tv : TE) : PutT := fun D σ H N => tk σ H fun y H1 => tv σ H1 fun z H2 => ∃ H3, DPut H2 D y z H3 ∧ N H3
abbrev dAct (kx vx : Expr) : PySem.Env → Addr → Sem Unit := fun env D => (do
  let kv ← eval kx env
  let vv ← holding [kv] (eval vx env)
  standAt { kx.pos with endLine := vx.pos.endLine, endCol := vx.pos.endCol }
  holding [kv, vv] (dictSet D kv vv))
theorem put_dict {kx vx : Expr} {tk tv : TE} {pins : List (Addr × Obj)} (hu : X.A.units < cLine) (hk : PE X kx tk) (hv : PE X vx tv) : PutOk X X.env pins (dAct kx vx) (putD tk tv) := by
  intro s σ H D N I h
  refine wpAny_bind (thn (hk.run pins s σ H _ I h) fun u s1 ⟨y, H1, I1, r1, q1⟩ => ?_)
  refine wpAny_bind (wpAny_holding (thn (hv.run pins s1 σ H1 _ I1 q1) fun r s2 ⟨z, H2, I2, r2, H3, g, q2⟩ => ?_))
  exact wpAny_bind (wpAny_standAt (wpAny_holding (put_pair hu I2 g r1 r2 fun s3 I3 => ⟨H3, I3, q2⟩)))
theorem start1_dict {prog : Program} {w : World} {A : Around} {R : Result → Shared → Prop} {s : Shared} {kx vx t0 i0 t1 i1 : Expr} {ifs0 ifs1 : List Expr} {scope : Scope} {pos : Pos} {it acc : Value} {env : PySem.Env}
    (h0 : codeAny (model prog w) A (.compLoop (.DictComp kx vx [⟨t0, i0, ifs0, 0⟩, ⟨t1, i1, ifs1, 0⟩] scope pos) 1 it acc env) R s)
    (h : wpAny (model prog w) A (pyIter it) (fun it' s' => codeAny (model prog w) A (.compLoop (.DictComp kx vx [⟨t0, i0, ifs0, 0⟩, ⟨t1, i1, ifs1, 0⟩] scope pos) 1 it' acc env) R s') (notedBy (model prog w) A env fun x s' => R (.error x) s') s) :
    codeAny (model prog w) A (.compStart (.DictComp kx vx [⟨t0, i0, ifs0, 0⟩, ⟨t1, i1, ifs1, 0⟩] scope pos) 1 it acc env) R s := by
  apply codeAny_of_tree
  change wpAny _ _ ((compStart _ 1 it acc env).onRaise (fun x => do noteFrame x env; standAt theWindowsPlace)) _ _ s
  apply wpAny_notedAt
  unfold compStart
  change wpAny _ _ (ask >>= _) _ _ s
  apply wpAny_bind; apply wpAny_askSetting
  refine wpAny_ite_split (fun _ => ?_) fun _ => ?_
  · first
      | exact wpAny_pure ⟨rfl, h0⟩
      | (apply wpAny_bind; exact wpAny_pure (wpAny_pure ⟨rfl, h0⟩))
  · apply wpAny_bind; apply wpAny_rule
    change wpAny _ _ (standAt i1.pos >>= _) _ _ s
    apply wpAny_bind; apply wpAny_standAt; apply wpAny_bind
    apply wpAny_mono h
    · intro it' s' z; exact wpAny_pure ⟨rfl, z⟩
    · intro _ _ x; exact x
abbrev dicOb (_ : World) : Obj := { cls := .type "dict", data := .dict #[] }
theorem newDict_at {P : Program} {w : World} {A : Around} {E : Value → Shared → Prop} {s : Shared} {Q : Value → Shared → Prop} (h : Q (.ref s.heap.objs.size) { s with heap := s.heap.push (dicOb w) }) : wpAny (model P w) A newDict Q E s := wpAny_newObj_type h
variable {kx vx tg iter tg1 iter1 : Expr} {ifs ifs1 : List Expr} {scope : Scope} {own : List (PySem.Str × Nat)} {vs1 : List Nat} {pos : Pos} {wi wi1 : TI} {g g1 : TG} {tt tt1 : TT} {tk tv : TE} {A0 : HO}
theorem core_dc1 (hA : A0 = .dK [] ∨ A0 = .dT []) (hu : X.A.units < cLine) (hc : X.calm = true) (hN : X.N.Nodup) (hi : PI X tg iter wi) (ok : BlkOk X.N X.env.scope scope own)
    (hg : ∀ (s : Shared) (H : Hp) (C : Addr) (cl : List (PySem.Str × Addr)) (fp : List Addr), PG (X.blk s H scope (compEnvC scope cl C X.env) fp) tg g) (ht : ∀ (s : Shared) (H : Hp) (C : Addr) (cl : List (PySem.Str × Addr)) (fp : List Addr), PTs (X.blk s H scope (compEnvC scope cl C X.env) fp) ifs tt)
    (hk : ∀ (s : Shared) (H : Hp) (C : Addr) (cl : List (PySem.Str × Addr)) (fp : List Addr), PE (X.blk s H scope (compEnvC scope cl C X.env) fp) kx tk) (he : ∀ (s : Shared) (H : Hp) (C : Addr) (cl : List (PySem.Str × Addr)) (fp : List Addr), PE (X.blk s H scope (compEnvC scope cl C X.env) fp) vx tv) (hs : ∀ x, foldedSetIterable iter X.env x = pure x := by intro _; rfl) :
    CoreFor X (.DictComp kx vx [⟨tg, iter, ifs, 0⟩] scope pos) scope (firstIterPos [⟨tg, iter, ifs, 0⟩] pos) (newDict) iter (tG1 (fun _ => A0) (putD tk tv) wi g tt (own.map (·.2))) := fun I h hRR =>
  core1 (pos' := firstIterPos [⟨tg, iter, ifs, 0⟩] pos) (new := newDict) (ob := dicOb) rfl (fun _ _ _ => ⟨fun _ => rfl, rfl⟩) I hc hN hi ok hg ht (fun s H C cl fp pins => put_dict hu (hk s H C cl fp) (he s H C cl fp)) hs (fun h => newDict_at h)
    (fun H hp hb => by rcases hA with rfl | rfl; exact dk_empty hp hb; exact dt_empty hp hb) (fun _ _ _ => rfl) (fun h0 h => codeAny_compStart_dict h0 h) h hRR
theorem core_dc2 (hA : A0 = .dK [] ∨ A0 = .dT []) (hu : X.A.units < cLine) (hc : X.calm = true) (hN : X.N.Nodup) (hi : PI X tg iter wi) (ok : BlkOk X.N X.env.scope scope own) (hv : ∀ i ∈ vs1, i ∈ own.map (·.2))
    (hg : ∀ (s : Shared) (H : Hp) (C : Addr) (cl : List (PySem.Str × Addr)) (fp : List Addr), PG (X.blk s H scope (compEnvC scope cl C X.env) fp) tg g) (ht : ∀ (s : Shared) (H : Hp) (C : Addr) (cl : List (PySem.Str × Addr)) (fp : List Addr), PTs (X.blk s H scope (compEnvC scope cl C X.env) fp) ifs tt)
    (hi1 : ∀ (s : Shared) (H : Hp) (C : Addr) (cl : List (PySem.Str × Addr)) (fp : List Addr), PI (X.blk s H scope (compEnvC scope cl C X.env) fp) tg1 iter1 wi1)
    (hg1 : ∀ (s : Shared) (H : Hp) (C : Addr) (cl : List (PySem.Str × Addr)) (fp : List Addr), PG (X.blk s H scope (compEnvC scope cl C X.env) fp) tg1 g1) (ht1 : ∀ (s : Shared) (H : Hp) (C : Addr) (cl : List (PySem.Str × Addr)) (fp : List Addr), PTs (X.blk s H scope (compEnvC scope cl C X.env) fp) ifs1 tt1)
    (hk : ∀ (s : Shared) (H : Hp) (C : Addr) (cl : List (PySem.Str × Addr)) (fp : List Addr), PE (X.blk s H scope (compEnvC scope cl C X.env) fp) kx tk) (he : ∀ (s : Shared) (H : Hp) (C : Addr) (cl : List (PySem.Str × Addr)) (fp : List Addr), PE (X.blk s H scope (compEnvC scope cl C X.env) fp) vx tv) (hs : ∀ x, foldedSetIterable iter X.env x = pure x := by intro _; rfl) (hs1 : ∀ env x, foldedSetIterable iter1 env x = pure x := by intro _ _; rfl) :
    CoreFor X (.DictComp kx vx [⟨tg, iter, ifs, 0⟩, ⟨tg1, iter1, ifs1, 0⟩] scope pos) scope (firstIterPos [⟨tg, iter, ifs, 0⟩, ⟨tg1, iter1, ifs1, 0⟩] pos) (newDict) iter (tG2 (fun _ => A0) (putD tk tv) wi g tt wi1 g1 tt1 (own.map (·.2)) vs1) := fun I h hRR =>
  core2 (pos' := firstIterPos [⟨tg, iter, ifs, 0⟩, ⟨tg1, iter1, ifs1, 0⟩] pos) (new := newDict) (ob := dicOb) rfl (fun _ _ _ => ⟨fun _ => rfl, rfl⟩) (fun _ _ _ => ⟨fun _ => rfl, rfl⟩) I hc hN hi ok hv hg ht (fun s H C cl fp pins => put_dict hu (hk s H C cl fp) (he s H C cl fp)) hi1 hg1 ht1 hs hs1 (fun h => newDict_at h)
    (fun H hp hb => by rcases hA with rfl | rfl; exact dk_empty hp hb; exact dt_empty hp hb) (fun _ _ _ => rfl) (fun _ _ _ => rfl)
    (fun {A R s it acc env} lv hlv h0 h => match lv, hlv, h0, h with
      | 0, _, h0, h => codeAny_compStart_dict h0 h
      | 1, _, h0, h => start1_dict h0 h) h hRR
end
/-- lists, too: as by HandS, in this form -/
def putL (te : TE) : PutT := fun D σ H N => te σ H fun y H1 => ∃ acc, H1 D = some (.lst acc) ∧ acc.length < sizeLine ∧ N (upd H1 D (.lst (acc ++ [y])))
theorem tLc_eq {wi : TI} {g : TG} {tt : TT} {te : TE} {vs : List Nat} : tG1 (fun _ => .lst []) (putL te) wi g tt vs = tLc wi g tt te vs := rfl
theorem tLc2_eq {wi wi1 : TI} {g g1 : TG} {tt tt1 : TT} {te : TE} {vs vs1 : List Nat} : tG2 (fun _ => .lst []) (putL te) wi g tt wi1 g1 tt1 vs vs1 = tLc2 wi g tt wi1 g1 tt1 te vs vs1 := rfl
end Gc
namespace Gc
open PySem PySem.Spec PyProof.Rows L2
section
variable {X : Cx} {elt tg iter tg1 iter1 : Expr} {ifs ifs1 : List Expr} {scope : Scope} {own : List (PySem.Str × Nat)} {vs1 : List Nat} {pos : Pos} {wi wi1 : TI} {g g1 : TG} {tt tt1 : TT} {te : TE}
theorem core_lc1 (hc : X.calm = true) (hN : X.N.Nodup) (hi : PI X tg iter wi) (ok : BlkOk X.N X.env.scope scope own)
    (hg : ∀ (s : Shared) (H : Hp) (C : Addr) (cl : List (PySem.Str × Addr)) (fp : List Addr), PG (X.blk s H scope (compEnvC scope cl C X.env) fp) tg g) (ht : ∀ (s : Shared) (H : Hp) (C : Addr) (cl : List (PySem.Str × Addr)) (fp : List Addr), PTs (X.blk s H scope (compEnvC scope cl C X.env) fp) ifs tt)
    (he : ∀ (s : Shared) (H : Hp) (C : Addr) (cl : List (PySem.Str × Addr)) (fp : List Addr), PE (X.blk s H scope (compEnvC scope cl C X.env) fp) elt te) (hs : ∀ x, foldedSetIterable iter X.env x = pure x := by intro _; rfl) :
    CoreFor X (.ListComp elt [⟨tg, iter, ifs, 0⟩] scope pos) scope (firstIterPos [⟨tg, iter, ifs, 0⟩] pos) (newList []) iter (tG1 (fun _ => .lst []) (putL te) wi g tt (own.map (·.2))) := fun I h hRR => lc_core hc hN I hi ok hg ht he hs h hRR
theorem core_lc2 (hc : X.calm = true) (hN : X.N.Nodup) (hi : PI X tg iter wi) (ok : BlkOk X.N X.env.scope scope own) (hv : ∀ i ∈ vs1, i ∈ own.map (·.2))
    (hg : ∀ (s : Shared) (H : Hp) (C : Addr) (cl : List (PySem.Str × Addr)) (fp : List Addr), PG (X.blk s H scope (compEnvC scope cl C X.env) fp) tg g) (ht : ∀ (s : Shared) (H : Hp) (C : Addr) (cl : List (PySem.Str × Addr)) (fp : List Addr), PTs (X.blk s H scope (compEnvC scope cl C X.env) fp) ifs tt)
    (hi1 : ∀ (s : Shared) (H : Hp) (C : Addr) (cl : List (PySem.Str × Addr)) (fp : List Addr), PI (X.blk s H scope (compEnvC scope cl C X.env) fp) tg1 iter1 wi1)
    (hg1 : ∀ (s : Shared) (H : Hp) (C : Addr) (cl : List (PySem.Str × Addr)) (fp : List Addr), PG (X.blk s H scope (compEnvC scope cl C X.env) fp) tg1 g1) (ht1 : ∀ (s : Shared) (H : Hp) (C : Addr) (cl : List (PySem.Str × Addr)) (fp : List Addr), PTs (X.blk s H scope (compEnvC scope cl C X.env) fp) ifs1 tt1)
    (he : ∀ (s : Shared) (H : Hp) (C : Addr) (cl : List (PySem.Str × Addr)) (fp : List Addr), PE (X.blk s H scope (compEnvC scope cl C X.env) fp) elt te) (hs : ∀ x, foldedSetIterable iter X.env x = pure x := by intro _; rfl) (hs1 : ∀ env x, foldedSetIterable iter1 env x = pure x := by intro _ _; rfl) :
    CoreFor X (.ListComp elt [⟨tg, iter, ifs, 0⟩, ⟨tg1, iter1, ifs1, 0⟩] scope pos) scope (firstIterPos [⟨tg, iter, ifs, 0⟩, ⟨tg1, iter1, ifs1, 0⟩] pos) (newList []) iter (tG2 (fun _ => .lst []) (putL te) wi g tt wi1 g1 tt1 (own.map (·.2)) vs1) := fun I h hRR => lc2_core hc hN I hi ok hv hg ht he hs hi1 hg1 ht1 hs1 h hRR
end
end Gc

/-! The mirror layer: comprehensions of any kind. -/
namespace Mm
open PySem PySem.Spec PyProof.Rows L2 Gc
def okRes {α : Type} (r : Res α) (P : α → Sto → Prop) : Prop := match r with
  | .ok a S => P a S
  | _ => False
theorem okRes.bind {α β : Type} {c : MW α} {k : α → MW β} {ρ : Env} {S : Sto} {P : β → Sto → Prop} (h : okRes (mBind c k ρ S) P) : okRes (c ρ S) fun a S1 => okRes (k a ρ S1) P := by
  unfold mBind at h
  cases e : c ρ S <;> rw [e] at h <;> exact h
theorem okRes.then {α : Type} {c : MW Env} {k : MW α} {ρ : Env} {S : Sto} {P : α → Sto → Prop} (h : okRes (mThen c k ρ S) P) : okRes (c ρ S) fun ρ1 S1 => okRes (k ρ1 S1) P := by
  unfold mThen at h
  cases e : c ρ S <;> rw [e] at h <;> exact h
theorem okRes.post {α : Type} {K : PySem.W.Frag} {E : XK} {r : Res α} {ι : Im} {n : Nat} {H : Hp} {P : α → Sto → Prop} {R : α → Sto → Im → Hp → Prop} (h : okRes r P) (k : ∀ a S' ι' H', Ext ι n H ι' S'.length H' → Rl K ι' S' H' → P a S' → R a S' ι' H') : Post K E r ι n H R := by
  cases r with
  | ok a S' => exact fun ι' H' e q => k a S' ι' H' e q h
  | _ => exact h.elim
theorem wipe_again (τ : L2.St) (us : List Nat) : L2.wipe (L2.wipe τ us) us = L2.wipe τ us := by
  have key : ∀ (as : List Nat) (υ : L2.St), (∀ a, a ∈ as → υ[a]? = some none ∨ υ[a]? = none) → L2.wipe υ as = υ := by
    intro as
    induction as with
    | nil => intro υ _; rfl
    | cons a as ih =>
      intro υ hυ
      unfold L2.wipe
      rw [ih υ fun b hb => hυ b (List.mem_cons_of_mem _ hb)]
      rcases hυ a List.mem_cons_self with z | z
      · obtain ⟨hl, hz⟩ := List.getElem?_eq_some_iff.mp z
        rw [← hz, List.set_getElem_self]
      · exact List.set_eq_of_length_le (by simpa using z)
  refine key us _ fun a ha => ?_
  cases r : (L2.wipe τ us)[a]? with
  | none => exact .inr rfl
  | some y =>
    cases y with
    | none => exact .inl rfl
    | some v => exact absurd ha (L2.wipe_some r).2
/-! ### the mirrors -/
def gLoop {α : Type} (g : MG) (t : MW Bool) (mp : α → MW α) (ρ : Env) : List W → α → Sto → Res α
  | [], acc, S => .ok acc S
  | w :: ws, acc, S => match mThen (g w) (mBind t fun b => if b = true then mp acc else fun _ S => .ok acc S) ρ S with
    | .ok acc' S' => gLoop g t mp ρ ws acc' S'
    | _ => .stuck
def mIn {α : Type} (vs : List Nat) (ci : MW (List W)) (g : MG) (t : MW Bool) (mp : α → MW α) : α → MW α := fun acc => mBind ci fun ws => fun ρ S => gLoop g t mp (wipeE ρ vs) ws acc S
def mG {α : Type} (vs : List Nat) (ci : MW (List W)) (g : MG) (t : MW Bool) (mp : α → MW α) (a0 : α) (fin : α → Sto → Res W) : MV := mBind (mIn vs ci g t mp a0) fun acc => fun _ S => fin acc S
/-! ### the block -/
abbrev ARel (α : Type) := α → Im → Nat → Hp → Addr → Prop
def ARmv {α : Type} (AR : ARel α) : Prop := ∀ acc ι n H ι' n' H' D, AR acc ι n H D → Mv ι n H ι' n' H' → H' D = H D → AR acc ι' n' H' D
structure Blk {α : Type} (K : PySem.W.Frag) (AR : ARel α) (ι1 : Im) (n1 : Nat) (H1 : Hp) (D : Addr) (ρ : Env) (σ : L2.St) (acc : α) (ι : Im) (S : Sto) (H : Hp) : Prop where
  re : RE K ι S.length H ρ σ
  rl : Rl K ι S H
  mv : Mv ι1 n1 H1 ι S.length H
  mu : ι.mu = D :: ι1.mu
  pr : ∀ a, a ∈ ι1.mu → H a = H1 a
  ls : AR acc ι S.length H D
section
variable {α : Type} {AR : ARel α} {K : PySem.W.Frag} {ι1 : Im} {n1 : Nat} {H1 : Hp} {D : Addr} {ρ : Env} {σ : L2.St} {acc : α} {ι : Im} {S : Sto} {H : Hp}
theorem Blk.go (hA : ARmv AR) {ι' : Im} {S' : Sto} {H' : Hp} (b : Blk K AR ι1 n1 H1 D ρ σ acc ι S H) (e : Ext ι S.length H ι' S'.length H') (rl : Rl K ι' S' H') : Blk K AR ι1 n1 H1 D ρ σ acc ι' S' H' := by
  refine ⟨b.re.mono e, rl, b.mv.trans e.toMv, e.mu.trans b.mu, fun a h => ?_, hA _ _ _ _ _ _ _ _ b.ls e.toMv (e.pr D (by rw [b.mu]; exact List.mem_cons_self))⟩
  rw [e.pr a (by rw [b.mu]; exact List.mem_cons_of_mem _ h)]
  exact b.pr a h
theorem Blk.slots {ρ' : Env} {σ' : L2.St} (b : Blk K AR ι1 n1 H1 D ρ σ acc ι S H) (re : RE K ι S.length H ρ' σ') : Blk K AR ι1 n1 H1 D ρ' σ' acc ι S H := ⟨re, b.rl, b.mv, b.mu, b.pr, b.ls⟩
/-- D is changed -/
theorem Blk.put {acc' : α} {o : HO} (b : Blk K AR ι1 n1 H1 D ρ σ acc ι S H) (hD : D ∉ ι1.mu) (h : Mv ι S.length H ι S.length (upd H D o) → AR acc' ι S.length (upd H D o) D) (nt : noTup o := by trivial) : Blk K AR ι1 n1 H1 D ρ σ acc' ι S (upd H D o) ∧ Mv ι S.length H ι S.length (upd H D o) := by
  obtain ⟨mv7, rl7⟩ := change (o := o) b.rl (by rw [b.mu]; exact List.mem_cons_self) nt
  refine ⟨⟨b.re.mv mv7, rl7, b.mv.trans mv7, b.mu, fun a h => ?_, h mv7⟩, mv7⟩
  rw [upd_ne (show a ≠ D from fun z => hD (z ▸ h))]
  exact b.pr a h
end
def SimPut {α : Type} (K : PySem.W.Frag) (AR : ARel α) (tp : PutT) (mp : α → MW α) : Prop := ∀ (ι1 : Im) (n1 : Nat) (H1 : Hp) (D : Addr) (ρ : Env) (σ : L2.St) (acc : α) (ι : Im) (S : Sto) (H : Hp) (N : Hp → Prop) (P : α → Sto → Prop), D ∉ ι1.mu → Blk K AR ι1 n1 H1 D ρ σ acc ι S H → okRes (mp acc ρ S) P →
  (∀ acc' ι' S' H', Blk K AR ι1 n1 H1 D ρ σ acc' ι' S' H' → Mv ι S.length H ι' S'.length H' → P acc' S' → N H') → tp D σ H N
/-- a loop of the block -/
theorem gc_loop {α : Type} {AR : ARel α} {K : PySem.W.Frag} {ι1 : Im} {n1 : Nat} {H1 : Hp} {D : Addr} {ρ : Env} {σ σ0 : L2.St} {acc : α} {ι : Im} {S : Sto} {H : Hp} {g : MG} {t : MW Bool} {mp : α → MW α} {tp : PutT} {vs : List Nat} {us : List W} {J : It} {Nx : Hp → Prop} {P : α → Sto → Prop} (hA : ARmv AR) (hs : SimPut K AR tp mp) (hD : D ∉ ι1.mu) (hσ : σ = L2.wipe σ0 vs)
    (b0 : Blk K AR ι1 n1 H1 D ρ σ acc ι S H) (hJ : Yl K J us ι S.length H) (hp : okRes (gLoop g t mp ρ us acc S) P) (fin : ∀ acc' ι' S' H', Blk K AR ι1 n1 H1 D ρ σ acc' ι' S' H' → Mv ι S.length H ι' S'.length H' → P acc' S' → Nx H') :
    ∃ W1 : Nat → Nat → Hp → Prop, (∃ m, W1 0 m H) ∧ ∀ j k H', W1 j k H' → (J.stop j H' ∧ Nx H') ∨ (J.go j H' ∧ ∃ Nx1 : Hp → Prop, (∀ H2, Nx1 H2 → ∃ k', k' < k ∧ W1 (j + 1) k' H2) ∧ ∀ x H2, J.yld j H' x H2 →
      tOfGw K E0 vs g x σ H2 fun σ3 H5 => L2.wipe σ3 vs = σ ∧ tOfB K E0 t σ3 H5 fun c H6 => if c = true then tp D σ3 H6 Nx1 else Nx1 H6) := by
  refine ⟨fun j k H' => ∃ ι' S' acc', Blk K AR ι1 n1 H1 D ρ σ acc' ι' S' H' ∧ Mv ι S.length H ι' S'.length H' ∧ j + k = us.length ∧ okRes (gLoop g t mp ρ (us.drop j) acc' S') P, ⟨us.length, ι, S, acc, b0, Mv.refl, Nat.zero_add _, hp⟩, ?_⟩
  rintro j k H2 ⟨ι2, S2, acc2, b2, m2, ejk, p2⟩
  obtain ⟨hstop, hgo⟩ := hJ ι2 S2 H2 m2 b2.rl
  by_cases hi : j < us.length
  · right
    have ed : us.drop j = us[j] :: us.drop (j + 1) := List.drop_eq_getElem_cons hi
    rw [ed] at p2
    obtain ⟨go, yl⟩ := hgo j us[j] (List.getElem?_eq_getElem hi)
    refine ⟨go, fun H' => ∃ ι' S' acc', Blk K AR ι1 n1 H1 D ρ σ acc' ι' S' H' ∧ Mv ι S.length H ι' S'.length H' ∧ okRes (gLoop g t mp ρ (us.drop (j + 1)) acc' S') P, ?_, ?_⟩
    · rintro H' ⟨ι', S', acc', c1, c2, c3⟩
      exact ⟨k - 1, by omega, ι', S', acc', c1, c2, by omega, c3⟩
    · intro x H3 hy
      obtain ⟨e3, rl3, rx3⟩ := yl x H3 hy
      have b3 := b2.go hA e3 rl3
      have m3 := m2.trans e3.toMv
      have p3 : okRes (mThen (g us[j]) (mBind t fun b => if b = true then mp acc2 else fun _ S => .ok acc2 S) ρ S2) fun acc' S' => okRes (gLoop g t mp ρ (us.drop (j + 1)) acc' S') P := by
        unfold gLoop at p2
        cases q : mThen (g us[j]) (mBind t fun b => if b = true then mp acc2 else fun _ S => .ok acc2 S) ρ S2 with
        | ok a S' => rw [q] at p2; exact p2
        | _ => rw [q] at p2; exact p2.elim
      refine ⟨us[j], ρ, ι2, S2, rx3, b3.re, rl3, p3.then.post fun ρ4 S4 ι4 H4 e4 rl4 p4 σ4 re4 hw4 => ?_⟩
      have b4 := b3.go hA e4 rl4
      have m4 := m3.trans e4.toMv
      refine ⟨hw4.trans (by rw [hσ]; exact wipe_again σ0 vs), ρ4, ι4, S4, re4, rl4, p4.bind.post fun c S5 ι5 H5 e5 rl5 p5 => ?_⟩
      have b5 := b4.go hA e5 rl5
      have m5 := m4.trans e5.toMv
      cases c with
      | false =>
        simp only [Bool.false_eq_true, if_false] at p5 ⊢
        exact ⟨ι5, S5, acc2, b5, m5, p5⟩
      | true =>
        simp only [if_true] at p5 ⊢
        refine hs ι1 n1 H1 D ρ4 σ4 acc2 ι5 S5 H5 _ _ hD (b5.slots (re4.mono e5)) p5 fun acc' ι' S' H' bb mm pp => ?_
        refine ⟨ι', S', acc', bb.slots ?_, m5.trans mm, pp⟩
        exact b5.re.mv mm
  · left
    have ei : j = us.length := by omega
    subst ei
    rw [List.drop_length] at p2
    exact ⟨hstop, fin acc2 ι2 S2 H2 b2 m2 p2⟩
/-! ### a second for -/
def tIn (wi1 : TI) (g1 : TG) (tt1 : TT) (tp : PutT) (vs1 : List Nat) : PutT := fun D σ2 H3 Nx => wi1 σ2 H3 fun J1 H4 => ∃ W1 : Nat → Nat → Hp → Prop, (∃ m, W1 0 m H4) ∧ ∀ j k H, W1 j k H →
  (J1.stop j H ∧ Nx H) ∨ (J1.go j H ∧ ∃ Nx1 : Hp → Prop, (∀ H', Nx1 H' → ∃ k', k' < k ∧ W1 (j + 1) k' H') ∧ ∀ x H', J1.yld j H x H' → g1 x (L2.wipe σ2 vs1) H' fun σ3 H5 => L2.wipe σ3 vs1 = L2.wipe σ2 vs1 ∧ tt1 σ3 H5 fun b H6 =>
    if b = true then tp D σ3 H6 Nx1 else Nx1 H6)
theorem tG2_eq {A0 : Addr → HO} {tp : PutT} {wi wi1 : TI} {g g1 : TG} {tt tt1 : TT} {vs vs1 : List Nat} : tG2 A0 tp wi g tt wi1 g1 tt1 vs vs1 = tG1 A0 (tIn wi1 g1 tt1 tp vs1) wi g tt vs := rfl
theorem sim_gin {α : Type} {AR : ARel α} {K : PySem.W.Frag} {tp : PutT} {mp : α → MW α} {ci : MW (List W)} {g : MG} {t : MW Bool} {vs : List Nat} (hA : ARmv AR) (hs : SimPut K AR tp mp) : SimPut K AR (tIn (tOfI K E0 ci) (tOfGw K E0 vs g) (tOfB K E0 t) tp vs) (mIn vs ci g t mp) := by
  intro ι1 n1 H1 D ρ σ acc ι S H N P hD b h fin
  refine ⟨ρ, ι, S, b.re, b.rl, (okRes.bind h).post fun ws S2 ι2 H2 e2 rl2 p2 J hJ => ?_⟩
  have b2 := b.go hA e2 rl2
  refine gc_loop hA hs hD rfl (b2.slots (b2.re.wipe vs)) hJ p2 fun acc' ι' S' H' bb mm pp => ?_
  exact fin acc' ι' S' H' (bb.slots ((b2.re).mv mm)) (e2.toMv.trans mm) pp
/-! ### the whole -/
def FinOk {α : Type} (K : PySem.W.Frag) (E : XK) (AR : ARel α) (fin : α → Sto → Res W) (τ : VK → VK) : Prop := ∀ (acc : α) (ι1 : Im) (n1 : Nat) (H1 : Hp) (ι : Im) (S : Sto) (H : Hp) (D : Addr) (Q : VK), H1 D = none → D ∉ ι1.mu → Rl K ι S H → Mv ι1 n1 H1 ι S.length H → ι.mu = D :: ι1.mu → (∀ a, a ∈ ι1.mu → H a = H1 a) → AR acc ι S.length H D →
  PostV K E (fin acc S) ι1 n1 H1 Q → τ Q (.ref D) H
theorem sim_g {α : Type} {AR : ARel α} {K : PySem.W.Frag} {E : XK} {tp : PutT} {mp : α → MW α} {ci : MW (List W)} {g : MG} {t : MW Bool} {vs : List Nat} {a0 : α} {A0 : Addr → HO} {fin : α → Sto → Res W} {τ : VK → VK} (hA : ARmv AR) (hs : SimPut K AR tp mp) (h0 : ∀ ι n H D, AR a0 ι n (upd H D (A0 D)) D) (nt : ∀ D, noTup (A0 D)) (hf : FinOk K E AR fin τ) {σ : L2.St} {H : Hp} {Q : VK}
    (h : tOf K E (mG vs ci g t mp a0 fin) σ H Q) : tG1 A0 tp (tOfI K E ci) (tOfGw K E0 vs g) (tOfB K E0 t) vs σ H (τ Q) := by
  obtain ⟨ρ, ι, S, re, rl, h⟩ := h
  unfold mG mIn at h
  have h' : Post K E (mBind ci (fun ws => fun ρ S => match gLoop g t mp (wipeE ρ vs) ws a0 S with
      | .ok acc S' => fin acc S'
      | _ => .stuck) ρ S) ι S.length H (fun w S' ι' H' => ∀ v, Rep K ι' S'.length H' w v → Q v H') := by
    unfold mBind at h ⊢
    cases q : ci ρ S with
    | ok ws S1 =>
      rw [q] at h
      simp only at h ⊢
      cases q2 : gLoop g t mp (wipeE ρ vs) ws a0 S1 with
      | ok acc S2 => rw [q2] at h; exact h
      | stuck => rw [q2] at h; exact h
      | err x S2 =>
        exfalso
        have no : ∀ (us : List W) (acc : α) (T : Sto), gLoop g t mp (wipeE ρ vs) us acc T ≠ .err x S2 := fun us => by
          induction us with
          | nil => intro acc T z; cases z
          | cons u us ih =>
            intro acc T z
            unfold gLoop at z
            split at z
            · exact ih _ _ z
            · cases z
        exact no _ _ _ q2
    | stuck => rw [q] at h; exact h
    | err x S1 => rw [q] at h; exact h
  refine ⟨ρ, ι, S, re, rl, (Post.bind h').mono fun ws S1 ι1 H1 e1 rl1 h1 J hJ D hD => ?_⟩
  obtain ⟨mv0, rl0⟩ := enter (o := A0 D) rl1 hD (nt D)
  have hDm : D ∉ ι1.mu := rl1.nmu hD
  have b0 : Blk K AR ι1 S1.length H1 D (wipeE ρ vs) (L2.wipe σ vs) a0 (ιd ι1 D) S1 (upd H1 D (A0 D)) := ⟨((re.mono e1).mv mv0).wipe vs, rl0, mv0, rfl, fun a h => upd_ne fun z => hDm (z ▸ h), h0 _ _ _ _⟩
  have hJ' : Yl K J ws (ιd ι1 D) S1.length (upd H1 D (A0 D)) := fun ι2 S2 H2 m2 rl2 => hJ ι2 S2 H2 (mv0.trans m2) rl2
  have hp : okRes (gLoop g t mp (wipeE ρ vs) ws a0 S1) fun acc S2 => PostV K E (fin acc S2) ι1 S1.length H1 Q := by
    cases q : gLoop g t mp (wipeE ρ vs) ws a0 S1 with
    | ok acc S2 => simp only [q] at h1; exact h1
    | stuck => simp only [q] at h1; exact h1.elim
    | err x S2 => simp only [q] at h1; exact h1.elim
  exact gc_loop hA hs hDm rfl b0 hJ' hp fun acc' ι' S' H' bb mm pp => hf acc' ι1 S1.length H1 ι' S' H' D Q hD hDm bb.rl bb.mv bb.mu bb.pr bb.ls pp
end Mm

/-! The mirror layer: the kinds of comprehensions. -/
namespace Mm
open PySem PySem.Spec PyProof.Rows L2 Gc
/-! ### what is made -/
def arL (K : PySem.W.Frag) : ARel (List W) := fun acc ι n H D => ∃ xs, H D = some (.lst xs) ∧ Reps K ι n H acc xs
def arK (K : PySem.W.Frag) : ARel (List Key × List W) := fun acc ι n H D => ∃ xs, H D = some (.dK (acc.1.zip xs)) ∧ acc.1.length = acc.2.length ∧ Reps K ι n H acc.2 xs
def arT (K : PySem.W.Frag) : ARel (List (List Key) × List W) := fun acc ι n H D => ∃ xs, H D = some (.dT (acc.1.zip xs)) ∧ acc.1.length = acc.2.length ∧ Reps K ι n H acc.2 xs
def arS (w : World) : ARel (List Str) := fun acc _ _ H D => H D = some (SetTO w acc D)
theorem arL_mv {K : PySem.W.Frag} : ARmv (arL K) := fun acc ι n H ι' n' H' D ⟨xs, h1, h2⟩ m e => ⟨xs, e.trans h1, h2.mv m⟩
theorem arK_mv {K : PySem.W.Frag} : ARmv (arK K) := fun acc ι n H ι' n' H' D ⟨xs, h1, h2, h3⟩ m e => ⟨xs, e.trans h1, h2, h3.mv m⟩
theorem arT_mv {K : PySem.W.Frag} : ARmv (arT K) := fun acc ι n H ι' n' H' D ⟨xs, h1, h2, h3⟩ m e => ⟨xs, e.trans h1, h2, h3.mv m⟩
theorem arS_mv {w : World} : ARmv (arS w) := fun acc ι n H ι' n' H' D h m e => e.trans h
def mpL (e : MV) : List W → MW (List W) := fun acc => mBind e fun y => fun _ S => if acc.length < sizeLine then .ok (acc ++ [y]) S else .stuck
def mpK (k e : MV) : List Key × List W → MW (List Key × List W) := fun acc => mBind k fun y => mBind e fun z => fun _ S => match keyW y with
  | some kk => if acc.1.length < sizeLine then .ok (putW acc.1 acc.2 kk z) S else .stuck
  | none => .stuck
def mpT (k e : MV) : List (List Key) × List W → MW (List (List Key) × List W) := fun acc => mBind k fun y => mBind e fun z => fun _ S => match y with
  | .tup us => (match keysW us with
    | some kk => if acc.1.length < sizeLine then .ok (putW acc.1 acc.2 kk z) S else .stuck
    | none => .stuck)
  | _ => .stuck
def mpS (e : MV) : List Str → MW (List Str) := fun acc => mBind e fun y => fun _ S => match y with
  | .str z => if acc.length + 1 < scanBound then .ok (addT acc z) S else .stuck
  | _ => .stuck
section
variable {K : PySem.W.Frag}
theorem sp_L {e : MV} : SimPut K (arL K) (putL (tOf K E0 e)) (mpL e) := by
  intro ι1 n1 H1 D ρ σ acc ι S H N P hD b h fin
  refine ⟨ρ, ι, S, b.re, b.rl, (okRes.bind h).post fun y S2 ι2 H2 e2 rl2 p2 v rv => ?_⟩
  have b2 := b.go arL_mv e2 rl2
  by_cases z : acc.length < sizeLine
  · rw [if_pos z] at p2
    obtain ⟨xs, h1, h2⟩ := b2.ls
    obtain ⟨b3, m3⟩ := b2.put (acc' := acc ++ [y]) (o := .lst (xs ++ [v])) hD fun m => ⟨_, upd_same, (h2.mv m).append (.cons (rv.mv m) .nil)⟩
    exact ⟨xs, h1, by rw [← h2.length]; exact z, fin _ _ _ _ b3 (e2.toMv.trans m3) p2⟩
  · rw [if_neg z] at p2; exact p2.elim
theorem sp_K {k e : MV} : SimPut K (arK K) (putD (tOf K E0 k) (tOf K E0 e)) (mpK k e) := by
  intro ι1 n1 H1 D ρ σ acc ι S H N P hD b h fin
  refine ⟨ρ, ι, S, b.re, b.rl, (okRes.bind h).post fun y S2 ι2 H2 e2 rl2 p2 v rv => ?_⟩
  have b2 := b.go arK_mv e2 rl2
  refine ⟨ρ, ι2, S2, b2.re, b2.rl, (okRes.bind p2).post fun u S3 ι3 H3 e3 rl3 p3 x rx => ?_⟩
  have b3 := b2.go arK_mv e3 rl3
  split at p3
  · rename_i kk qk
    by_cases z : acc.1.length < sizeLine
    · rw [if_pos z] at p3
      obtain ⟨xs, h1, h2, h3⟩ := b3.ls
      rw [keyW_ok qk rv]
      have hz : (acc.1.zip xs).length < sizeLine := by rw [List.length_zip]; omega
      refine ⟨_, DPut.k h1 hz, ?_⟩
      obtain ⟨b4, m4⟩ := b3.put (acc' := putW acc.1 acc.2 kk u) (o := .dK (putK (acc.1.zip xs) kk x)) hD fun m => by
        obtain ⟨ys, p1, p2, p3⟩ := put_ok (k := kk) h2 (h3.mv m) (rx.mv m)
        exact ⟨ys, by rw [upd_same, p1], p2, p3⟩
      exact fin _ _ _ _ b4 ((e2.toMv.trans e3.toMv).trans m4) p3
    · rw [if_neg z] at p3; exact p3.elim
  · exact p3.elim
theorem sp_T {k e : MV} : SimPut K (arT K) (putD (tOf K E0 k) (tOf K E0 e)) (mpT k e) := by
  intro ι1 n1 H1 D ρ σ acc ι S H N P hD b h fin
  refine ⟨ρ, ι, S, b.re, b.rl, (okRes.bind h).post fun y S2 ι2 H2 e2 rl2 p2 v rv => ?_⟩
  have b2 := b.go arT_mv e2 rl2
  refine ⟨ρ, ι2, S2, b2.re, b2.rl, (okRes.bind p2).post fun u S3 ι3 H3 e3 rl3 p3 x rx => ?_⟩
  have b3 := b2.go arT_mv e3 rl3
  cases rv with
  | @tup us a ts hz rs =>
    simp only at p3
    split at p3
    · rename_i kk qk
      by_cases z : acc.1.length < sizeLine
      · rw [if_pos z] at p3
        obtain ⟨xs, h1, h2, h3⟩ := b3.ls
        have ek := keysW_ok qk rs
        subst ek
        have hl : (acc.1.zip xs).length < sizeLine := by rw [List.length_zip]; omega
        have ht : H3 a = some (.tup (kk.map kV)) := (e3.toMv.fzT hz).at_
        refine ⟨_, DPut.t h1 ht hl, ?_⟩
        obtain ⟨b4, m4⟩ := b3.put (acc' := putW acc.1 acc.2 kk u) (o := .dT (putK (acc.1.zip xs) kk x)) hD fun m => by
          obtain ⟨ys, p1, p2, p3⟩ := put_ok (k := kk) h2 (h3.mv m) (rx.mv m)
          exact ⟨ys, by rw [upd_same, p1], p2, p3⟩
        exact fin _ _ _ _ b4 ((e2.toMv.trans e3.toMv).trans m4) p3
      · rw [if_neg z] at p3; exact p3.elim
    · exact p3.elim
  | _ => exact p3.elim
theorem sp_S {w : World} {e : MV} : SimPut K (arS w) (putT w (tOf K E0 e)) (mpS e) := by
  intro ι1 n1 H1 D ρ σ acc ι S H N P hD b h fin
  refine ⟨ρ, ι, S, b.re, b.rl, (okRes.bind h).post fun y S2 ι2 H2 e2 rl2 p2 v rv => ?_⟩
  have b2 := b.go arS_mv e2 rl2
  cases rv with
  | str z =>
    simp only at p2
    by_cases hz : acc.length + 1 < scanBound
    · rw [if_pos hz] at p2
      obtain ⟨b3, m3⟩ := b2.put (acc' := addT acc z) (o := SetTO w (addT acc z) D) hD fun m => upd_same
      exact ⟨z, acc, rfl, b2.ls, hz, fin _ _ _ _ b3 (e2.toMv.trans m3) p2⟩
    · rw [if_neg hz] at p2; exact p2.elim
  | _ => exact p2.elim
end
/-! ### the ends -/
def finL : List W → Sto → Res W := fun acc S => .ok (.lst acc) S
def finLM : List W → Sto → Res W := fun acc S => .ok (.loc S.length) (S ++ [.lst acc])
def finKd : List Key × List W → Sto → Res W := fun acc S => .ok (.dct acc.1 acc.2) S
def finKdM : List Key × List W → Sto → Res W := fun acc S => .ok (.loc S.length) (S ++ [.dct acc.1 acc.2])
def finT : List (List Key) × List W → Sto → Res W := fun acc S => .ok (.dcT acc.1 acc.2) S
def finTM : List (List Key) × List W → Sto → Res W := fun acc S => .ok (.loc S.length) (S ++ [.dcT acc.1 acc.2])
section
variable {K : PySem.W.Frag} {E : XK}
/-- out of the block, D frozen -/
theorem out_fz {ι1 ι : Im} {n1 : Nat} {H1 H : Hp} {S : Sto} {D : Addr} (hD : H1 D = none) (hm1 : D ∉ ι1.mu) (rl : Rl K ι S H) (mv : Mv ι1 n1 H1 ι S.length H) (hm : ι.mu = D :: ι1.mu) (pr : ∀ a, a ∈ ι1.mu → H a = H1 a) :
    Ext ι1 n1 H1 (ιu ι ι1.mu) S.length H ∧ Rl K (ιu ι ι1.mu) S H ∧ Mv ι S.length H (ιu ι ι1.mu) S.length H ∧ (∀ l, l < S.length → ι l ≠ D) := by
  obtain ⟨m, r⟩ := leave rl hm
  exact ⟨⟨mv.trans m, rfl, pr⟩, r, m, fun l hl e => rl.mn l hl (by rw [hm, e]; exact List.mem_cons_self)⟩
/-- .. as a new object of the store -/
theorem out_loc {ι1 ι : Im} {n1 : Nat} {H1 H : Hp} {S : Sto} {D : Addr} {o : O} (hD : H1 D = none) (hm1 : D ∉ ι1.mu) (rl : Rl K ι S H) (mv : Mv ι1 n1 H1 ι S.length H) (hm : ι.mu = D :: ι1.mu) (pr : ∀ a, a ∈ ι1.mu → H a = H1 a) (ho : RepO K ι S.length H D o) :
    ∃ ι', Ext ι1 n1 H1 ι' (S ++ [o]).length H ∧ Rl K ι' (S ++ [o]) H ∧ Rep K ι' (S ++ [o]).length H (.loc S.length) (.ref D) := by
  obtain ⟨e, r, m, ne⟩ := out_fz hD hm1 rl mv hm pr
  have hn : (S ++ [o]).length = S.length + 1 := by simp
  have hDm : D ∈ ι.mu := by rw [hm]; exact List.mem_cons_self
  -- from the block's own state
  have m2 : Mv ι S.length H (ιx (ιu ι ι1.mu) S.length D) (S.length + 1) H := ⟨Nat.le_succ _, fun l hl => ιx_lt hl, fun a u h => ⟨h.hd, fun l hl => by
    by_cases el : l = S.length
    · subst el; rw [ιx_at]; exact fun z => h.mu (z ▸ hDm)
    · rw [ιx_lt (by omega)]; exact h.ne l (by omega), fun z => h.mu (by rw [hm]; exact List.mem_cons_of_mem _ z)⟩, fun _ _ _ h => h⟩
  refine ⟨ιx (ιu ι ι1.mu) S.length D, ?_, ?_, ?_⟩
  · rw [hn]; exact ⟨mv.trans m2, rfl, pr⟩
  · refine ⟨fun i j hi hj q => ?_, fun i q eq => ?_, fun a h => r.mu a h, fun i hi => ?_⟩
    · rw [hn] at hi hj
      by_cases h1 : i = S.length
      · by_cases h2 : j = S.length
        · rw [h1, h2]
        · rw [h1, ιx_at, ιx_lt (by omega)] at q
          exact absurd q.symm (ne j (by omega))
      · by_cases h2 : j = S.length
        · rw [h2, ιx_at, ιx_lt (by omega)] at q
          exact absurd q (ne i (by omega))
        · rw [ιx_lt (by omega), ιx_lt (by omega)] at q
          exact rl.inj i j (by omega) (by omega) q
    · rw [hn]
      by_cases h1 : i = S.length
      · subst h1
        rw [List.getElem?_append_right (Nat.le_refl _), Nat.sub_self] at eq
        cases eq
        rw [ιx_at]
        exact ho.mv m2 rfl
      · have hi : i < (S ++ [o]).length := (List.getElem?_eq_some_iff.mp eq).1
        rw [hn] at hi
        rw [List.getElem?_append_left (by omega)] at eq
        rw [ιx_lt (by omega)]
        exact (rl.obj i q eq).mv m2 rfl
    · rw [hn] at hi
      by_cases h1 : i = S.length
      · rw [h1, ιx_at]; exact hm1
      · rw [ιx_lt (by omega)]
        exact fun z => rl.mn i (by omega) (by rw [hm]; exact List.mem_cons_of_mem _ z)
  · have z := Rep.loc (K := K) (ι := ιx (ιu ι ι1.mu) S.length D) (n := (S ++ [o]).length) (H := H) (l := S.length) (by rw [hn]; omega)
    rw [ιx_at] at z
    exact z
theorem fin_L : FinOk K E (arL K) finL id := fun acc ι1 n1 H1 ι S H D Q hD hm1 rl mv hm pr ⟨xs, h1, h2⟩ h => by
  obtain ⟨e, r, m, ne⟩ := out_fz hD hm1 rl mv hm pr
  exact h _ H e r _ (.lst ⟨.inl h1, ne, hm1⟩ (h2.mv m))
theorem fin_LM : FinOk K E (arL K) finLM id := fun acc ι1 n1 H1 ι S H D Q hD hm1 rl mv hm pr ⟨xs, h1, h2⟩ h => by
  obtain ⟨ι', e, r, z⟩ := out_loc (o := .lst acc) hD hm1 rl mv hm pr ⟨xs, h1, h2⟩
  exact h _ H e r _ z
theorem fin_Kd : FinOk K E (arK K) finKd id := fun acc ι1 n1 H1 ι S H D Q hD hm1 rl mv hm pr ⟨xs, h1, h2, h3⟩ h => by
  obtain ⟨e, r, m, ne⟩ := out_fz hD hm1 rl mv hm pr
  exact h _ H e r _ (.dct ⟨.inl h1, ne, hm1⟩ h2 (h3.mv m))
theorem fin_KdM : FinOk K E (arK K) finKdM id := fun acc ι1 n1 H1 ι S H D Q hD hm1 rl mv hm pr ⟨xs, h1, h2, h3⟩ h => by
  obtain ⟨ι', e, r, z⟩ := out_loc (o := .dct acc.1 acc.2) hD hm1 rl mv hm pr ⟨xs, h1, h2, h3⟩
  exact h _ H e r _ z
theorem fin_T : FinOk K E (arT K) finT id := fun acc ι1 n1 H1 ι S H D Q hD hm1 rl mv hm pr ⟨xs, h1, h2, h3⟩ h => by
  obtain ⟨e, r, m, ne⟩ := out_fz hD hm1 rl mv hm pr
  exact h _ H e r _ (.dcT ⟨.inl h1, ne, hm1⟩ h2 (h3.mv m))
theorem fin_TM : FinOk K E (arT K) finTM id := fun acc ι1 n1 H1 ι S H D Q hD hm1 rl mv hm pr ⟨xs, h1, h2, h3⟩ h => by
  obtain ⟨ι', e, r, z⟩ := out_loc (o := .dcT acc.1 acc.2) hD hm1 rl mv hm pr ⟨xs, h1, h2, h3⟩
  exact h _ H e r _ z
end
/-! ### sorted of a set of texts -/
def leT (a b : Str) : Bool := !ltCps b.cps.toList a.cps.toList
def srtT (ks : List Str) : List Str := ks.mergeSort leT
def finS : List Str → Sto → Res W := fun acc S => if acc.length ≤ sizeLine then .ok (.lst ((srtT acc).map W.str)) S else .stuck
end Mm
namespace Mm
open PySem PySem.Spec PyProof.Rows L2 Gc
theorem leT_eq {a b : Str} : leT a b = decide (a.cps.toList ≤ b.cps.toList) := by
  unfold leT
  rw [ltCps_eq]
  rw [← decide_not]
  exact decide_eq_decide.mpr Iff.rfl
theorem leT_trans {a b c : Str} (h1 : leT a b = true) (h2 : leT b c = true) : leT a c = true := by
  rw [leT_eq, decide_eq_true_eq] at *
  exact List.le_trans h1 h2
theorem leT_total (a b : Str) : (leT a b || leT b a) = true := by
  rw [leT_eq, leT_eq, Bool.or_eq_true, decide_eq_true_eq, decide_eq_true_eq]
  exact List.le_total _ _
theorem leT_anti {a b : Str} (h1 : leT a b = true) (h2 : leT b a = true) : a = b := by
  rw [leT_eq, decide_eq_true_eq] at *
  have h := List.le_antisymm h1 h2
  cases a with
  | mk x => cases b with
    | mk y => exact congrArg Str.mk (Array.toList_inj.mp h)
theorem rising_pair : ∀ {l : List Str} {p : Str}, risingS p l = true → (p :: l).Pairwise fun a b => leT a b = true
  | [], p, _ => List.pairwise_singleton _ _
  | x :: l, p, h => by
    have h' : (!ltCps x.cps.toList p.cps.toList && risingS x l) = true := h
    obtain ⟨h1, h2⟩ := Bool.and_eq_true_iff.mp h'
    have ih := rising_pair h2
    refine List.pairwise_cons.mpr ⟨fun y hy => ?_, ih⟩
    rcases List.mem_cons.mp hy with e | e
    · exact e ▸ h1
    · exact leT_trans h1 ((List.pairwise_cons.mp ih).1 y e)
theorem sorted_pair {l : List Str} (h : sortedS l = true) : l.Pairwise fun a b => leT a b = true := by
  cases l with
  | nil => exact .nil
  | cons x l => exact rising_pair h
theorem srtT_one {ys ks : List Str} (hp : ys.Perm ks) (hs : sortedS ys = true) : ys = srtT ks := by
  refine (hp.trans (List.mergeSort_perm ks leT).symm).eq_of_pairwise (fun a b _ _ h1 h2 => leT_anti h1 h2) (sorted_pair hs) ?_
  exact List.pairwise_mergeSort (le := leT) (fun a b c h1 h2 => leT_trans h1 h2) (fun a b => leT_total a b) ks
theorem reps_strs {K : PySem.W.Frag} {ι : Im} {n : Nat} {H : Hp} : ∀ (ns : List Str), Reps K ι n H (ns.map W.str) (ns.map V.str)
  | [] => .nil
  | x :: ns => .cons (.str x) (reps_strs ns)
theorem fin_S {K : PySem.W.Frag} {E : XK} {w : World} : FinOk K E (arS w) finS fun Q x H => rSortT w [x] H Q := fun acc ι1 n1 H1 ι S H D Q hD hm1 rl mv hm pr h1 h => by
  unfold finS at h
  by_cases z : acc.length ≤ sizeLine
  · rw [if_pos z] at h
    obtain ⟨e, r, m, ne⟩ := out_fz hD hm1 rl mv hm pr
    refine ⟨D, acc, rfl, h1, fun ys p hp hs np => ?_⟩
    rw [srtT_one hp hs]
    refine h _ _ (e.trans (Ext.new r np)) (r.new np) _ (.lst (Fz.new r np) (reps_strs _))
  · rw [if_neg z] at h; exact h.elim
/-! ### the judgements -/
def CC (X : Cx) (E : XK) (ex : Expr) (scope : Scope) (pos' : Pos) (new : Sem Value) (iter : Expr) (τ : VK → VK) (c : MV) : Prop := ∃ tt', CoreFor X ex scope pos' new iter tt' ∧ ∀ σ H Q, tOf X.K E c σ H Q → tt' σ H (τ Q)
section
variable {X : Cx} {E : XK} {ex elt kx vx tg iter tg1 iter1 : Expr} {ifs ifs1 : List Expr} {scope : Scope} {own : List (Str × Nat)} {vs1 : List Nat} {pos pos' : Pos} {new : Sem Value} {c : MV} {ci ci1 : MW (List W)} {g g1 : MG} {t t1 : MW Bool} {e k : MV}
theorem ce_cc (h : CC X E ex scope pos' new iter id c) (hex : eval ex X.env = comprehension ex scope X.env pos' new false (eval iter X.env) := by rfl) : CE X E ex c := by
  obtain ⟨tt', co, hs⟩ := h
  exact PE.weak (pe_by hex co) hs
theorem cs_cc {i : Nat} {y : Str} {py spos : Pos} (hN : X.N.Nodup) (h : CC X E ex scope pos' new iter id c) (hy : X.N[i]? = some y := by rfl) (hyl : X.env.scope.names.lookup y = some .local := by rfl) (hsw : swapsWith ex (some (.Name y py)) spos.line X.env = pure true := by rfl)
    (hex : ∀ u, evalThenUse ex X.env u = (do let _ ← comprehension ex scope X.env pos' new false (eval iter X.env) (some u)) := by intro _; rfl) : CS X E (.Assign [.Name y py] ex spos) (mSet i c) := by
  obtain ⟨tt', co, hs⟩ := h
  refine PS.weak (ps_by hN hy hyl hsw hex co) fun D σ H ⟨ρ, ι, S, re, rl, h⟩ => hs σ H _ ⟨ρ, ι, S, re, rl, (Post.bind h).mono fun w S1 ι1 H1 e1 rl1 h1 v rv => h1 ι1 H1 Ext.refl rl1 _ ((re.mono e1).set rv i)⟩
abbrev InB (X : Cx) (scope : Scope) (P : Cx → Prop) : Prop := ∀ (s : Shared) (H : Hp) (C : Addr) (cl : List (Str × Addr)) (fp : List Addr), P (X.blk s H scope (compEnvC scope cl C X.env) fp)
theorem cc_l1 {fin : List W → Sto → Res W} (hf : FinOk X.K E (arL X.K) fin id) (hc : X.calm = true) (hN : X.N.Nodup) (ok : BlkOk X.N X.env.scope scope own) (hi : CI X E tg iter ci) (hg : InB X scope fun Y => CGw Y E0 (own.map (·.2)) tg g) (ht : InB X scope fun Y => PTs Y ifs (tOfB X.K E0 t)) (he : InB X scope fun Y => CE Y E0 elt e)
    (hs : ∀ x, foldedSetIterable iter X.env x = pure x := by intro _; rfl) : CC X E (.ListComp elt [⟨tg, iter, ifs, 0⟩] scope pos) scope (firstIterPos [⟨tg, iter, ifs, 0⟩] pos) (newList []) iter id (mG (own.map (·.2)) ci g t (mpL e) [] fin) :=
  ⟨_, core_lc1 hc hN hi ok hg ht he hs, fun σ H Q h => sim_g arL_mv sp_L (fun ι n H D => ⟨[], upd_same, .nil⟩) (fun _ => trivial) hf h⟩
theorem cc_l2 {fin : List W → Sto → Res W} (hf : FinOk X.K E (arL X.K) fin id) (hc : X.calm = true) (hN : X.N.Nodup) (ok : BlkOk X.N X.env.scope scope own) (hv : ∀ i ∈ vs1, i ∈ own.map (·.2)) (hi : CI X E tg iter ci) (hg : InB X scope fun Y => CGw Y E0 (own.map (·.2)) tg g) (ht : InB X scope fun Y => PTs Y ifs (tOfB X.K E0 t))
    (hi1 : InB X scope fun Y => CI Y E0 tg1 iter1 ci1) (hg1 : InB X scope fun Y => CGw Y E0 vs1 tg1 g1) (ht1 : InB X scope fun Y => PTs Y ifs1 (tOfB X.K E0 t1)) (he : InB X scope fun Y => CE Y E0 elt e)
    (hs : ∀ x, foldedSetIterable iter X.env x = pure x := by intro _; rfl) (hs1 : ∀ env x, foldedSetIterable iter1 env x = pure x := by intro _ _; rfl) : CC X E (.ListComp elt [⟨tg, iter, ifs, 0⟩, ⟨tg1, iter1, ifs1, 0⟩] scope pos) scope (firstIterPos [⟨tg, iter, ifs, 0⟩, ⟨tg1, iter1, ifs1, 0⟩] pos) (newList []) iter id (mG (own.map (·.2)) ci g t (mIn vs1 ci1 g1 t1 (mpL e)) [] fin) :=
  ⟨_, core_lc2 hc hN hi ok hv hg ht hi1 hg1 ht1 he hs hs1, fun σ H Q h => sim_g (tp := tIn _ _ _ _ _) arL_mv (sim_gin arL_mv sp_L) (fun ι n H D => ⟨[], upd_same, .nil⟩) (fun _ => trivial) hf h⟩
theorem cc_k1 {fin : List Key × List W → Sto → Res W} (hf : FinOk X.K E (arK X.K) fin id) (hu : X.A.units < cLine) (hc : X.calm = true) (hN : X.N.Nodup) (ok : BlkOk X.N X.env.scope scope own) (hi : CI X E tg iter ci) (hg : InB X scope fun Y => CGw Y E0 (own.map (·.2)) tg g) (ht : InB X scope fun Y => PTs Y ifs (tOfB X.K E0 t)) (hk : InB X scope fun Y => CE Y E0 kx k) (he : InB X scope fun Y => CE Y E0 vx e)
    (hs : ∀ x, foldedSetIterable iter X.env x = pure x := by intro _; rfl) : CC X E (.DictComp kx vx [⟨tg, iter, ifs, 0⟩] scope pos) scope (firstIterPos [⟨tg, iter, ifs, 0⟩] pos) newDict iter id (mG (own.map (·.2)) ci g t (mpK k e) ([], []) fin) :=
  ⟨_, core_dc1 (A0 := .dK []) (.inl rfl) hu hc hN hi ok hg ht hk he hs, fun σ H Q h => sim_g arK_mv sp_K (fun ι n H D => ⟨[], upd_same, rfl, .nil⟩) (fun _ => trivial) hf h⟩
theorem cc_t1 {fin : List (List Key) × List W → Sto → Res W} (hf : FinOk X.K E (arT X.K) fin id) (hu : X.A.units < cLine) (hc : X.calm = true) (hN : X.N.Nodup) (ok : BlkOk X.N X.env.scope scope own) (hi : CI X E tg iter ci) (hg : InB X scope fun Y => CGw Y E0 (own.map (·.2)) tg g) (ht : InB X scope fun Y => PTs Y ifs (tOfB X.K E0 t)) (hk : InB X scope fun Y => CE Y E0 kx k) (he : InB X scope fun Y => CE Y E0 vx e)
    (hs : ∀ x, foldedSetIterable iter X.env x = pure x := by intro _; rfl) : CC X E (.DictComp kx vx [⟨tg, iter, ifs, 0⟩] scope pos) scope (firstIterPos [⟨tg, iter, ifs, 0⟩] pos) newDict iter id (mG (own.map (·.2)) ci g t (mpT k e) ([], []) fin) :=
  ⟨_, core_dc1 (A0 := .dT []) (.inr rfl) hu hc hN hi ok hg ht hk he hs, fun σ H Q h => sim_g arT_mv sp_T (fun ι n H D => ⟨[], upd_same, rfl, .nil⟩) (fun _ => trivial) hf h⟩
theorem cc_t2 {fin : List (List Key) × List W → Sto → Res W} (hf : FinOk X.K E (arT X.K) fin id) (hu : X.A.units < cLine) (hc : X.calm = true) (hN : X.N.Nodup) (ok : BlkOk X.N X.env.scope scope own) (hv : ∀ i ∈ vs1, i ∈ own.map (·.2)) (hi : CI X E tg iter ci) (hg : InB X scope fun Y => CGw Y E0 (own.map (·.2)) tg g) (ht : InB X scope fun Y => PTs Y ifs (tOfB X.K E0 t))
    (hi1 : InB X scope fun Y => CI Y E0 tg1 iter1 ci1) (hg1 : InB X scope fun Y => CGw Y E0 vs1 tg1 g1) (ht1 : InB X scope fun Y => PTs Y ifs1 (tOfB X.K E0 t1)) (hk : InB X scope fun Y => CE Y E0 kx k) (he : InB X scope fun Y => CE Y E0 vx e)
    (hs : ∀ x, foldedSetIterable iter X.env x = pure x := by intro _; rfl) (hs1 : ∀ env x, foldedSetIterable iter1 env x = pure x := by intro _ _; rfl) : CC X E (.DictComp kx vx [⟨tg, iter, ifs, 0⟩, ⟨tg1, iter1, ifs1, 0⟩] scope pos) scope (firstIterPos [⟨tg, iter, ifs, 0⟩, ⟨tg1, iter1, ifs1, 0⟩] pos) newDict iter id (mG (own.map (·.2)) ci g t (mIn vs1 ci1 g1 t1 (mpT k e)) ([], []) fin) :=
  ⟨_, core_dc2 (A0 := .dT []) (.inr rfl) hu hc hN hi ok hv hg ht hi1 hg1 ht1 hk he hs hs1, fun σ H Q h => sim_g (tp := tIn _ _ _ _ _) arT_mv (sim_gin arT_mv sp_T) (fun ι n H D => ⟨[], upd_same, rfl, .nil⟩) (fun _ => trivial) hf h⟩
theorem cc_s1 (hc : X.calm = true) (hN : X.N.Nodup) (ok : BlkOk X.N X.env.scope scope own) (hi : CI X E tg iter ci) (hg : InB X scope fun Y => CGw Y E0 (own.map (·.2)) tg g) (ht : InB X scope fun Y => PTs Y ifs (tOfB X.K E0 t)) (he : InB X scope fun Y => CE Y E0 elt e)
    (hs : ∀ x, foldedSetIterable iter X.env x = pure x := by intro _; rfl) : CC X E (.SetComp elt [⟨tg, iter, ifs, 0⟩] scope pos) scope (firstIterPos [⟨tg, iter, ifs, 0⟩] pos) (newSet (.type "set")) iter (fun Q x H => rSortT X.w [x] H Q) (mG (own.map (·.2)) ci g t (mpS e) [] finS) :=
  ⟨_, core_sc1 hc hN hi ok hg ht he hs, fun σ H Q h => sim_g arS_mv sp_S (fun ι n H D => upd_same) (fun _ => trivial) fin_S h⟩
theorem cc_s2 (hc : X.calm = true) (hN : X.N.Nodup) (ok : BlkOk X.N X.env.scope scope own) (hv : ∀ i ∈ vs1, i ∈ own.map (·.2)) (hi : CI X E tg iter ci) (hg : InB X scope fun Y => CGw Y E0 (own.map (·.2)) tg g) (ht : InB X scope fun Y => PTs Y ifs (tOfB X.K E0 t))
    (hi1 : InB X scope fun Y => CI Y E0 tg1 iter1 ci1) (hg1 : InB X scope fun Y => CGw Y E0 vs1 tg1 g1) (ht1 : InB X scope fun Y => PTs Y ifs1 (tOfB X.K E0 t1)) (he : InB X scope fun Y => CE Y E0 elt e)
    (hs : ∀ x, foldedSetIterable iter X.env x = pure x := by intro _; rfl) (hs1 : ∀ env x, foldedSetIterable iter1 env x = pure x := by intro _ _; rfl) : CC X E (.SetComp elt [⟨tg, iter, ifs, 0⟩, ⟨tg1, iter1, ifs1, 0⟩] scope pos) scope (firstIterPos [⟨tg, iter, ifs, 0⟩, ⟨tg1, iter1, ifs1, 0⟩] pos) (newSet (.type "set")) iter (fun Q x H => rSortT X.w [x] H Q) (mG (own.map (·.2)) ci g t (mIn vs1 ci1 g1 t1 (mpS e)) [] finS) :=
  ⟨_, core_sc2 hc hN hi ok hv hg ht hi1 hg1 ht1 he hs hs1, fun σ H Q h => sim_g (tp := tIn _ _ _ _ _) arS_mv (sim_gin arS_mv sp_S) (fun ι n H D => upd_same) (fun _ => trivial) fin_S h⟩
/-- sorted(set comprehension) -/
theorem ce_sorted {p pos2 : Pos} (hc : X.calm = true) (h : CC X E ex scope pos' new iter (fun Q x H => rSortT X.w [x] H Q) c) (hg : Gl X "sorted") (hm : X.mg "sorted" = none) (hv : bootBuiltins "sorted" = some (.builtin "sorted"))
    (hex : eval ex X.env = comprehension ex scope X.env pos' new false (eval iter X.env) := by rfl) (hh : starEach [ex] X.env = (false, eval ex X.env) :: starEach [] X.env := by rfl) : CE X E (.Call (.Name "sorted" p) [ex] [] pos2) c := by
  obtain ⟨tt', co, hs⟩ := h
  refine PE.weak (pe_callB (cr_sortT hc) hg hm hv (pa_cons (pe_by hex co) pa_nil hh) (by decide) (by decide) hh (by rfl)) fun σ H Q h => hs σ H _ h
end
end Mm

/-! The mirror layer: one of two rules, by what the things are; == and != at any depth. -/
namespace Mm
open PySem PySem.Spec PyProof.Rows L2
/-! ### the first that is not stuck -/
def rDis {α : Type} (r r' : Res α) : Res α := match r with
  | .stuck => r'
  | r => r
def mDis {α : Type} (c c' : MW α) : MW α := fun ρ S => rDis (c ρ S) (c' ρ S)
def fDis (f f' : W → W → Sto → Res W) : W → W → Sto → Res W := fun x y S => rDis (f x y S) (f' x y S)
def f1Dis (f f' : W → Sto → Res W) : W → Sto → Res W := fun x S => rDis (f x S) (f' x S)
def cDis (f f' : MF) : MF := fun x S => rDis (f x S) (f' x S)
theorem rDis_or {α : Type} (r r' : Res α) : rDis r r' = r ∨ rDis r r' = r' := by cases r <;> first | exact .inl rfl | exact .inr rfl
section
variable {X : Cx} {E : XK} {e : Expr} {K : PySem.W.Frag}
theorem ce_dis {c c' d : MV} (h : CE X E e c) (h' : CE X E e c') (hd : ∀ ρ S, d ρ S = c ρ S ∨ d ρ S = c' ρ S) : CE X E e d :=
  PE.weak (pe_or2 h h') fun σ H Q ⟨ρ, ι, S, re, rl, q⟩ => (hd ρ S).elim (fun z => .inl ⟨ρ, ι, S, re, rl, by rw [← z]; exact q⟩) fun z => .inr ⟨ρ, ι, S, re, rl, by rw [← z]; exact q⟩
theorem op_dis {f f' : W → W → Sto → Res W} {a b : MV} (ρ : Env) (S : Sto) : mOp (fDis f f') a b ρ S = mOp f a b ρ S ∨ mOp (fDis f f') a b ρ S = mOp f' a b ρ S := by
  unfold mOp mBind
  cases a ρ S with
  | ok x S1 =>
    simp only
    cases b ρ S1 with
    | ok y S2 => exact rDis_or _ _
    | _ => exact .inl rfl
  | _ => exact .inl rfl
theorem ce_opD {f f' : W → W → Sto → Res W} {a b : MV} (h : CE X E e (mOp f a b)) (h' : CE X E e (mOp f' a b)) : CE X E e (mOp (fDis f f') a b) := ce_dis h h' fun ρ S => op_dis ρ S
theorem cb_dis {f f' : MF} {t : MW (List W)} (ρ : Env) (S : Sto) : mCB (cDis f f') t ρ S = mCB f t ρ S ∨ mCB (cDis f f') t ρ S = mCB f' t ρ S := by
  unfold mCB mBind
  cases t ρ S with
  | ok x S1 => exact rDis_or _ _
  | _ => exact .inl rfl
theorem ce_cbD {f f' : MF} {t : MW (List W)} (h : CE X E e (mCB f t)) (h' : CE X E e (mCB f' t)) : CE X E e (mCB (cDis f f') t) := ce_dis h h' fun ρ S => cb_dis ρ S
theorem pt_or2 {X : Cx} {e : Expr} {t t' : TT} (h : PT X e t) (h' : PT X e t') : PT X e (fun σ H Q => t σ H Q ∨ t' σ H Q) := ⟨fun pins s σ H Q I q => q.elim (fun q => h.run pins s σ H Q I q) fun q => h'.run pins s σ H Q I q⟩
theorem ct_dis {c c' d : MW Bool} (h : CT X E e c) (h' : CT X E e c') (hd : ∀ ρ S, d ρ S = c ρ S ∨ d ρ S = c' ρ S) : CT X E e d :=
  PT.weak (pt_or2 h h') fun σ H Q ⟨ρ, ι, S, re, rl, q⟩ => (hd ρ S).elim (fun z => .inl ⟨ρ, ι, S, re, rl, by rw [← z]; exact q⟩) fun z => .inr ⟨ρ, ι, S, re, rl, by rw [← z]; exact q⟩
theorem ct_opD {f f' : W → W → Sto → Res W} {a b : MV} (h : CT X E e (mTest (mOp f a b))) (h' : CT X E e (mTest (mOp f' a b))) : CT X E e (mTest (mOp (fDis f f') a b)) := ct_dis h h' fun ρ S => by
  unfold mTest mBind
  rcases op_dis (f := f) (f' := f') (a := a) (b := b) ρ S with z | z
  · exact .inl (by rw [z])
  · exact .inr (by rw [z])
theorem PS.or2 {X : Cx} {st : Stmt} {t t' : TS} (h : PS X st t) (h' : PS X st t') : PS X st (fun D σ H => t D σ H ∨ t' D σ H) := ⟨fun pins s σ H D I q => q.elim (fun q => h.run pins s σ H D I q) fun q => h'.run pins s σ H D I q⟩
theorem cs_dis {st : Stmt} {c c' d : MS} (h : CS X E st c) (h' : CS X E st c') (hd : ∀ ρ S, d ρ S = c ρ S ∨ d ρ S = c' ρ S) : CS X E st d :=
  PS.weak (PS.or2 h h') fun D σ H ⟨ρ, ι, S, re, rl, q⟩ => (hd ρ S).elim (fun z => .inl ⟨ρ, ι, S, re, rl, by rw [← z]; exact q⟩) fun z => .inr ⟨ρ, ι, S, re, rl, by rw [← z]; exact q⟩
theorem PG.or2 {X : Cx} {e : Expr} {t t' : TG} (h : PG X e t) (h' : PG X e t') : PG X e (fun v σ H Q => t v σ H Q ∨ t' v σ H Q) := ⟨fun pins s σ H v u Q I r q => q.elim (fun q => h.run pins s σ H v u Q I r q) fun q => h'.run pins s σ H v u Q I r q⟩
theorem cg_dis {g g' d : MG} (h : CG X E e g) (h' : CG X E e g') (hd : ∀ w ρ S, d w ρ S = g w ρ S ∨ d w ρ S = g' w ρ S) : CG X E e d :=
  PG.weak (PG.or2 h h') fun v σ H Q ⟨w, ρ, ι, S, rw', re, rl, q⟩ => (hd w ρ S).elim (fun z => .inl ⟨w, ρ, ι, S, rw', re, rl, by rw [← z]; exact q⟩) fun z => .inr ⟨w, ρ, ι, S, rw', re, rl, by rw [← z]; exact q⟩
def sDis (f f' : W → W → W → Sto → Res Unit) : W → W → W → Sto → Res Unit := fun x y z S => rDis (f x y z S) (f' x y z S)
theorem cg_subD {f f' : W → W → W → Sto → Res Unit} {a b : MV} (h : CG X E e (mgSub f a b)) (h' : CG X E e (mgSub f' a b)) : CG X E e (mgSub (sDis f f') a b) := cg_dis h h' fun w ρ S => by
  unfold mgSub mBind
  cases a ρ S with
  | ok x S1 =>
    simp only
    cases b ρ S1 with
    | ok y S2 =>
      simp only
      rcases rDis_or (f x y w S2) (f' x y w S2) with z | z
      · exact .inl (by unfold sDis; rw [z])
      · exact .inr (by unfold sDis; rw [z])
    | _ => exact .inl rfl
  | _ => exact .inl rfl
def cgDis (g g' : MG) : MG := fun w ρ S => rDis (g w ρ S) (g' w ρ S)
theorem cg_either {g g' : MG} (h : CG X E e g) (h' : CG X E e g') : CG X E e (cgDis g g') := cg_dis h h' fun w ρ S => rDis_or _ _
theorem cgw_either {vs : List Nat} {g g' : MG} (h : CGw X E vs e g) (h' : CGw X E vs e g') : CGw X E vs e (cgDis g g') :=
  PG.weak (PG.or2 h h') fun v σ H Q ⟨w, ρ, ι, S, rw', re, rl, q⟩ => (rDis_or (g w ρ S) (g' w ρ S)).elim (fun z => .inl ⟨w, ρ, ι, S, rw', re, rl, by unfold cgDis at q; rw [← z]; exact q⟩) fun z => .inr ⟨w, ρ, ι, S, rw', re, rl, by unfold cgDis at q; rw [← z]; exact q⟩
theorem ci_either {tg : Expr} {c c' : MW (List W)} (h : CI X E tg e c) (h' : CI X E tg e c') : CI X E tg e (mDis c c') :=
  PI.weak (PI.or h h') fun σ H R ⟨ρ, ι, S, re, rl, q⟩ => (rDis_or (c ρ S) (c' ρ S)).elim (fun z => .inl ⟨ρ, ι, S, re, rl, by unfold mDis at q; rw [← z]; exact q⟩) fun z => .inr ⟨ρ, ι, S, re, rl, by unfold mDis at q; rw [← z]; exact q⟩
end
/-! ### equality of data -/
mutual
def pyD (S : Sto) : Nat → W → Option PyData
  | _, .non => some .none
  | _, .bl b => some (.bool b)
  | _, .int i => some (.int i)
  | _, .str x => if PyData.strOk x = true then some (.str x) else none
  | k + 1, .lst ws => (pyDs S k ws).map .list
  | k + 1, .arr ws => (pyDs S k ws).map .list
  | k + 1, .tup ws => (pyDs S k ws).map .tuple
  | k + 1, .ktp ws => (pyDs S k ws).map .tuple
  | k + 1, .loc l => match S[l]? with
    | some (.lst ws) => (pyDs S k ws).map .list
    | _ => none
  | _, _ => none
def pyDs (S : Sto) : Nat → List W → Option (List PyData)
  | _, [] => some []
  | k, w :: ws => match pyD S k w, pyDs S k ws with
    | some d, some ds => some (d :: ds)
    | _, _ => none
end
def fEqD (x y : W) (S : Sto) : Res W := match pyD S 60 x, pyD S 60 y with
  | some d, some e => .ok (.bl (PyData.eqv d e)) S
  | _, _ => .stuck
def fNeD (x y : W) (S : Sto) : Res W := match pyD S 60 x, pyD S 60 y with
  | some d, some e => .ok (.bl (!PyData.eqv d e)) S
  | _, _ => .stuck
section
variable {K : PySem.W.Frag} {ι : Im} {S : Sto} {H : Hp} {E : XK}
theorem optMap2 {α β : Type} {o : Option α} {f : α → β} {b : β} (h : o.map f = some b) : ∃ a, o = some a ∧ f a = b := Option.map_eq_some_iff.mp h
mutual
theorem pyD_ok (rl : Rl K ι S H) : ∀ {k : Nat} {w : W} {v : V} {d : PyData}, pyD S k w = some d → Rep K ι S.length H w v → Dp K H v d
  | k, w, v, d, e, r => by
    cases r with
    | non => unfold pyD at e; cases e; exact .non
    | bl b => unfold pyD at e; cases e; exact .bl b
    | int i => unfold pyD at e; cases e; exact .int i
    | str x =>
      unfold pyD at e
      split at e
      · cases e; exact .str x
      · cases e
    | ty x => cases k <;> (unfold pyD at e; cases e)
    | glo x => cases k <;> (unfold pyD at e; cases e)
    | @lst ws a xs h r =>
      cases k with
      | zero => unfold pyD at e; cases e
      | succ k =>
        unfold pyD at e
        obtain ⟨ds, e1, rfl⟩ := optMap2 e
        exact .lst (.inl (.inl h.at_)) (pyDs_ok rl e1 r)
    | @arr ws a xs h r =>
      cases k with
      | zero => unfold pyD at e; cases e
      | succ k =>
        unfold pyD at e
        obtain ⟨ds, e1, rfl⟩ := optMap2 e
        exact .lst h.sq (pyDs_ok rl e1 r)
    | @tup ws a xs h r =>
      cases k with
      | zero => unfold pyD at e; cases e
      | succ k =>
        unfold pyD at e
        obtain ⟨ds, e1, rfl⟩ := optMap2 e
        exact .tup h.sq (pyDs_ok rl e1 r)
    | @ktp ws a xs h r =>
      cases k with
      | zero => unfold pyD at e; cases e
      | succ k =>
        unfold pyD at e
        obtain ⟨ds, e1, rfl⟩ := optMap2 e
        exact .tup (.inr h) (pyDs_ok rl e1 r)
    | @loc l hl =>
      cases k with
      | zero => unfold pyD at e; cases e
      | succ k =>
        unfold pyD at e
        split at e
        · rename_i ws q
          obtain ⟨ds, e1, rfl⟩ := optMap2 e
          obtain ⟨xs, h1, h2⟩ := rl.obj l _ q
          exact .lst (.inl (.inl h1)) (pyDs_ok rl e1 h2)
        · cases e
    | dct h hl r => cases k <;> (unfold pyD at e; cases e)
    | dcT h hl r => cases k <;> (unfold pyD at e; cases e)
    | obj h hl r => cases k <;> (unfold pyD at e; cases e)
    | exn h hd hl r => cases k <;> (unfold pyD at e; cases e)
  termination_by k w => (k, 0, 1)
theorem pyDs_ok (rl : Rl K ι S H) : ∀ {k : Nat} {ws : List W} {vs : List V} {ds : List PyData}, pyDs S k ws = some ds → Reps K ι S.length H ws vs → DpAll K H vs ds
  | k, [], vs, ds, e, r => by
    cases r
    unfold pyDs at e
    cases e
    exact .nil
  | k, w :: ws, vs, ds, e, r => by
    cases r with
    | cons a b =>
      unfold pyDs at e
      split at e
      · rename_i d ds' e1 e2
        cases e
        exact .cons (pyD_ok rl e1 a) (pyDs_ok rl e2 b)
      · cases e
  termination_by k ws => (k, ws.length + 1, 0)
end
mutual
theorem pyD_shape : ∀ {k : Nat} {w : W} {d : PyData}, pyD S k w = some d → d.canLay0 = true ∧ d.depth ≤ k
  | k, w, d, e => by
    have seq : ∀ {k : Nat} {ws : List W}, (pyDs S k ws).map PyData.list = some d ∨ (pyDs S k ws).map PyData.tuple = some d → (∀ {ds}, pyDs S k ws = some ds → PyData.canLayAll0 ds = true ∧ PyData.depthAll ds ≤ k) → d.canLay0 = true ∧ d.depth ≤ k + 1 := by
      rintro k ws (z | z) ih
      · obtain ⟨ds, e1, rfl⟩ := optMap2 z
        have := ih e1
        exact ⟨this.1, by unfold PyData.depth; omega⟩
      · obtain ⟨ds, e1, rfl⟩ := optMap2 z
        have := ih e1
        exact ⟨this.1, by unfold PyData.depth; omega⟩
    cases w with
    | non => unfold pyD at e; cases e; exact ⟨rfl, Nat.zero_le _⟩
    | bl b => unfold pyD at e; cases e; exact ⟨rfl, Nat.zero_le _⟩
    | int i => unfold pyD at e; cases e; exact ⟨rfl, Nat.zero_le _⟩
    | str x =>
      unfold pyD at e
      split at e
      · rename_i h; cases e; exact ⟨h, Nat.zero_le _⟩
      · cases e
    | lst ws =>
      cases k with
      | zero => unfold pyD at e; cases e
      | succ k => unfold pyD at e; exact seq (.inl e) pyDs_shape
    | arr ws =>
      cases k with
      | zero => unfold pyD at e; cases e
      | succ k => unfold pyD at e; exact seq (.inl e) pyDs_shape
    | tup ws =>
      cases k with
      | zero => unfold pyD at e; cases e
      | succ k => unfold pyD at e; exact seq (.inr e) pyDs_shape
    | ktp ws =>
      cases k with
      | zero => unfold pyD at e; cases e
      | succ k => unfold pyD at e; exact seq (.inr e) pyDs_shape
    | loc l =>
      cases k with
      | zero => unfold pyD at e; cases e
      | succ k =>
        unfold pyD at e
        split at e
        · exact seq (.inl e) pyDs_shape
        · cases e
    | ty x => cases k <;> (unfold pyD at e; cases e)
    | glo x => cases k <;> (unfold pyD at e; cases e)
    | dct a b => cases k <;> (unfold pyD at e; cases e)
    | dcT a b => cases k <;> (unfold pyD at e; cases e)
    | obj a b c => cases k <;> (unfold pyD at e; cases e)
    | exn a b c => cases k <;> (unfold pyD at e; cases e)
  termination_by k w => (k, 0, 1)
theorem pyDs_shape : ∀ {k : Nat} {ws : List W} {ds : List PyData}, pyDs S k ws = some ds → PyData.canLayAll0 ds = true ∧ PyData.depthAll ds ≤ k
  | k, [], ds, e => by
    unfold pyDs at e
    cases e
    exact ⟨rfl, Nat.zero_le _⟩
  | k, w :: ws, ds, e => by
    unfold pyDs at e
    split at e
    · rename_i d ds' e1 e2
      cases e
      have a := pyD_shape e1
      have b := pyDs_shape e2
      exact ⟨Bool.and_eq_true_iff.mpr ⟨a.1, b.1⟩, Nat.max_le.mpr ⟨a.2, b.2⟩⟩
    · cases e
  termination_by k ws => (k, ws.length + 1, 0)
end
theorem shaped_of {k : Nat} {w : W} {d : PyData} (e : pyD S k w = some d) (h : k ≤ 60) : SeqAt.shaped d = true := by
  have z := pyD_shape e
  exact Bool.and_eq_true_iff.mpr ⟨z.1, decide_eq_true (by omega)⟩
theorem sim_eqD : SimR K E (rEqD K) fEqD := by
  intro x y xv yv ι S H Q rl rx ry h
  unfold fEqD at h
  split at h
  · rename_i d e e1 e2
    exact ⟨d, e, pyD_ok rl e1 rx, pyD_ok rl e2 ry, shaped_of e1 (Nat.le_refl _), shaped_of e2 (Nat.le_refl _), PostV.now h rl (.bl _)⟩
  · exact h.elim
theorem sim_neD : SimR K E (rNeD K) fNeD := by
  intro x y xv yv ι S H Q rl rx ry h
  unfold fNeD at h
  split at h
  · rename_i d e e1 e2
    exact ⟨d, e, pyD_ok rl e1 rx, pyD_ok rl e2 ry, shaped_of e1 (Nat.le_refl _), shaped_of e2 (Nat.le_refl _), PostV.now h rl (.bl _)⟩
  · exact h.elim
end
end Mm

/-! Sorted: a dict whose keys are pairs of numbers; lists of such pairs; texts. -/
namespace Gc
open PySem PySem.Spec PyProof.Rows L2
section
variable {X : Cx}
/-- the keys' tuples of a dict, gathered -/
theorem keys_back {P : Program} {w : World} {es : Array DictEntry} {ks : List (List Key × Addr × Value)} {acc : Array Value} (he : es.toList = ks.map (entryOfKey (tupleKind (mixKind P w)))) (it : ItemsOf (fun i v => ∃ en : DictEntry, es[i]? = some en ∧ v = en.key) acc es.size) :
    acc.toList = ks.map fun x => Value.ref x.2.1 := by
  have len : acc.size = ks.length := it.1.trans (size_of_entries he)
  apply List.ext_getElem (by simp [len])
  intro j h1 h2
  have hj : j < acc.size := by simpa using h1
  have hk : j < ks.length := len ▸ hj
  obtain ⟨en, e1, e2⟩ := it.2 j acc[j] (Array.getElem?_eq_getElem hj)
  have e3 := (entry_at he j).symm.trans e1
  rw [List.getElem?_eq_getElem hk] at e3
  cases e3
  rw [Array.getElem_toList, List.getElem_map]
  exact e2
def pairK (k : List Key) : Option (Int × Int) := match k with
  | [.inl i, .inl j] => some (i, j)
  | _ => none
/-- sorted(d), d with pairs of numbers as keys -/
def rSortDP : List V → Hp → VK → Prop := fun vs H Q => ∃ (a : Addr) (kvs : List (List Key × V)) (ps : List (Int × Int)), vs = [V.ref a] ∧ Rd H a (.dT kvs) ∧ kvs.map (fun kv => pairK kv.1) = ps.map some ∧
  ∀ (bs : List (Addr × Int × Int)) (p : Addr), (bs.map (·.2)).Perm ps → (bs.map (·.2)).Pairwise (fun x y => SrtO.lexB y x = false) → (∀ b ∈ bs, H b.1 = some (.tup [.int b.2.1, .int b.2.2])) → H p = none → Q (.ref p) (upd H p (.lst (bs.map fun b => V.ref b.1)))
def adr : Value → Addr
  | .ref a => a
  | _ => 0
def pairAt (H : Hp) (v : Value) : Int × Int := match H (adr v) with
  | some (.tup [.int i, .int j]) => (i, j)
  | _ => (0, 0)
theorem pairK_of {k : List Key} {p : Int × Int} (h : pairK k = some p) : k = [.inl p.1, .inl p.2] := by
  unfold pairK at h
  split at h
  · cases h; rfl
  · cases h
/-- where each key is a pair of numbers, the keys' tuples are just these -/
theorem pairs_at {H : Hp} {kvs : List (List Key × V)} {ks : List (List Key × Addr × Value)} (pr : KT H kvs ks) : ∀ {ps : List (Int × Int)}, kvs.map (fun kv => pairK kv.1) = ps.map some →
    (∀ x ∈ ks, H x.2.1 = some (.tup [.int (pairAt H (.ref x.2.1)).1, .int (pairAt H (.ref x.2.1)).2])) ∧ (ks.map fun x => pairAt H (.ref x.2.1)) = ps := by
  induction pr with
  | nil =>
    intro ps e
    rw [show ps = [] by simpa using e.symm]
    exact ⟨nofun, rfl⟩
  | @cons kv x kvs ks h t ih =>
    rintro (_ | ⟨p, ps⟩) e
    · cases e
    rw [List.map_cons, List.map_cons] at e
    injection e with e1 e2
    obtain ⟨g1, g2⟩ := ih e2
    have here : H x.2.1 = some (.tup [.int p.1, .int p.2]) := (congrArg (fun k => some (HO.tup (k.map kV))) (pairK_of e1)) ▸ h.2.1
    have is : pairAt H (.ref x.2.1) = p := by simp [pairAt, adr, here]
    refine ⟨fun y hy => ?_, by rw [List.map_cons, is, g2]⟩
    cases hy with
    | head => rw [is]; exact here
    | tail _ hy => exact g1 y hy
theorem refs_of {H : Hp} : ∀ {l : List Value}, (∀ v ∈ l, ∃ c, v = .ref c) → Vals ((l.map fun v => (adr v, pairAt H v)).map fun b => V.ref b.1) l
  | [], _ => .nil
  | v :: l, hl => by
    obtain ⟨c, rfl⟩ := hl v (.head _)
    exact .cons rfl (refs_of fun u hu => hl u (.tail _ hu))
theorem cr_sortDP (hc : X.calm = true) : CallR X (.builtin "sorted") rSortDP := by
  rintro pins s σ H vs us Q I r ⟨d, kvs, ps, rfl, hd, hps, q⟩
  obtain ⟨u, rfl, rx⟩ := r.one
  cases rx
  obtain ⟨few, mods, ks, pr, o, es, ep, ho, hx, hdt, he, -⟩ := (show ObjOk X.prog X.w H s.heap d (.dT kvs) from hd.ok I.hok)
  obtain ⟨at1, at2⟩ := pairs_at pr hps
  have cnt : es.size = kvs.length := (size_of_entries he).trans (Paired.length pr).symm
  apply Calls.call_function_entry kind_sorted plain_sorted entry_sorted (args_sorted1 _)
  rw [Builtin.«sorted»]
  apply wpAny_bind (m := checkCount "sorted" 1 1 _); apply wpAny_pure
  apply wpAny_bind; apply PySem.W.kdu_collect (A := X.A.in1) (kdl_raw mods hx hdt) (I.ok.hd hc) ho (by omega)
  intro h' tk acc kp hacc
  have ea := keys_back he hacc
  replace I : Inv X pins σ H { s with heap := h', toks := tk } := I.kept kp
  have short : acc.toList.length ≤ sizeLine := by
    rw [ea, List.length_map, ← size_of_entries he, cnt]; exact few
  have pair : ∀ v ∈ acc.toList, Srt.IsPair h' v (pairAt H v).1 (pairAt H v).2 := by
    rw [ea]
    intro v hv
    rw [List.mem_map] at hv
    obtain ⟨x, hx, rfl⟩ := hv
    have ⟨_, items, ri, ob, at_, cl, n, dat⟩ := I.hok _ _ (at1 x hx)
    obtain ⟨u1, u2, rfl, ⟨t1, rfl⟩, ⟨t2, rfl⟩⟩ := vals2 ri
    exact ⟨_, ob, t1, t2, n, rfl, at_, cl, dat⟩
  apply wpAny_bind; refine wpAny_newList ?_ short
  generalize hL : h'.push (seqObj "list" acc.toList.toArray 0) = hl
  have L : hl.get? h'.objs.size = some (seqObj "list" acc.toList.toArray 0) := hL ▸ Heap.get?_push_size _ rfl
  have up : ∀ b o, h'.get? b = some o → hl.get? b = some o := fun b o e => hL ▸ Heap.get?_push_of_some _ e
  apply wpAny_bind; apply wpAny_holding
  change wpAny _ _ _ _ _ { s with heap := hl, toks := tk }
  refine wpAny_call_entry slot_list_sort ⟨_, L, rfl⟩ entry_list_sort ?_ (args_list_sort _)
  refine SrtO.list_sort_ord (s := { s with heap := hl, toks := tk }) (ltv := fun v u => SrtO.lexB (pairAt H v) (pairAt H u)) (SrtO.swo_lex (pairAt H)) L short (fun h2 => ?_) fun out ord by_ => ⟨_, rfl, ?_⟩
  · apply SrtO.pairs_sortableO (s := { s with heap := hl, toks := tk }) (by omega)
    · intro v hm
      exact (pair v hm).keeps fun b o e _ => up b o e
    · intro o e cl
      obtain rfl : o = seqObj "list" acc.toList.toArray 0 := Option.some.inj (e.symm.trans L)
      exact absurd (Value.type.inj cl) (by decide)
  have mem : ∀ v ∈ out, ∃ x ∈ ks, v = .ref x.2.1 := fun v hv => by
    have := by_.perm.mem_iff.1 hv
    rw [ea, List.mem_map] at this
    exact this.imp fun x hx => ⟨hx.1, hx.2.symm⟩
  have refs : Vals ((out.map fun v => (adr v, pairAt H v)).map fun b => V.ref b.1) out := refs_of fun v hv => (mem v hv).elim fun x hx => ⟨_, hx.2⟩
  obtain ⟨n, at_⟩ := sortedHeap_at (vs := acc.toList) (out := out.toArray) L
  have lenl : ((out.map fun v => (adr v, pairAt H v)).map fun b => V.ref b.1).length ≤ sizeLine := by
    simpa [by_.perm.length_eq] using short
  apply wpAny_pure
  refine ⟨_, rfl, .ref h'.objs.size, upd H h'.objs.size (.lst ((out.map fun v => (adr v, pairAt H v)).map fun b => V.ref b.1)), I.laid (t' := tk) ?_ (Nat.le_refl _) ⟨lenl, out, n, refs, at_⟩, rfl, q _ _ ?_ ?_ ?_ (I.hok.fresh (Nat.le_refl _))⟩
  · intro b u e
    rw [← hL]
    exact sorted_old e
  · have := by_.perm.map (pairAt H)
    rw [ea, List.map_map] at this
    rw [List.map_map, ← at2]
    exact this
  · rw [List.map_map, List.pairwise_map]
    exact ord
  · intro b hb
    rw [List.mem_map] at hb
    obtain ⟨v, hv, rfl⟩ := hb
    obtain ⟨x, hx, rfl⟩ := mem v hv
    exact at1 x hx
end
end Gc

/-! The mirror layer: sorted, max and min with a default, a, b, c = .., lists unpacked, while, recursion. -/
namespace Mm
open PySem PySem.Spec PyProof.Rows L2 Gc
/-! ### sorted(d) with pairs of numbers as keys -/
def leP (a b : Int × Int) : Bool := decide (a.1 < b.1 ∨ (a.1 = b.1 ∧ a.2 ≤ b.2))
def srtP (ps : List (Int × Int)) : List (Int × Int) := ps.mergeSort leP
theorem leP_lex {x y : Int × Int} (h : SrtO.lexB y x = false) : leP x y = true := by
  have := SrtO.lexB_no.mp h
  unfold leP
  refine decide_eq_true ?_
  omega
theorem srtP_one {ps qs : List (Int × Int)} (h : qs.Perm ps) (s : qs.Pairwise fun x y => SrtO.lexB y x = false) : qs = srtP ps := by
  refine (h.trans (List.mergeSort_perm ps leP).symm).eq_of_pairwise (le := fun a b => leP a b = true) (fun a b _ _ h1 h2 => ?_) (s.imp fun h => leP_lex h) ?_
  · have h1 := of_decide_eq_true h1
    have h2 := of_decide_eq_true h2
    exact Prod.ext (by omega) (by omega)
  · exact List.pairwise_mergeSort (le := leP) (fun a b c h1 h2 => decide_eq_true (by
      have h1 := of_decide_eq_true h1
      have h2 := of_decide_eq_true h2
      omega)) (fun a b => by
      unfold leP
      rw [Bool.or_eq_true, decide_eq_true_eq, decide_eq_true_eq]
      omega) ps
def pairsK : List (List Key) → Option (List (Int × Int))
  | [] => some []
  | k :: ks => match pairK k, pairsK ks with
    | some p, some ps => some (p :: ps)
    | _, _ => none
def pairW (p : Int × Int) : W := .tup [.int p.1, .int p.2]
def fSortDP : MF := fun ws S => match ws with
  | [w] => (match dicO S w with
    | some (.T ks _) => (match pairsK ks with
      | some ps => .ok (.lst ((srtP ps).map pairW)) S
      | none => .stuck)
    | _ => .stuck)
  | _ => .stuck
theorem pairsK_zip : ∀ {ks : List (List Key)} {ps : List (Int × Int)} {xs : List V}, pairsK ks = some ps → ks.length = xs.length → (ks.zip xs).map (fun kv => pairK kv.1) = ps.map some
  | [], ps, xs, h, e => by
    cases h
    rfl
  | k :: ks, ps, [], h, e => by cases e
  | k :: ks, ps, x :: xs, h, e => by
    unfold pairsK at h
    split at h
    · rename_i p ps' h1 h2
      cases h
      rw [List.zip_cons_cons, List.map_cons, List.map_cons, pairsK_zip h2 (by simpa using e), h1]
    · cases h
section
variable {K : PySem.W.Frag} {E : XK}
/-- a tracked tuple is no object of the store -/
theorem fzT_of {ι : Im} {S : Sto} {H : Hp} {a : Addr} {xs : List V} (rl : Rl K ι S H) (h : H a = some (.tup xs)) : FzT K ι S.length H a xs := by
  refine ⟨.inl h, fun l hl e => ?_, fun hm => ?_⟩
  · have z := rl.obj l _ (List.getElem?_eq_getElem hl)
    rw [e] at z
    cases q : S[l] with
    | lst ws => rw [q] at z; obtain ⟨_, z1, _⟩ := z; rw [h] at z1; cases z1
    | dct ks ws => rw [q] at z; obtain ⟨_, z1, _⟩ := z; rw [h] at z1; cases z1
    | dcT ks ws => rw [q] at z; obtain ⟨_, z1, _⟩ := z; rw [h] at z1; cases z1
    | ins C fs ws => rw [q] at z; obtain ⟨_, _, z1, _⟩ := z; rw [h] at z1; cases z1
    | dctL ks ws => rw [q] at z; obtain ⟨_, _, z1, _⟩ := z; rw [h] at z1; cases z1
    | dcTL ks ws => rw [q] at z; obtain ⟨_, _, z1, _⟩ := z; rw [h] at z1; cases z1
  · obtain ⟨o, z, nt⟩ := rl.mu a hm
    rw [h] at z
    cases z
    exact nt
theorem sim_sortDP : SimC K E rSortDP fSortDP := by
  intro xs xv ι S H Q rl r h
  cases r with
  | nil => exact h.elim
  | cons a r =>
    cases r with
    | cons _ _ => exact h.elim
    | nil =>
      unfold fSortDP at h
      simp only at h
      split at h
      · rename_i ks ws q
        split at h
        · rename_i ps qp
          obtain ⟨d, rfl, xs, h1, h2, h3⟩ := dic_ok rl q a
          refine ⟨d, _, ps, rfl, h1.rd, pairsK_zip qp (h2.trans h3.length), fun bs p hp hs hb np => ?_⟩
          have es := srtP_one hp hs
          have hr : Reps K ι S.length H ((srtP ps).map pairW) (bs.map fun b => V.ref b.1) := by
            rw [← es, List.map_map]
            clear es hp hs
            induction bs with
            | nil => exact .nil
            | cons b bs ih =>
              refine .cons ?_ (ih fun c hc => hb c (List.mem_cons_of_mem _ hc))
              exact .tup (fzT_of rl (hb b List.mem_cons_self)) (.cons (.int _) (.cons (.int _) .nil))
          exact PostV.newL h rl hr p np
        · exact h.elim
      · exact h.elim
/-! ### sorted(xs), xs of things that can be compared -/
def rSortData (K : PySem.W.Frag) : List V → Hp → VK → Prop := fun vs H Q => ∃ (a : Addr) (bs : List (V × PyData)), vs = [V.ref a] ∧ SqL K H a (bs.map (·.1)) ∧ (∀ b ∈ bs, Dp K H b.1 b.2 ∧ b.2.depth ≤ 60) ∧ PySem.W.AllAlike (bs.map (·.2)) ∧ PySem.W.Sortable (bs.map (·.2)) ∧
  ∀ p, H p = none → Q (.ref p) (upd H p (.lst ((bs.mergeSort (PySem.W.dataLe false (·.2))).map (·.1))))
theorem cr_sortData {X : Cx} (hu : X.A.units + 64 < cLine) : CallR X (.builtin "sorted") (rSortData X.K) := by
  intro pins s σ H vs us Q I r h
  obtain ⟨a, bs, rfl, hs, hd, hal, hk, q⟩ := h
  obtain ⟨its, rv, hl, hz⟩ := I.list hs
  rw [Vals.ref1 r]
  have hlen : its.length = bs.length := by rw [← rv.length, List.length_map]
  have e1 : ∀ {bs : List (V × PyData)} {its : List Value}, Vals (bs.map (·.1)) its → (∀ b ∈ bs, Dp X.K H b.1 b.2 ∧ b.2.depth ≤ 60) → PySem.W.EachIs (fun v (b : V × PyData) => RelV b.1 v) its bs ∧ PySem.W.EachIs (fun v (b : V × PyData) => ∃ as, Reads s.heap v b.2 as) its bs := by
    intro bs
    induction bs with
    | nil => intro its r _; cases r; exact ⟨.nil, .nil⟩
    | cons b bs ih =>
      intro its r hd
      cases r with
      | cons r1 r2 =>
        obtain ⟨i1, i2⟩ := ih r2 fun c hc => hd c (List.mem_cons_of_mem _ hc)
        exact ⟨.cons r1 i1, .cons (Dp.reads I _ _ _ (hd b List.mem_cons_self).1 r1) i2⟩
  obtain ⟨e1, e2⟩ := e1 rv hd
  have back : ∀ {out : List Value} {cs : List (V × PyData)}, PySem.W.EachIs (fun v (b : V × PyData) => RelV b.1 v) out cs → Vals (cs.map (·.1)) out := by
    intro out cs h
    induction h with
    | nil => exact .nil
    | cons h1 _ ih => exact .cons h1 ih
  refine PySem.W.sorted_data (enc := fun b : V × PyData => b.2) hl.isList e1 e2 hal hk (by rw [← hlen, ← rv.length]; exact hz) (fun b hb => by have := (hd b hb).2; omega) fun out ho he => ?_
  obtain ⟨ep, hat⟩ := sortedAll_at s.heap its out.toArray
  refine ⟨.ref _, upd H (s.heap.objs.size + 1) (.lst ((bs.mergeSort (PySem.W.dataLe false (·.2))).map (·.1))), I.laid (t' := s.toks) (fun _ _ => sortedAll_old) (Nat.le_succ _) ⟨?_, out, ep, back he, hat⟩, rfl, q _ (I.hok.fresh (Nat.le_succ _))⟩
  rw [List.length_map, List.length_mergeSort, ← hlen, ← rv.length]
  exact hz
def sortableB (ds : List PyData) : Bool := ds.all (fun d => match d with | .tuple (_ :: _) => true | _ => false) || ds.all fun d => match d with | .none => false | .tuple _ => false | _ => true
def alikeB (ds : List PyData) : Bool := ds.all fun d => ds.all fun e => PySem.W.alike d e
theorem sortable_of {ds : List PyData} (h : sortableB ds = true) : PySem.W.Sortable ds := by
  rcases Bool.or_eq_true_iff.mp h with h | h
  · refine .inl fun d hd => ?_
    have z := List.all_eq_true.mp h d hd
    split at z
    · exact ⟨_, _, rfl⟩
    · cases z
  · refine .inr fun d hd => ?_
    have z := List.all_eq_true.mp h d hd
    split at z
    · cases z
    · cases z
    · rename_i n1 n2; exact ⟨n1, fun xs e => n2 xs e⟩
theorem alike_of {ds : List PyData} (h : alikeB ds = true) : PySem.W.AllAlike ds := fun d hd e he => List.all_eq_true.mp (List.all_eq_true.mp h d hd) e he
def srtW (ws : List W) (ds : List PyData) : List W := ((ws.zip ds).mergeSort (PySem.W.dataLe false (·.2))).map (·.1)
def fSorted : MF := fun ws S => match ws with
  | [w] => (match seqL S w with
    | some ys => (match pyDs S 60 ys with
      | some ds => if alikeB ds = true ∧ sortableB ds = true then .ok (.lst (srtW ys ds)) S else .stuck
      | none => .stuck)
    | none => .stuck)
  | _ => .stuck
theorem merge_rel {α β : Type} {R : α → β → Prop} {le : α → α → Bool} {le' : β → β → Bool} (hle : ∀ a b a' b', R a b → R a' b' → le a a' = le' b b') : ∀ {xs : List α} {ys : List β}, PySem.W.EachIs R xs ys → PySem.W.EachIs R (xs.mergeSort le) (ys.mergeSort le') := by
  intro xs ys h
  -- both by the same list of pairs
  have key : ∃ zs : List (α × β), zs.map (·.1) = xs ∧ zs.map (·.2) = ys ∧ ∀ z ∈ zs, R z.1 z.2 := by
    induction h with
    | nil => exact ⟨[], rfl, rfl, fun z hz => (nomatch hz)⟩
    | @cons a b as bs h1 _ ih =>
      obtain ⟨zs, e1, e2, e3⟩ := ih
      refine ⟨(a, b) :: zs, by rw [List.map_cons, e1], by rw [List.map_cons, e2], fun z hz => ?_⟩
      rcases List.mem_cons.mp hz with rfl | hz
      · exact h1
      · exact e3 z hz
  obtain ⟨zs, rfl, rfl, hz⟩ := key
  have m1 := List.map_mergeSort (r := fun z z' : α × β => le z.1 z'.1) (s := le) (f := fun z : α × β => z.1) (l := zs) (fun a _ b _ => rfl)
  have m2 := List.map_mergeSort (r := fun z z' : α × β => le z.1 z'.1) (s := le') (f := fun z : α × β => z.2) (l := zs) (fun a ha b hb => hle _ _ _ _ (hz a ha) (hz b hb))
  rw [← m1, ← m2]
  have hm : ∀ z ∈ zs.mergeSort (fun z z' : α × β => le z.1 z'.1), R z.1 z.2 := fun z h => hz z (List.mem_mergeSort.mp h)
  clear m1 m2 hz
  generalize zs.mergeSort (fun z z' : α × β => le z.1 z'.1) = us at hm
  induction us with
  | nil => exact .nil
  | cons z zs ih => exact .cons (hm z List.mem_cons_self) (ih fun u hu => hm u (List.mem_cons_of_mem _ hu))
theorem sim_sorted : SimC K E (rSortData K) fSorted := by
  intro xs xv ι S H Q rl r h
  cases r with
  | nil => exact h.elim
  | cons a r =>
    cases r with
    | cons _ _ => exact h.elim
    | nil =>
      unfold fSorted at h
      simp only at h
      split at h
      · rename_i ys q
        split at h
        · rename_i ds qd
          by_cases hc : alikeB ds = true ∧ sortableB ds = true
          · rw [if_pos hc] at h
            obtain ⟨p, vs, rfl, h2, h3⟩ := seqL_ok rl q a
            -- things, their values and their data
            have key : ∀ {ys : List W} {vs : List V} {ds : List PyData}, pyDs S 60 ys = some ds → Reps K ι S.length H ys vs → ∃ bs : List (V × PyData), bs.map (·.1) = vs ∧ bs.map (·.2) = ds ∧ (∀ b ∈ bs, Dp K H b.1 b.2 ∧ b.2.depth ≤ 60) ∧ PySem.W.EachIs (fun (z : W × PyData) (b : V × PyData) => z.2 = b.2 ∧ Rep K ι S.length H z.1 b.1) (ys.zip ds) bs := by
              intro ys
              induction ys with
              | nil =>
                intro vs ds e r
                cases r
                unfold pyDs at e
                cases e
                exact ⟨[], rfl, rfl, fun b hb => (nomatch hb), .nil⟩
              | cons y ys ih =>
                intro vs ds e r
                cases r with
                | @cons _ v _ vs r1 r2 =>
                  unfold pyDs at e
                  split at e
                  · rename_i d ds' e1 e2
                    cases e
                    obtain ⟨bs, b1, b2, b3, b4⟩ := ih e2 r2
                    refine ⟨(v, d) :: bs, by rw [List.map_cons, b1], by rw [List.map_cons, b2], fun b hb => ?_, .cons ⟨rfl, r1⟩ b4⟩
                    rcases List.mem_cons.mp hb with rfl | hb
                    · exact ⟨pyD_ok rl e1 r1, (pyD_shape e1).2⟩
                    · exact b3 b hb
                  · cases e
            obtain ⟨bs, b1, b2, b3, b4⟩ := key qd h3
            refine ⟨p, bs, rfl, by rw [b1]; exact h2, b3, by rw [b2]; exact alike_of hc.1, by rw [b2]; exact sortable_of hc.2, ?_⟩
            refine PostV.newL h rl ?_
            have b5 := merge_rel (le := PySem.W.dataLe false fun z : W × PyData => z.2) (le' := PySem.W.dataLe false fun z : V × PyData => z.2) (fun a b a' b' h1 h2 => by
              show PySem.W.dataLe false (fun d : PyData => d) a.2 a'.2 = PySem.W.dataLe false (fun d : PyData => d) b.2 b'.2
              rw [h1.1, h2.1]) b4
            unfold srtW
            generalize (ys.zip ds).mergeSort (PySem.W.dataLe false fun z : W × PyData => z.2) = us at b5
            generalize bs.mergeSort (PySem.W.dataLe false fun z : V × PyData => z.2) = cs at b5
            induction b5 with
            | nil => exact .nil
            | cons h1 _ ih => exact .cons h1.2 ih
          · rw [if_neg hc] at h; exact h.elim
        · exact h.elim
      · exact h.elim
end
end Mm
namespace Mm
open PySem PySem.Spec PyProof.Rows L2 Gc
/-! ### max(xs, default=d), min(..) of numbers -/
def maxL : List Int → Option Int
  | [] => none
  | x :: xs => some (xs.foldl (fun a y => if a < y then y else a) x)
def minL : List Int → Option Int
  | [] => none
  | x :: xs => some (xs.foldl (fun a y => if y < a then y else a) x)
def rMaxD (K : PySem.W.Frag) : List V → List V → Hp → VK → Prop := fun vs zs H Q => ∃ (a : Addr) (ns : List Int) (d : V), vs = [V.ref a] ∧ zs = [d] ∧ SqL K H a (ns.map V.int) ∧ Q (((maxL ns).map V.int).getD d) H
def rMinD (K : PySem.W.Frag) : List V → List V → Hp → VK → Prop := fun vs zs H Q => ∃ (a : Addr) (ns : List Int) (d : V), vs = [V.ref a] ∧ zs = [d] ∧ SqL K H a (ns.map V.int) ∧ Q (((minL ns).map V.int).getD d) H
theorem holdAll_ints {h : Heap} : ∀ {us : List Value} {ns : List Int}, IntsAre us ns → PySem.W.HoldAll h us ns
  | _, _, .nil => ⟨_, .nil⟩
  | _, _, .cons n t r => by
    obtain ⟨as, z⟩ := holdAll_ints (h := h) r
    exact ⟨_, .cons (Reads.int n t) z⟩
theorem holds_int {h : Heap} {v : Value} {i : Int} (H : PySem.W.Holds h v i) : ∃ t, v = .int i t := by
  obtain ⟨as, z⟩ := H
  cases z
  exact ⟨_, rfl⟩
section
variable {X : Cx}
theorem cr_maxD (hc : X.calm = true) (hu : X.A.units + 64 < cLine) : CallRK X (.builtin "max") ["default"] (rMaxD X.K) := by
  intro pins s σ H xs zs us ws Q I r1 r2 h
  obtain ⟨a, ns, d, rfl, rfl, hs, q⟩ := h
  obtain ⟨its, rv, hl, _⟩ := I.list hs
  obtain ⟨u, rfl, ru⟩ := vals1 r2
  rw [Vals.ref1 r1]
  refine PySem.W.max_list_datum_default (α := Int) (I.ok.hd hc) hl.isList (holdAll_ints rv.ints) (by show X.A.units + 1 + 0 < cLine; omega) (fun e h' tk hk => ?_) fun y ys i v h' tk e hi hv hk => ?_
  · subst e
    exact ⟨d, H, I.kept hk, ru, q⟩
  · subst e
    obtain ⟨t, rfl⟩ := holds_int hv
    refine ⟨.int _, H, I.kept hk, ⟨t, rfl⟩, ?_⟩
    have e2 : maxL (y :: ys) = some (PySem.W.maxOf y ys) := by
      show some _ = some _
      congr 1
      unfold PySem.W.maxOf
      congr 1
      funext a b
      show _ = if decide (a < b) = true then b else a
      by_cases z : a < b
      · rw [if_pos z, if_pos (decide_eq_true z)]
      · rw [if_neg z, if_neg (by rw [decide_eq_true_eq]; exact z)]
    rw [e2] at q
    exact q
theorem cr_minD (hc : X.calm = true) (hu : X.A.units + 64 < cLine) : CallRK X (.builtin "min") ["default"] (rMinD X.K) := by
  intro pins s σ H xs zs us ws Q I r1 r2 h
  obtain ⟨a, ns, d, rfl, rfl, hs, q⟩ := h
  obtain ⟨its, rv, hl, _⟩ := I.list hs
  obtain ⟨u, rfl, ru⟩ := vals1 r2
  rw [Vals.ref1 r1]
  refine PySem.W.min_list_datum_default (α := Int) (I.ok.hd hc) hl.isList (holdAll_ints rv.ints) (by show X.A.units + 1 + 0 < cLine; omega) (fun e h' tk hk => ?_) fun y ys i v h' tk e hi hv hk => ?_
  · subst e
    exact ⟨d, H, I.kept hk, ru, q⟩
  · subst e
    obtain ⟨t, rfl⟩ := holds_int hv
    refine ⟨.int _, H, I.kept hk, ⟨t, rfl⟩, ?_⟩
    have e2 : minL (y :: ys) = some (PySem.W.minOf y ys) := by
      show some _ = some _
      congr 1
      unfold PySem.W.minOf
      congr 1
      funext a b
      show _ = if decide (b < a) = true then b else a
      by_cases z : b < a
      · rw [if_pos z, if_pos (decide_eq_true z)]
      · rw [if_neg z, if_neg (by rw [decide_eq_true_eq]; exact z)]
    rw [e2] at q
    exact q
end
abbrev CK (X : Cx) (E : XK) (kws : List Keyword) (c : MW (List W)) : Prop := PK X kws (tOfA X.K E c)
theorem PK.weak {X : Cx} {kws : List Keyword} {t t' : TA} (h : PK X kws t) (k : ∀ σ H Q, t' σ H Q → t σ H Q) : PK X kws t' := ⟨fun pos pins s σ H Q I q => h.run pos pins s σ H Q I (k σ H Q q)⟩
def SimK (K : PySem.W.Frag) (E : XK) (r : List V → List V → Hp → VK → Prop) (f : List W → List W → Sto → Res W) : Prop := ∀ (xs zs : List W) (xv zv : List V) (ι : Im) (S : Sto) (H : Hp) (Q : VK), Rl K ι S H → Reps K ι S.length H xs xv → Reps K ι S.length H zs zv → PostV K E (f xs zs S) ι S.length H Q → r xv zv H Q
def mCBK (f : List W → List W → Sto → Res W) (t k : MW (List W)) : MV := mBind t fun ws => mBind k fun zs => fun _ S => f ws zs S
section
variable {X : Cx} {E : XK} {e : Expr} {es : List Expr} {c : MV} {t tk : MW (List W)} {kws : List Keyword} {nm : Option Str} {kpos : Pos}
theorem ck_nil : CK X E [] mNil := PK.weak pk_nil fun σ H Q ⟨ρ, ι, S, re, rl, h⟩ => h ι H Ext.refl rl [] .nil
theorem ck_cons (ha : CE X E e c) (hr : CK X E kws t) : CK X E (⟨nm, e, kpos⟩ :: kws) (mCons c t) :=
  PK.weak (pk_cons ha hr) fun σ H Q ⟨ρ, ι, S, re, rl, h⟩ => ⟨ρ, ι, S, re, rl, (Post.bind h).mono fun w S1 ι1 H1 e1 rl1 h1 v rv =>
    ⟨ρ, ι1, S1, re.mono e1, rl1, (Post.bind h1).mono fun ws S2 ι2 H2 e2 rl2 h2 vs rvs => h2 ι2 H2 Ext.refl rl2 (v :: vs) (.cons (rv.mono e2) rvs)⟩⟩
theorem ce_callBK {id : String} {ks : List Str} {r : List V → List V → Hp → VK → Prop} {f : List W → List W → Sto → Res W} {x : Str} {p pos : Pos} (hc : CallRK X (.builtin id) ks r) (hf : SimK X.K E r f) (hg : Gl X x) (hm : X.mg x = none) (hv : bootBuiltins x = some (.builtin id)) (ha : CA X E (e :: es) t) (hk : CK X E kws tk) (hn : x ≠ "__name__" := by decide) (hdb : (x == ("__debug__" : Str)) = false := by decide)
    (he : backTo pos (starEach (e :: es) X.env) = (false, eval e X.env) :: backTo pos (starEach es X.env) := by rfl) (hpl : (backTo pos (starEach (e :: es) X.env)).any (·.1) = false := by rfl)
    (hall : (backToKw pos (keywordEach kws X.env)).all (·.1.isSome) = true := by rfl) (hnone : (backToKw pos (keywordEach kws X.env)).any (·.1.isNone) = false := by rfl) (hks : (backToKw pos (keywordEach kws X.env)).filterMap (·.1) = ks := by rfl) : CE X E (.Call (.Name x p) (e :: es) kws pos) (mCBK f t tk) :=
  PE.weak (pe_callBK hc hg hm hv ha hk hn hdb he hpl hall hnone hks) fun σ H Q ⟨ρ, ι, S, re, rl, h⟩ => ⟨ρ, ι, S, re, rl, (Post.bind h).mono fun ws S1 ι1 H1 e1 rl1 h1 vs rvs =>
    ⟨ρ, ι1, S1, re.mono e1, rl1, (Post.bind h1).mono fun zs S2 ι2 H2 e2 rl2 h2 us rus => hf ws zs vs us ι2 S2 H2 Q rl2 (rvs.mono e2) rus h2⟩⟩
end
def fMaxD : List W → List W → Sto → Res W := fun ws zs S => match ws, zs with
  | [w], [d] => (match seqL S w with
    | some ys => (match intsW ys with
      | some ns => .ok (((maxL ns).map W.int).getD d) S
      | none => .stuck)
    | none => .stuck)
  | _, _ => .stuck
def fMinD : List W → List W → Sto → Res W := fun ws zs S => match ws, zs with
  | [w], [d] => (match seqL S w with
    | some ys => (match intsW ys with
      | some ns => .ok (((minL ns).map W.int).getD d) S
      | none => .stuck)
    | none => .stuck)
  | _, _ => .stuck
section
variable {K : PySem.W.Frag} {E : XK}
theorem sim_maxD : SimK K E (rMaxD K) fMaxD := by
  intro xs zs xv zv ι S H Q rl r1 r2 h
  unfold fMaxD at h
  split at h
  · rename_i w d
    split at h
    · rename_i ys q
      split at h
      · rename_i ns q2
        cases r1 with
        | cons a r1 =>
          cases r1
          cases r2 with
          | cons b r2 =>
            cases r2
            obtain ⟨p, vs, rfl, h2, h3⟩ := seqL_ok rl q a
            rw [intsW_ok q2 h3] at h2
            refine ⟨p, ns, _, rfl, rfl, h2, PostV.now h rl ?_⟩
            cases maxL ns with
            | none => exact b
            | some m => exact .int m
      · exact h.elim
    · exact h.elim
  · exact h.elim
theorem sim_minD : SimK K E (rMinD K) fMinD := by
  intro xs zs xv zv ι S H Q rl r1 r2 h
  unfold fMinD at h
  split at h
  · rename_i w d
    split at h
    · rename_i ys q
      split at h
      · rename_i ns q2
        cases r1 with
        | cons a r1 =>
          cases r1
          cases r2 with
          | cons b r2 =>
            cases r2
            obtain ⟨p, vs, rfl, h2, h3⟩ := seqL_ok rl q a
            rw [intsW_ok q2 h3] at h2
            refine ⟨p, ns, _, rfl, rfl, h2, PostV.now h rl ?_⟩
            cases minL ns with
            | none => exact b
            | some m => exact .int m
      · exact h.elim
    · exact h.elim
  · exact h.elim
end
/-! ### a, b, c = x, y, z; (a, b) = a list; xs[::-1] of a list -/
def mPar3 (i j l : Nat) (t : MW (List W)) : MS := mBind t fun ws => match ws with
  | [u, v, w] => fun ρ S => .ok (.next, ((ρ.set i (some u)).set j (some v)).set l (some w)) S
  | _ => fun _ _ => .stuck
def mgUnl (n : Nat) (gs : MGs) : MG := fun w => fun ρ S => match seqL S w with
  | some ws => if ws.length = n then gs ws ρ S else .stuck
  | none => .stuck
def mRevL (c : MV) : MV := mBind c fun w => fun _ S => match seqL S w with
  | some ws => .ok (.lst ws.reverse) S
  | none => .stuck
section
variable {X : Cx} {E : XK} {e : Expr} {c : MV} {pos : Pos}
theorem cs_par3 {i j l : Nat} {x y z : Str} {a b d : Expr} {ta : MW (List W)} {px py pz pt : Pos} {kt k2 : Nat} {pt2 : Pos} (hc : X.calm = true) (hN : X.N.Nodup) (ha : CA X E [a, b, d] ta) (hi : X.N[i]? = some x := by rfl) (hj : X.N[j]? = some y := by rfl) (hl : X.N[l]? = some z := by rfl) (hij : i ≠ j := by decide) (hil : i ≠ l := by decide) (hjl : j ≠ l := by decide)
    (hx : X.env.scope.names.lookup x = some .local := by rfl) (hy : X.env.scope.names.lookup y = some .local := by rfl) (hz : X.env.scope.names.lookup z = some .local := by rfl)
    (hw : swappedStores [.Tuple [.Name x px, .Name y py, .Name z pz] kt pt] (.Tuple [a, b, d] k2 pt2) X.env = pure (some [x, y, z]) := by rfl)
    (hs : swapsWithSole [.Tuple [.Name x px, .Name y py, .Name z pz] kt pt] (.Tuple [a, b, d] k2 pt2) pos.line X.env = pure false := by rfl) :
    CS X E (.Assign [.Tuple [.Name x px, .Name y py, .Name z pz] kt pt] (.Tuple [a, b, d] k2 pt2) pos) (mPar3 i j l ta) :=
  PS.weak (ps_par3 hc hN hi hj hl hij hil hjl hx hy hz ha hw hs) fun D σ H ⟨ρ, ι, S, re, rl, h⟩ => ⟨ρ, ι, S, re, rl, (Post.bind h).mono fun ws S1 ι1 H1 e1 rl1 h1 vs rvs => by
    cases rvs with
    | nil => exact h1.elim
    | @cons w1 v1 ws1 vs1 a1 b1 =>
      cases b1 with
      | nil => exact h1.elim
      | @cons w2 v2 ws2 vs2 a2 b2 =>
        cases b2 with
        | nil => exact h1.elim
        | @cons w3 v3 ws3 vs3 a3 b3 =>
          cases b3 with
          | nil => exact ⟨v1, v2, v3, rfl, h1 ι1 H1 Ext.refl rl1 _ ((((re.mono e1).set a1 i).set a2 j).set a3 l)⟩
          | cons _ _ => exact h1.elim⟩
theorem cg_unl {es : List Expr} {k : Nat} {gs : MGs} {m : Nat} (hc : X.calm = true) (h : CGs X E es gs) (hn : (assignEach es X.env).length = m := by rfl) (hst : (assignEach es X.env).findIdx? (·.1) = none := by rfl) : CG X E (.Tuple es k pos) (mgUnl m gs) :=
  PG.weak (pg_unl hc h hn hst) fun v σ H Q ⟨w, ρ, ι, S, rw', re, rl, h⟩ => by
    unfold mgUnl at h
    split at h
    · rename_i ws q
      by_cases z : ws.length = m
      · rw [if_pos z] at h
        obtain ⟨a, xs, rfl, h1, h2⟩ := seqL_ok rl q rw'
        exact ⟨a, xs, rfl, h1, by rw [← h2.length]; exact z, ws, ρ, ι, S, h2, re, rl, h⟩
      · rw [if_neg z] at h; exact h.elim
    · exact h.elim
theorem cgw_unl {vs : List Nat} {es : List Expr} {k : Nat} {gs : MGs} {m : Nat} (hc : X.calm = true) (h : CGsw X E vs es gs) (hn : (assignEach es X.env).length = m := by rfl) (hst : (assignEach es X.env).findIdx? (·.1) = none := by rfl) : CGw X E vs (.Tuple es k pos) (mgUnl m gs) :=
  PG.weak (pg_unl hc h hn hst) fun v σ H Q ⟨w, ρ, ι, S, rw', re, rl, h⟩ => by
    unfold mgUnl at h
    split at h
    · rename_i ws q
      by_cases z : ws.length = m
      · rw [if_pos z] at h
        obtain ⟨a, xs, rfl, h1, h2⟩ := seqL_ok rl q rw'
        exact ⟨a, xs, rfl, h1, by rw [← h2.length]; exact z, ws, ρ, ι, S, h2, re, rl, h⟩
      · rw [if_neg z] at h; exact h.elim
    · exact h.elim
theorem ce_revL {k : Nat} {p1 p2 p3 : Pos} (he : CE X E e c) : CE X E (.Subscript e (.Slice none none (some (.UnaryOp .USub (.Constant (.int 1) k p1) p2)) p3) pos) (mRevL c) :=
  PE.weak (pe_revL he) fun σ H Q ⟨ρ, ι, S, re, rl, h⟩ => ⟨ρ, ι, S, re, rl, (Post.bind h).mono fun w S1 ι1 H1 e1 rl1 h1 v rv => by
    split at h1
    · rename_i ws q
      obtain ⟨a, xs, rfl, h2, h3⟩ := seqL_ok rl1 q rv
      exact ⟨a, xs, rfl, h2, PostV.newL h1 rl1 h3.reverse⟩
    · exact h1.elim⟩
/-! ### while -/
def mWhile (t : MW Bool) (b : MS) : Nat → MS
  | 0 => fun _ _ => .stuck
  | n + 1 => fun ρ S => match t ρ S with
    | .stuck => .stuck
    | .err x S' => .err x S'
    | .ok false S' => .ok (.next, ρ) S'
    | .ok true S' => (match b ρ S' with
      | .stuck => .stuck
      | .err x S2 => .err x S2
      | .ok (.next, ρ') S2 => mWhile t b n ρ' S2
      | .ok (.cont, ρ') S2 => mWhile t b n ρ' S2
      | .ok (.brk, ρ') S2 => .ok (.next, ρ') S2
      | .ok (.ret w, ρ') S2 => .ok (.ret w, ρ') S2)
theorem cs_while {n : Nat} {x : Expr} {body : List Stmt} {t : MW Bool} {b : MS} (hp : PassesOwn (model X.prog X.w) X.A X.env X.xe) (hc : CT X E x t) (hb : CSs X E body b) : CS X E (.While x body [] pos) (mWhile t b n) :=
  PS.weak (ps_while hp hc hb) fun D σ H ⟨ρ, ι, S, re, rl, h⟩ => by
    refine ⟨fun m σ H => ∃ ρ ι S, RE X.K ι S.length H ρ σ ∧ Rl X.K ι S H ∧ Post X.K E (mWhile t b m ρ S) ι S.length H (flowOk X.K D), ⟨n, ρ, ι, S, re, rl, h⟩, ?_⟩
    rintro m σ1 H1 ⟨ρ1, ι1, S1, re1, rl1, h1⟩
    refine ⟨ρ1, ι1, S1, re1, rl1, ?_⟩
    cases m with
    | zero => exact h1.elim
    | succ m =>
      unfold mWhile at h1
      cases q : t ρ1 S1 with
      | stuck => rw [q] at h1; exact h1
      | err y S' => rw [q] at h1; exact h1
      | ok k S2 =>
        rw [q] at h1
        intro ι2 H2 e2 rl2
        cases k with
        | false =>
          rw [if_neg Bool.false_ne_true]
          exact h1 ι2 H2 e2 rl2 σ1 (re1.mono e2)
        | true =>
          rw [if_pos rfl]
          simp only at h1
          refine ⟨fun σ' H' => ∃ ρ ι S, RE X.K ι S.length H' ρ σ' ∧ Rl X.K ι S H' ∧ Post X.K E (mWhile t b m ρ S) ι S.length H' (flowOk X.K D), fun σ' H' z => ⟨m, Nat.lt_succ_self m, z⟩, ρ1, ι2, S2, re1.mono e2, rl2, ?_⟩
          cases q2 : b ρ1 S2 with
          | stuck => rw [q2] at h1; exact h1
          | err y S' => rw [q2] at h1; exact Post.from (r := Res.err y S') h1 e2
          | ok p S3 =>
            rw [q2] at h1
            obtain ⟨f, ρ3⟩ := p
            cases f with
            | next => exact fun ι3 H3 e3 rl3 σ3 re3 => ⟨ρ3, ι3, S3, re3, rl3, Post.from h1 (e2.trans e3)⟩
            | cont => exact fun ι3 H3 e3 rl3 σ3 re3 => ⟨ρ3, ι3, S3, re3, rl3, Post.from h1 (e2.trans e3)⟩
            | brk => exact fun ι3 H3 e3 rl3 σ3 re3 => h1 ι3 H3 (e2.trans e3) rl3 σ3 re3
            | ret w => exact fun ι3 H3 e3 rl3 σ3 re3 => h1 ι3 H3 (e2.trans e3) rl3 σ3 re3
end
end Mm

/-! The mirror layer: defs of classes; small rules for the printer. -/
namespace Mm
open PySem PySem.Spec PyProof.Rows L2 Gc
/-- a class's own statements -/
def clsOf (s : Stmt) : List Stmt := match s with
  | .ClassDef _ _ _ b _ _ _ _ _ _ _ => b
  | _ => []
section
variable {P : Program} {w : World} {K : PySem.W.Frag} {mg : Str → Option Value} {base : Heap} {x qual : Str} {params : Arguments} {body : List Stmt} {scope : Scope} {dvs : List V} {kws : List (Str × V)} {f : Addr} {fd : FuncData} {N ps : List Str} {k : Nat} {c : MS}
/-- all arguments are told, the defaults stay unused -/
theorem binds_all (F : FunD K x qual params body scope dvs kws f fd) (j : Nat) (hj : dvs.length = j ∧ 0 < j)
    (h : ∀ (T : Addr) (kV doc pm : Value) (an : Option Addr) (cdv ct : Value) (us its : List Value), us.length = ps.length → its.length = j → ∃ k, bindArgs (PySem.W.fnOf x qual params body scope (.ref T) kV doc pm an cdv ct) ⟨us, []⟩ = seqItems? (.ref T) >>= k ∧ k (some its.toArray) = pure (ps.zip us)) : Binds K fd ps [] := by
  obtain ⟨ds, h1, h2⟩ := FunD.binds1 (ps := ps) F ps.length j (by intro z; rw [z] at hj; exact absurd hj.2 (by rw [← hj.1]; decide)) (by rw [hj.1]; omega) fun T kV doc pm an cdv ct us its l1 l2 => by
    obtain ⟨k, e1, e2⟩ := h T kV doc pm an cdv ct us its l1 (l2.trans hj.1)
    refine ⟨k, e1, ?_⟩
    rw [e2, ← hj.1, ← l2, List.drop_length, List.append_nil]
  rw [← hj.1, List.drop_length] at h1
  cases h1
  exact h2
theorem fma_of (F : FunD K x qual params body scope dvs kws f fd) (S : FnScope N ps scope) (bd : Binds K fd ps [])
    (hbody : ∀ (cdv : Value) (A : Around) (outer : List PySem.Env) (s : Shared) (H : Hp) (E : XK), Room k (A.deeper (envOfC qual scope s.heap.objs.size f cdv)) → CSs (cxOf CX0 P w K mg base N qual scope f cdv A outer s H E).nox E0 body c) : FMa P w K mg base (k + 1) f ps.length (mDef N.length c) [] := by
  refine ⟨fd, ps, [], [], rfl, ?_, bd, .nil, fun _ _ _ => .nil⟩
  refine F.ok S (fun vs H Q E h => h.1) fun cdv A outer s H vs Q E hr h => ?_
  obtain ⟨hl, ws, ι, S, r, rl, h⟩ := h
  exact ⟨_, PSs.nox (hbody cdv A outer s H E hr), sim_def r rl h⟩
theorem fma_ofK (F : FunD K x qual params body scope dvs kws f fd) (S : FnScope N ps scope) (bd : Binds K fd ps [])
    (hbody : ∀ (cdv : Value) (A : Around) (outer : List PySem.Env) (s : Shared) (H : Hp) (E : XK), Room k (A.deeper (envOfC qual scope s.heap.objs.size f cdv)) → CSs (cxOf CX0 P w K mg base N qual scope f cdv A outer s H E).nox E0 body c) : FMa P w K mg base (k + 1) f ps.length (mDefK N.length c) [] := by
  refine ⟨fd, ps, [], [], rfl, ?_, bd, .nil, fun _ _ _ => .nil⟩
  refine F.ok S (fun vs H Q E h => h.1) fun cdv A outer s H vs Q E hr h => ?_
  obtain ⟨hl, ws, ι, S, r, rl, h⟩ := h
  exact ⟨_, PSs.nox (hbody cdv A outer s H E hr), sim_defK r rl h⟩
theorem FMa.mono {j n : Nat} {m : MF} {ds : List W} (F : FMa P w K mg base j f n m ds) (h : j ≤ k) : FMa P w K mg base k f n m ds := by
  obtain ⟨fd, ps, vs, us, h1, ok, h2⟩ := F
  exact ⟨fd, ps, vs, us, h1, ok.mono h, h2⟩
end
section
variable {X : Cx} {E : XK} {e i o : Expr} {c c' ci co : MV} {pos : Pos}
theorem ce_mDis (h : CE X E e c) (h' : CE X E e c') : CE X E e (mDis c c') := ce_dis h h' fun ρ S => rDis_or _ _
theorem ct_din (hu : X.A.units + 1 < cLine) (hi : CE X E i ci) (ho : CE X E o co) (hm : behindInMarks .In o = false := by rfl) : CT X E (.Compare i [.In] [o] pos) (mTest (mOp fDIn ci co)) :=
  PT.weak (pt_cmp (pc_din hu hi ho) hm) (sim_test fun σ H Q ⟨ρ, ι, S, re, rl, h⟩ => ⟨ρ, ι, S, re, rl, (Post.bind h).mono fun k S1 ι1 H1 e1 rl1 h1 kv rk => ⟨ρ, ι1, S1, re.mono e1, rl1, (Post.bind h1).mono fun d S2 ι2 H2 e2 rl2 h2 dv rd => by
    unfold fDIn at h2
    cases q : dGet S2 d k with
    | none => rw [q] at h2; exact h2.elim
    | some oo =>
      rw [q] at h2
      obtain ⟨a, o', rfl, hg, hp⟩ := dGet_ok rl2 q rd (rk.mono e2)
      refine ⟨a, o', rfl, hg, ?_⟩
      have e3 : o'.isSome = oo.isSome := by
        cases oo <;> cases o' <;> first | rfl | exact hp.elim
      rw [e3]
      exact PostV.now h2 rl2 (.bl _)⟩⟩)
theorem ct_dnotin (hu : X.A.units + 1 < cLine) (hi : CE X E i ci) (ho : CE X E o co) (hm : behindInMarks .NotIn o = false := by rfl) : CT X E (.Compare i [.NotIn] [o] pos) (mTest (mOp fDNotIn ci co)) :=
  PT.weak (pt_cmp (pc_dnotin hu hi ho) hm) (sim_test fun σ H Q ⟨ρ, ι, S, re, rl, h⟩ => ⟨ρ, ι, S, re, rl, (Post.bind h).mono fun k S1 ι1 H1 e1 rl1 h1 kv rk => ⟨ρ, ι1, S1, re.mono e1, rl1, (Post.bind h1).mono fun d S2 ι2 H2 e2 rl2 h2 dv rd => by
    unfold fDNotIn at h2
    cases q : dGet S2 d k with
    | none => rw [q] at h2; exact h2.elim
    | some oo =>
      rw [q] at h2
      obtain ⟨a, o', rfl, hg, hp⟩ := dGet_ok rl2 q rd (rk.mono e2)
      refine ⟨a, o', rfl, hg, ?_⟩
      have e3 : o'.isSome = oo.isSome := by
        cases oo <;> cases o' <;> first | rfl | exact hp.elim
      rw [e3]
      exact PostV.now h2 rl2 (.bl _)⟩⟩)
end
end Mm

/-! The mirror layer: walks over a list of the store, item by item as it stands. -/
namespace Mm
open PySem PySem.Spec PyProof.Rows L2 Gc
/-- more turns than any walk takes -/
def whFuel : Nat := 1000000
theorem cs_either {X : Cx} {E : XK} {st : Stmt} {c c' : MS} (h : CS X E st c) (h' : CS X E st c') : CS X E st (mDis c c') := cs_dis h h' fun ρ S => rDis_or _ _
/-- the item at a place of a list of the store -/
def atL (S : Sto) (l i : Nat) : Option (Option W) := match S[l]? with
  | some (.lst us) => some us[i]?
  | _ => none
def mLoopL (g : MG) (b : MS) (l : Nat) : Nat → Nat → MS
  | 0, _ => fun _ _ => .stuck
  | n + 1, i => fun ρ S => match atL S l i with
    | none => .stuck
    | some none => .ok (.next, ρ) S
    | some (some w) => (match mThen (g w) b ρ S with
      | .stuck => .stuck
      | .err x S' => .err x S'
      | .ok (.next, ρ') S' => mLoopL g b l n (i + 1) ρ' S'
      | .ok (.cont, ρ') S' => mLoopL g b l n (i + 1) ρ' S'
      | .ok (.brk, ρ') S' => .ok (.next, ρ') S'
      | .ok (.ret w, ρ') S' => .ok (.ret w, ρ') S')
def mForL (n : Nat) (c : MV) (g : MG) (b : MS) : MS := mBind c fun w => match w with
  | .loc l => mLoopL g b l n 0
  | _ => fun _ _ => .stuck
def gLoopL {α : Type} (g : MG) (t : MW Bool) (mp : α → MW α) (ρ : Env) (l : Nat) : Nat → Nat → α → Sto → Res α
  | 0, _, _, _ => .stuck
  | n + 1, i, acc, S => match atL S l i with
    | none => .stuck
    | some none => .ok acc S
    | some (some w) => (match mThen (g w) (mBind t fun b => if b = true then mp acc else fun _ S => .ok acc S) ρ S with
      | .ok acc' S' => gLoopL g t mp ρ l n (i + 1) acc' S'
      | _ => .stuck)
def mInL {α : Type} (n : Nat) (vs : List Nat) (c : MV) (g : MG) (t : MW Bool) (mp : α → MW α) : α → MW α := fun acc => mBind c fun w => fun ρ S => match w with
  | .loc l => gLoopL g t mp (wipeE ρ vs) l n 0 acc S
  | _ => .stuck
def mGL {α : Type} (n : Nat) (vs : List Nat) (c : MV) (g : MG) (t : MW Bool) (mp : α → MW α) (a0 : α) (fin : α → Sto → Res W) : MV := mBind (mInL n vs c g t mp a0) fun acc => fun _ S => fin acc S
section
variable {K : PySem.W.Frag} {ι : Im} {S : Sto} {H : Hp}
def okAt (K : PySem.W.Frag) (ι : Im) (n : Nat) (H : Hp) (xs : List V) (i : Nat) : Option W → Prop
  | some w => ∃ v, xs[i]? = some v ∧ Rep K ι n H w v
  | none => xs.length ≤ i
theorem atL_ok (rl : Rl K ι S H) {l i : Nat} {o : Option W} (e : atL S l i = some o) : ∃ xs, l < S.length ∧ H (ι l) = some (.lst xs) ∧ okAt K ι S.length H xs i o := by
  unfold atL at e
  split at e
  · rename_i us q
    obtain ⟨xs, h1, h2⟩ := rl.obj l _ q
    refine ⟨xs, (List.getElem?_eq_some_iff.mp q).1, h1, ?_⟩
    cases e
    cases q2 : us[i]? with
    | some w => exact h2.get q2
    | none =>
      have := List.getElem?_eq_none_iff.mp q2
      show xs.length ≤ i
      rw [← h2.length]
      exact this
  · cases e
variable {X : Cx} {E : XK} {e : Expr} {c : MV}
theorem sim_forL {n : Nat} {g : MG} {b : MS} {D : Ends} {σ : L2.St} {H : Hp} (h : tOfS K E (mForL n c g b) D σ H) : tFor (iList K (tOf K E c)) (tOfG K E g) (tOfS K E b) D σ H := by
  obtain ⟨ρ, ι, S, re, rl, h⟩ := h
  refine ⟨ρ, ι, S, re, rl, (Post.bind h).mono fun w S1 ι1 H1 e1 rl1 h1 v rv => ?_⟩
  cases rv with
  | @loc l hl =>
    have h1 : Post K E (mLoopL g b l n 0 ρ S1) ι1 S1.length H1 (flowOk K D) := h1
    have hx : ∃ xs, H1 (ι1 l) = some (.lst xs) := by
      cases n with
      | zero => exact h1.elim
      | succ n =>
        unfold mLoopL at h1
        cases q : atL S1 l 0 with
        | none => rw [q] at h1; exact h1.elim
        | some o => obtain ⟨xs, _, h2, _⟩ := atL_ok rl1 q; exact ⟨xs, h2⟩
    obtain ⟨xs0, hx0⟩ := hx
    refine ⟨ι1 l, rfl, ⟨xs0, .inl (.inl hx0)⟩, fun i m σ H => ∃ ρ ι S, RE K ι S.length H ρ σ ∧ Rl K ι S H ∧ Ext ι1 S1.length H1 ι S.length H ∧ Post K E (mLoopL g b l m i ρ S) ι S.length H (flowOk K D), ⟨n, ρ, ι1, S1, re.mono e1, rl1, Ext.refl, h1⟩, ?_⟩
    rintro i m σ2 H2 ⟨ρ2, ι2, S2, re2, rl2, e2, h2⟩
    cases m with
    | zero => exact h2.elim
    | succ m =>
      unfold mLoopL at h2
      cases q : atL S2 l i with
      | none => rw [q] at h2; exact h2.elim
      | some o =>
        rw [q] at h2
        obtain ⟨xs, hl2, hx2, ho⟩ := atL_ok rl2 q
        have ea : ι2 l = ι1 l := e2.io l hl
        rw [ea] at hx2
        cases o with
        | none =>
          left
          exact ⟨⟨xs, .inl (.inl hx2), ho⟩, h2 ι2 H2 Ext.refl rl2 σ2 re2⟩
        | some w =>
          right
          obtain ⟨v, ev, rv⟩ := ho
          refine ⟨⟨xs, v, .inl (.inl hx2), ev⟩, fun σ' H' => ∃ ρ ι S, RE K ι S.length H' ρ σ' ∧ Rl K ι S H' ∧ Ext ι1 S1.length H1 ι S.length H' ∧ Post K E (mLoopL g b l m (i + 1) ρ S) ι S.length H' (flowOk K D), ?_, ?_⟩
          · rintro σ' H' ⟨ρ3, ι3, S3, re3, rl3, e3, h3⟩
            exact ⟨m, Nat.lt_succ_self m, ρ3, ι3, S3, re3, rl3, e3, h3⟩
          · intro x H3 hy
            obtain ⟨rfl, hy⟩ := hy
            have ex : v = x := Option.some.inj (ev.symm.trans (hy xs (.inl (.inl hx2))))
            subst ex
            refine ⟨w, ρ2, ι2, S2, rv, re2, rl2, ?_⟩
            simp only at h2
            unfold mThen at h2
            cases q : g w ρ2 S2 with
            | stuck => rw [q] at h2; exact h2
            | err y S' => rw [q] at h2; exact h2
            | ok ρ4 S4 =>
              rw [q] at h2
              intro ι4 H4 e4 rl4 σ4 re4
              refine ⟨ρ4, ι4, S4, re4, rl4, ?_⟩
              cases q2 : b ρ4 S4 with
              | stuck => simp only [q2] at h2; exact h2
              | err y S' => simp only [q2] at h2; exact Post.from (r := Res.err y S') h2 e4
              | ok p S5 =>
                obtain ⟨f, ρ5⟩ := p
                cases f with
                | next =>
                  simp only [q2] at h2
                  exact fun ι5 H5 e5 rl5 σ5 re5 => ⟨ρ5, ι5, S5, re5, rl5, (e2.trans e4).trans e5, Post.from h2 (e4.trans e5)⟩
                | cont =>
                  simp only [q2] at h2
                  exact fun ι5 H5 e5 rl5 σ5 re5 => ⟨ρ5, ι5, S5, re5, rl5, (e2.trans e4).trans e5, Post.from h2 (e4.trans e5)⟩
                | brk =>
                  simp only [q2] at h2
                  exact fun ι5 H5 e5 rl5 σ5 re5 => h2 ι5 H5 (e4.trans e5) rl5 σ5 re5
                | ret u =>
                  simp only [q2] at h2
                  exact fun ι5 H5 e5 rl5 σ5 re5 => h2 ι5 H5 (e4.trans e5) rl5 σ5 re5
  | _ => exact h1.elim
theorem cs_forL {n : Nat} {tg iter : Expr} {body : List Stmt} {g : MG} {b : MS} {pos : Pos} (hp : PassesOwn (model X.prog X.w) X.A X.env X.xe) (hc : X.calm = true) (hi : CE X E iter c) (hg : CG X E tg g) (hb : CSs X E body b)
    (hs : ∀ x, foldedSetIterable iter X.env x = pure x := by intro _; rfl) : CS X E (.For tg iter body [] pos) (mForL n c g b) := PS.weak (ps_for hp hc (pi_list hi) hg hb hs) fun D σ H h => sim_forL h
/-- a loop of a block over a list of the store -/
theorem gc_loopL {α : Type} {AR : ARel α} {K : PySem.W.Frag} {ι1 : Im} {n1 : Nat} {H1 : Hp} {D : Addr} {ρ : Env} {σ σ0 : L2.St} {acc : α} {ι : Im} {S : Sto} {H : Hp} {g : MG} {t : MW Bool} {mp : α → MW α} {tp : PutT} {vs : List Nat} {l n : Nat} {Nx : Hp → Prop} {P : α → Sto → Prop} (hA : ARmv AR) (hs : SimPut K AR tp mp) (hD : D ∉ ι1.mu) (hσ : σ = L2.wipe σ0 vs)
    (b0 : Blk K AR ι1 n1 H1 D ρ σ acc ι S H) (hl : l < S.length) (hp : okRes (gLoopL g t mp ρ l n 0 acc S) P) (fin : ∀ acc' ι' S' H', Blk K AR ι1 n1 H1 D ρ σ acc' ι' S' H' → Mv ι S.length H ι' S'.length H' → P acc' S' → Nx H') :
    ∃ W1 : Nat → Nat → Hp → Prop, (∃ m, W1 0 m H) ∧ ∀ j k H', W1 j k H' → ((Itl K (ι l)).stop j H' ∧ Nx H') ∨ ((Itl K (ι l)).go j H' ∧ ∃ Nx1 : Hp → Prop, (∀ H2, Nx1 H2 → ∃ k', k' < k ∧ W1 (j + 1) k' H2) ∧ ∀ x H2, (Itl K (ι l)).yld j H' x H2 →
      tOfGw K E0 vs g x σ H2 fun σ3 H5 => L2.wipe σ3 vs = σ ∧ tOfB K E0 t σ3 H5 fun c H6 => if c = true then tp D σ3 H6 Nx1 else Nx1 H6) := by
  refine ⟨fun j k H' => ∃ ι' S' acc', Blk K AR ι1 n1 H1 D ρ σ acc' ι' S' H' ∧ Mv ι S.length H ι' S'.length H' ∧ okRes (gLoopL g t mp ρ l k j acc' S') P, ⟨n, ι, S, acc, b0, Mv.refl, hp⟩, ?_⟩
  rintro j k H2 ⟨ι2, S2, acc2, b2, m2, p2⟩
  cases k with
  | zero => exact p2.elim
  | succ k =>
    unfold gLoopL at p2
    cases q : atL S2 l j with
    | none => rw [q] at p2; exact p2.elim
    | some o =>
      rw [q] at p2
      obtain ⟨xs, hl2, hx2, ho⟩ := atL_ok b2.rl q
      have ea : ι2 l = ι l := m2.io l hl
      rw [ea] at hx2
      cases o with
      | none =>
        left
        exact ⟨⟨xs, .inl (.inl hx2), ho⟩, fin acc2 ι2 S2 H2 b2 m2 p2⟩
      | some w =>
        right
        obtain ⟨v, ev, rv⟩ := ho
        refine ⟨⟨xs, v, .inl (.inl hx2), ev⟩, fun H' => ∃ ι' S' acc', Blk K AR ι1 n1 H1 D ρ σ acc' ι' S' H' ∧ Mv ι S.length H ι' S'.length H' ∧ okRes (gLoopL g t mp ρ l k (j + 1) acc' S') P, ?_, ?_⟩
        · rintro H' ⟨ι', S', acc', c1, c2, c3⟩
          exact ⟨k, Nat.lt_succ_self k, ι', S', acc', c1, c2, c3⟩
        · intro x H3 hy
          obtain ⟨rfl, hy⟩ := hy
          have ex : v = x := Option.some.inj (ev.symm.trans (hy xs (.inl (.inl hx2))))
          subst ex
          have p3 : okRes (mThen (g w) (mBind t fun b => if b = true then mp acc2 else fun _ S => .ok acc2 S) ρ S2) fun acc' S' => okRes (gLoopL g t mp ρ l k (j + 1) acc' S') P := by
            simp only at p2
            cases q : mThen (g w) (mBind t fun b => if b = true then mp acc2 else fun _ S => .ok acc2 S) ρ S2 with
            | ok a S' => rw [q] at p2; exact p2
            | _ => rw [q] at p2; exact p2.elim
          refine ⟨w, ρ, ι2, S2, rv, b2.re, b2.rl, p3.then.post fun ρ4 S4 ι4 H4 e4 rl4 p4 σ4 re4 hw4 => ?_⟩
          have b4 := b2.go hA e4 rl4
          have m4 := m2.trans e4.toMv
          refine ⟨hw4.trans (by rw [hσ]; exact wipe_again σ0 vs), ρ4, ι4, S4, re4, rl4, p4.bind.post fun c S5 ι5 H5 e5 rl5 p5 => ?_⟩
          have b5 := b4.go hA e5 rl5
          have m5 := m4.trans e5.toMv
          cases c with
          | false =>
            simp only [Bool.false_eq_true, if_false] at p5 ⊢
            exact ⟨ι5, S5, acc2, b5, m5, p5⟩
          | true =>
            simp only [if_true] at p5 ⊢
            refine hs ι1 n1 H1 D ρ4 σ4 acc2 ι5 S5 H5 _ _ hD (b5.slots (re4.mono e5)) p5 fun acc' ι' S' H' bb mm pp => ?_
            exact ⟨ι', S', acc', bb.slots (b5.re.mv mm), m5.trans mm, pp⟩
theorem lx_ok {α : Type} {g : MG} {t : MW Bool} {mp : α → MW α} {ρ : Env} {l n : Nat} {acc : α} {P : α → Sto → Prop} (rl : Rl K ι S H) (h : okRes (gLoopL g t mp ρ l n 0 acc S) P) : ∃ xs, H (ι l) = some (.lst xs) := by
  cases n with
  | zero => exact h.elim
  | succ n =>
    unfold gLoopL at h
    cases q : atL S l 0 with
    | none => rw [q] at h; exact h.elim
    | some o => obtain ⟨xs, _, h2, _⟩ := atL_ok rl q; exact ⟨xs, h2⟩
theorem gL_noerr {α : Type} {g : MG} {t : MW Bool} {mp : α → MW α} {ρ : Env} {l : Nat} {x : Xn} {S2 : Sto} : ∀ (n i : Nat) (acc : α) (T : Sto), gLoopL g t mp ρ l n i acc T ≠ .err x S2
  | 0, _, _, _, z => by cases z
  | n + 1, i, acc, T, z => by
    unfold gLoopL at z
    split at z
    · cases z
    · cases z
    · split at z
      · exact gL_noerr n _ _ _ z
      · cases z
theorem sim_gL {α : Type} {AR : ARel α} {K : PySem.W.Frag} {E : XK} {tp : PutT} {mp : α → MW α} {c : MV} {g : MG} {t : MW Bool} {vs : List Nat} {a0 : α} {A0 : Addr → HO} {fin : α → Sto → Res W} {τ : VK → VK} {n : Nat} (hA : ARmv AR) (hs : SimPut K AR tp mp) (h0 : ∀ ι n H D, AR a0 ι n (upd H D (A0 D)) D) (nt : ∀ D, noTup (A0 D)) (hf : FinOk K E AR fin τ) {σ : L2.St} {H : Hp} {Q : VK}
    (h : tOf K E (mGL n vs c g t mp a0 fin) σ H Q) : tG1 A0 tp (iList K (tOf K E c)) (tOfGw K E0 vs g) (tOfB K E0 t) vs σ H (τ Q) := by
  obtain ⟨ρ, ι, S, re, rl, h⟩ := h
  have h' : Post K E (mBind c (fun w => fun ρ S => match w with
      | .loc l => (match gLoopL g t mp (wipeE ρ vs) l n 0 a0 S with
        | .ok acc S' => fin acc S'
        | _ => .stuck)
      | _ => .stuck) ρ S) ι S.length H (fun w S' ι' H' => ∀ v, Rep K ι' S'.length H' w v → Q v H') := by
    unfold mGL mInL mBind at h
    unfold mBind
    cases q : c ρ S with
    | stuck => rw [q] at h; exact h
    | err x S1 => rw [q] at h; exact h
    | ok w S1 =>
      rw [q] at h
      cases w with
      | loc l =>
        simp only at h ⊢
        cases q2 : gLoopL g t mp (wipeE ρ vs) l n 0 a0 S1 with
        | ok acc S2 => rw [q2] at h; exact h
        | stuck => rw [q2] at h; exact h
        | err x S2 => exact absurd q2 (gL_noerr _ _ _ _)
      | _ => exact h
  refine ⟨ρ, ι, S, re, rl, (Post.bind h').mono fun w S1 ι1 H1 e1 rl1 h1 v rv => ?_⟩
  cases rv with
  | @loc l hl =>
    have hp : okRes (gLoopL g t mp (wipeE ρ vs) l n 0 a0 S1) fun acc S2 => PostV K E (fin acc S2) ι1 S1.length H1 Q := by
      cases q : gLoopL g t mp (wipeE ρ vs) l n 0 a0 S1 with
      | ok acc S2 => simp only [q] at h1; exact h1
      | stuck => simp only [q] at h1; exact h1.elim
      | err x S2 => simp only [q] at h1; exact h1.elim
    obtain ⟨xs0, hx0⟩ := lx_ok rl1 hp
    refine ⟨ι1 l, rfl, ⟨xs0, .inl (.inl hx0)⟩, fun D hD => ?_⟩
    obtain ⟨mv0, rl0⟩ := enter (o := A0 D) rl1 hD (nt D)
    have hDm : D ∉ ι1.mu := rl1.nmu hD
    have b0 : Blk K AR ι1 S1.length H1 D (wipeE ρ vs) (L2.wipe σ vs) a0 (ιd ι1 D) S1 (upd H1 D (A0 D)) := ⟨((re.mono e1).mv mv0).wipe vs, rl0, mv0, rfl, fun a h => upd_ne fun z => hDm (z ▸ h), h0 _ _ _ _⟩
    exact gc_loopL (ι := ιd ι1 D) hA hs hDm rfl b0 hl hp fun acc' ι' S' H' bb mm pp => hf acc' ι1 S1.length H1 ι' S' H' D Q hD hDm bb.rl bb.mv bb.mu bb.pr bb.ls pp
  | _ => exact h1.elim
theorem sim_ginL {α : Type} {AR : ARel α} {K : PySem.W.Frag} {tp : PutT} {mp : α → MW α} {c : MV} {g : MG} {t : MW Bool} {vs : List Nat} {n : Nat} (hA : ARmv AR) (hs : SimPut K AR tp mp) : SimPut K AR (tIn (iList K (tOf K E0 c)) (tOfGw K E0 vs g) (tOfB K E0 t) tp vs) (mInL n vs c g t mp) := by
  intro ι1 n1 H1 D ρ σ acc ι S H N P hD b h fin
  refine ⟨ρ, ι, S, b.re, b.rl, (okRes.bind h).post fun w S2 ι2 H2 e2 rl2 p2 v rv => ?_⟩
  have b2 := b.go hA e2 rl2
  cases rv with
  | @loc l hl =>
    have p2 : okRes (gLoopL g t mp (wipeE ρ vs) l n 0 acc S2) P := p2
    obtain ⟨xs0, hx0⟩ := lx_ok rl2 p2
    refine ⟨ι2 l, rfl, ⟨xs0, .inl (.inl hx0)⟩, ?_⟩
    exact gc_loopL hA hs hD rfl (b2.slots (b2.re.wipe vs)) hl p2 fun acc' ι' S' H' bb mm pp => fin acc' ι' S' H' (bb.slots ((b2.re).mv mm)) (e2.toMv.trans mm) pp
  | _ => exact p2.elim
end
section
variable {X : Cx} {E : XK} {ex elt kx vx tg iter tg1 iter1 : Expr} {ifs ifs1 : List Expr} {scope : Scope} {own : List (Str × Nat)} {vs1 : List Nat} {pos pos' : Pos} {new : Sem Value} {c c1 : MV} {ci ci1 : MW (List W)} {g g1 : MG} {t t1 : MW Bool} {e k : MV} {n : Nat}
theorem cc_l1L {fin : List W → Sto → Res W} (hf : FinOk X.K E (arL X.K) fin id) (hc : X.calm = true) (hN : X.N.Nodup) (ok : BlkOk X.N X.env.scope scope own) (hi : CE X E iter c) (hg : InB X scope fun Y => CGw Y E0 (own.map (·.2)) tg g) (ht : InB X scope fun Y => PTs Y ifs (tOfB X.K E0 t)) (he : InB X scope fun Y => CE Y E0 elt e)
    (hs : ∀ x, foldedSetIterable iter X.env x = pure x := by intro _; rfl) : CC X E (.ListComp elt [⟨tg, iter, ifs, 0⟩] scope pos) scope (firstIterPos [⟨tg, iter, ifs, 0⟩] pos) (newList []) iter id (mGL n (own.map (·.2)) c g t (mpL e) [] fin) :=
  ⟨_, core_lc1 hc hN (pi_list hi) ok hg ht he hs, fun σ H Q h => sim_gL arL_mv sp_L (fun ι n H D => ⟨[], upd_same, .nil⟩) (fun _ => trivial) hf h⟩
theorem cc_k1L {fin : List Key × List W → Sto → Res W} (hf : FinOk X.K E (arK X.K) fin id) (hu : X.A.units < cLine) (hc : X.calm = true) (hN : X.N.Nodup) (ok : BlkOk X.N X.env.scope scope own) (hi : CE X E iter c) (hg : InB X scope fun Y => CGw Y E0 (own.map (·.2)) tg g) (ht : InB X scope fun Y => PTs Y ifs (tOfB X.K E0 t)) (hk : InB X scope fun Y => CE Y E0 kx k) (he : InB X scope fun Y => CE Y E0 vx e)
    (hs : ∀ x, foldedSetIterable iter X.env x = pure x := by intro _; rfl) : CC X E (.DictComp kx vx [⟨tg, iter, ifs, 0⟩] scope pos) scope (firstIterPos [⟨tg, iter, ifs, 0⟩] pos) newDict iter id (mGL n (own.map (·.2)) c g t (mpK k e) ([], []) fin) :=
  ⟨_, core_dc1 (A0 := .dK []) (.inl rfl) hu hc hN (pi_list hi) ok hg ht hk he hs, fun σ H Q h => sim_gL arK_mv sp_K (fun ι n H D => ⟨[], upd_same, rfl, .nil⟩) (fun _ => trivial) hf h⟩
end
end Mm

/-! The mirror layer: tuple * int, list * int. -/
namespace Mm
open PySem PySem.Spec PyProof.Rows L2 Gc
theorem tuple_mul1 (l : Addr) (items : Array Value) (n : Nat) (dd : Option Addr) (sl : Array (Option Value)) (u : Tok) :
    Meets (Builtin.«tuple.__mul__» ⟨[.ref l, .int 1 u], []⟩) (fun _ R s => s.heap.get? l = some { cls := .type "tuple", dict := dd, data := .seq items n, slots := sl } ∧ R (.ok (.ret (.ref l))) s) :=
  .of_wp fun prog w A R s h => by
    obtain ⟨hp, g, d, tk, os⟩ := s
    obtain ⟨hl, h⟩ := h
    have f1 := AutoSeq1.idx_int
    wp_walk using wpAny_loadPart' hl
    exact ⟨_, rfl, h⟩
theorem tuple_mul0 (l : Addr) (items : Array Value) (n : Nat) (dd : Option Addr) (sl : Array (Option Value)) (u : Tok) (hi : items.isEmpty = false) :
    Meets (Builtin.«tuple.__mul__» ⟨[.ref l, .int 0 u], []⟩) (fun _ R s => s.heap.get? l = some { cls := .type "tuple", dict := dd, data := .seq items n, slots := sl } ∧
      R (.ok (.ret (Value.ref s.heap.objs.size))) { s with heap := s.heap.push { cls := Value.type "tuple", data := Data.seq #[] }, toks := s.toks }) :=
  .of_wp fun prog w A R s h => by
    obtain ⟨hp, g, d, tk, os⟩ := s
    obtain ⟨hl, h⟩ := h
    have f1 := AutoSeq1.idx_int
    wp_walk using wpAny_loadPart' hl
    exact ⟨_, rfl, h⟩
def rRepT1 (K : PySem.W.Frag) : R2 := fun x y H Q => ∃ l xs, x = .ref l ∧ y = .int 1 ∧ SqT K H l xs ∧ Q (.ref l) H
def rRepT0 (K : PySem.W.Frag) : R2 := fun x y H Q => ∃ l xs, x = .ref l ∧ y = .int 0 ∧ SqT K H l xs ∧ xs ≠ [] ∧ ∀ p, H p = none → Q (.ref p) (upd H p (.tup []))
section
variable {X : Cx}
theorem op_repT1 : OpR X (binaryOp .Mult) (rRepT1 X.K) := by
  rintro pins s σ H _ _ v u Q I rx ry ⟨l, xs, rfl, rfl, hT, q⟩
  cases rx
  obtain ⟨t, rfl⟩ := ry
  obtain ⟨its, -, ⟨⟨_, dd, _, sl⟩, ho, rfl, n, rfl⟩, -⟩ := I.tuple hT
  refine wpAny_binaryOp_repeat_ref (T := "tuple") (U := "int") (by decide) ⟨_, ho, rfl⟩ (fun s' => typeIs_int s' 1 t) noFill_tuple_mul F.fills_int_mul F.slot_int_rmul repeat_tuple F.slot_int_index.lookup
    (call_meets F.slot_int_rmul (typeIs_int s 1 t) F.entry_int_rmul (F.args_int_rmul_2 _ _) (int_rmul_tuple 1 t l its.toArray n dd sl)
      ⟨ho, rfl, ⟨_, ho, rfl⟩, call_meets F.slot_tuple_mul ⟨_, ho, rfl⟩ F.entry_tuple_mul (F.args_tuple_mul_2 _ _) (tuple_mul1 l its.toArray n dd sl t) ⟨ho, ?_⟩⟩)
  exact ⟨.ref l, _, I, rfl, q⟩
theorem op_repT0 : OpR X (binaryOp .Mult) (rRepT0 X.K) := by
  rintro pins s σ H _ _ v u Q I rx ry ⟨l, xs, rfl, rfl, hT, hne, q⟩
  cases rx
  obtain ⟨t, rfl⟩ := ry
  obtain ⟨its, rel, ⟨⟨_, dd, _, sl⟩, ho, rfl, n, rfl⟩, -⟩ := I.tuple hT
  have hle := rel.length.symm
  have hi : its.toArray.isEmpty = false := by
    cases its with
    | nil => exact absurd (List.eq_nil_of_length_eq_zero hle.symm) hne
    | cons a b => rfl
  refine wpAny_binaryOp_repeat_ref (T := "tuple") (U := "int") (by decide) ⟨_, ho, rfl⟩ (fun s' => typeIs_int s' 0 t) noFill_tuple_mul F.fills_int_mul F.slot_int_rmul repeat_tuple F.slot_int_index.lookup
    (call_meets F.slot_int_rmul (typeIs_int s 0 t) F.entry_int_rmul (F.args_int_rmul_2 _ _) (int_rmul_tuple 0 t l its.toArray n dd sl)
      ⟨ho, rfl, ⟨_, ho, rfl⟩, call_meets F.slot_tuple_mul ⟨_, ho, rfl⟩ F.entry_tuple_mul (F.args_tuple_mul_2 _ _) (tuple_mul0 l its.toArray n dd sl t hi) ⟨ho, ?_⟩⟩)
  refine ⟨.ref s.heap.objs.size, _, I.laid (t' := s.toks) (o := .tup []) (fun b ob q => Heap.get?_push_of_some _ q) (Nat.le_refl _) ?_, rfl, q _ (I.hok.fresh (Nat.le_refl _))⟩
  exact ⟨by rw [sizeLine_eq]; simp, _, .nil, IsTup.new _ _⟩
def rRepTA (K : PySem.W.Frag) : R2 := rOr (rRepT0 K) (rOr (rRepT1 K) (rRepT K))
theorem op_repTA : OpR X (binaryOp .Mult) (rRepTA X.K) := opr_or op_repT0 (opr_or op_repT1 op_repT)
end
section
variable {K : PySem.W.Frag} {E : XK} {ι : Im} {n : Nat} {H : Hp}
theorem Reps.rep {ws : List W} {xs : List V} (r : Reps K ι n H ws xs) : ∀ k : Nat, Reps K ι n H (List.replicate k ws).flatten (List.replicate k xs).flatten
  | 0 => .nil
  | k + 1 => by
    simp only [List.replicate_succ, List.flatten_cons]
    exact r.append (Reps.rep r k)
def repW (k : Int) (ws : List W) : List W := (List.replicate k.toNat ws).flatten
def fRepT (x y : W) (S : Sto) : Res W := match x, y with
  | .tup ws, .int k => if ws ≠ [] ∧ 0 ≤ k ∧ k ≤ 1000 ∧ ws.length ≤ 1000 then .ok (.tup (repW k ws)) S else .stuck
  | _, _ => .stuck
def fRepL (x y : W) (S : Sto) : Res W := match seqO S x, y with
  | some ws, .int k => if 0 ≤ k ∧ k ≤ 1000 ∧ ws.length ≤ 1000 then .ok (.lst (repW k ws)) S else .stuck
  | _, _ => .stuck
def fRepLM (x y : W) (S : Sto) : Res W := match seqO S x, y with
  | some ws, .int k => if 0 ≤ k ∧ k ≤ 1000 ∧ ws.length ≤ 1000 then .ok (.loc S.length) (S ++ [.lst (repW k ws)]) else .stuck
  | _, _ => .stuck
theorem rep_size {a : Nat} {k : Int} (h0 : 0 ≤ k) (h1 : k ≤ 1000) (h2 : a ≤ 1000) : a * k.toNat ≤ sizeLine := by
  have : a * k.toNat ≤ 1000 * 1000 := Nat.mul_le_mul h2 (by omega)
  have e : sizeLine = 2 ^ 24 := rfl
  omega
theorem sim_repL : SimR K E rRep fRepL := by
  intro x y xv yv ι S H Q rl rx ry h
  unfold fRepL at h
  cases q1 : seqO S x with
  | none => rw [q1] at h; exact h.elim
  | some a =>
    rw [q1] at h
    cases ry with
    | int k =>
      have h' : PostV K E (if 0 ≤ k ∧ k ≤ 1000 ∧ a.length ≤ 1000 then Res.ok (.lst (repW k a)) S else .stuck) ι S.length H Q := h
      by_cases z : 0 ≤ k ∧ k ≤ 1000 ∧ a.length ≤ 1000
      · rw [if_pos z] at h'
        obtain ⟨p, xs, rfl, hx, r1⟩ := seqO_ok rl q1 rx
        exact ⟨p, k, xs, rfl, rfl, hx, by omega, by omega, by rw [← r1.length]; exact rep_size z.1 z.2.1 z.2.2, PostV.newL h' rl (Reps.rep r1 _)⟩
      · rw [if_neg z] at h'
        exact h'.elim
    | _ => exact h.elim
theorem sim_repLM : SimR K E rRep fRepLM := by
  intro x y xv yv ι S H Q rl rx ry h
  unfold fRepLM at h
  cases q1 : seqO S x with
  | none => rw [q1] at h; exact h.elim
  | some a =>
    rw [q1] at h
    cases ry with
    | int k =>
      have h' : PostV K E (if 0 ≤ k ∧ k ≤ 1000 ∧ a.length ≤ 1000 then Res.ok (.loc S.length) (S ++ [.lst (repW k a)]) else .stuck) ι S.length H Q := h
      by_cases z : 0 ≤ k ∧ k ≤ 1000 ∧ a.length ≤ 1000
      · rw [if_pos z] at h'
        obtain ⟨p, xs, rfl, hx, r1⟩ := seqO_ok rl q1 rx
        exact ⟨p, k, xs, rfl, rfl, hx, by omega, by omega, by rw [← r1.length]; exact rep_size z.1 z.2.1 z.2.2, PostV.newLoc h' rl (Reps.rep r1 _)⟩
      · rw [if_neg z] at h'
        exact h'.elim
    | _ => exact h.elim
theorem sim_repT : SimR K E (rRepTA K) fRepT := by
  intro x y xv yv ι S H Q rl rx ry h
  cases rx with
  | @tup ws a xs hz r =>
    cases ry with
    | int k =>
      have h' : PostV K E (if ws ≠ [] ∧ 0 ≤ k ∧ k ≤ 1000 ∧ ws.length ≤ 1000 then Res.ok (.tup (repW k ws)) S else .stuck) ι S.length H Q := h
      by_cases z : ws ≠ [] ∧ 0 ≤ k ∧ k ≤ 1000 ∧ ws.length ≤ 1000
      · rw [if_pos z] at h'
        have hne : xs ≠ [] := fun e => z.1 (List.eq_nil_of_length_eq_zero (by rw [r.length, e]; rfl))
        by_cases k0 : k = 0
        · subst k0
          exact .inl ⟨a, xs, rfl, rfl, hz.sq, hne, PostV.newT h' rl .nil⟩
        · by_cases k1 : k = 1
          · subst k1
            have e : repW 1 ws = ws := by unfold repW; simp
            rw [e] at h'
            exact .inr (.inl ⟨a, xs, rfl, rfl, hz.sq, PostV.now h' rl (.tup hz r)⟩)
          · exact .inr (.inr ⟨a, k, xs, rfl, rfl, hz.sq, hne, by omega, z.2.2.1, by rw [← r.length]; exact z.2.2.2, PostV.newT h' rl (Reps.rep r _)⟩)
      · rw [if_neg z] at h'
        exact h'.elim
    | _ => exact h.elim
  | _ => exact h.elim
end
end Mm

/-! The mirror layer: x op= e, o[i] op= e. -/
namespace Mm
open PySem PySem.Spec PyProof.Rows L2 Gc
def mAug (i : Nat) (f : W → W → Sto → Res W) (c : MV) : MS := mBind (mVar i) fun x => mBind c fun y => mBind (fun _ S => f x y S) fun z => fun ρ S => .ok (.next, ρ.set i (some z)) S
def mAugS (fg fo : W → W → Sto → Res W) (fs : W → W → W → Sto → Res Unit) (co ci c : MV) : MS := mBind co fun o => mBind ci fun i => mBind (fun _ S => fg o i S) fun x => mBind c fun y => mBind (fun _ S => fo x y S) fun z => fun ρ S => match fs o i z S with
  | .stuck => .stuck
  | .ok _ S' => .ok (.next, ρ) S'
  | .err x S' => .err x S'
theorem get_listP {X : Cx} : PGet X (rIxL X.K) := by
  rintro pins s σ H _ _ v u Q I rx ry ⟨p, xs, i, z, rfl, rfl, sq, at_, q⟩
  cases rx
  obtain ⟨t, rfl⟩ := ry
  obtain ⟨items, rel, isl, few⟩ := I.list sq
  obtain ⟨j, ix, nth, below, lo, hi⟩ := atI_get at_
  obtain ⟨y, nthy, ry⟩ := rel.get nth
  have len : xs.length = items.length := rel.length
  have line := line63
  rcases Int.lt_or_le i 0 with neg | pos
  · rw [seqIndex_neg neg lo] at ix
    have same : (i + (items.toArray.size : Int)).toNat = j := by
      rw [List.size_toArray, ← len]; exact Option.some.inj ix
    exact wpAny_getItem_list_neg isl.isList neg (by rw [List.size_toArray] <;> omega) (by omega) (by rw [same]; simpa using nthy) ⟨z, H, I, ry, q⟩
  · rw [seqIndex_of pos hi] at ix
    have same : i.toNat = j := Option.some.inj ix
    exact wpAny_getItem_list isl.isList pos (by omega) (by rw [same]; simpa using nthy) ⟨z, H, I, ry, q⟩
def fIxO (x y : W) (S : Sto) : Res W := match seqL S x, y with
  | some ws, .int k => (match atI ws k with
    | some w => .ok w S
    | none => .stuck)
  | _, _ => .stuck
theorem sim_ixO {K : PySem.W.Frag} {E : XK} : SimR K E (rIxL K) fIxO := by
  intro x y xv yv ι S H Q rl rx ry h
  unfold fIxO at h
  cases q : seqL S x with
  | none => rw [q] at h; exact h.elim
  | some ws =>
    rw [q] at h
    cases ry with
    | int k =>
      have h' : PostV K E (match atI ws k with | some w => Res.ok w S | none => .stuck) ι S.length H Q := h
      split at h'
      · rename_i w q2
        obtain ⟨p, vs, rfl, h2, h3⟩ := seqL_ok rl q rx
        obtain ⟨v, hv, rv⟩ := h3.atI q2
        exact ⟨p, vs, k, v, rfl, rfl, h2, hv, PostV.now h' rl rv⟩
      · exact h'.elim
    | _ => exact h.elim
section
variable {X : Cx} {E : XK} {o i e : Expr} {co ci c : MV} {rg r : R2} {fg f : W → W → Sto → Res W} {t : TSet} {fs : W → W → W → Sto → Res Unit} {op : Operator} {pos tpos : Pos}
theorem cs_augS (hg : PGet X rg) (sg : SimR X.K E rg fg) (hp : OpR X (inplaceOp op) r) (sp : SimR X.K E r f) (hs : PSet X t) (ss : SimSet X.K E t fs) (ho : CE X E o co) (hi : CE X E i ci) (he : CE X E e c)
    (ha : ∀ ov iv new, augStore i ov iv new = (do holding [new, ov, iv] (setItem ov iv new); release [new, ov, iv] []; pure .next) := by intros; rfl) : CS X E (.AugAssign (.Subscript o i tpos) op e pos) (mAugS fg f fs co ci c) :=
  PS.weak (ps_augS ho hi hg he hp hs ha) fun D σ H ⟨ρ, ι, S, re, rl, h⟩ => by
    refine ⟨ρ, ι, S, re, rl, (Post.bind h).mono fun ow S1 ι1 H1 e1 rl1 h1 ov ro => ?_⟩
    refine ⟨ρ, ι1, S1, re.mono e1, rl1, (Post.bind h1).mono fun iw S2 ι2 H2 e2 rl2 h2 iv ri => ?_⟩
    have re2 := (re.mono e1).mono e2
    have ro2 := ro.mono e2
    refine sg ow iw ov iv ι2 S2 H2 _ rl2 ro2 ri ?_
    refine (Post.bind h2).mono fun xw S3 ι3 H3 e3 rl3 h3 xv rx => ?_
    refine ⟨ρ, ι3, S3, re2.mono e3, rl3, (Post.bind h3).mono fun yw S4 ι4 H4 e4 rl4 h4 yv ry => ?_⟩
    refine sp xw yw xv yv ι4 S4 H4 _ rl4 (rx.mono e4) ry ?_
    refine (Post.bind h4).mono fun zw S5 ι5 H5 e5 rl5 h5 zv rz => ?_
    refine ss ow iw zw ov iv zv ι5 S5 H5 _ rl5 (((ro2.mono e3).mono e4).mono e5) (((ri.mono e3).mono e4).mono e5) rz ?_
    cases q : fs ow iw zw S5 with
    | stuck => rw [q] at h5; exact h5
    | ok u S6 => rw [q] at h5; exact fun ι6 H6 e6 rl6 => h5 ι6 H6 e6 rl6 σ ((((re2.mono e3).mono e4).mono e5).mono e6)
    | err x S6 => rw [q] at h5; exact h5
theorem cs_aug {j : Nat} {x : Str} {pos' : Pos} (hN : X.N.Nodup) (hp : OpR X (inplaceOp op) r) (sp : SimR X.K E r f) (he : CE X E e c) (hi : X.N[j]? = some x := by rfl) (hx : Loc X.env.scope x := by first | exact Or.inl rfl | exact Or.inr rfl)
    (hf : X.fn x = true ∨ X.env.scope.names.lookup x = some .local := by first | exact .inl rfl | exact .inr rfl | assumption) : CS X E (.AugAssign (.Name x pos') op e pos) (mAug j f c) :=
  PS.weak (ps_aug hN hi hx he hp hf) fun D σ H ⟨ρ, ι, S, re, rl, h⟩ => by
    unfold mAug mVar at h
    have h' := Post.bind h
    split at h'
    · rename_i w q
      obtain ⟨v, ev, rv⟩ := re.at_ j w q
      have h1 := h' ι H Ext.refl rl
      refine ⟨v, ev, ρ, ι, S, re, rl, (Post.bind h1).mono fun yw S2 ι2 H2 e2 rl2 h2 yv ry => ?_⟩
      refine sp w yw v yv ι2 S2 H2 _ rl2 (rv.mono e2) ry ?_
      exact (Post.bind h2).mono fun zw S3 ι3 H3 e3 rl3 h3 zv rz => h3 ι3 H3 Ext.refl rl3 _ (((re.mono e2).mono e3).set rz j)
    · exact h'.elim
end
end Mm

/-! The mirror layer: xs.extend(ys), xs.count(k). -/
namespace Mm
open PySem PySem.Spec PyProof.Rows L2 Gc
section
variable {E : XK}
/-- xs.extend(ys), xs an object of the store -/
def mExtend (c : MV) (t : MW (List W)) : MV := mBind c fun x => match x with
  | .loc l => (fun ρ S => match S[l]? with
    | some (.lst _) => mBind t (fun us => match us with
      | [w] => (fun _ S' => match S'[l]?, seqO S' w with
        | some (.lst ws), some zs => if ws.length + zs.length ≤ sizeLine then .ok .non (S'.set l (.lst (ws ++ zs))) else .stuck
        | _, _ => .stuck)
      | _ => fun _ _ => .stuck) ρ S
    | _ => .stuck)
  | _ => fun _ _ => .stuck
theorem ce_extend {X : Cx} {o e : Expr} {es : List Expr} {c : MV} {t : MW (List W)} {apos cpos : Pos} (ho : CE X E o c) (ha : CA X E (e :: es) t)
    (hbase : attributeBase o "extend" X.env (eval o X.env) = eval o X.env := by rfl)
    (hfew : ((backTo cpos (starEach (e :: es) X.env)).all (fun x => !x.1) && (backToKw cpos (keywordEach [] X.env)).all (fun x => x.1.isSome) && decide ((e :: es).length + ([] : List Keyword).length + (if ([] : List Keyword).isEmpty then 0 else 1) < 30)) = true := by rfl)
    (hline : (apos.endLine == cpos.line) = true := by rfl) (hs : starEach (e :: es) X.env = (false, eval e X.env) :: starEach es X.env := by rfl) (hplain : (backTo cpos (starEach es X.env)).any (·.1) = false := by rfl) :
    CE X E (.Call (.Attribute o "extend" apos) (e :: es) [] cpos) (mExtend c t) :=
  PE.weak (pe_bm PySem.F.plainAttrs_list PySem.F.slot_list_extend PySem.F.type_list_extend mt_extend ho ha hbase hfew hline hs hplain) fun σ H Q ⟨ρ, ι, S, re, rl, h⟩ => ⟨ρ, ι, S, re, rl, (Post.bind h).mono fun x S1 ι1 H1 e1 rl1 h1 xv rx => by
    cases rx with
    | @loc l hl =>
      simp only at h1
      split at h1
      · rename_i ws0 q0
        obtain ⟨xs0, o1, o2⟩ := rl1.obj l _ q0
        refine ⟨.inl ⟨rfl, xs0, .inl (.inl o1)⟩, ρ, ι1, S1, re.mono e1, rl1, (Post.bind h1).mono fun us S2 ι2 H2 e2 rl2 h2 vs rvs => ?_⟩
        cases rvs with
        | nil => exact h2.elim
        | @cons w v _ _ a b =>
          cases b with
          | cons _ _ => exact h2.elim
          | nil =>
            simp only at h2
            split at h2
            · rename_i ws zs q q2
              split at h2
              · rename_i hz
                have hl2 : l < S2.length := Nat.lt_of_lt_of_le hl e2.le
                obtain ⟨xs, p1, p2⟩ := rl2.obj l _ q
                obtain ⟨bb, ys, rfl, hy, ry⟩ := seqO_ok rl2 q2 a
                have ei := e2.io l hl
                refine ⟨ι1 l, bb, xs, ys, rfl, rfl, by rw [← ei]; exact p1, hy, by rw [← p2.length, ← ry.length]; exact hz, ?_⟩
                rw [← ei]
                have ex := Ext.set (o := .lst (xs ++ ys)) rl2 hl2 (nofz p1)
                exact h2 ι2 _ (by rw [List.length_set]; exact ex) (rl2.set hl2 (nofz p1) ⟨_, upd_same, (p2.mono ex).append (ry.mono ex)⟩) _ .non
              · exact h2.elim
            · exact h2.elim
      · exact h1.elim
    | _ => exact h1.elim⟩
/-- xs.count(k), all whole numbers -/
def mCount (c : MV) (t : MW (List W)) : MV := mBind c fun x => fun ρ S => match seqL S x with
  | some _ => mBind t (fun us => match us with
    | [.int k] => (fun _ S' => match seqL S' x with
      | some ws => (match intsW ws with
        | some ns => .ok (.int ((ns.count k : Nat) : Int)) S'
        | none => .stuck)
      | none => .stuck)
    | _ => fun _ _ => .stuck) ρ S
  | none => .stuck
theorem ce_count {X : Cx} {o e : Expr} {es : List Expr} {c : MV} {t : MW (List W)} {apos cpos : Pos} (ho : CE X E o c) (ha : CA X E (e :: es) t)
    (hbase : attributeBase o "count" X.env (eval o X.env) = eval o X.env := by rfl)
    (hfew : ((backTo cpos (starEach (e :: es) X.env)).all (fun x => !x.1) && (backToKw cpos (keywordEach [] X.env)).all (fun x => x.1.isSome) && decide ((e :: es).length + ([] : List Keyword).length + (if ([] : List Keyword).isEmpty then 0 else 1) < 30)) = true := by rfl)
    (hline : (apos.endLine == cpos.line) = true := by rfl) (hs : starEach (e :: es) X.env = (false, eval e X.env) :: starEach es X.env := by rfl) (hplain : (backTo cpos (starEach es X.env)).any (·.1) = false := by rfl) :
    CE X E (.Call (.Attribute o "count" apos) (e :: es) [] cpos) (mCount c t) :=
  PE.weak (pe_bm PySem.F.plainAttrs_list PySem.F.slot_list_count PySem.F.type_list_count mt_lcount ho ha hbase hfew hline hs hplain) fun σ H Q ⟨ρ, ι, S, re, rl, h⟩ => ⟨ρ, ι, S, re, rl, (Post.bind h).mono fun x S1 ι1 H1 e1 rl1 h1 xv rx => by
    split at h1
    · rename_i ws0 q0
      obtain ⟨a0, xs0, rfl, o1, o2⟩ := seqL_ok rl1 q0 rx
      refine ⟨.inl ⟨rfl, xs0, o1⟩, ρ, ι1, S1, re.mono e1, rl1, (Post.bind h1).mono fun us S2 ι2 H2 e2 rl2 h2 vs rvs => ?_⟩
      cases rvs with
      | nil => exact h2.elim
      | @cons w v _ _ a b =>
        cases b with
        | cons _ _ => cases a <;> exact h2.elim
        | nil =>
          cases a with
          | int k =>
            simp only at h2
            split at h2
            · rename_i ws q
              split at h2
              · rename_i ns qn
                obtain ⟨a1, xs, ea, hq, r1⟩ := seqL_ok rl2 q (rx.mono e2)
                cases ea
                have := intsW_ok qn r1
                subst this
                exact ⟨_, ns, k, rfl, rfl, hq, PostV.now h2 rl2 (.int _)⟩
              · exact h2.elim
            · exact h2.elim
          | _ => exact h2.elim
    · exact h1.elim⟩
end
end Mm

/-! The mirror layer: defs with defaults. -/
namespace Mm
open PySem PySem.Spec PyProof.Rows L2 Gc
section
variable {P : Program} {w : World} {K : PySem.W.Frag} {mg : Str → Option Value} {base : Heap} {x qual : Str} {params : Arguments} {body : List Stmt} {scope : Scope} {dvs : List V} {kws : List (Str × V)} {f : Addr} {fd : FuncData} {N ps : List Str} {k : Nat} {c : MS} {ds : List W}
/-- the first n arguments are told, the last ones stand as defaults -/
theorem fma_ofD (F : FunD K x qual params body scope dvs kws f fd) (S : FnScope N ps scope) (n j : Nat) (hd : dvs ≠ []) (hn : n + (dvs.length - j) = ps.length)
    (h : ∀ (T : Addr) (kV doc pm : Value) (an : Option Addr) (cdv ct : Value) (us its : List Value), us.length = n → its.length = dvs.length →
      ∃ k, bindArgs (PySem.W.fnOf x qual params body scope (.ref T) kV doc pm an cdv ct) ⟨us, []⟩ = seqItems? (.ref T) >>= k ∧ k (some its.toArray) = pure (ps.zip (us ++ its.drop j)))
    (rd : ∀ ι q H, Reps K ι q H ds (dvs.drop j))
    (hbody : ∀ (cdv : Value) (A : Around) (outer : List PySem.Env) (s : Shared) (H : Hp) (E : XK), Room k (A.deeper (envOfC qual scope s.heap.objs.size f cdv)) → CSs (cxOf CX0 P w K mg base N qual scope f cdv A outer s H E).nox E0 body c) : FMa P w K mg base (k + 1) f ps.length (mDef N.length c) ds := by
  obtain ⟨us, vd, bd⟩ := FunD.binds1 (ps := ps) F n j hd hn h
  refine ⟨fd, ps, dvs.drop j, us, rfl, ?_, bd, vd, rd⟩
  refine F.ok S (fun vs H Q E h => h.1) fun cdv A outer s H vs Q E hr h => ?_
  obtain ⟨hl, ws, ι, S, r, rl, h⟩ := h
  exact ⟨_, PSs.nox (hbody cdv A outer s H E hr), sim_def r rl h⟩
/-- one default that is an object of the top -/
theorem rep_dfl {d : W} {a : Addr} (h : repB K d (.ref a) = true) : ∀ ι q H, Reps K ι q H [d] [.ref a] := by
  obtain ⟨v, rv, r⟩ := repB_ok h
  intro ι q H
  have : v = .ref a := by
    cases v <;> first | (cases rv; rfl) | (obtain ⟨_, e⟩ := rv; cases e) | cases rv
  rw [this] at r
  exact .cons (r ι q H) .nil
end
/-- a call of a def, the last arguments its defaults -/
def mCallD (n : Nat) (m : MF) (ds : List W) (t : MW (List W)) : MV := mBind t fun ws => fun _ S => if (ws ++ ds).length = n then m (ws ++ ds) S else .stuck
section
variable {X : Cx} {x : Str} {n k : Nat} {m : MF} {ds : List W} {e : Expr} {es : List Expr} {t : MW (List W)}
theorem ce_callD {p pos : Pos} (F : FMa X.prog X.w X.K X.mg X.base k (He.ga X.K x) n m ds) (gl : X.mg x = some (.ref (He.ga X.K x))) (kp : PySem.W.keepIn X.K (.ref (He.ga X.K x)) = true) (hr : Room k X.A) (hg : Gl X x) (ha : CA X E0 (e :: es) t) (hdb : (x == ("__debug__" : Str)) = false := by decide)
    (he : starEach (e :: es) X.env = (false, eval e X.env) :: starEach es X.env := by rfl) (hpl : (backTo pos (starEach es X.env)).any (·.1) = false := by rfl) :
    CE X E0 (.Call (.Name x p) (e :: es) [] pos) (mCallD n m ds t) := by
  obtain ⟨fd, ps, dvs, us, hn, ok, bd, vd, rd⟩ := F
  refine PE.weak (pe_call ok hr hg gl kp bd vd pass0 ha hdb he hpl) fun σ H Q ⟨ρ, ι, S, re, rl, h⟩ => ?_
  refine ⟨ρ, ι, S, re, rl, (Post.bind h).mono fun ws S1 ι1 H1 e1 rl1 h1 vs rvs => ?_⟩
  by_cases z : (ws ++ ds).length = n
  · rw [if_pos z] at h1
    have rr := rvs.append (rd ι1 S1.length H1)
    exact ⟨by rw [← rr.length]; exact z, ws ++ ds, ι1, S1, rr, rl1, h1⟩
  · rw [if_neg z] at h1
    exact h1.elim
end
end Mm

/-! The mirror layer: x is True, x is False, and not. -/
namespace Mm
open PySem PySem.Spec PyProof.Rows L2 Gc
section
variable {X : Cx} {K : PySem.W.Frag} {E : XK}
def rIsB : R2 := fun x y H Q => ∃ a b, x = .bl a ∧ y = .bl b ∧ Q (.bl (decide (a = b))) H
def rNotB : R2 := fun x y H Q => ∃ a b, x = .bl a ∧ y = .bl b ∧ Q (.bl (!decide (a = b))) H
theorem op_isB : OpR X (compareOp .Is) rIsB := by
  intro pins s σ H x y v u Q I rx ry h
  obtain ⟨a, b, rfl, rfl, q⟩ := h
  cases rx
  cases ry
  exact wpAny_is_plain rfl (fin_bl I q (by cases a <;> cases b <;> rfl))
theorem op_notB : OpR X (compareOp .IsNot) rNotB := by
  intro pins s σ H x y v u Q I rx ry h
  obtain ⟨a, b, rfl, rfl, q⟩ := h
  cases rx
  cases ry
  exact wpAny_isNot_plain rfl (fin_bl I q (by cases a <;> cases b <;> rfl))
def fIsB : W → W → Sto → Res W
  | .bl a, .bl b, S => .ok (.bl (decide (a = b))) S
  | _, _, _ => .stuck
def fNotB : W → W → Sto → Res W
  | .bl a, .bl b, S => .ok (.bl (!decide (a = b))) S
  | _, _, _ => .stuck
theorem sim_isB : SimR K E rIsB fIsB := by
  intro x y xv yv ι S H Q rl rx ry h
  cases rx with
  | bl a =>
    cases ry with
    | bl b => exact ⟨a, b, rfl, rfl, PostV.now h rl (.bl _)⟩
    | _ => exact h.elim
  | _ => exact h.elim
theorem sim_notB : SimR K E rNotB fNotB := by
  intro x y xv yv ι S H Q rl rx ry h
  cases rx with
  | bl a =>
    cases ry with
    | bl b => exact ⟨a, b, rfl, rfl, PostV.now h rl (.bl _)⟩
    | _ => exact h.elim
  | _ => exact h.elim
/-! op= -/
def rIAdd : R2 := rOr (rI0 fun i j => .int (i + j)) (fun x y H Q => ∃ i j, x = .str i ∧ y = .str j ∧ i.length + j.length ≤ sizeLine ∧ Q (.str (i ++ j)) H)
theorem iop_addA : OpR X (inplaceOp .Add) rIAdd := opr_or iop_add iop_add_str
def fIAdd (x y : W) (S : Sto) : Res W := match x, y with
  | .int i, .int j => .ok (.int (i + j)) S
  | .str a, .str b => if a.length + b.length ≤ sizeLine then .ok (.str (a ++ b)) S else .stuck
  | _, _ => .stuck
theorem sim_iadd : SimR K E rIAdd fIAdd := by
  intro x y xv yv ι S H Q rl rx ry h
  cases rx with
  | int i =>
    cases ry with
    | int j => exact .inl ⟨i, j, rfl, rfl, PostV.now h rl (.int _)⟩
    | _ => exact h.elim
  | str a =>
    cases ry with
    | str b =>
      have h' : PostV K E (if a.length + b.length ≤ sizeLine then Res.ok (.str (a ++ b)) S else .stuck) ι S.length H Q := h
      by_cases z : a.length + b.length ≤ sizeLine
      · rw [if_pos z] at h'
        exact .inr ⟨a, b, rfl, rfl, z, PostV.now h' rl (.str _)⟩
      · rw [if_neg z] at h'
        exact h'.elim
    | _ => exact h.elim
  | _ => exact h.elim
def fIMul (x y : W) (S : Sto) : Res W := match x, y with
  | .int i, .int j => if (-(2 ^ 64) < i ∧ i < 2 ^ 64) ∨ (-(2 ^ 64) < j ∧ j < 2 ^ 64) then .ok (.int (i * j)) S else .stuck
  | _, _ => .stuck
theorem sim_imul : SimR K E (rI CMul fun i j => .int (i * j)) fIMul := by
  intro x y xv yv ι S H Q rl rx ry h
  cases rx with
  | int i =>
    cases ry with
    | int j =>
      have h' : PostV K E (if (-(2 ^ 64) < i ∧ i < 2 ^ 64) ∨ (-(2 ^ 64) < j ∧ j < 2 ^ 64) then Res.ok (.int (i * j)) S else .stuck) ι S.length H Q := h
      by_cases z : (-(2 ^ 64) < i ∧ i < 2 ^ 64) ∨ (-(2 ^ 64) < j ∧ j < 2 ^ 64)
      · rw [if_pos z] at h'
        exact ⟨i, j, rfl, rfl, z, PostV.now h' rl (.int _)⟩
      · rw [if_neg z] at h'
        exact h'.elim
    | _ => exact h.elim
  | _ => exact h.elim
end
theorem rep_dfl1 {K : PySem.W.Frag} {d : W} {a : Addr} (h : repB K d (.ref a) = true) : ∀ ι q H, Rep K ι q H d (.ref a) := fun ι q H => by
  cases rep_dfl h ι q H with
  | cons r _ => exact r
end Mm

/-! The mirror layer: walks over dicts, by pairs, keys, values: the dict is locked. -/
namespace Mm
open PySem PySem.Spec PyProof.Rows L2 Gc
section
variable {X : Cx}
/-- what comes out is locked, where it is wanted -/
def tLockR (t : TE) : TE := fun σ H Q => t σ H fun v H1 => Q v H1 ∨ ∃ d u, v = .ref d ∧ H1 d = some u ∧ Mut (some u) ∧ ∀ od, Q v (upd H1 d (.frz od u))
theorem pe_lockR {e : Expr} {t : TE} (h : PE X e t) : PE X e (tLockR t) := by
  refine ⟨fun pins s σ H Q I hw => thn (h.run pins s σ H _ I hw) fun v s1 ⟨x, H1, I1, r, q⟩ => ?_⟩
  rcases q with q | ⟨d, u, rfl, hd, mu, q⟩
  · exact ⟨x, H1, I1, r, q⟩
  · obtain ⟨od, I2⟩ := I1.lock hd mu
    exact ⟨_, _, I2, r, q od⟩
/-- entries of a locked dict with tuples as keys -/
theorem frzT2 {pins : List (Addr × Obj)} {σ : L2.St} {H : Hp} {s : Shared} {d : Addr} {o : Obj} {kvs : List (List Key × V)} (I : Inv X pins σ H s) (h : H d = some (.frz o (.dT kvs))) :
    (d == sysModules) = false ∧ s.heap.get? d = some o ∧ o.ExactDict ∧ ∃ (es : Array DictEntry) (ep : Nat), o.data = .dict es ep ∧ es.size = kvs.length ∧
      ∀ (i : Nat) (k : List Key) (v : V), kvs[i]? = some (k, v) → ∃ (en : DictEntry) (q : Addr), es[i]? = some en ∧ en.key = .ref q ∧ H q = some (.tup (k.map kV)) ∧ RelV v en.val := by
  rcases I.hok d _ h with ⟨here, -, mods, xs, pr, o', es, ep, at', ex, dat, ent, -⟩
  obtain rfl : o = o' := Option.some.inj (here.symm.trans at')
  refine ⟨mods, here, ex, es, ep, dat, (size_of_entries ent).trans (Paired.length pr).symm, ?_⟩
  intro i k v e
  have ⟨b, hb, _, e2, e3⟩ := paired_get pr e
  exact ⟨_, b.2.1, (entry_at ent i).trans (by rw [hb]; rfl), rfl, e2, e3⟩
/-- the pairs of a locked dict with tuples as keys, each a new tuple -/
def ItiT (d : Addr) (o : Obj) (kvs : List (List Key × V)) : It :=
  ⟨fun i H => H d = some (.frz o (.dT kvs)) ∧ i < kvs.length, fun i H x H' => ∃ T k v q, kvs[i]? = some (k, v) ∧ H q = some (.tup (k.map kV)) ∧ x = .ref T ∧ H T = none ∧ H' = upd H T (.tup [.ref q, v]), fun i H => H d = some (.frz o (.dT kvs)) ∧ kvs.length ≤ i⟩
theorem turn_itemsT {P : Program} {w : World} {K : PySem.W.Frag} {d : Addr} {o : Obj} {es : Array DictEntry} {ep : Nat} {kvs : List (List Key × V)} {elts : List Expr} {kk : Nat} {tpos : Pos} (it : Addr) (hod : o.data = .dict es ep) :
    Turn P w K (.Tuple elts kk tpos) (ItiT d o kvs) [it] it (fun i h => ∃ ok ov, h.get? it = some (DVw.itmOb d .none i kvs.length ep ok ov)) where
  mem := .head _
  obj := by
    rintro i h ⟨ok, ov, at_⟩ b hb
    rw [List.mem_singleton.1 hb]
    exact ⟨_, at_, nofun⟩
  keep := by
    rintro i h h' ⟨ok, ov, at_⟩ kp
    exact ⟨ok, ov, kp it (.head _) _ at_⟩
  item := by
    rintro X rfl rfl rfl calm i pins s σ H E I own ⟨ok, ov, at_⟩ ⟨hd, lt⟩
    obtain ⟨-, here, -, es', ep', dat, cnt, ent⟩ := frzT2 I hd
    obtain ⟨rfl, rfl⟩ := dict_ep hod dat
    have nth : kvs[i]? = some (kvs[i].1, kvs[i].2) := List.getElem?_eq_getElem lt
    obtain ⟨en, q, en_at, key, tq, rv⟩ := ent i _ _ nth
    have below : it < s.heap.objs.size := Heap.lt_size at_
    apply DVw.itm_item at_ here dat cnt en_at
    intro h1 own1 tup1 _ oth1
    refine ⟨_, rfl, ?_⟩
    apply wpAny_letOwnedTupleGo_items (s := { s with heap := h1 }) (d := d) (i := i + 1) (n := kvs.length) (ep := ep') (ok := en.key) (ov := en.val) own1
    intro h2 own2 sb
    have tup2 : h2.get? s.heap.objs.size = some { cls := .type "tuple", data := .seq #[en.key, en.val] } := by
      rw [← tup1]; exact sb.2 _ (Nat.ne_of_gt below)
    have oth2 : ∀ b ob, b ∉ [it] → s.heap.get? b = some ob → h2.get? b = some ob := fun b ob nb e => by
      rw [List.mem_singleton] at nb
      rw [← oth1 b ob nb e]; exact sb.2 b nb
    have pairOk : ObjOk X.prog X.w (upd H s.heap.objs.size (.tup [.ref q, kvs[i].2])) h2 s.heap.objs.size (.tup [.ref q, kvs[i].2]) :=
      ⟨(by decide : 2 ≤ sizeLine), [en.key, en.val], .cons key (.cons rv .nil), ⟨_, tup2, rfl, _, rfl⟩⟩
    refine ⟨.ref s.heap.objs.size, _, I.turnedNew (t' := s.toks) (ch := [it]) oth2 own (Nat.le_refl _) pairOk, rfl, ⟨_, _, _, q, nth, tq, rfl, I.hok.fresh (Nat.le_refl _), rfl⟩, ⟨_, _, own2⟩, ?_⟩
    intro b hb
    obtain rfl := List.mem_singleton.1 hb
    exact (upd_ne (Nat.ne_of_lt below)).trans (own b hb).1
  done := by
    rintro X rfl rfl rfl calm i pins s σ H E I own ⟨ok, ov, at_⟩ ⟨hd, le⟩
    obtain ⟨-, here, -, es', ep', dat, cnt, -⟩ := frzT2 I hd
    obtain ⟨rfl, rfl⟩ := dict_ep hod dat
    apply DVw.itm_end (I.ok.hd calm) at_ here dat cnt (Array.getElem?_eq_none (cnt ▸ le))
    intro h' eb
    have ⟨p0, p1, _, p3, p4, p5⟩ := own it (.head _)
    exact ⟨rfl, I.turned (t' := s.toks) eb p0 p1 p3 p4 p5⟩
  self := by
    rintro A i s Q E ⟨_, _, at_⟩ go
    exact PySem.W.kcp_self at_ go
variable {e : Expr} {td : TE} {apos cpos : Pos}
def iItemsT (td : TE) : TI := fun σ H R => td σ H fun x H1 => ∃ d o kvs, x = .ref d ∧ H1 d = some (.frz o (.dT kvs)) ∧ R (ItiT d o kvs) H1
theorem pi_itemsT {elts : List Expr} {kk : Nat} {tpos : Pos} (he : PE X e td) (hbase : attributeBase e "items" X.env (eval e X.env) = eval e X.env := by rfl) (hline : (apos.endLine == cpos.line) = true := by rfl) :
    PI X (.Tuple elts kk tpos) (.Call (.Attribute e "items" apos) [] [] cpos) (iItemsT td) := by
  constructor
  intro pins s σ H R I h
  apply wpAny_Call_method (T := "dict") (id := "dict.items") hbase rfl hline F.plainAttrs_dict F.slot_dict_items F.type_dict_items
  apply thn (he.run pins s σ H _ I h)
  rintro u s1 ⟨x, H1, I1, rx, d, o, kvs, rfl, hd, q⟩
  obtain rfl : u = Value.ref d := rx
  obtain ⟨mods, here, ex, es, ep, dat, cnt, -⟩ := frzT2 I1 hd
  have raw : DT.Raw s1.heap d es ep := ⟨o, here, ex, dat⟩
  refine ⟨raw.typeIs, ?_, ?_⟩
  · rintro a ⟨⟩
    exact ⟨o, here, ex.2.1⟩
  apply method_meetsIn (pos := cpos) F.slot_dict_items F.entry_dict_items rfl
  refine PySem.evalArgs_none ⟨rfl, raw.typeIs, F.args_dict_items_1 _, _, DT.meetsItems (es := es) (ep := ep) mods, raw, ?_⟩
  generalize hw : s1.heap.push { cls := .type "dict_items", data := .fields #[.ref d] } = hv
  have old : ∀ b ob, s1.heap.get? b = some ob → hv.get? b = some ob := fun b ob e => hw ▸ Heap.get?_push_of_some _ e
  have I2 : Inv X pins σ H1 { s1 with heap := hv } := I1.kept (t' := s1.toks) old
  apply DSub.iter_itms (s := { s1 with heap := hv }) (es := es) (ep := ep) (a := d) (hw ▸ Heap.get?_push_size _ rfl) (old _ _ here) dat
  exact pi_one (tk := s1.toks) I2 _ (turn_itemsT _ dat) ⟨.none, .none, cnt ▸ Heap.get?_push_size _ rfl⟩ q
end
/-! ### the mirrors -/
def keyV : Key → W
  | .inl i => .int i
  | .inr x => .str x
def pairsD : Dk → List W
  | .K ks ws => (ks.zip ws).map fun p => .tup [keyV p.1, p.2]
  | .T ks ws => (ks.zip ws).map fun p => .tup [.tup (p.1.map keyV), p.2]
/-- the store, a dict of it locked -/
def lockS (S : Sto) : W → Sto
  | .loc l => match S[l]? with
    | some (.dct ks ws) => S.set l (.dctL ks ws)
    | some (.dcT ks ws) => S.set l (.dcTL ks ws)
    | _ => S
  | _ => S
def mItems (c : MV) : MW (List W) := mBind c fun w => fun _ S => match dicO S w with
  | some d => .ok (pairsD d) (lockS S w)
  | none => .stuck
section
variable {K : PySem.W.Frag} {ι : Im} {n : Nat} {S : Sto} {H : Hp} {E : XK}
theorem rep_key {k : Key} : Rep K ι n H (keyV k) (kV k) := by
  cases k with
  | inl i => exact .int i
  | inr x => exact .str x
theorem reps_keys : ∀ {ks : List Key}, Reps K ι n H (ks.map keyV) (ks.map kV)
  | [] => .nil
  | k :: ks => .cons rep_key reps_keys
/-- locking what stands still -/
theorem ext_lock (rl : Rl K ι S H) {a : Addr} {u : HO} {od : Obj} (hu : isD u = true) (h : H a = some u) (hn : ∀ l, l < S.length → ι l ≠ a) (hm : a ∉ ι.mu) : Ext ι S.length H ι S.length (upd H a (.frz od u)) ∧ Rl K ι S (upd H a (.frz od u)) := by
  have ex : Ext ι S.length H ι S.length (upd H a (.frz od u)) := by
    refine ⟨⟨Nat.le_refl _, fun _ _ => rfl, fun b o z => ⟨?_, z.ne, z.mu⟩, fun b o' u' z => ?_⟩, rfl, fun b hb => upd_ne fun e => hm (e ▸ hb)⟩
    · by_cases e : b = a
      · subst e
        rcases z.hd with q | ⟨q1, od', q⟩
        · rw [h] at q; cases q
          exact .inr ⟨hu, od, upd_same⟩
        · rw [h] at q; cases q
          cases hu
      · exact z.hd.same (upd_ne e)
    · rw [upd_ne (show b ≠ a from fun e => by rw [e, h] at z; cases z; cases hu)]
      exact z
  refine ⟨ex, rl.inj, fun l o e => (rl.obj l o e).mono ex (upd_ne (hn l (List.getElem?_eq_some_iff.mp e).1)), fun b hb => ?_, rl.mn⟩
  obtain ⟨o, q, nt⟩ := rl.mu b hb
  exact ⟨o, by rw [upd_ne (show b ≠ a from fun e => hm (e ▸ hb))]; exact q, nt⟩
theorem mut_d {u : HO} (h : isD u = true) : Mut (some u) := by
  cases u <;> first | trivial | (cases h; done)
/-- a dict is locked: what is then the case -/
theorem lock_ok (rl : Rl K ι S H) {w : W} {v : V} {d : Dk} (e : dicO S w = some d) (r : Rep K ι S.length H w v) : ∃ a u, v = .ref a ∧ isD u = true ∧ (∃ xs, (match d with
      | .K ks ws => u = .dK (ks.zip xs) ∧ ks.length = ws.length ∧ Reps K ι S.length H ws xs
      | .T ks ws => u = .dT (ks.zip xs) ∧ ks.length = ws.length ∧ Reps K ι S.length H ws xs)) ∧
    ((∃ od, H a = some (.frz od u) ∧ lockS S w = S) ∨ (H a = some u ∧ ∀ od, Ext ι S.length H ι (lockS S w).length (upd H a (.frz od u)) ∧ Rl K ι (lockS S w) (upd H a (.frz od u)))) := by
  cases r with
  | @dct ks ws a xs h hl r =>
    cases e
    refine ⟨a, _, rfl, rfl, ⟨xs, rfl, hl, r⟩, ?_⟩
    rcases h.hd with q | ⟨_, od, q⟩
    · exact .inr ⟨q, fun od => ext_lock rl rfl q h.ne h.mu⟩
    · exact .inl ⟨od, q, rfl⟩
  | @dcT ks ws a xs h hl r =>
    cases e
    refine ⟨a, _, rfl, rfl, ⟨xs, rfl, hl, r⟩, ?_⟩
    rcases h.hd with q | ⟨_, od, q⟩
    · exact .inr ⟨q, fun od => ext_lock rl rfl q h.ne h.mu⟩
    · exact .inl ⟨od, q, rfl⟩
  | @loc l hl =>
    have e' : (match S[l]? with
      | some (O.dct ks ws) => some (Dk.K ks ws)
      | some (O.dcT ks ws) => some (Dk.T ks ws)
      | some (O.dctL ks ws) => some (Dk.K ks ws)
      | some (O.dcTL ks ws) => some (Dk.T ks ws)
      | _ => none) = some d := e
    split at e'
    · rename_i ks ws q
      cases e'
      obtain ⟨xs, g1, g2, g3⟩ := rl.obj l _ q
      have el : lockS S (.loc l) = S.set l (.dctL ks ws) := by unfold lockS; simp only [q]
      refine ⟨_, _, rfl, rfl, ⟨xs, rfl, g2, g3⟩, .inr ⟨g1, fun od => ?_⟩⟩
      have ex := Ext.set (o := .frz od (.dK (ks.zip xs))) rl hl (nofz g1)
      rw [el, List.length_set]
      exact ⟨ex, rl.set hl (nofz g1) ⟨xs, od, upd_same, g2, g3.mono ex⟩⟩
    · rename_i ks ws q
      cases e'
      obtain ⟨xs, g1, g2, g3⟩ := rl.obj l _ q
      have el : lockS S (.loc l) = S.set l (.dcTL ks ws) := by unfold lockS; simp only [q]
      refine ⟨_, _, rfl, rfl, ⟨xs, rfl, g2, g3⟩, .inr ⟨g1, fun od => ?_⟩⟩
      have ex := Ext.set (o := .frz od (.dT (ks.zip xs))) rl hl (nofz g1)
      rw [el, List.length_set]
      exact ⟨ex, rl.set hl (nofz g1) ⟨xs, od, upd_same, g2, g3.mono ex⟩⟩
    · rename_i ks ws q
      cases e'
      obtain ⟨xs, od, g1, g2, g3⟩ := rl.obj l _ q
      have el : lockS S (.loc l) = S := by unfold lockS; simp only [q]
      exact ⟨_, _, rfl, rfl, ⟨xs, rfl, g2, g3⟩, .inl ⟨od, g1, el⟩⟩
    · rename_i ks ws q
      cases e'
      obtain ⟨xs, od, g1, g2, g3⟩ := rl.obj l _ q
      have el : lockS S (.loc l) = S := by unfold lockS; simp only [q]
      exact ⟨_, _, rfl, rfl, ⟨xs, rfl, g2, g3⟩, .inl ⟨od, g1, el⟩⟩
    · cases e'
  | _ => cases e
theorem zipR_get {κ : Type} {f : κ → W → W} : ∀ {ks : List κ} {ws : List W} {xs : List V} {i : Nat} {w : W}, Reps K ι n H ws xs → ((ks.zip ws).map fun p => f p.1 p.2)[i]? = some w → ∃ k x v, w = f k x ∧ (ks.zip xs)[i]? = some (k, v) ∧ Rep K ι n H x v
  | [], ws, xs, i, w, r, h => by simp at h
  | k :: ks, [], xs, i, w, r, h => by simp at h
  | k :: ks, x :: ws, _, 0, w, .cons a r, h => by
    simp at h
    exact ⟨k, x, _, h.symm, rfl, a⟩
  | k :: ks, x :: ws, _, i + 1, w, .cons a r, h => by
    exact zipR_get (ks := ks) (i := i) r (by simpa using h)
theorem yl_items {a : Addr} {od : Obj} {ks : List Key} {ws : List W} {xs : List V} (hz : H a = some (.frz od (.dK (ks.zip xs)))) (hl : ks.length = ws.length) (r : Reps K ι n H ws xs) : Yl K (Iti a od (ks.zip xs)) (pairsD (.K ks ws)) ι n H := by
  intro ι1 S1 H1 e1 rl1
  have q := e1.fr _ _ _ hz
  have r1 := r.mv e1
  refine ⟨⟨q, by show (ks.zip xs).length ≤ ((ks.zip ws).map _).length; rw [List.length_map, List.length_zip, List.length_zip, ← r.length]; exact Nat.le_refl _⟩, fun i w hw => ?_⟩
  obtain ⟨k, x, v, rfl, hv, rx⟩ := zipR_get (f := fun k x => W.tup [keyV k, x]) r1 hw
  refine ⟨⟨q, (List.getElem?_eq_some_iff.mp hv).1⟩, fun z H' hy => ?_⟩
  obtain ⟨T, k', v', e1', rfl, hT, rfl⟩ := hy
  rw [hv] at e1'
  cases e1'
  have ex := Ext.new (o := .tup [kV k, v]) rl1 hT
  exact ⟨ex, rl1.new hT, .tup (Fz.new rl1 hT) (.cons rep_key (.cons (rx.mono ex) .nil))⟩
theorem yl_itemsT {a : Addr} {od : Obj} {ks : List (List Key)} {ws : List W} {xs : List V} (hz : H a = some (.frz od (.dT (ks.zip xs)))) (hl : ks.length = ws.length) (r : Reps K ι n H ws xs) : Yl K (ItiT a od (ks.zip xs)) (pairsD (.T ks ws)) ι n H := by
  intro ι1 S1 H1 e1 rl1
  have q := e1.fr _ _ _ hz
  have r1 := r.mv e1
  refine ⟨⟨q, by show (ks.zip xs).length ≤ ((ks.zip ws).map _).length; rw [List.length_map, List.length_zip, List.length_zip, ← r.length]; exact Nat.le_refl _⟩, fun i w hw => ?_⟩
  obtain ⟨k, x, v, rfl, hv, rx⟩ := zipR_get (f := fun (k : List Key) x => W.tup [.tup (k.map keyV), x]) r1 hw
  refine ⟨⟨q, (List.getElem?_eq_some_iff.mp hv).1⟩, fun z H' hy => ?_⟩
  obtain ⟨T, k', v', qa, e1', hq, rfl, hT, rfl⟩ := hy
  rw [hv] at e1'
  cases e1'
  have ex := Ext.new (o := .tup [.ref qa, v]) rl1 hT
  have rk : Rep K ι1 S1.length H1 (.tup (k.map keyV)) (.ref qa) := .tup (fzT_of rl1 hq) reps_keys
  exact ⟨ex, rl1.new hT, .tup (Fz.new rl1 hT) (.cons (rk.mono ex) (.cons (rx.mono ex) .nil))⟩
end
section
variable {X : Cx} {E : XK} {e : Expr} {c : MV} {apos cpos : Pos}
theorem ci_items {elts : List Expr} {kk : Nat} {tpos : Pos} (he : CE X E e c) (hbase : attributeBase e "items" X.env (eval e X.env) = eval e X.env := by rfl) (hline : (apos.endLine == cpos.line) = true := by rfl) :
    CI X E (.Tuple elts kk tpos) (.Call (.Attribute e "items" apos) [] [] cpos) (mItems c) := by
  refine PI.weak (PI.or (pi_items (pe_lockR he) hbase hline) (pi_itemsT (pe_lockR he) hbase hline)) fun σ H R ⟨ρ, ι, S, re, rl, h⟩ => ?_
  unfold mItems mBind at h
  cases q : c ρ S with
  | stuck => rw [q] at h; exact h.elim
  | err x S1 =>
    rw [q] at h
    refine .inl ⟨ρ, ι, S, re, rl, ?_⟩
    rw [q]
    exact h
  | ok w S1 =>
    rw [q] at h
    simp only at h
    cases qd : dicO S1 w with
    | none => rw [qd] at h; exact h.elim
    | some d =>
      rw [qd] at h
      cases d with
      | K ks ws =>
        refine .inl ⟨ρ, ι, S, re, rl, ?_⟩
        rw [q]
        intro ι1 H1 e1 rl1 v rv
        obtain ⟨a, u, rfl, hu, ⟨xs, eu, hl, r⟩, z⟩ := lock_ok rl1 qd rv
        subst eu
        rcases z with ⟨od, g1, g2⟩ | ⟨g1, g2⟩
        · left
          have h2 := h ι1 H1 (by rw [g2]; exact e1) (by rw [g2]; exact rl1)
          rw [g2] at h2
          exact ⟨a, od, _, rfl, g1, h2 _ (yl_items g1 hl r)⟩
        · right
          refine ⟨a, _, rfl, g1, mut_d rfl, fun od => ?_⟩
          obtain ⟨ex, rl2⟩ := g2 od
          exact ⟨a, od, _, rfl, upd_same, h ι1 _ (e1.trans ex) rl2 _ (yl_items upd_same hl (r.mono ex))⟩
      | T ks ws =>
        refine .inr ⟨ρ, ι, S, re, rl, ?_⟩
        rw [q]
        intro ι1 H1 e1 rl1 v rv
        obtain ⟨a, u, rfl, hu, ⟨xs, eu, hl, r⟩, z⟩ := lock_ok rl1 qd rv
        subst eu
        rcases z with ⟨od, g1, g2⟩ | ⟨g1, g2⟩
        · left
          have h2 := h ι1 H1 (by rw [g2]; exact e1) (by rw [g2]; exact rl1)
          rw [g2] at h2
          exact ⟨a, od, _, rfl, g1, h2 _ (yl_itemsT g1 hl r)⟩
        · right
          refine ⟨a, _, rfl, g1, mut_d rfl, fun od => ?_⟩
          obtain ⟨ex, rl2⟩ := g2 od
          exact ⟨a, od, _, rfl, upd_same, h ι1 _ (e1.trans ex) rl2 _ (yl_itemsT upd_same hl (r.mono ex))⟩
end
end Mm

/-! The mirror layer: walks over what is read item by item as it stands (zip, enumerate over lists of the store). -/
namespace Mm
open PySem PySem.Spec PyProof.Rows L2 Gc
/-- the item at a place: none is stuck, some none the end -/
abbrev Rdr := Sto → Nat → Option (Option W)
def mLoopJ (g : MG) (b : MS) (rd : Rdr) : Nat → Nat → MS
  | 0, _ => fun _ _ => .stuck
  | n + 1, i => fun ρ S => match rd S i with
    | none => .stuck
    | some none => .ok (.next, ρ) S
    | some (some w) => (match mThen (g w) b ρ S with
      | .stuck => .stuck
      | .err x S' => .err x S'
      | .ok (.next, ρ') S' => mLoopJ g b rd n (i + 1) ρ' S'
      | .ok (.cont, ρ') S' => mLoopJ g b rd n (i + 1) ρ' S'
      | .ok (.brk, ρ') S' => .ok (.next, ρ') S'
      | .ok (.ret w, ρ') S' => .ok (.ret w, ρ') S')
def mForJ (n : Nat) (c : MW Rdr) (g : MG) (b : MS) : MS := mBind c fun rd => mLoopJ g b rd n 0
def gLoopJ {α : Type} (g : MG) (t : MW Bool) (mp : α → MW α) (ρ : Env) (rd : Rdr) : Nat → Nat → α → Sto → Res α
  | 0, _, _, _ => .stuck
  | n + 1, i, acc, S => match rd S i with
    | none => .stuck
    | some none => .ok acc S
    | some (some w) => (match mThen (g w) (mBind t fun b => if b = true then mp acc else fun _ S => .ok acc S) ρ S with
      | .ok acc' S' => gLoopJ g t mp ρ rd n (i + 1) acc' S'
      | _ => .stuck)
def mInJ {α : Type} (n : Nat) (vs : List Nat) (c : MW Rdr) (g : MG) (t : MW Bool) (mp : α → MW α) : α → MW α := fun acc => mBind c fun rd => fun ρ S => gLoopJ g t mp (wipeE ρ vs) rd n 0 acc S
def mGJ {α : Type} (n : Nat) (vs : List Nat) (c : MW Rdr) (g : MG) (t : MW Bool) (mp : α → MW α) (a0 : α) (fin : α → Sto → Res W) : MV := mBind (mInJ n vs c g t mp a0) fun acc => fun _ S => fin acc S
/-- J gives what is read -/
def RdAt (K : PySem.W.Frag) (J : It) (ι : Im) (S : Sto) (H : Hp) (i : Nat) : Option W → Prop
  | none => J.stop i H
  | some w => J.go i H ∧ ∀ x H', J.yld i H x H' → Ext ι S.length H ι S.length H' ∧ Rl K ι S H' ∧ Rep K ι S.length H' w x
def RdOk (K : PySem.W.Frag) (J : It) (rd : Rdr) (ι0 : Im) (n0 : Nat) (H0 : Hp) : Prop := ∀ (ι : Im) (S : Sto) (H : Hp), Mv ι0 n0 H0 ι S.length H → Rl K ι S H → ∀ i o, rd S i = some o → RdAt K J ι S H i o
def tOfJ (K : PySem.W.Frag) (E : XK) (c : MW Rdr) : TI := fun σ H R => ∃ ρ ι S, RE K ι S.length H ρ σ ∧ Rl K ι S H ∧ Post K E (c ρ S) ι S.length H fun rd S' ι' H' => ∀ J, RdOk K J rd ι' S'.length H' → R J H'
abbrev CJ (X : Cx) (E : XK) (tg iter : Expr) (c : MW Rdr) : Prop := PI X tg iter (tOfJ X.K E c)
section
variable {K : PySem.W.Frag} {ι : Im} {S : Sto} {H : Hp} {X : Cx} {E : XK} {e : Expr} {c : MW Rdr}
theorem sim_forJ {n : Nat} {g : MG} {b : MS} {D : Ends} {σ : L2.St} {H : Hp} (h : tOfS K E (mForJ n c g b) D σ H) : tFor (tOfJ K E c) (tOfG K E g) (tOfS K E b) D σ H := by
  obtain ⟨ρ, ι, S, re, rl, h⟩ := h
  refine ⟨ρ, ι, S, re, rl, (Post.bind h).mono fun rd S1 ι1 H1 e1 rl1 h1 J hJ => ?_⟩
  refine ⟨fun i m σ H => ∃ ρ ι S, RE K ι S.length H ρ σ ∧ Rl K ι S H ∧ Ext ι1 S1.length H1 ι S.length H ∧ Post K E (mLoopJ g b rd m i ρ S) ι S.length H (flowOk K D), ⟨n, ρ, ι1, S1, re.mono e1, rl1, Ext.refl, h1⟩, ?_⟩
  rintro i m σ2 H2 ⟨ρ2, ι2, S2, re2, rl2, e2, h2⟩
  cases m with
  | zero => exact h2.elim
  | succ m =>
    unfold mLoopJ at h2
    cases q : rd S2 i with
    | none => rw [q] at h2; exact h2.elim
    | some o =>
      rw [q] at h2
      have ho := hJ ι2 S2 H2 e2.toMv rl2 i o q
      cases o with
      | none =>
        left
        exact ⟨ho, h2 ι2 H2 Ext.refl rl2 σ2 re2⟩
      | some w =>
        right
        obtain ⟨go, yl⟩ := ho
        refine ⟨go, fun σ' H' => ∃ ρ ι S, RE K ι S.length H' ρ σ' ∧ Rl K ι S H' ∧ Ext ι1 S1.length H1 ι S.length H' ∧ Post K E (mLoopJ g b rd m (i + 1) ρ S) ι S.length H' (flowOk K D), ?_, ?_⟩
        · rintro σ' H' ⟨ρ3, ι3, S3, re3, rl3, e3, h3⟩
          exact ⟨m, Nat.lt_succ_self m, ρ3, ι3, S3, re3, rl3, e3, h3⟩
        · intro x H3 hy
          obtain ⟨e3, rl3, rx⟩ := yl x H3 hy
          have h2 := Post.from h2 e3
          refine ⟨w, ρ2, ι2, S2, rx, re2.mono e3, rl3, ?_⟩
          simp only at h2
          unfold mThen at h2
          cases q : g w ρ2 S2 with
          | stuck => rw [q] at h2; exact h2
          | err y S' => rw [q] at h2; exact h2
          | ok ρ4 S4 =>
            rw [q] at h2
            intro ι4 H4 e4 rl4 σ4 re4
            refine ⟨ρ4, ι4, S4, re4, rl4, ?_⟩
            cases q2 : b ρ4 S4 with
            | stuck => simp only [q2] at h2; exact h2
            | err y S' => simp only [q2] at h2; exact Post.from (r := Res.err y S') h2 e4
            | ok p S5 =>
              obtain ⟨f, ρ5⟩ := p
              cases f with
              | next =>
                simp only [q2] at h2
                exact fun ι5 H5 e5 rl5 σ5 re5 => ⟨ρ5, ι5, S5, re5, rl5, ((e2.trans e3).trans e4).trans e5, Post.from h2 (e4.trans e5)⟩
              | cont =>
                simp only [q2] at h2
                exact fun ι5 H5 e5 rl5 σ5 re5 => ⟨ρ5, ι5, S5, re5, rl5, ((e2.trans e3).trans e4).trans e5, Post.from h2 (e4.trans e5)⟩
              | brk =>
                simp only [q2] at h2
                exact fun ι5 H5 e5 rl5 σ5 re5 => h2 ι5 H5 (e4.trans e5) rl5 σ5 re5
              | ret u =>
                simp only [q2] at h2
                exact fun ι5 H5 e5 rl5 σ5 re5 => h2 ι5 H5 (e4.trans e5) rl5 σ5 re5
theorem cs_forJ {n : Nat} {tg iter : Expr} {body : List Stmt} {g : MG} {b : MS} {pos : Pos} (hp : PassesOwn (model X.prog X.w) X.A X.env X.xe) (hc : X.calm = true) (hi : CJ X E tg iter c) (hg : CG X E tg g) (hb : CSs X E body b)
    (hs : ∀ x, foldedSetIterable iter X.env x = pure x := by intro _; rfl) : CS X E (.For tg iter body [] pos) (mForJ n c g b) := PS.weak (ps_for hp hc hi hg hb hs) fun D σ H h => sim_forJ h
theorem gc_loopJ {α : Type} {AR : ARel α} {K : PySem.W.Frag} {ι1 : Im} {n1 : Nat} {H1 : Hp} {D : Addr} {ρ : Env} {σ σ0 : L2.St} {acc : α} {ι : Im} {S : Sto} {H : Hp} {g : MG} {t : MW Bool} {mp : α → MW α} {tp : PutT} {vs : List Nat} {rd : Rdr} {J : It} {n : Nat} {Nx : Hp → Prop} {P : α → Sto → Prop} (hA : ARmv AR) (hs : SimPut K AR tp mp) (hD : D ∉ ι1.mu) (hσ : σ = L2.wipe σ0 vs)
    (b0 : Blk K AR ι1 n1 H1 D ρ σ acc ι S H) (hJ : RdOk K J rd ι S.length H) (hp : okRes (gLoopJ g t mp ρ rd n 0 acc S) P) (fin : ∀ acc' ι' S' H', Blk K AR ι1 n1 H1 D ρ σ acc' ι' S' H' → Mv ι S.length H ι' S'.length H' → P acc' S' → Nx H') :
    ∃ W1 : Nat → Nat → Hp → Prop, (∃ m, W1 0 m H) ∧ ∀ j k H', W1 j k H' → (J.stop j H' ∧ Nx H') ∨ (J.go j H' ∧ ∃ Nx1 : Hp → Prop, (∀ H2, Nx1 H2 → ∃ k', k' < k ∧ W1 (j + 1) k' H2) ∧ ∀ x H2, J.yld j H' x H2 →
      tOfGw K E0 vs g x σ H2 fun σ3 H5 => L2.wipe σ3 vs = σ ∧ tOfB K E0 t σ3 H5 fun c H6 => if c = true then tp D σ3 H6 Nx1 else Nx1 H6) := by
  refine ⟨fun j k H' => ∃ ι' S' acc', Blk K AR ι1 n1 H1 D ρ σ acc' ι' S' H' ∧ Mv ι S.length H ι' S'.length H' ∧ okRes (gLoopJ g t mp ρ rd k j acc' S') P, ⟨n, ι, S, acc, b0, Mv.refl, hp⟩, ?_⟩
  rintro j k H2 ⟨ι2, S2, acc2, b2, m2, p2⟩
  cases k with
  | zero => exact p2.elim
  | succ k =>
    unfold gLoopJ at p2
    cases q : rd S2 j with
    | none => rw [q] at p2; exact p2.elim
    | some o =>
      rw [q] at p2
      have ho := hJ ι2 S2 H2 m2 b2.rl j o q
      cases o with
      | none =>
        left
        exact ⟨ho, fin acc2 ι2 S2 H2 b2 m2 p2⟩
      | some w =>
        right
        obtain ⟨go, yl⟩ := ho
        refine ⟨go, fun H' => ∃ ι' S' acc', Blk K AR ι1 n1 H1 D ρ σ acc' ι' S' H' ∧ Mv ι S.length H ι' S'.length H' ∧ okRes (gLoopJ g t mp ρ rd k (j + 1) acc' S') P, ?_, ?_⟩
        · rintro H' ⟨ι', S', acc', c1, c2, c3⟩
          exact ⟨k, Nat.lt_succ_self k, ι', S', acc', c1, c2, c3⟩
        · intro x H3 hy
          obtain ⟨e3, rl3, rx⟩ := yl x H3 hy
          have b3 := b2.go hA e3 rl3
          have m3 := m2.trans e3.toMv
          have p3 : okRes (mThen (g w) (mBind t fun b => if b = true then mp acc2 else fun _ S => .ok acc2 S) ρ S2) fun acc' S' => okRes (gLoopJ g t mp ρ rd k (j + 1) acc' S') P := by
            simp only at p2
            cases q : mThen (g w) (mBind t fun b => if b = true then mp acc2 else fun _ S => .ok acc2 S) ρ S2 with
            | ok a S' => rw [q] at p2; exact p2
            | _ => rw [q] at p2; exact p2.elim
          refine ⟨w, ρ, ι2, S2, rx, b3.re, b3.rl, p3.then.post fun ρ4 S4 ι4 H4 e4 rl4 p4 σ4 re4 hw4 => ?_⟩
          have b4 := b3.go hA e4 rl4
          have m4 := m3.trans e4.toMv
          refine ⟨hw4.trans (by rw [hσ]; exact wipe_again σ0 vs), ρ4, ι4, S4, re4, rl4, p4.bind.post fun c S5 ι5 H5 e5 rl5 p5 => ?_⟩
          have b5 := b4.go hA e5 rl5
          have m5 := m4.trans e5.toMv
          cases c with
          | false =>
            simp only [Bool.false_eq_true, if_false] at p5 ⊢
            exact ⟨ι5, S5, acc2, b5, m5, p5⟩
          | true =>
            simp only [if_true] at p5 ⊢
            refine hs ι1 n1 H1 D ρ4 σ4 acc2 ι5 S5 H5 _ _ hD (b5.slots (re4.mono e5)) p5 fun acc' ι' S' H' bb mm pp => ?_
            exact ⟨ι', S', acc', bb.slots (b5.re.mv mm), m5.trans mm, pp⟩
theorem gJ_noerr {α : Type} {g : MG} {t : MW Bool} {mp : α → MW α} {ρ : Env} {rd : Rdr} {x : Xn} {S2 : Sto} : ∀ (n i : Nat) (acc : α) (T : Sto), gLoopJ g t mp ρ rd n i acc T ≠ .err x S2
  | 0, _, _, _, z => by cases z
  | n + 1, i, acc, T, z => by
    unfold gLoopJ at z
    split at z
    · cases z
    · cases z
    · split at z
      · exact gJ_noerr n _ _ _ z
      · cases z
theorem RdOk.mv {J : It} {rd : Rdr} {ι1 ι2 : Im} {n1 n2 : Nat} {H1 H2 : Hp} (h : RdOk K J rd ι1 n1 H1) (m : Mv ι1 n1 H1 ι2 n2 H2) : RdOk K J rd ι2 n2 H2 := fun ι S H e rl => h ι S H (m.trans e) rl
theorem sim_gJ {α : Type} {AR : ARel α} {K : PySem.W.Frag} {E : XK} {tp : PutT} {mp : α → MW α} {c : MW Rdr} {g : MG} {t : MW Bool} {vs : List Nat} {a0 : α} {A0 : Addr → HO} {fin : α → Sto → Res W} {τ : VK → VK} {n : Nat} (hA : ARmv AR) (hs : SimPut K AR tp mp) (h0 : ∀ ι n H D, AR a0 ι n (upd H D (A0 D)) D) (nt : ∀ D, noTup (A0 D)) (hf : FinOk K E AR fin τ) {σ : L2.St} {H : Hp} {Q : VK}
    (h : tOf K E (mGJ n vs c g t mp a0 fin) σ H Q) : tG1 A0 tp (tOfJ K E c) (tOfGw K E0 vs g) (tOfB K E0 t) vs σ H (τ Q) := by
  obtain ⟨ρ, ι, S, re, rl, h⟩ := h
  have h' : Post K E (mBind c (fun rd => fun ρ S => match gLoopJ g t mp (wipeE ρ vs) rd n 0 a0 S with
        | .ok acc S' => fin acc S'
        | _ => .stuck) ρ S) ι S.length H (fun w S' ι' H' => ∀ v, Rep K ι' S'.length H' w v → Q v H') := by
    unfold mGJ mInJ mBind at h
    unfold mBind
    cases q : c ρ S with
    | stuck => rw [q] at h; exact h
    | err x S1 => rw [q] at h; exact h
    | ok rd S1 =>
      rw [q] at h
      simp only at h ⊢
      cases q2 : gLoopJ g t mp (wipeE ρ vs) rd n 0 a0 S1 with
      | ok acc S2 => rw [q2] at h; exact h
      | stuck => rw [q2] at h; exact h
      | err x S2 => exact absurd q2 (gJ_noerr _ _ _ _)
  refine ⟨ρ, ι, S, re, rl, (Post.bind h').mono fun rd S1 ι1 H1 e1 rl1 h1 J hJ D hD => ?_⟩
  have hp : okRes (gLoopJ g t mp (wipeE ρ vs) rd n 0 a0 S1) fun acc S2 => PostV K E (fin acc S2) ι1 S1.length H1 Q := by
    cases q : gLoopJ g t mp (wipeE ρ vs) rd n 0 a0 S1 with
    | ok acc S2 => simp only [q] at h1; exact h1
    | stuck => simp only [q] at h1; exact h1.elim
    | err x S2 => simp only [q] at h1; exact h1.elim
  obtain ⟨mv0, rl0⟩ := enter (o := A0 D) rl1 hD (nt D)
  have hDm : D ∉ ι1.mu := rl1.nmu hD
  have b0 : Blk K AR ι1 S1.length H1 D (wipeE ρ vs) (L2.wipe σ vs) a0 (ιd ι1 D) S1 (upd H1 D (A0 D)) := ⟨((re.mono e1).mv mv0).wipe vs, rl0, mv0, rfl, fun a h => upd_ne fun z => hDm (z ▸ h), h0 _ _ _ _⟩
  exact gc_loopJ (ι := ιd ι1 D) hA hs hDm rfl b0 (hJ.mv mv0) hp fun acc' ι' S' H' bb mm pp => hf acc' ι1 S1.length H1 ι' S' H' D Q hD hDm bb.rl bb.mv bb.mu bb.pr bb.ls pp
end
section
variable {X : Cx} {E : XK} {ex elt kx vx tg iter tg1 iter1 : Expr} {ifs ifs1 : List Expr} {scope : Scope} {own : List (Str × Nat)} {vs1 : List Nat} {pos pos' : Pos} {new : Sem Value} {c c1 : MW Rdr} {ci ci1 : MW (List W)} {g g1 : MG} {t t1 : MW Bool} {e k : MV} {n : Nat}
theorem cc_l1J {fin : List W → Sto → Res W} (hf : FinOk X.K E (arL X.K) fin id) (hc : X.calm = true) (hN : X.N.Nodup) (ok : BlkOk X.N X.env.scope scope own) (hi : CJ X E tg iter c) (hg : InB X scope fun Y => CGw Y E0 (own.map (·.2)) tg g) (ht : InB X scope fun Y => PTs Y ifs (tOfB X.K E0 t)) (he : InB X scope fun Y => CE Y E0 elt e)
    (hs : ∀ x, foldedSetIterable iter X.env x = pure x := by intro _; rfl) : CC X E (.ListComp elt [⟨tg, iter, ifs, 0⟩] scope pos) scope (firstIterPos [⟨tg, iter, ifs, 0⟩] pos) (newList []) iter id (mGJ n (own.map (·.2)) c g t (mpL e) [] fin) :=
  ⟨_, core_lc1 hc hN hi ok hg ht he hs, fun σ H Q h => sim_gJ arL_mv sp_L (fun ι n H D => ⟨[], upd_same, .nil⟩) (fun _ => trivial) hf h⟩
end
end Mm

/-! The mirror layer: zip and enumerate over sequences wherever they stand; keys and values of dicts. -/
namespace Mm
open PySem PySem.Spec PyProof.Rows L2 Gc
/-- a tuple's or a list's items, wherever it stands -/
def sqW (S : Sto) : W → Option (Bool × List W)
  | .tup ws => some (true, ws)
  | .ktp ws => some (true, ws)
  | w => (seqL S w).map fun ws => (false, ws)
section
variable {K : PySem.W.Frag} {ι : Im} {S : Sto} {H : Hp}
theorem sqW_ok (rl : Rl K ι S H) {w : W} {a : Addr} {k : Bool} {ws : List W} (e : sqW S w = some (k, ws)) (r : Rep K ι S.length H w (.ref a)) : ∃ xs, SqB k K H a xs ∧ Reps K ι S.length H ws xs := by
  have lst : ∀ {w : W}, (seqL S w).map (fun ws => (false, ws)) = some (k, ws) → Rep K ι S.length H w (.ref a) → ∃ xs, SqB k K H a xs ∧ Reps K ι S.length H ws xs := by
    intro w e r
    obtain ⟨ws', q, e2⟩ := Option.map_eq_some_iff.mp e
    cases e2
    obtain ⟨a', xs, e3, sq, rs⟩ := seqL_ok rl q r
    cases e3
    exact ⟨xs, sq, rs⟩
  cases w with
  | tup us =>
    cases e
    cases r with
    | tup h r => exact ⟨_, h.sq, r⟩
  | ktp us =>
    cases e
    cases r with
    | ktp h r => exact ⟨_, .inr h, r⟩
  | _ => refine lst ?_ r; exact e
/-- which of both it is stays so -/
theorem sqW_kind {S S' : Sto} {w : W} {k k' : Bool} {ws ws' : List W} (e : sqW S w = some (k, ws)) (e' : sqW S' w = some (k', ws')) : k' = k := by
  have lst : ∀ {w : W}, (seqL S w).map (fun ws => (false, ws)) = some (k, ws) → (seqL S' w).map (fun ws => (false, ws)) = some (k', ws') → k' = k := by
    intro w e e'
    obtain ⟨_, _, e2⟩ := Option.map_eq_some_iff.mp e
    obtain ⟨_, _, e3⟩ := Option.map_eq_some_iff.mp e'
    cases e2
    cases e3
    rfl
  cases w with
  | tup us => cases e; cases e'; rfl
  | ktp us => cases e; cases e'; rfl
  | non => cases e
  | _ => rename_i z; first | exact lst (w := .bl z) e e' | exact lst (w := .int z) e e' | exact lst (w := .str z) e e' | exact lst (w := .ty z) e e' | exact lst (w := .glo z) e e' | exact lst (w := .loc z) e e' | exact lst (w := .lst z) e e' | exact lst (w := .arr z) e e' | cases e
end
/-- a pair of items, as both stand -/
def rdZip (strict : Bool) (x y : W) : Rdr := fun S i => match sqW S x, sqW S y with
  | some (_, xs), some (_, ys) => match xs[i]?, ys[i]? with
    | some a, some b => some (some (.tup [a, b]))
    | _, _ => if strict = true then (if xs.length = i ∧ ys.length = i then some none else none) else some none
  | _, _ => none
def rdEnum (x : W) : Rdr := fun S i => match sqW S x with
  | some (_, xs) => match xs[i]? with
    | some a => some (some (.tup [.int (i : Nat), a]))
    | none => if xs.length = i then some none else none
  | none => none
def mZipJ (strict : Bool) (t : MW (List W)) : MW Rdr := mBind t fun ws => fun _ S => match ws with
  | [x, y] => match sqW S x, sqW S y with
    | some (k, _), some (k', _) => if strict = true ∨ k = k' then .ok (rdZip strict x y) S else .stuck
    | _, _ => .stuck
  | _ => .stuck
def mEnumJ (t : MW (List W)) : MW Rdr := mBind t fun ws => fun _ S => match ws with
  | [x] => match sqW S x with
    | some _ => .ok (rdEnum x) S
    | none => .stuck
  | _ => .stuck
section
variable {K : PySem.W.Frag} {ι : Im} {S : Sto} {H : Hp} {X : Cx} {E : XK}
theorem rep_ref {n : Nat} {w : W} {v : V} {k : Bool} {ws : List W} (e : sqW S w = some (k, ws)) (r : Rep K ι n H w v) : ∃ a, v = .ref a := by
  cases r with
  | tup _ _ => exact ⟨_, rfl⟩
  | ktp _ _ => exact ⟨_, rfl⟩
  | lst _ _ => exact ⟨_, rfl⟩
  | arr _ _ => exact ⟨_, rfl⟩
  | loc _ => exact ⟨_, rfl⟩
  | glo _ => exact ⟨_, rfl⟩
  | dct _ _ _ => exact ⟨_, rfl⟩
  | dcT _ _ _ => exact ⟨_, rfl⟩
  | obj _ _ _ => exact ⟨_, rfl⟩
  | exn _ _ _ _ => exact ⟨_, rfl⟩
  | _ => cases e
/-- the state of both sources at a later time -/
theorem rd_zip {S0 : Sto} {ι0 : Im} {H0 : Hp} {x y : W} {a b : Addr} {k1 k2 : Bool} {xs0 ys0 : List W} {strict : Bool} (q1 : sqW S0 x = some (k1, xs0)) (q2 : sqW S0 y = some (k2, ys0)) (rx : Rep K ι0 S0.length H0 x (.ref a)) (ry : Rep K ι0 S0.length H0 y (.ref b)) (J : It)
    (hgo : ∀ i H xs ys v u, SqB k1 K H a xs → SqB k2 K H b ys → xs[i]? = some v → ys[i]? = some u → J.go i H)
    (hyl : ∀ i H z H', J.yld i H z H' → ∃ T x y, z = .ref T ∧ H T = none ∧ H' = upd H T (.tup [x, y]) ∧ (∀ xs, SqB k1 K H a xs → xs[i]? = some x) ∧ ∀ ys, SqB k2 K H b ys → ys[i]? = some y)
    (hst : ∀ (i : Nat) H (xs ys : List V), SqB k1 K H a xs → SqB k2 K H b ys → (if strict = true then xs.length = i ∧ ys.length = i else xs.length ≤ i ∨ ys.length ≤ i) → J.stop i H) : RdOk K J (rdZip strict x y) ι0 S0.length H0 := by
  intro ι S H m rl i o e
  unfold rdZip at e
  cases w1 : sqW S x with
  | none => rw [w1] at e; cases e
  | some p1 =>
    cases w2 : sqW S y with
    | none => rw [w1, w2] at e; obtain ⟨_, _⟩ := p1; cases e
    | some p2 =>
      obtain ⟨c1, us⟩ := p1
      obtain ⟨c2, vs⟩ := p2
      have ec1 := sqW_kind q1 w1
      have ec2 := sqW_kind q2 w2
      subst ec1 ec2
      obtain ⟨xv, sx, rxs⟩ := sqW_ok rl w1 (rx.mv m)
      obtain ⟨yv, sy, rys⟩ := sqW_ok rl w2 (ry.mv m)
      rw [w1, w2] at e
      simp only at e
      cases h1 : us[i]? with
      | none =>
        rw [h1] at e
        have g1 : xv.length ≤ i := by rw [← rxs.length]; exact List.getElem?_eq_none_iff.mp h1
        cases strict with
        | true =>
          simp only [if_true] at e
          split at e
          · rename_i hz
            cases e
            exact hst i H xv yv sx sy (by rw [if_pos rfl, ← rxs.length, ← rys.length]; exact hz)
          · cases e
        | false =>
          simp only [Bool.false_eq_true, if_false] at e
          cases e
          exact hst i H xv yv sx sy (.inl g1)
      | some w =>
        rw [h1] at e
        cases h2 : vs[i]? with
        | none =>
          rw [h2] at e
          have g2 : yv.length ≤ i := by rw [← rys.length]; exact List.getElem?_eq_none_iff.mp h2
          cases strict with
          | true =>
            simp only [if_true] at e
            split at e
            · rename_i hz
              cases e
              exact hst i H xv yv sx sy (by rw [if_pos rfl, ← rxs.length, ← rys.length]; exact hz)
            · cases e
          | false =>
            simp only [Bool.false_eq_true, if_false] at e
            cases e
            exact hst i H xv yv sx sy (.inr g2)
        | some u =>
          rw [h2] at e
          cases e
          obtain ⟨v1, ev1, rv1⟩ := rxs.get h1
          obtain ⟨v2, ev2, rv2⟩ := rys.get h2
          refine ⟨hgo i H xv yv v1 v2 sx sy ev1 ev2, fun z H' hz => ?_⟩
          obtain ⟨T, x', y', rfl, hT, rfl, f1, f2⟩ := hyl i H z H' hz
          have e3 : v1 = x' := Option.some.inj (ev1.symm.trans (f1 xv sx))
          have e4 : v2 = y' := Option.some.inj (ev2.symm.trans (f2 yv sy))
          subst e3 e4
          have ex := Ext.new (o := .tup [v1, v2]) rl hT
          exact ⟨ex, rl.new hT, .tup (Fz.new rl hT) (.cons (rv1.mono ex) (.cons (rv2.mono ex) .nil))⟩
theorem cj_zipS {e e2 : Expr} {t : MW (List W)} {p pos tpos kp kp2 : Pos} {j : Nat} {elts : List Expr} {kk : Nat} (hg : Gl X "zip") (hm : X.mg "zip" = none) (ha : CA X E [e, e2] t)
    (hs : starEach [e, e2] X.env = (false, eval e X.env) :: starEach [e2] X.env := by rfl) (hpl : (backTo pos (starEach [e, e2] X.env)).any (·.1) = false := by rfl) (hbt : backTo pos (starEach [e, e2] X.env) = (false, eval e X.env) :: backTo pos (starEach [e2] X.env) := by rfl) :
    CJ X E (.Tuple elts kk tpos) (.Call (.Name "zip" p) [e, e2] [⟨some "strict", .Constant (.bool true) j kp, kp2⟩] pos) (mZipJ true t) :=
  PI.weak (pi_zipS hg hm ha hs hpl hbt) fun σ H R ⟨ρ, ι, S, re, rl, h⟩ => ⟨ρ, ι, S, re, rl, (Post.bind h).mono fun ws S1 ι1 H1 e1 rl1 h1 vs rvs => by
    cases rvs with
    | nil => exact h1.elim
    | @cons x v _ _ a r =>
      cases r with
      | nil => exact h1.elim
      | @cons y u _ _ b r =>
        cases r with
        | cons _ _ => exact h1.elim
        | nil =>
          simp only at h1
          split at h1
          · rename_i k1 xs k2 ys q1 q2
            simp only [true_or, if_true] at h1
            obtain ⟨a1, rfl⟩ := rep_ref q1 a
            obtain ⟨b1, rfl⟩ := rep_ref q2 b
            obtain ⟨xv, sx, _⟩ := sqW_ok rl1 q1 a
            obtain ⟨yv, sy, _⟩ := sqW_ok rl1 q2 b
            refine ⟨a1, b1, xv, yv, k1, k2, rfl, sx, sy, h1 ι1 H1 Ext.refl rl1 _ (rd_zip q1 q2 a b _ (fun i H xs ys v u s1 s2 e1 e2 => ⟨xs, ys, v, u, s1, s2, e1, e2⟩) (fun i H z H' hz => hz) (fun i H xs ys s1 s2 hz => ⟨xs, ys, s1, s2, hz.1, hz.2⟩))⟩
          · exact h1.elim⟩
theorem cj_zip {e e2 : Expr} {t : MW (List W)} {p pos tpos : Pos} {elts : List Expr} {kk : Nat} (hg : Gl X "zip") (hm : X.mg "zip" = none) (ha : CA X E [e, e2] t)
    (hs : starEach [e, e2] X.env = (false, eval e X.env) :: starEach [e2] X.env := by rfl) (hpl : (backTo pos (starEach [e2] X.env)).any (·.1) = false := by rfl) :
    CJ X E (.Tuple elts kk tpos) (.Call (.Name "zip" p) [e, e2] [] pos) (mZipJ false t) :=
  PI.weak (RZ.pi_zipA hg hm ha hs hpl) fun σ H R ⟨ρ, ι, S, re, rl, h⟩ => ⟨ρ, ι, S, re, rl, (Post.bind h).mono fun ws S1 ι1 H1 e1 rl1 h1 vs rvs => by
    cases rvs with
    | nil => exact h1.elim
    | @cons x v _ _ a r =>
      cases r with
      | nil => exact h1.elim
      | @cons y u _ _ b r =>
        cases r with
        | cons _ _ => exact h1.elim
        | nil =>
          simp only at h1
          split at h1
          · rename_i k1 xs k2 ys q1 q2
            simp only [Bool.false_eq_true, false_or] at h1
            split at h1
            · rename_i ek
              subst ek
              obtain ⟨a1, rfl⟩ := rep_ref q1 a
              obtain ⟨b1, rfl⟩ := rep_ref q2 b
              obtain ⟨xv, sx, _⟩ := sqW_ok rl1 q1 a
              obtain ⟨yv, sy, _⟩ := sqW_ok rl1 q2 b
              refine ⟨a1, b1, xv, yv, rfl, ?_⟩
              cases k1 with
              | false => exact .inl ⟨sx, sy, h1 ι1 H1 Ext.refl rl1 _ (rd_zip q1 q2 a b _ (fun i H xs ys v u s1 s2 e1 e2 => ⟨xs, ys, v, u, s1, s2, e1, e2⟩) (fun i H z H' hz => hz) (fun i H xs ys s1 s2 hz => ⟨xs, ys, s1, s2, hz⟩))⟩
              | true => exact .inr ⟨sx, sy, h1 ι1 H1 Ext.refl rl1 _ (rd_zip q1 q2 a b _ (fun i H xs ys v u s1 s2 e1 e2 => ⟨xs, ys, v, u, s1, s2, e1, e2⟩) (fun i H z H' hz => hz) (fun i H xs ys s1 s2 hz => ⟨xs, ys, s1, s2, hz⟩))⟩
            · exact h1.elim
          · exact h1.elim⟩
theorem cj_enum {e : Expr} {t : MW (List W)} {p pos tpos : Pos} {elts : List Expr} {kk : Nat} (hg : Gl X "enumerate") (hm : X.mg "enumerate" = none) (ha : CA X E [e] t) (hs : starEach [e] X.env = [(false, eval e X.env)] := by rfl) :
    CJ X E (.Tuple elts kk tpos) (.Call (.Name "enumerate" p) [e] [] pos) (mEnumJ t) :=
  PI.weak (pi_enumB hg hm ha hs) fun σ H R ⟨ρ, ι, S, re, rl, h⟩ => ⟨ρ, ι, S, re, rl, (Post.bind h).mono fun ws S1 ι1 H1 e1 rl1 h1 vs rvs => by
    cases rvs with
    | nil => exact h1.elim
    | @cons x v _ _ a r =>
      cases r with
      | cons _ _ => exact h1.elim
      | nil =>
        simp only at h1
        split at h1
        · rename_i p1 q1
          obtain ⟨k1, xs⟩ := p1
          obtain ⟨a1, rfl⟩ := rep_ref q1 a
          obtain ⟨xv, sx, _⟩ := sqW_ok rl1 q1 a
          refine ⟨a1, xv, k1, rfl, sx, h1 ι1 H1 Ext.refl rl1 _ fun ι2 S2 H2 m rl2 i o e => ?_⟩
          unfold rdEnum at e
          cases w1 : sqW S2 x with
          | none => rw [w1] at e; cases e
          | some p1 =>
            obtain ⟨c1, us⟩ := p1
            have ec1 := sqW_kind q1 w1
            subst ec1
            obtain ⟨xv2, sx2, rxs⟩ := sqW_ok rl2 w1 (a.mv m)
            rw [w1] at e
            simp only at e
            cases h2 : us[i]? with
            | none =>
              rw [h2] at e
              simp only at e
              split at e
              · rename_i hz
                cases e
                exact ⟨xv2, sx2, by rw [← rxs.length]; exact hz⟩
              · cases e
            | some w =>
              rw [h2] at e
              cases e
              obtain ⟨v1, ev1, rv1⟩ := rxs.get h2
              refine ⟨⟨xv2, v1, sx2, ev1⟩, fun z H' hz => ?_⟩
              obtain ⟨T, v', rfl, hT, rfl, f1⟩ := hz
              have e3 : v1 = v' := Option.some.inj (ev1.symm.trans (f1 xv2 sx2))
              subst e3
              have ex := Ext.new (o := .tup [.int (i : Nat), v1]) rl2 hT
              exact ⟨ex, rl2.new hT, .tup (Fz.new rl2 hT) (.cons (.int _) (.cons (rv1.mono ex) .nil))⟩
        · exact h1.elim⟩
end
end Mm

/-! The mirror layer: walks over a dict's keys, values. -/
namespace Mm
open PySem PySem.Spec PyProof.Rows L2 Gc
def keysD : Dk → List W
  | .K ks ws => (ks.zip ws).map fun p => keyV p.1
  | .T ks ws => (ks.zip ws).map fun p => .tup (p.1.map keyV)
def mKeysD (c : MV) : MW (List W) := mBind c fun w => fun _ S => match dicO S w with
  | some d => .ok (keysD d) (lockS S w)
  | none => .stuck
def mValsD (c : MV) : MW (List W) := mBind c fun w => fun _ S => match dicO S w with
  | some (.K ks ws) => .ok ((ks.zip ws).map fun p => p.2) (lockS S w)
  | _ => .stuck
section
variable {K : PySem.W.Frag} {ι : Im} {n : Nat} {S : Sto} {H : Hp} {E : XK}
theorem yl_keys {a : Addr} {od : Obj} {ks : List Key} {ws : List W} {xs : List V} (hz : H a = some (.frz od (.dK (ks.zip xs)))) (r : Reps K ι n H ws xs) : Yl K (Itk a od (ks.zip xs)) (keysD (.K ks ws)) ι n H := by
  intro ι1 S1 H1 e1 rl1
  have q := e1.fr _ _ _ hz
  have r1 := r.mv e1
  refine ⟨⟨q, by show (ks.zip xs).length ≤ ((ks.zip ws).map _).length; rw [List.length_map, List.length_zip, List.length_zip, ← r.length]; exact Nat.le_refl _⟩, fun i w hw => ?_⟩
  obtain ⟨k, x, v, rfl, hv, rx⟩ := zipR_get (f := fun k x => keyV k) r1 hw
  refine ⟨⟨q, (List.getElem?_eq_some_iff.mp hv).1⟩, fun z H' hy => ?_⟩
  obtain ⟨rfl, k', v', e1', rfl⟩ := hy
  rw [hv] at e1'
  cases e1'
  exact ⟨Ext.refl, rl1, rep_key⟩
theorem yl_keysT {a : Addr} {od : Obj} {ks : List (List Key)} {ws : List W} {xs : List V} (hz : H a = some (.frz od (.dT (ks.zip xs)))) (r : Reps K ι n H ws xs) : Yl K (Itkt a od (ks.zip xs)) (keysD (.T ks ws)) ι n H := by
  intro ι1 S1 H1 e1 rl1
  have q := e1.fr _ _ _ hz
  have r1 := r.mv e1
  refine ⟨⟨q, by show (ks.zip xs).length ≤ ((ks.zip ws).map _).length; rw [List.length_map, List.length_zip, List.length_zip, ← r.length]; exact Nat.le_refl _⟩, fun i w hw => ?_⟩
  obtain ⟨k, x, v, rfl, hv, rx⟩ := zipR_get (f := fun (k : List Key) x => W.tup (k.map keyV)) r1 hw
  refine ⟨⟨q, (List.getElem?_eq_some_iff.mp hv).1⟩, fun z H' hy => ?_⟩
  obtain ⟨rfl, k', v', qa, e1', rfl, hq⟩ := hy
  rw [hv] at e1'
  cases e1'
  exact ⟨Ext.refl, rl1, .tup (fzT_of rl1 hq) reps_keys⟩
theorem yl_vals {a : Addr} {od : Obj} {ks : List Key} {ws : List W} {xs : List V} (hz : H a = some (.frz od (.dK (ks.zip xs)))) (r : Reps K ι n H ws xs) : Yl K (Itd a od (ks.zip xs)) ((ks.zip ws).map fun p => p.2) ι n H := by
  intro ι1 S1 H1 e1 rl1
  have q := e1.fr _ _ _ hz
  have r1 := r.mv e1
  refine ⟨⟨q, by show (ks.zip xs).length ≤ ((ks.zip ws).map _).length; rw [List.length_map, List.length_zip, List.length_zip, ← r.length]; exact Nat.le_refl _⟩, fun i w hw => ?_⟩
  obtain ⟨k, x, v, rfl, hv, rx⟩ := zipR_get (f := fun k x => x) r1 hw
  refine ⟨⟨q, (List.getElem?_eq_some_iff.mp hv).1⟩, fun z H' hy => ?_⟩
  obtain ⟨rfl, k', e1'⟩ := hy
  rw [hv] at e1'
  cases e1'
  exact ⟨Ext.refl, rl1, rx⟩
end
section
variable {X : Cx} {E : XK} {tg e : Expr} {c : MV} {apos cpos : Pos}
theorem ci_keys (he : CE X E e c) : CI X E tg e (mKeysD c) := by
  refine PI.weak (pi_keys (pe_lockR he)) fun σ H R ⟨ρ, ι, S, re, rl, h⟩ => ⟨ρ, ι, S, re, rl, (Post.bind h).mono fun w S1 ι1 H1 e1 rl1 h1 v rv => ?_⟩
  cases qd : dicO S1 w with
  | none => simp only [qd] at h1; exact h1.elim
  | some d =>
    simp only [qd] at h1
    cases d with
    | K ks ws =>
      obtain ⟨a, u, rfl, hu, ⟨xs, eu, hl, r⟩, z⟩ := lock_ok rl1 qd rv
      subst eu
      rcases z with ⟨od, g1, g2⟩ | ⟨g1, g2⟩
      · left
        have h2 := h1 ι1 H1 (by rw [g2]; exact Ext.refl) (by rw [g2]; exact rl1)
        rw [g2] at h2
        exact ⟨a, od, rfl, .inl ⟨_, g1, h2 _ (yl_keys g1 r)⟩⟩
      · right
        refine ⟨a, _, rfl, g1, mut_d rfl, fun od => ?_⟩
        obtain ⟨ex, rl2⟩ := g2 od
        exact ⟨a, od, rfl, .inl ⟨_, upd_same, h1 ι1 _ ex rl2 _ (yl_keys upd_same (r.mono ex))⟩⟩
    | T ks ws =>
      obtain ⟨a, u, rfl, hu, ⟨xs, eu, hl, r⟩, z⟩ := lock_ok rl1 qd rv
      subst eu
      rcases z with ⟨od, g1, g2⟩ | ⟨g1, g2⟩
      · left
        have h2 := h1 ι1 H1 (by rw [g2]; exact Ext.refl) (by rw [g2]; exact rl1)
        rw [g2] at h2
        exact ⟨a, od, rfl, .inr ⟨_, g1, h2 _ (yl_keysT g1 r)⟩⟩
      · right
        refine ⟨a, _, rfl, g1, mut_d rfl, fun od => ?_⟩
        obtain ⟨ex, rl2⟩ := g2 od
        exact ⟨a, od, rfl, .inr ⟨_, upd_same, h1 ι1 _ ex rl2 _ (yl_keysT upd_same (r.mono ex))⟩⟩
theorem ci_vals (he : CE X E e c) (hbase : attributeBase e "values" X.env (eval e X.env) = eval e X.env := by rfl) (hline : (apos.endLine == cpos.line) = true := by rfl) : CI X E tg (.Call (.Attribute e "values" apos) [] [] cpos) (mValsD c) := by
  refine PI.weak (pi_values (pe_lockR he) hbase hline) fun σ H R ⟨ρ, ι, S, re, rl, h⟩ => ⟨ρ, ι, S, re, rl, (Post.bind h).mono fun w S1 ι1 H1 e1 rl1 h1 v rv => ?_⟩
  cases qd : dicO S1 w with
  | none => simp only [qd] at h1; exact h1.elim
  | some d =>
    simp only [qd] at h1
    cases d with
    | K ks ws =>
      obtain ⟨a, u, rfl, hu, ⟨xs, eu, hl, r⟩, z⟩ := lock_ok rl1 qd rv
      subst eu
      rcases z with ⟨od, g1, g2⟩ | ⟨g1, g2⟩
      · left
        have h2 := h1 ι1 H1 (by rw [g2]; exact Ext.refl) (by rw [g2]; exact rl1)
        rw [g2] at h2
        exact ⟨a, od, _, rfl, g1, h2 _ (yl_vals g1 r)⟩
      · right
        refine ⟨a, _, rfl, g1, mut_d rfl, fun od => ?_⟩
        obtain ⟨ex, rl2⟩ := g2 od
        exact ⟨a, od, _, rfl, upd_same, h1 ι1 _ ex rl2 _ (yl_vals upd_same (r.mono ex))⟩
    | T ks ws => exact h1.elim
end
end Mm

/-! The mirror layer: comprehensions within comprehensions. -/
namespace Mm
open PySem PySem.Spec PyProof.Rows L2 Gc
theorem relabel_free {env : PySem.Env} : ∀ {names : List (Str × NameKind)} {x : Str}, (names.lookup x = some .cell ∨ names.lookup x = some .free) →
    (names.map fun (n, k) => if (k == NameKind.free && env.scope.kind == .function && env.kindOf n == some .cell) then (n, NameKind.cell) else (n, k)).lookup x = some .cell ∨ (names.map fun (n, k) => if (k == NameKind.free && env.scope.kind == .function && env.kindOf n == some .cell) then (n, NameKind.cell) else (n, k)).lookup x = some .free
  | [], _, h => by simp at h
  | (n, k) :: r, x, h => by
    rw [List.map_cons]
    by_cases e : x = n
    · subst e
      have hk : k = .cell ∨ k = .free := by simpa [List.lookup] using h
      simp only
      split
      · left; simp [List.lookup]
      · rcases hk with rfl | rfl
        · left; simp [List.lookup]
        · right; simp [List.lookup]
    · have hb : (x == n) = false := by simpa using e
      have h' : r.lookup x = some .cell ∨ r.lookup x = some .free := by simpa [List.lookup, hb] using h
      have ih := relabel_free (env := env) h'
      simp only
      split
      · simpa [List.lookup, hb] using ih
      · simpa [List.lookup, hb] using ih
theorem blk_in {N : List Str} {sco scope : Scope} {own : List (Str × Nat)} {env : PySem.Env} (ok : BlkOk N sco scope own) : BlkOk N (relabel sco env) scope own :=
  ⟨ok.kind, ok.uniq, ok.ix, fun y hy e => by
    have := ok.free y hy e
    exact relabel_free this, ok.own⟩
section
variable {X : Cx} {E : XK} {s0 : Shared} {H0 : Hp} {sco : Scope} {cl0 : List (Str × Addr)} {C0 : Addr} {fp0 : List Addr}
theorem ce_lcB {elt tg iter : Expr} {ifs : List Expr} {scope : Scope} {own : List (Str × Nat)} {pos : Pos} {ci : MW (List W)} {g : MG} {t : MW Bool} {e : MV} (hc : X.calm = true) (hN : X.N.Nodup) (ok : BlkOk X.N sco scope own) (hi : CI (X.blk s0 H0 sco (compEnvC sco cl0 C0 X.env) fp0) E tg iter ci)
    (hg : InB (X.blk s0 H0 sco (compEnvC sco cl0 C0 X.env) fp0) scope fun Y => CGw Y E (own.map (·.2)) tg g)
    (ht : InB (X.blk s0 H0 sco (compEnvC sco cl0 C0 X.env) fp0) scope fun Y => PTs Y ifs (tOfB X.K E t))
    (he : InB (X.blk s0 H0 sco (compEnvC sco cl0 C0 X.env) fp0) scope fun Y => CE Y E elt e) (hs : ∀ x, foldedSetIterable iter (X.blk s0 H0 sco (compEnvC sco cl0 C0 X.env) fp0).env x = pure x := by intro _; rfl) :
    CE (X.blk s0 H0 sco (compEnvC sco cl0 C0 X.env) fp0) E (.ListComp elt [⟨tg, iter, ifs, 0⟩] scope pos) (mLc (own.map (·.2)) ci g t e) :=
  ce_lc (X := X.blk s0 H0 sco (compEnvC sco cl0 C0 X.env) fp0) hc hN (blk_in ok) hi hg ht he hs
end
end Mm

/-! The mirror layer: x in xs, xs.index(x), items of any depth. -/
namespace Mm
open PySem PySem.Spec PyProof.Rows L2 Gc
theorem room65 {k : Nat} {A : Around} (r : Room k A) : A.units + 65 < cLine := by have := r.un; omega
def fInD (x y : W) (S : Sto) : Res W := match pyD S 60 x, pyD S 60 y with
  | some d, some (.list ds) => .ok (.bl (ds.any fun z => PyData.eqv z d)) S
  | _, _ => .stuck
def fNotInD (x y : W) (S : Sto) : Res W := match pyD S 60 x, pyD S 60 y with
  | some d, some (.list ds) => .ok (.bl (!ds.any fun z => PyData.eqv z d)) S
  | _, _ => .stuck
section
variable {K : PySem.W.Frag} {E : XK}
theorem sim_inD : SimR K E (rInD K) fInD := by
  intro x y xv yv ι S H Q rl rx ry h
  unfold fInD at h
  split at h
  · rename_i d ds e1 e2
    exact ⟨d, ds, pyD_ok rl e1 rx, pyD_ok rl e2 ry, shaped_of e1 (Nat.le_refl _), shaped_of e2 (Nat.le_refl _), PostV.now h rl (.bl _)⟩
  · exact h.elim
theorem sim_notInD : SimR K E (rNotInD K) fNotInD := by
  intro x y xv yv ι S H Q rl rx ry h
  unfold fNotInD at h
  split at h
  · rename_i d ds e1 e2
    exact ⟨d, ds, pyD_ok rl e1 rx, pyD_ok rl e2 ry, shaped_of e1 (Nat.le_refl _), shaped_of e2 (Nat.le_refl _), PostV.now h rl (.bl _)⟩
  · exact h.elim
end
end Mm

/-! Reckoning with mirrors: what must hold for a mirror to answer so. No program in sight. -/
namespace Mm
open PySem PySem.Spec PyProof.Rows L2
def Sat {α : Type} (r : Res α) (Q : α → Sto → Prop) : Prop := match r with
  | .ok a S => Q a S
  | _ => False
theorem Sat.mono {α : Type} {r : Res α} {Q R : α → Sto → Prop} (h : Sat r Q) (k : ∀ a S, Q a S → R a S) : Sat r R := by
  cases r with
  | ok a S => exact k a S h
  | _ => exact h
theorem sat_eq {α : Type} {r : Res α} {a : α} {S : Sto} (h : r = .ok a S) (Q : α → Sto → Prop) : Sat r Q = Q a S := by rw [h]; rfl
theorem sat_to {α : Type} {r : Res α} {a : α} {S : Sto} (h : Sat r fun b T => b = a ∧ T = S) : r = .ok a S := by
  cases r with
  | ok b T => obtain ⟨rfl, rfl⟩ := h; rfl
  | _ => exact h.elim
theorem sat_ok {α : Type} {a : α} {S : Sto} {Q : α → Sto → Prop} : Sat (.ok a S) Q = Q a S := rfl
theorem sat_stuck {α : Type} {Q : α → Sto → Prop} : Sat (.stuck : Res α) Q = False := rfl
theorem sat_bind {α β : Type} {c : MW α} {k : α → MW β} {ρ : Env} {S : Sto} {Q : β → Sto → Prop} : Sat (mBind c k ρ S) Q = Sat (c ρ S) fun a S1 => Sat (k a ρ S1) Q := by
  unfold mBind
  cases c ρ S <;> rfl
theorem sat_then {α : Type} {c : MW Env} {k : MW α} {ρ : Env} {S : Sto} {Q : α → Sto → Prop} : Sat (mThen c k ρ S) Q = Sat (c ρ S) fun ρ1 S1 => Sat (k ρ1 S1) Q := by
  unfold mThen
  cases c ρ S <;> rfl
theorem sat_ite {α : Type} {p : Prop} [Decidable p] {r r' : Res α} {Q : α → Sto → Prop} : Sat (if p then r else r') Q = if p then Sat r Q else Sat r' Q := by
  by_cases h : p
  · rw [if_pos h, if_pos h]
  · rw [if_neg h, if_neg h]
theorem ite_ap {α β γ : Type} {p : Prop} [Decidable p] {f g : α → β → γ} {a : α} {b : β} : (if p then f else g) a b = if p then f a b else g a b := by
  by_cases h : p
  · rw [if_pos h, if_pos h]
  · rw [if_neg h, if_neg h]
section
variable {ρ : Env} {S : Sto} {Q : W → Sto → Prop} {QB : Bool → Sto → Prop} {QS : Fl × Env → Sto → Prop} {QL : List W → Sto → Prop} {QE : Env → Sto → Prop}
theorem sat_var {i : Nat} {w : W} (h : ρ[i]? = some (some w)) : Sat (mVar i ρ S) Q = Q w S := by unfold mVar; rw [h]; rfl
theorem sat_var0 {w : W} : Sat (mVar 0 (some w :: ρ) S) Q = Q w S := rfl
theorem sat_varS {i : Nat} {o : Option W} : Sat (mVar (i + 1) (o :: ρ) S) Q = Sat (mVar i ρ S) Q := rfl
theorem sat_c {w : W} : Sat (mC w ρ S) Q = Q w S := rfl
theorem sat_op {f : W → W → Sto → Res W} {a b : MV} : Sat (mOp f a b ρ S) Q = Sat (a ρ S) fun x S1 => Sat (b ρ S1) fun y S2 => Sat (f x y S2) Q := by
  unfold mOp; rw [sat_bind]; simp only [sat_bind]
theorem sat_un {f : W → Sto → Res W} {a : MV} : Sat (mUn f a ρ S) Q = Sat (a ρ S) fun x S1 => Sat (f x S1) Q := by
  unfold mUn; rw [sat_bind]
def testK (Q : Bool → Sto → Prop) (w : W) (S : Sto) : Prop := match w with
  | .bl b => Q b S
  | _ => False
theorem testK_bl {b : Bool} : testK QB (.bl b) S = QB b S := rfl
theorem sat_test {a : MV} : Sat (mTest a ρ S) QB = Sat (a ρ S) (testK QB) := by
  unfold mTest; rw [sat_bind]; congr; funext w S1; cases w <;> rfl
def chainK (f' : W → W → Sto → Res W) (cc : MV) (ρ : Env) (y : W) (Q : W → Sto → Prop) (z : W) (S : Sto) : Prop := match z with
  | .bl true => Sat (cc ρ S) fun u S1 => Sat (f' y u S1) Q
  | .bl false => Q (.bl false) S
  | _ => False
theorem chainK_bl {f' : W → W → Sto → Res W} {cc : MV} {y : W} {b : Bool} : chainK f' cc ρ y Q (.bl b) S = if b = true then Sat (cc ρ S) fun u S1 => Sat (f' y u S1) Q else Q (.bl false) S := by cases b <;> rfl
theorem sat_chain {f f' : W → W → Sto → Res W} {a b c : MV} : Sat (mChain f f' a b c ρ S) Q = Sat (a ρ S) fun x S1 => Sat (b ρ S1) fun y S2 => Sat (f x y S2) (chainK f' c ρ y Q) := by
  unfold mChain; rw [sat_bind]; congr; funext x S1; rw [sat_bind]; congr; funext y S2; rw [sat_bind]; congr; funext z S3
  cases z with
  | bl b => cases b <;> first | rfl | exact sat_bind
  | _ => rfl
theorem sat_and {x y : MW Bool} : Sat (mAnd x y ρ S) QB = Sat (x ρ S) fun b S1 => if b = true then Sat (y ρ S1) QB else QB false S1 := by
  unfold mAnd; rw [sat_bind]; congr; funext b S1; cases b <;> rfl
theorem sat_or {x y : MW Bool} : Sat (mOr x y ρ S) QB = Sat (x ρ S) fun b S1 => if b = true then QB true S1 else Sat (y ρ S1) QB := by
  unfold mOr; rw [sat_bind]; congr; funext b S1; cases b <;> rfl
theorem sat_not {x : MW Bool} : Sat (mNot x ρ S) QB = Sat (x ρ S) fun b S1 => QB (!b) S1 := by
  unfold mNot; rw [sat_bind]; rfl
def andK (y : MV) (ρ : Env) (Q : W → Sto → Prop) (w : W) (S : Sto) : Prop := match w with
  | .bl true => Sat (y ρ S) Q
  | .bl false => Q (.bl false) S
  | _ => False
def orK (y : MV) (ρ : Env) (Q : W → Sto → Prop) (w : W) (S : Sto) : Prop := match w with
  | .bl true => Q (.bl true) S
  | .bl false => Sat (y ρ S) Q
  | _ => False
def notK (Q : W → Sto → Prop) (w : W) (S : Sto) : Prop := match w with
  | .bl b => Q (.bl (!b)) S
  | _ => False
theorem andK_bl {y : MV} {b : Bool} : andK y ρ Q (.bl b) S = if b = true then Sat (y ρ S) Q else Q (.bl false) S := by cases b <;> rfl
theorem orK_bl {y : MV} {b : Bool} : orK y ρ Q (.bl b) S = if b = true then Q (.bl true) S else Sat (y ρ S) Q := by cases b <;> rfl
theorem notK_bl {b : Bool} : notK Q (.bl b) S = Q (.bl (!b)) S := rfl
theorem sat_andV {x y : MV} : Sat (mAndV x y ρ S) Q = Sat (x ρ S) (andK y ρ Q) := by
  unfold mAndV; rw [sat_bind]; congr; funext w S1; cases w with
  | bl b => cases b <;> rfl
  | _ => rfl
theorem sat_orV {x y : MV} : Sat (mOrV x y ρ S) Q = Sat (x ρ S) (orK y ρ Q) := by
  unfold mOrV; rw [sat_bind]; congr; funext w S1; cases w with
  | bl b => cases b <;> rfl
  | _ => rfl
theorem sat_notV {x : MV} : Sat (mNotV x ρ S) Q = Sat (x ρ S) (notK Q) := by
  unfold mNotV; rw [sat_bind]; congr; funext w S1; cases w <;> rfl
theorem sat_ifE {t : MW Bool} {x y : MV} : Sat (mIfE t x y ρ S) Q = Sat (t ρ S) fun b S1 => if b = true then Sat (x ρ S1) Q else Sat (y ρ S1) Q := by
  unfold mIfE; rw [sat_bind]; congr; funext b S1; cases b <;> rfl
theorem sat_nil : Sat (mNil ρ S) QL = QL [] S := rfl
theorem sat_cons {c : MV} {t : MW (List W)} : Sat (mCons c t ρ S) QL = Sat (c ρ S) fun w S1 => Sat (t ρ S1) fun ws S2 => QL (w :: ws) S2 := by
  unfold mCons; rw [sat_bind]; simp only [sat_bind]; rfl
theorem sat_tup {t : MW (List W)} : Sat (mTup t ρ S) Q = Sat (t ρ S) fun ws S1 => if ws.length ≤ sizeLine then Q (.tup ws) S1 else False := by
  unfold mTup; rw [sat_bind]; simp only [sat_ite, sat_ok, sat_stuck]
theorem sat_lst {t : MW (List W)} : Sat (mLst t ρ S) Q = Sat (t ρ S) fun ws S1 => if ws.length ≤ sizeLine then Q (.lst ws) S1 else False := by
  unfold mLst; rw [sat_bind]; simp only [sat_ite, sat_ok, sat_stuck]
theorem sat_lstM {t : MW (List W)} : Sat (mLstM t ρ S) Q = Sat (t ρ S) fun ws S1 => if ws.length ≤ sizeLine then Q (.loc S1.length) (S1 ++ [.lst ws]) else False := by
  unfold mLstM; rw [sat_bind]; simp only [sat_ite, sat_ok, sat_stuck]
theorem sat_cb {f : MF} {t : MW (List W)} : Sat (mCB f t ρ S) Q = Sat (t ρ S) fun ws S1 => Sat (f ws S1) Q := by
  unfold mCB; rw [sat_bind]
theorem sat_call {n : Nat} {f : MF} {t : MW (List W)} : Sat (mCall n f t ρ S) Q = Sat (t ρ S) fun ws S1 => if ws.length = n then Sat (f ws S1) Q else False := by
  unfold mCall; rw [sat_bind]; simp only [sat_ite, sat_stuck]
/-! statements -/
def seqK (d : MS) (Q : Fl × Env → Sto → Prop) (p : Fl × Env) (S : Sto) : Prop := match p with
  | (.next, ρ) => Sat (d ρ S) Q
  | p => Q p S
theorem seqK_next {d : MS} : seqK d QS (.next, ρ) S = Sat (d ρ S) QS := rfl
theorem seqK_ret {d : MS} {w : W} : seqK d QS (.ret w, ρ) S = QS (.ret w, ρ) S := rfl
theorem seqK_brk {d : MS} : seqK d QS (.brk, ρ) S = QS (.brk, ρ) S := rfl
theorem seqK_cont {d : MS} : seqK d QS (.cont, ρ) S = QS (.cont, ρ) S := rfl
theorem sat_seq {c d : MS} : Sat (mSeq c d ρ S) QS = Sat (c ρ S) (seqK d QS) := by
  unfold mSeq
  cases c ρ S with
  | ok p S1 => obtain ⟨f, ρ1⟩ := p; cases f <;> rfl
  | _ => rfl
theorem sat_next : Sat (mNext ρ S) QS = QS (.next, ρ) S := rfl
theorem sat_brk : Sat (mBrk ρ S) QS = QS (.brk, ρ) S := rfl
theorem sat_cont : Sat (mCont ρ S) QS = QS (.cont, ρ) S := rfl
theorem sat_ret {c : MV} : Sat (mRet c ρ S) QS = Sat (c ρ S) fun w S1 => QS (.ret w, ρ) S1 := by
  unfold mRet; rw [sat_bind]; rfl
theorem sat_drop {c : MV} : Sat (mDrop c ρ S) QS = Sat (c ρ S) fun _ S1 => QS (.next, ρ) S1 := by
  unfold mDrop; rw [sat_bind]; rfl
theorem sat_if {t : MW Bool} {c d : MS} : Sat (mIf t c d ρ S) QS = Sat (t ρ S) fun b S1 => if b = true then Sat (c ρ S1) QS else Sat (d ρ S1) QS := by
  unfold mIf; rw [sat_bind]; congr; funext b S1; cases b <;> rfl
theorem sat_asg {c : MV} {g : MG} : Sat (mAsg c g ρ S) QS = Sat (c ρ S) fun w S1 => Sat (g w ρ S1) fun ρ1 S2 => QS (.next, ρ1) S2 := by
  unfold mAsg; rw [sat_bind]; congr; funext w S1; rw [sat_then]; rfl
theorem sat_set {i : Nat} {c : MV} : Sat (mSet i c ρ S) QS = Sat (c ρ S) fun w S1 => QS (.next, ρ.set i (some w)) S1 := by
  unfold mSet; rw [sat_bind]; rfl
theorem sat_par {i j : Nat} {c d : MV} : Sat (mPar i j (mCons c (mCons d mNil)) ρ S) QS = Sat (c ρ S) fun v S1 => Sat (d ρ S1) fun w S2 => QS (.next, (ρ.set i (some v)).set j (some w)) S2 := by
  unfold mPar; rw [sat_bind, sat_cons]; simp only [sat_cons, sat_nil]; rfl
theorem sat_gname {i : Nat} {w : W} : Sat (mgName i w ρ S) QE = QE (ρ.set i (some w)) S := rfl
theorem sat_gnil : Sat (mgNil [] ρ S) QE = QE ρ S := rfl
theorem sat_gcons {g : MG} {gs : MGs} {w : W} {ws : List W} : Sat (mgCons g gs (w :: ws) ρ S) QE = Sat (g w ρ S) fun ρ1 S1 => Sat (gs ws ρ1 S1) QE := by
  unfold mgCons; simp only; rw [sat_then]
theorem sat_gtup {n : Nat} {gs : MGs} {ws : List W} : Sat (mgTup n gs (.tup ws) ρ S) QE = if ws.length = n then Sat (gs ws ρ S) QE else False := by
  unfold mgTup; simp only; rw [ite_ap, sat_ite]; rfl
theorem sat_gsub {f : W → W → W → Sto → Res Unit} {o i : MV} {w : W} : Sat (mgSub f o i w ρ S) QE = Sat (o ρ S) fun ov S1 => Sat (i ρ S1) fun iv S2 => Sat (f ov iv w S2) fun _ S3 => QE ρ S3 := by
  unfold mgSub; rw [sat_bind]; congr; funext ov S1; rw [sat_bind]; congr; funext iv S2
  cases f ov iv w S2 <;> rfl
/-! loops -/
theorem sat_for {ci : MW (List W)} {g : MG} {b : MS} : Sat (mFor ci g b ρ S) QS = Sat (ci ρ S) fun ws S1 => Sat (mLoop g b ws ρ S1) QS := by
  unfold mFor; rw [sat_bind]
def loopK (g : MG) (b : MS) (ws : List W) (Q : Fl × Env → Sto → Prop) (p : Fl × Env) (S : Sto) : Prop := match p with
  | (.next, ρ) => Sat (mLoop g b ws ρ S) Q
  | (.cont, ρ) => Sat (mLoop g b ws ρ S) Q
  | (.brk, ρ) => Q (.next, ρ) S
  | (.ret w, ρ) => Q (.ret w, ρ) S
theorem loopK_next {g : MG} {b : MS} {ws : List W} : loopK g b ws QS (.next, ρ) S = Sat (mLoop g b ws ρ S) QS := rfl
theorem loopK_cont {g : MG} {b : MS} {ws : List W} : loopK g b ws QS (.cont, ρ) S = Sat (mLoop g b ws ρ S) QS := rfl
theorem loopK_brk {g : MG} {b : MS} {ws : List W} : loopK g b ws QS (.brk, ρ) S = QS (.next, ρ) S := rfl
theorem loopK_ret {g : MG} {b : MS} {ws : List W} {w : W} : loopK g b ws QS (.ret w, ρ) S = QS (.ret w, ρ) S := rfl
theorem sat_loop0 {g : MG} {b : MS} : Sat (mLoop g b [] ρ S) QS = QS (.next, ρ) S := rfl
theorem sat_loop1 {g : MG} {b : MS} {w : W} {ws : List W} : Sat (mLoop g b (w :: ws) ρ S) QS = Sat (g w ρ S) fun ρ1 S1 => Sat (b ρ1 S1) (loopK g b ws QS) := by
  rw [← sat_then]
  unfold mLoop
  cases mThen (g w) b ρ S with
  | ok p S1 => obtain ⟨f, ρ1⟩ := p; cases f <;> rfl
  | _ => rfl
/-- a loop by an invariant, over the items that are left -/
theorem loop_inv {g : MG} {b : MS} (I : List W → Env → Sto → Prop) (h0 : ∀ ρ S, I [] ρ S → QS (.next, ρ) S)
    (h1 : ∀ w ws ρ S, I (w :: ws) ρ S → Sat (g w ρ S) fun ρ1 S1 => Sat (b ρ1 S1) fun p S2 => match p with
      | (.next, ρ2) => I ws ρ2 S2
      | (.cont, ρ2) => I ws ρ2 S2
      | (.brk, ρ2) => QS (.next, ρ2) S2
      | (.ret u, ρ2) => QS (.ret u, ρ2) S2) : ∀ ws ρ S, I ws ρ S → Sat (mLoop g b ws ρ S) QS := by
  intro ws
  induction ws with
  | nil => exact fun ρ S h => h0 ρ S h
  | cons w ws ih =>
    intro ρ S h
    rw [sat_loop1]
    refine (h1 w ws ρ S h).mono fun ρ1 S1 h2 => h2.mono fun p S2 h3 => ?_
    obtain ⟨f, ρ2⟩ := p
    cases f with
    | next => exact ih ρ2 S2 h3
    | cont => exact ih ρ2 S2 h3
    | brk => exact h3
    | ret u => exact h3
theorem sat_iter {c : MV} : Sat (mIter c ρ S) QL = Sat (c ρ S) fun w S1 => ∃ ws, itemsOf w = some ws ∧ QL ws S1 := by
  unfold mIter; rw [sat_bind]; congr; funext w S1
  cases h : itemsOf w with
  | none => simp [Sat]
  | some ws => simp [Sat]
theorem sat_rng1 {c : MV} : Sat (mRng1 (mCons c mNil) ρ S) QL = Sat (c ρ S) fun w S1 => ∃ j, w = .int j ∧ -(2 ^ 62) ≤ j ∧ j < 2 ^ 62 ∧ QL (rngW 0 j) S1 := by
  unfold mRng1; rw [sat_bind, sat_cons]; congr; funext w S1; rw [sat_nil]
  cases w with
  | int j =>
    simp only
    rw [sat_ite, sat_stuck, sat_ok]
    by_cases h : -(2 ^ 62) ≤ j ∧ j < 2 ^ 62
    · rw [if_pos h]
      exact propext ⟨fun z => ⟨j, rfl, h.1, h.2, z⟩, fun ⟨_, e, _, _, z⟩ => by cases e; exact z⟩
    · rw [if_neg h]
      exact propext ⟨False.elim, fun ⟨_, e, a, b, z⟩ => by cases e; exact h ⟨a, b⟩⟩
  | _ => exact propext ⟨False.elim, fun ⟨_, e, _⟩ => by cases e⟩
/-! comprehensions -/
def lcK (g : MG) (t : MW Bool) (e : MV) (ρ : Env) (ws acc : List W) (Q : List W → Sto → Prop) (o : Option W) (S : Sto) : Prop := match o with
  | some y => if acc.length < sizeLine then Sat (mLcLoop g t e ρ ws (acc ++ [y]) S) Q else False
  | none => Sat (mLcLoop g t e ρ ws acc S) Q
theorem sat_turn {g : MG} {t : MW Bool} {e : MV} {w : W} {Q : Option W → Sto → Prop} : Sat (mLcTurn g t e w ρ S) Q = Sat (g w ρ S) fun ρ1 S1 => Sat (t ρ1 S1) fun b S2 => if b = true then Sat (e ρ1 S2) fun y S3 => Q (some y) S3 else Q none S2 := by
  unfold mLcTurn; rw [sat_then]; congr; funext ρ1 S1; rw [sat_bind]; congr; funext b S2
  cases b
  · rfl
  · rw [if_pos rfl, if_pos rfl, sat_bind]; rfl
theorem sat_lcloop0 {g : MG} {t : MW Bool} {e : MV} {acc : List W} : Sat (mLcLoop g t e ρ [] acc S) QL = QL acc S := rfl
theorem sat_lcloop1 {g : MG} {t : MW Bool} {e : MV} {acc ws : List W} {w : W} : Sat (mLcLoop g t e ρ (w :: ws) acc S) QL = Sat (mLcTurn g t e w ρ S) (lcK g t e ρ ws acc QL) := by
  unfold mLcLoop
  cases mLcTurn g t e w ρ S with
  | ok o S1 =>
    cases o with
    | none => rfl
    | some y => simp only; rw [sat_ite]; rfl
  | _ => rfl
theorem sat_lc {vs : List Nat} {ci : MW (List W)} {g : MG} {t : MW Bool} {e : MV} : Sat (mLc vs ci g t e ρ S) Q = Sat (ci ρ S) fun ws S1 => Sat (mLcLoop g t e (wipeE ρ vs) ws [] S1) fun ys S2 => Q (.lst ys) S2 := by
  unfold mLc; rw [sat_bind]; congr; funext ws S1
  cases mLcLoop g t e (wipeE ρ vs) ws [] S1 <;> rfl
theorem lc_inv {g : MG} {t : MW Bool} {e : MV} (I : List W → List W → Sto → Prop) (h0 : ∀ acc S, I [] acc S → QL acc S)
    (h1 : ∀ w ws acc S, I (w :: ws) acc S → Sat (g w ρ S) fun ρ1 S1 => Sat (t ρ1 S1) fun b S2 => if b = true then Sat (e ρ1 S2) fun y S3 => acc.length < sizeLine ∧ I ws (acc ++ [y]) S3 else I ws acc S2) : ∀ ws acc S, I ws acc S → Sat (mLcLoop g t e ρ ws acc S) QL := by
  intro ws
  induction ws with
  | nil => exact fun acc S h => h0 acc S h
  | cons w ws ih =>
    intro acc S h
    rw [sat_lcloop1, sat_turn]
    refine (h1 w ws acc S h).mono fun ρ1 S1 h2 => h2.mono fun b S2 h3 => ?_
    cases b with
    | false => exact ih acc S2 h3
    | true =>
      rw [if_pos rfl] at h3 ⊢
      refine h3.mono fun y S3 h4 => ?_
      show if acc.length < sizeLine then _ else False
      rw [if_pos h4.1]
      exact ih _ S3 h4.2
theorem sat_yes : Sat (mYes ρ S) QB = QB true S := rfl
/-- a comprehension whose turns leave the store and give a value each -/
theorem lc_map {g : MG} {e : MV} {f : W → W} : ∀ (ws acc : List W) (S : Sto), (∀ w, w ∈ ws → Sat (g w ρ S) fun ρ1 S1 => Sat (e ρ1 S1) fun y S2 => y = f w ∧ S2 = S) → acc.length + ws.length ≤ sizeLine → mLcLoop g mYes e ρ ws acc S = .ok (acc ++ ws.map f) S
  | [], acc, S, _, _ => by simp [mLcLoop]
  | w :: ws, acc, S, h, hz => by
    refine sat_to ?_
    rw [sat_lcloop1, sat_turn]
    refine (h w List.mem_cons_self).mono fun ρ1 S1 h2 => ?_
    rw [sat_yes, if_pos rfl]
    refine h2.mono fun y S2 ⟨e1, e2⟩ => ?_
    subst e1
    subst e2
    have hz' : acc.length + (ws.length + 1) ≤ sizeLine := by simpa using hz
    show if acc.length < sizeLine then _ else False
    rw [if_pos (by omega), lc_map ws (acc ++ [f w]) S2 (fun u hu => h u (List.mem_cons_of_mem _ hu)) (by simp; omega)]
    exact ⟨by simp, rfl⟩
/-! defs -/
def finK (n : Nat) (Q : W → Sto → Prop) (p : Fl × Env) (S : Sto) : Prop := match p.1 with
  | .ret w => Sat (finW n w S) Q
  | .next => Sat (finW n .non S) Q
  | _ => False
theorem finK_ret {n : Nat} {w : W} : finK n Q (.ret w, ρ) S = Sat (finW n w S) Q := rfl
theorem finK_next {n : Nat} : finK n Q (.next, ρ) S = Sat (finW n .non S) Q := rfl
theorem sat_def {N : Nat} {c : MS} {ws : List W} : Sat (mDef N c ws S) Q = Sat (c (slots N ws) S) (finK S.length Q) := by
  unfold mDef
  cases c (slots N ws) S with
  | ok p S1 => obtain ⟨f, ρ1⟩ := p; cases f <;> rfl
  | _ => rfl
def keepK (Q : W → Sto → Prop) (p : Fl × Env) (S : Sto) : Prop := match p.1 with
  | .ret w => Q w S
  | .next => Q .non S
  | _ => False
theorem keepK_ret {w : W} : keepK Q (.ret w, ρ) S = Q w S := rfl
theorem keepK_next : keepK Q (.next, ρ) S = Q .non S := rfl
theorem sat_defK {N : Nat} {c : MS} {ws : List W} : Sat (mDefK N c ws S) Q = Sat (c (slots N ws) S) (keepK Q) := by
  unfold mDefK
  cases c (slots N ws) S with
  | ok p S1 => obtain ⟨f, ρ1⟩ := p; cases f <;> rfl
  | _ => rfl
theorem sat_m0 {f : W → Sto → Res W} {c : MV} : Sat (mM0 f c ρ S) Q = Sat (c ρ S) fun x S1 => Sat (f x S1) Q := by
  unfold mM0; rw [sat_bind]
theorem sat_nopart {Q : Option Int → Sto → Prop} : Sat (mNoPart ρ S) Q = Q none S := rfl
def partK (Q : Option Int → Sto → Prop) (w : W) (S : Sto) : Prop := match w with
  | .int i => Q (some i) S
  | _ => False
theorem partK_int {Q : Option Int → Sto → Prop} {i : Int} : partK Q (.int i) S = Q (some i) S := rfl
theorem sat_part {c : MV} {Q : Option Int → Sto → Prop} : Sat (mPart c ρ S) Q = Sat (c ρ S) (partK Q) := by
  unfold mPart; rw [sat_bind]; congr; funext w S1; cases w <;> rfl
theorem sat_sl {c : MV} {lo hi : MW (Option Int)} : Sat (mSl c lo hi ρ S) Q = Sat (c ρ S) fun x S1 => Sat (lo ρ S1) fun l S2 => Sat (hi ρ S2) fun u S3 => Sat (fSl x l u S3) Q := by
  unfold mSl; rw [sat_bind]; congr; funext w S1; rw [sat_bind]; congr; funext w S1; rw [sat_bind]
end
/-- all of them, for simp -/
theorem satS : type_of% (And.intro @sat_bind (And.intro @sat_then (And.intro @sat_ok (And.intro @sat_stuck (And.intro @sat_ite (And.intro @ite_ap (And.intro @sat_var0 (And.intro @sat_varS (And.intro @sat_c (And.intro @sat_op (And.intro @sat_un (And.intro @testK_bl (And.intro @sat_test (And.intro @chainK_bl (And.intro @sat_chain (And.intro @sat_and (And.intro @sat_or (And.intro @sat_not (And.intro @andK_bl (And.intro @orK_bl (And.intro @notK_bl (And.intro @sat_andV (And.intro @sat_orV (And.intro @sat_notV (And.intro @sat_ifE (And.intro @sat_nil (And.intro @sat_cons (And.intro @sat_tup (And.intro @sat_lst (And.intro @sat_lstM (And.intro @sat_cb (And.intro @sat_call (And.intro @seqK_next (And.intro @seqK_ret (And.intro @seqK_brk (And.intro @seqK_cont (And.intro @sat_seq (And.intro @sat_next (And.intro @sat_brk (And.intro @sat_cont (And.intro @sat_ret (And.intro @sat_drop (And.intro @sat_if (And.intro @sat_asg (And.intro @sat_set (And.intro @sat_par (And.intro @sat_gname (And.intro @sat_gnil (And.intro @sat_gcons (And.intro @sat_gtup (And.intro @sat_gsub (And.intro @sat_for (And.intro @sat_loop0 (And.intro @loopK_next (And.intro @loopK_cont (And.intro @loopK_brk (And.intro @loopK_ret (And.intro @sat_iter (And.intro @sat_rng1 (And.intro @sat_lc (And.intro @sat_lcloop0 (And.intro @sat_yes (And.intro @finK_ret (And.intro @finK_next (And.intro @sat_def (And.intro @keepK_ret (And.intro @keepK_next (And.intro @sat_defK (And.intro @sat_m0 (And.intro @sat_nopart (And.intro @partK_int (And.intro @sat_part @sat_sl)))))))))))))))))))))))))))))))))))))))))))))))))))))))))))))))))))))))) :=
  (And.intro @sat_bind (And.intro @sat_then (And.intro @sat_ok (And.intro @sat_stuck (And.intro @sat_ite (And.intro @ite_ap (And.intro @sat_var0 (And.intro @sat_varS (And.intro @sat_c (And.intro @sat_op (And.intro @sat_un (And.intro @testK_bl (And.intro @sat_test (And.intro @chainK_bl (And.intro @sat_chain (And.intro @sat_and (And.intro @sat_or (And.intro @sat_not (And.intro @andK_bl (And.intro @orK_bl (And.intro @notK_bl (And.intro @sat_andV (And.intro @sat_orV (And.intro @sat_notV (And.intro @sat_ifE (And.intro @sat_nil (And.intro @sat_cons (And.intro @sat_tup (And.intro @sat_lst (And.intro @sat_lstM (And.intro @sat_cb (And.intro @sat_call (And.intro @seqK_next (And.intro @seqK_ret (And.intro @seqK_brk (And.intro @seqK_cont (And.intro @sat_seq (And.intro @sat_next (And.intro @sat_brk (And.intro @sat_cont (And.intro @sat_ret (And.intro @sat_drop (And.intro @sat_if (And.intro @sat_asg (And.intro @sat_set (And.intro @sat_par (And.intro @sat_gname (And.intro @sat_gnil (And.intro @sat_gcons (And.intro @sat_gtup (And.intro @sat_gsub (And.intro @sat_for (And.intro @sat_loop0 (And.intro @loopK_next (And.intro @loopK_cont (And.intro @loopK_brk (And.intro @loopK_ret (And.intro @sat_iter (And.intro @sat_rng1 (And.intro @sat_lc (And.intro @sat_lcloop0 (And.intro @sat_yes (And.intro @finK_ret (And.intro @finK_next (And.intro @sat_def (And.intro @keepK_ret (And.intro @keepK_next (And.intro @sat_defK (And.intro @sat_m0 (And.intro @sat_nopart (And.intro @partK_int (And.intro @sat_part @sat_sl))))))))))))))))))))))))))))))))))))))))))))))))))))))))))))))))))))))))
end Mm

/-! Reckoning with mirrors: the operations. -/
namespace Mm
open PySem PySem.Spec PyProof.Rows L2
section
variable {S : Sto} {Q : W → Sto → Prop} {i j : Int} {ws us : List W} {l : Nat} {z y : Str} {b c : Bool}
theorem ex_o {α : Type} {o : Option α} {P : Prop} {R : α → Prop} (hn : o = none → P = False) (hs : ∀ a, o = some a → P = R a) : P = ∃ a, o = some a ∧ R a := by
  cases o with
  | none => exact (hn rfl).trans (propext ⟨False.elim, fun ⟨_, e, _⟩ => by cases e⟩)
  | some a => exact (hs a rfl).trans (propext ⟨fun h => ⟨a, rfl, h⟩, fun ⟨_, e, h⟩ => by cases e; exact h⟩)
theorem p_ixT : Sat (fIx (.tup ws) (.int i) S) Q = ∃ w, atI ws i = some w ∧ Q w S := ex_o (fun e => by unfold fIx seqA; first | rw [e]; rfl | (unfold seqL; simp only; rw [e]; rfl) | (simp only; rw [e]; rfl)) fun a e => by unfold fIx seqA; first | rw [e]; rfl | (unfold seqL; simp only; rw [e]; rfl) | (simp only; rw [e]; rfl)
theorem p_ixL : Sat (fIx (.lst ws) (.int i) S) Q = ∃ w, atI ws i = some w ∧ Q w S := ex_o (fun e => by unfold fIx seqA; first | rw [e]; rfl | (unfold seqL; simp only; rw [e]; rfl) | (simp only; rw [e]; rfl)) fun a e => by unfold fIx seqA; first | rw [e]; rfl | (unfold seqL; simp only; rw [e]; rfl) | (simp only; rw [e]; rfl)
theorem p_ixA : Sat (fIx (.arr ws) (.int i) S) Q = ∃ w, atI ws i = some w ∧ Q w S := ex_o (fun e => by unfold fIx seqA; first | rw [e]; rfl | (unfold seqL; simp only; rw [e]; rfl) | (simp only; rw [e]; rfl)) fun a e => by unfold fIx seqA; first | rw [e]; rfl | (unfold seqL; simp only; rw [e]; rfl) | (simp only; rw [e]; rfl)
theorem p_ixS : Sat (fIx (.str z) (.int i) S) Q = if z.length ≤ sizeLine then ∃ c, atI z.cps.toList i = some c ∧ Q (.str ⟨#[c]⟩) S else False := by
  show Sat (if z.length ≤ sizeLine then _ else _) Q = _
  rw [sat_ite]
  congr 1
  exact ex_o (fun e => by rw [e]; rfl) fun a e => by rw [e]; rfl
theorem p_ixO : Sat (fIx (.loc l) (.int i) S) Q = ∃ ws, S[l]? = some (.lst ws) ∧ ∃ w, atI ws i = some w ∧ Q w S := by
  show Sat (match seqA S (.loc l) with
    | some ws => (match atI ws i with
      | some w => .ok w S
      | none => .stuck)
    | none => .stuck) Q = _
  unfold seqA seqL
  simp only
  cases h : S[l]? with
  | none => exact propext ⟨False.elim, fun ⟨_, e, _⟩ => by cases e⟩
  | some o =>
    cases o with
    | lst ws => 
      refine Eq.trans (b := ∃ w, atI ws i = some w ∧ Q w S) (ex_o (fun e => ?_) fun a e => ?_) (propext ⟨fun h => ⟨ws, rfl, h⟩, fun ⟨_, e, h⟩ => by cases e; exact h⟩)
      · simp only [e]; rfl
      · simp only [e]; rfl
    | _ => exact propext ⟨False.elim, fun ⟨_, e, _⟩ => by cases e⟩
theorem p_addI : Sat (fAdd (.int i) (.int j) S) Q = Q (.int (i + j)) S := rfl
theorem p_addS : Sat (fAdd (.str z) (.str y) S) Q = if z.length + y.length ≤ sizeLine then Q (.str (z ++ y)) S else False := by
  show Sat (if _ then _ else _) Q = _
  rw [sat_ite]; rfl
theorem p_addT : Sat (fAdd (.tup ws) (.tup us) S) Q = if ws.length + us.length ≤ sizeLine then Q (.tup (ws ++ us)) S else False := by
  show Sat (if _ then _ else _) Q = _
  rw [sat_ite]; rfl
theorem p_addL : Sat (fAdd (.lst ws) (.lst us) S) Q = if ws.length + us.length ≤ sizeLine then Q (.lst (ws ++ us)) S else False := by
  show Sat (if _ then _ else _) Q = _
  rw [sat_ite]; rfl
theorem p_addM : Sat (fAddM (.loc l) (.lst us) S) Q = ∃ ws, S[l]? = some (.lst ws) ∧ ws.length + us.length ≤ sizeLine ∧ Q (.loc S.length) (S ++ [.lst (ws ++ us)]) := by
  unfold fAddM seqO
  simp only
  cases h : S[l]? with
  | none => exact propext ⟨False.elim, fun ⟨_, e, _⟩ => by cases e⟩
  | some o =>
    cases o with
    | lst ws =>
      simp only
      rw [sat_ite]
      by_cases h : ws.length + us.length ≤ sizeLine
      · rw [if_pos h]
        exact propext ⟨fun q => ⟨ws, rfl, h, q⟩, fun ⟨_, e, _, q⟩ => by cases e; exact q⟩
      · rw [if_neg h]
        exact propext ⟨False.elim, fun ⟨_, e, z, _⟩ => by cases e; exact h z⟩
    | _ => exact propext ⟨False.elim, fun ⟨_, e, _⟩ => by cases e⟩
theorem p_sub : Sat (fSub (.int i) (.int j) S) Q = Q (.int (i - j)) S := rfl
theorem p_mul : Sat (fMul (.int i) (.int j) S) Q = if (-(2 ^ 64) < i ∧ i < 2 ^ 64) ∨ (-(2 ^ 64) < j ∧ j < 2 ^ 64) then Q (.int (i * j)) S else False := by
  show Sat (if _ then _ else _) Q = _
  rw [sat_ite]; rfl
theorem p_mulS : Sat (fMul (.str z) (.int j) S) Q = if 2 ≤ j ∧ j ≤ 100000 ∧ 1 ≤ z.length ∧ z.length ≤ 100 then Q (.str (repS z j.toNat)) S else False := by
  show Sat (if _ then _ else _) Q = _
  rw [sat_ite]; rfl
theorem p_mod : Sat (fMod (.int i) (.int j) S) Q = if 0 < j then Q (.int (i % j)) S else False := by
  show Sat (if _ then _ else _) Q = _
  rw [sat_ite]; rfl
theorem p_div : Sat (fDiv (.int i) (.int j) S) Q = if 0 < j ∧ j < 1073741824 then Q (.int (i / j)) S else False := by
  show Sat (if _ then _ else _) Q = _
  rw [sat_ite]; rfl
theorem p_pow : Sat (fPow (.int i) (.int j) S) Q = if 0 ≤ j ∧ j ≤ 1000000 ∧ i.natAbs < 2 ^ 64 then Q (.int (i ^ j.toNat)) S else False := by
  show Sat (if _ then _ else _) Q = _
  rw [sat_ite]; rfl
theorem p_neg : Sat (fNeg (.int i) S) Q = Q (.int (-i)) S := rfl
theorem p_lt : Sat (fLt (.int i) (.int j) S) Q = Q (.bl (decide (i < j))) S := rfl
theorem p_le : Sat (fLe (.int i) (.int j) S) Q = Q (.bl (decide (i ≤ j))) S := rfl
theorem p_gt : Sat (fGt (.int i) (.int j) S) Q = Q (.bl (decide (j < i))) S := rfl
theorem p_ge : Sat (fGe (.int i) (.int j) S) Q = Q (.bl (decide (j ≤ i))) S := rfl
theorem p_eqI : Sat (fEq (.int i) (.int j) S) Q = Q (.bl (decide (i = j))) S := rfl
theorem p_eqB : Sat (fEq (.bl b) (.bl c) S) Q = Q (.bl (decide (b = c))) S := rfl
theorem p_eqS : Sat (fEq (.str z) (.str y) S) Q = Q (.bl (decide (z = y))) S := rfl
theorem p_eqT : Sat (fEq (.tup ws) (.tup []) S) Q = Q (.bl ws.isEmpty) S := rfl
theorem p_neI : Sat (fNe (.int i) (.int j) S) Q = Q (.bl (!decide (i = j))) S := rfl
theorem p_neS : Sat (fNe (.str z) (.str y) S) Q = Q (.bl (!decide (z = y))) S := rfl
theorem p_lenS : Sat (fLen [.str z] S) Q = if z.length ≤ sizeLine then Q (.int z.length) S else False := by
  show Sat (if _ then _ else _) Q = _
  rw [sat_ite]; rfl
theorem p_lenT : Sat (fLen [.tup ws] S) Q = Q (.int ws.length) S := rfl
theorem p_lenK : Sat (fLen [.ktp ws] S) Q = Q (.int ws.length) S := rfl
theorem p_lenL : Sat (fLen [.lst ws] S) Q = Q (.int ws.length) S := rfl
theorem p_lenA : Sat (fLen [.arr ws] S) Q = Q (.int ws.length) S := rfl
theorem p_all : Sat (fAll [.lst ws] S) Q = ∃ bs, bools ws = some bs ∧ Q (.bl (bs.all id)) S := ex_o (fun e => by unfold fAll seqL; simp only [e]; rfl) fun a e => by unfold fAll seqL; simp only [e]; rfl
theorem p_any : Sat (fAny [.lst ws] S) Q = ∃ bs, bools ws = some bs ∧ Q (.bl (bs.any id)) S := ex_o (fun e => by unfold fAny seqL; simp only [e]; rfl) fun a e => by unfold fAny seqL; simp only [e]; rfl
theorem p_abs : Sat (fAbs [.int i] S) Q = Q (.int (if i < 0 then -i else i)) S := rfl
theorem p_max : Sat (fMax2 [.int i, .int j] S) Q = Q (.int (if j > i then j else i)) S := rfl
theorem p_min : Sat (fMin2 [.int i, .int j] S) Q = Q (.int (if j < i then j else i)) S := rfl
theorem p_divmod : Sat (fDivmod [.int i, .int j] S) Q = if 0 < j ∧ j < 1073741824 then Q (.tup [.int (i / j), .int (i % j)]) S else False := by
  show Sat (if _ then _ else _) Q = _
  rw [sat_ite]; rfl
theorem p_tupleT : Sat (fTuple [.tup ws] S) Q = Q (.tup ws) S := rfl
theorem p_tupleL : Sat (fTuple [.lst ws] S) Q = Q (.tup ws) S := rfl
theorem p_listT : Sat (fList [.tup ws] S) Q = Q (.lst ws) S := rfl
theorem p_listL : Sat (fList [.lst ws] S) Q = Q (.lst ws) S := rfl
theorem p_slS {lo hi : Option Int} : Sat (fSl (.str z) lo hi S) Q = if z.length ≤ sizeLine then Q (.str (cutS z lo hi)) S else False := by
  show Sat (if _ then _ else _) Q = _
  rw [sat_ite]; rfl
theorem p_slT {lo hi : Option Int} : Sat (fSl (.tup ws) lo hi S) Q = Q (.tup (cutW ws lo hi)) S := rfl
theorem p_slL {lo hi : Option Int} : Sat (fSl (.lst ws) lo hi S) Q = Q (.lst (cutW ws lo hi)) S := rfl
theorem p_slA {lo hi : Option Int} : Sat (fSl (.arr ws) lo hi S) Q = Q (.lst (cutW ws lo hi)) S := rfl
theorem p_lower : Sat (fIslower (.str z) S) Q = Q (.bl (Txt.islower z)) S := rfl
theorem p_digit : Sat (fIsdigit (.str z) S) Q = Q (.bl (Txt.isdigit z)) S := rfl
theorem p_isN {w : W} : Sat (fIsN w .non S) Q = Q (.bl (match w with | .non => true | _ => false)) S := by cases w <;> rfl
theorem p_notN {w : W} : Sat (fNotN w .non S) Q = Q (.bl (match w with | .non => false | _ => true)) S := by cases w <;> rfl
theorem p_in {x w : W} : Sat (fIn x w S) Q = ∃ b, inW x w S = some b ∧ Q (.bl b) S := ex_o (fun e => by unfold fIn; rw [e]; rfl) fun a e => by unfold fIn; rw [e]; rfl
theorem p_notIn {x w : W} : Sat (fNotIn x w S) Q = ∃ b, inW x w S = some b ∧ Q (.bl (!b)) S := ex_o (fun e => by unfold fNotIn; rw [e]; rfl) fun a e => by unfold fNotIn; rw [e]; rfl
def revK (Q : W → Sto → Prop) (w : W) (S : Sto) : Prop := Sat (match w with
  | .tup ws => .ok (.tup ws.reverse) S
  | w => match seqL S w with
    | some ws => .ok (.lst ws.reverse) S
    | none => .stuck) Q
theorem p_rev {ρ : Env} {c : MV} : Sat (mRev c ρ S) Q = Sat (c ρ S) (revK Q) := by
  unfold mRev; rw [sat_bind]; rfl
theorem p_revT : revK Q (.tup ws) S = Q (.tup ws.reverse) S := rfl
theorem p_revL : revK Q (.lst ws) S = Q (.lst ws.reverse) S := rfl
theorem p_setL {QU : Unit → Sto → Prop} {w : W} : Sat (fSetL (.loc l) (.int i) w S) QU = ∃ ws, S[l]? = some (.lst ws) ∧ ∃ k, ixN ws.length i = some k ∧ QU () (S.set l (.lst (ws.set k w))) := by
  unfold fSetL
  simp only
  cases h : S[l]? with
  | none => exact propext ⟨False.elim, fun ⟨_, e, _⟩ => by cases e⟩
  | some o =>
    cases o with
    | lst ws =>
      simp only
      cases q : ixN ws.length i with
      | none => exact propext ⟨False.elim, fun ⟨_, e, _, f, _⟩ => by cases e; rw [q] at f; cases f⟩
      | some k => exact propext ⟨fun h => ⟨ws, rfl, k, q, h⟩, fun ⟨_, e, _, f, z⟩ => by cases e; rw [q] at f; cases f; exact z⟩
    | _ => exact propext ⟨False.elim, fun ⟨_, e, _⟩ => by cases e⟩
/-- x.append(..): the list stands at l when it is asked for and when it is written -/
theorem p_append {ρ : Env} {c e : MV} : Sat (mAppend c (mCons e mNil) ρ S) Q = Sat (c ρ S) fun x S1 => ∃ l, x = .loc l ∧ (∃ vs, S1[l]? = some (.lst vs)) ∧ Sat (e ρ S1) fun w S2 => ∃ ws, S2[l]? = some (.lst ws) ∧ ws.length < sizeLine ∧ Q .non (S2.set l (.lst (ws ++ [w]))) := by
  unfold mAppend; rw [sat_bind]; congr; funext x S1
  cases x with
  | loc l =>
    simp only
    cases h : S1[l]? with
    | none => exact propext ⟨False.elim, fun ⟨_, e, ⟨_, f⟩, _⟩ => by cases e; rw [h] at f; cases f⟩
    | some o =>
      cases o with
      | lst vs =>
        simp only
        rw [sat_bind, sat_cons]
        simp only [sat_nil]
        have k : ∀ (r : Res W) (R : Prop), Sat r (fun w S2 => Sat (match S2[l]? with
            | some (.lst ws) => if ws.length < sizeLine then Res.ok W.non (S2.set l (.lst (ws ++ [w]))) else .stuck
            | _ => .stuck) Q) = (∃ l_1, W.loc l = W.loc l_1 ∧ (∃ vs, S1[l_1]? = some (O.lst vs)) ∧ Sat r fun w S2 => ∃ ws, S2[l_1]? = some (.lst ws) ∧ ws.length < sizeLine ∧ Q .non (S2.set l_1 (.lst (ws ++ [w])))) := by
          intro r R
          cases r with
          | ok w S2 =>
            simp only [Sat]
            cases h2 : S2[l]? with
            | none => exact propext ⟨False.elim, fun ⟨_, e, _, _, f, _⟩ => by cases e; rw [h2] at f; cases f⟩
            | some o =>
              cases o with
              | lst ws =>
                by_cases z : ws.length < sizeLine
                · simp only [if_pos z]
                  exact propext ⟨fun q => ⟨l, rfl, ⟨vs, h⟩, ws, h2, z, q⟩, fun ⟨_, e, _, _, f, _, q⟩ => by cases e; rw [h2] at f; cases f; exact q⟩
                · simp only [if_neg z]
                  exact propext ⟨False.elim, fun ⟨_, e, _, _, f, y, _⟩ => by cases e; rw [h2] at f; cases f; exact z y⟩
              | _ => exact propext ⟨False.elim, fun ⟨_, e, _, _, f, _⟩ => by cases e; rw [h2] at f; cases f⟩
          | _ => exact propext ⟨False.elim, fun ⟨_, e, _, f⟩ => f⟩
        have k2 := k (e ρ S1) True
        exact k2
      | _ => exact propext ⟨False.elim, fun ⟨_, e, ⟨_, f⟩, _⟩ => by cases e; rw [h] at f; cases f⟩
  | _ => exact propext ⟨False.elim, fun ⟨_, e, _⟩ => by cases e⟩
/-! items at places -/
theorem at0 {α : Type} {a : α} {xs : List α} : atI (a :: xs) 0 = some a := by
  unfold atI ixN
  rw [if_pos (by decide), if_pos (by simp)]
  rfl
theorem atS {α : Type} {a : α} {xs : List α} {i : Int} (h : 0 ≤ i) : atI (a :: xs) (i + 1) = atI xs i := by
  unfold atI ixN
  rw [if_pos (by omega), if_pos h]
  by_cases z : i < xs.length
  · rw [if_pos (by simp; omega), if_pos z]
    show (a :: xs)[(i + 1).toNat]? = xs[i.toNat]?
    rw [show (i + 1).toNat = i.toNat + 1 by omega]
    rfl
  · rw [if_neg (by simp; omega), if_neg z]
    rfl
theorem at1 {α : Type} {a b : α} {xs : List α} : atI (a :: b :: xs) 1 = some b := (atS (i := 0) (by decide)).trans at0
theorem at2 {α : Type} {a b c : α} {xs : List α} : atI (a :: b :: c :: xs) 2 = some c := (atS (i := 1) (by decide)).trans at1
theorem at3 {α : Type} {a b c d : α} {xs : List α} : atI (a :: b :: c :: d :: xs) 3 = some d := (atS (i := 2) (by decide)).trans at2
theorem at_in {α : Type} {xs : List α} {i : Int} (h : 0 ≤ i) (h2 : i < xs.length) : ∃ a, a ∈ xs ∧ atI xs i = some a := by
  unfold atI ixN
  rw [if_pos h, if_pos h2]
  have hl : i.toNat < xs.length := by omega
  exact ⟨xs[i.toNat], List.getElem_mem hl, List.getElem?_eq_getElem hl⟩
end
theorem satP : type_of% (And.intro @p_ixT (And.intro @p_ixL (And.intro @p_ixA (And.intro @p_ixS (And.intro @p_ixO (And.intro @p_addI (And.intro @p_addS (And.intro @p_addT (And.intro @p_addL (And.intro @p_addM (And.intro @p_sub (And.intro @p_mul (And.intro @p_mulS (And.intro @p_mod (And.intro @p_div (And.intro @p_pow (And.intro @p_neg (And.intro @p_lt (And.intro @p_le (And.intro @p_gt (And.intro @p_ge (And.intro @p_eqI (And.intro @p_eqB (And.intro @p_eqS (And.intro @p_eqT (And.intro @p_neI (And.intro @p_neS (And.intro @p_lenS (And.intro @p_lenT (And.intro @p_lenK (And.intro @p_lenL (And.intro @p_lenA (And.intro @p_all (And.intro @p_any (And.intro @p_abs (And.intro @p_max (And.intro @p_min (And.intro @p_divmod (And.intro @p_tupleT (And.intro @p_tupleL (And.intro @p_listT (And.intro @p_listL (And.intro @p_slS (And.intro @p_slT (And.intro @p_slL (And.intro @p_slA (And.intro @p_lower (And.intro @p_digit (And.intro @p_isN (And.intro @p_notN (And.intro @p_in (And.intro @p_notIn (And.intro @p_rev (And.intro @p_revT (And.intro @p_revL (And.intro @p_setL (And.intro @p_append (And.intro @at0 (And.intro @at1 (And.intro @at2 @at3)))))))))))))))))))))))))))))))))))))))))))))))))))))))))))) :=
  (And.intro @p_ixT (And.intro @p_ixL (And.intro @p_ixA (And.intro @p_ixS (And.intro @p_ixO (And.intro @p_addI (And.intro @p_addS (And.intro @p_addT (And.intro @p_addL (And.intro @p_addM (And.intro @p_sub (And.intro @p_mul (And.intro @p_mulS (And.intro @p_mod (And.intro @p_div (And.intro @p_pow (And.intro @p_neg (And.intro @p_lt (And.intro @p_le (And.intro @p_gt (And.intro @p_ge (And.intro @p_eqI (And.intro @p_eqB (And.intro @p_eqS (And.intro @p_eqT (And.intro @p_neI (And.intro @p_neS (And.intro @p_lenS (And.intro @p_lenT (And.intro @p_lenK (And.intro @p_lenL (And.intro @p_lenA (And.intro @p_all (And.intro @p_any (And.intro @p_abs (And.intro @p_max (And.intro @p_min (And.intro @p_divmod (And.intro @p_tupleT (And.intro @p_tupleL (And.intro @p_listT (And.intro @p_listL (And.intro @p_slS (And.intro @p_slT (And.intro @p_slL (And.intro @p_slA (And.intro @p_lower (And.intro @p_digit (And.intro @p_isN (And.intro @p_notN (And.intro @p_in (And.intro @p_notIn (And.intro @p_rev (And.intro @p_revT (And.intro @p_revL (And.intro @p_setL (And.intro @p_append (And.intro @at0 (And.intro @at1 (And.intro @at2 @at3))))))))))))))))))))))))))))))))))))))))))))))))))))))))))))
end Mm

namespace Mm
open PySem L2
theorem isi_non_int {S : Sto} {Q : W → Sto → Prop} : Sat (fIsi [.non, .ty "int"] S) Q = Q (.bl false) S := rfl
theorem isi_non_bool {S : Sto} {Q : W → Sto → Prop} : Sat (fIsi [.non, .ty "bool"] S) Q = Q (.bl false) S := rfl
theorem isi_non_str {S : Sto} {Q : W → Sto → Prop} : Sat (fIsi [.non, .ty "str"] S) Q = Q (.bl false) S := rfl
theorem isi_non_tuple {S : Sto} {Q : W → Sto → Prop} : Sat (fIsi [.non, .ty "tuple"] S) Q = Q (.bl false) S := rfl
theorem isi_non_list {S : Sto} {Q : W → Sto → Prop} : Sat (fIsi [.non, .ty "list"] S) Q = Q (.bl false) S := rfl
theorem isi_non_dict {S : Sto} {Q : W → Sto → Prop} : Sat (fIsi [.non, .ty "dict"] S) Q = Q (.bl false) S := rfl
theorem isi_bl_int {S : Sto} {Q : W → Sto → Prop} {b : Bool} : Sat (fIsi [.bl b, .ty "int"] S) Q = Q (.bl true) S := rfl
theorem isi_bl_bool {S : Sto} {Q : W → Sto → Prop} {b : Bool} : Sat (fIsi [.bl b, .ty "bool"] S) Q = Q (.bl true) S := rfl
theorem isi_bl_str {S : Sto} {Q : W → Sto → Prop} {b : Bool} : Sat (fIsi [.bl b, .ty "str"] S) Q = Q (.bl false) S := rfl
theorem isi_bl_tuple {S : Sto} {Q : W → Sto → Prop} {b : Bool} : Sat (fIsi [.bl b, .ty "tuple"] S) Q = Q (.bl false) S := rfl
theorem isi_bl_list {S : Sto} {Q : W → Sto → Prop} {b : Bool} : Sat (fIsi [.bl b, .ty "list"] S) Q = Q (.bl false) S := rfl
theorem isi_bl_dict {S : Sto} {Q : W → Sto → Prop} {b : Bool} : Sat (fIsi [.bl b, .ty "dict"] S) Q = Q (.bl false) S := rfl
theorem isi_int_int {S : Sto} {Q : W → Sto → Prop} {i : Int} : Sat (fIsi [.int i, .ty "int"] S) Q = Q (.bl true) S := rfl
theorem isi_int_bool {S : Sto} {Q : W → Sto → Prop} {i : Int} : Sat (fIsi [.int i, .ty "bool"] S) Q = Q (.bl false) S := rfl
theorem isi_int_str {S : Sto} {Q : W → Sto → Prop} {i : Int} : Sat (fIsi [.int i, .ty "str"] S) Q = Q (.bl false) S := rfl
theorem isi_int_tuple {S : Sto} {Q : W → Sto → Prop} {i : Int} : Sat (fIsi [.int i, .ty "tuple"] S) Q = Q (.bl false) S := rfl
theorem isi_int_list {S : Sto} {Q : W → Sto → Prop} {i : Int} : Sat (fIsi [.int i, .ty "list"] S) Q = Q (.bl false) S := rfl
theorem isi_int_dict {S : Sto} {Q : W → Sto → Prop} {i : Int} : Sat (fIsi [.int i, .ty "dict"] S) Q = Q (.bl false) S := rfl
theorem isi_str_int {S : Sto} {Q : W → Sto → Prop} {x : Str} : Sat (fIsi [.str x, .ty "int"] S) Q = Q (.bl false) S := rfl
theorem isi_str_bool {S : Sto} {Q : W → Sto → Prop} {x : Str} : Sat (fIsi [.str x, .ty "bool"] S) Q = Q (.bl false) S := rfl
theorem isi_str_str {S : Sto} {Q : W → Sto → Prop} {x : Str} : Sat (fIsi [.str x, .ty "str"] S) Q = Q (.bl true) S := rfl
theorem isi_str_tuple {S : Sto} {Q : W → Sto → Prop} {x : Str} : Sat (fIsi [.str x, .ty "tuple"] S) Q = Q (.bl false) S := rfl
theorem isi_str_list {S : Sto} {Q : W → Sto → Prop} {x : Str} : Sat (fIsi [.str x, .ty "list"] S) Q = Q (.bl false) S := rfl
theorem isi_str_dict {S : Sto} {Q : W → Sto → Prop} {x : Str} : Sat (fIsi [.str x, .ty "dict"] S) Q = Q (.bl false) S := rfl
theorem isi_tup_int {S : Sto} {Q : W → Sto → Prop} {ws : List W} : Sat (fIsi [.tup ws, .ty "int"] S) Q = Q (.bl false) S := rfl
theorem isi_tup_bool {S : Sto} {Q : W → Sto → Prop} {ws : List W} : Sat (fIsi [.tup ws, .ty "bool"] S) Q = Q (.bl false) S := rfl
theorem isi_tup_str {S : Sto} {Q : W → Sto → Prop} {ws : List W} : Sat (fIsi [.tup ws, .ty "str"] S) Q = Q (.bl false) S := rfl
theorem isi_tup_tuple {S : Sto} {Q : W → Sto → Prop} {ws : List W} : Sat (fIsi [.tup ws, .ty "tuple"] S) Q = Q (.bl true) S := rfl
theorem isi_tup_list {S : Sto} {Q : W → Sto → Prop} {ws : List W} : Sat (fIsi [.tup ws, .ty "list"] S) Q = Q (.bl false) S := rfl
theorem isi_tup_dict {S : Sto} {Q : W → Sto → Prop} {ws : List W} : Sat (fIsi [.tup ws, .ty "dict"] S) Q = Q (.bl false) S := rfl
theorem isi_lst_int {S : Sto} {Q : W → Sto → Prop} {ws : List W} : Sat (fIsi [.lst ws, .ty "int"] S) Q = Q (.bl false) S := rfl
theorem isi_lst_bool {S : Sto} {Q : W → Sto → Prop} {ws : List W} : Sat (fIsi [.lst ws, .ty "bool"] S) Q = Q (.bl false) S := rfl
theorem isi_lst_str {S : Sto} {Q : W → Sto → Prop} {ws : List W} : Sat (fIsi [.lst ws, .ty "str"] S) Q = Q (.bl false) S := rfl
theorem isi_lst_tuple {S : Sto} {Q : W → Sto → Prop} {ws : List W} : Sat (fIsi [.lst ws, .ty "tuple"] S) Q = Q (.bl false) S := rfl
theorem isi_lst_list {S : Sto} {Q : W → Sto → Prop} {ws : List W} : Sat (fIsi [.lst ws, .ty "list"] S) Q = Q (.bl true) S := rfl
theorem isi_lst_dict {S : Sto} {Q : W → Sto → Prop} {ws : List W} : Sat (fIsi [.lst ws, .ty "dict"] S) Q = Q (.bl false) S := rfl
theorem isi_arr_int {S : Sto} {Q : W → Sto → Prop} {ws : List W} : Sat (fIsi [.arr ws, .ty "int"] S) Q = Q (.bl false) S := rfl
theorem isi_arr_bool {S : Sto} {Q : W → Sto → Prop} {ws : List W} : Sat (fIsi [.arr ws, .ty "bool"] S) Q = Q (.bl false) S := rfl
theorem isi_arr_str {S : Sto} {Q : W → Sto → Prop} {ws : List W} : Sat (fIsi [.arr ws, .ty "str"] S) Q = Q (.bl false) S := rfl
theorem isi_arr_tuple {S : Sto} {Q : W → Sto → Prop} {ws : List W} : Sat (fIsi [.arr ws, .ty "tuple"] S) Q = Q (.bl false) S := rfl
theorem isi_arr_list {S : Sto} {Q : W → Sto → Prop} {ws : List W} : Sat (fIsi [.arr ws, .ty "list"] S) Q = Q (.bl true) S := rfl
theorem isi_arr_dict {S : Sto} {Q : W → Sto → Prop} {ws : List W} : Sat (fIsi [.arr ws, .ty "dict"] S) Q = Q (.bl false) S := rfl
theorem isi_dct_int {S : Sto} {Q : W → Sto → Prop} {ks : List Key} {ws : List W} : Sat (fIsi [.dct ks ws, .ty "int"] S) Q = Q (.bl false) S := rfl
theorem isi_dct_bool {S : Sto} {Q : W → Sto → Prop} {ks : List Key} {ws : List W} : Sat (fIsi [.dct ks ws, .ty "bool"] S) Q = Q (.bl false) S := rfl
theorem isi_dct_str {S : Sto} {Q : W → Sto → Prop} {ks : List Key} {ws : List W} : Sat (fIsi [.dct ks ws, .ty "str"] S) Q = Q (.bl false) S := rfl
theorem isi_dct_tuple {S : Sto} {Q : W → Sto → Prop} {ks : List Key} {ws : List W} : Sat (fIsi [.dct ks ws, .ty "tuple"] S) Q = Q (.bl false) S := rfl
theorem isi_dct_list {S : Sto} {Q : W → Sto → Prop} {ks : List Key} {ws : List W} : Sat (fIsi [.dct ks ws, .ty "list"] S) Q = Q (.bl false) S := rfl
theorem isi_dct_dict {S : Sto} {Q : W → Sto → Prop} {ks : List Key} {ws : List W} : Sat (fIsi [.dct ks ws, .ty "dict"] S) Q = Q (.bl true) S := rfl
theorem satI : type_of% (And.intro @isi_non_int (And.intro @isi_non_bool (And.intro @isi_non_str (And.intro @isi_non_tuple (And.intro @isi_non_list (And.intro @isi_non_dict (And.intro @isi_bl_int (And.intro @isi_bl_bool (And.intro @isi_bl_str (And.intro @isi_bl_tuple (And.intro @isi_bl_list (And.intro @isi_bl_dict (And.intro @isi_int_int (And.intro @isi_int_bool (And.intro @isi_int_str (And.intro @isi_int_tuple (And.intro @isi_int_list (And.intro @isi_int_dict (And.intro @isi_str_int (And.intro @isi_str_bool (And.intro @isi_str_str (And.intro @isi_str_tuple (And.intro @isi_str_list (And.intro @isi_str_dict (And.intro @isi_tup_int (And.intro @isi_tup_bool (And.intro @isi_tup_str (And.intro @isi_tup_tuple (And.intro @isi_tup_list (And.intro @isi_tup_dict (And.intro @isi_lst_int (And.intro @isi_lst_bool (And.intro @isi_lst_str (And.intro @isi_lst_tuple (And.intro @isi_lst_list (And.intro @isi_lst_dict (And.intro @isi_arr_int (And.intro @isi_arr_bool (And.intro @isi_arr_str (And.intro @isi_arr_tuple (And.intro @isi_arr_list (And.intro @isi_arr_dict (And.intro @isi_dct_int (And.intro @isi_dct_bool (And.intro @isi_dct_str (And.intro @isi_dct_tuple (And.intro @isi_dct_list @isi_dct_dict))))))))))))))))))))))))))))))))))))))))))))))) :=
  (And.intro @isi_non_int (And.intro @isi_non_bool (And.intro @isi_non_str (And.intro @isi_non_tuple (And.intro @isi_non_list (And.intro @isi_non_dict (And.intro @isi_bl_int (And.intro @isi_bl_bool (And.intro @isi_bl_str (And.intro @isi_bl_tuple (And.intro @isi_bl_list (And.intro @isi_bl_dict (And.intro @isi_int_int (And.intro @isi_int_bool (And.intro @isi_int_str (And.intro @isi_int_tuple (And.intro @isi_int_list (And.intro @isi_int_dict (And.intro @isi_str_int (And.intro @isi_str_bool (And.intro @isi_str_str (And.intro @isi_str_tuple (And.intro @isi_str_list (And.intro @isi_str_dict (And.intro @isi_tup_int (And.intro @isi_tup_bool (And.intro @isi_tup_str (And.intro @isi_tup_tuple (And.intro @isi_tup_list (And.intro @isi_tup_dict (And.intro @isi_lst_int (And.intro @isi_lst_bool (And.intro @isi_lst_str (And.intro @isi_lst_tuple (And.intro @isi_lst_list (And.intro @isi_lst_dict (And.intro @isi_arr_int (And.intro @isi_arr_bool (And.intro @isi_arr_str (And.intro @isi_arr_tuple (And.intro @isi_arr_list (And.intro @isi_arr_dict (And.intro @isi_dct_int (And.intro @isi_dct_bool (And.intro @isi_dct_str (And.intro @isi_dct_tuple (And.intro @isi_dct_list @isi_dct_dict)))))))))))))))))))))))))))))))))))))))))))))))
/-- places of slots, truths -/
theorem ifT {p q : Prop} : (if true = true then p else q) = p := if_pos rfl
theorem ifF {p q : Prop} : (if false = true then p else q) = q := if_neg Bool.false_ne_true
theorem slots1 {N : Nat} {a : W} : slots (N + 1) [a] = some a :: List.replicate N none := rfl
theorem slots2 {N : Nat} {a b : W} : slots (N + 2) [a, b] = some a :: some b :: List.replicate N none := rfl
theorem slots3 {N : Nat} {a b c : W} : slots (N + 3) [a, b, c] = some a :: some b :: some c :: List.replicate N none := rfl
theorem slots4 {N : Nat} {a b c d : W} : slots (N + 4) [a, b, c, d] = some a :: some b :: some c :: some d :: List.replicate N none := rfl
theorem rep0 {α : Type} {a : α} : List.replicate 0 a = [] := rfl
theorem repS1 {α : Type} {a : α} {n : Nat} : List.replicate (n + 1) a = a :: List.replicate n a := rfl
theorem set0 {α : Type} {a b : α} {l : List α} : (a :: l).set 0 b = b :: l := rfl
theorem setS {α : Type} {a b : α} {l : List α} {n : Nat} : (a :: l).set (n + 1) b = a :: l.set n b := rfl
theorem wipe0 {ρ : Env} : wipeE ρ [] = ρ := rfl
theorem wipe1 {ρ : Env} {v : Nat} {vs : List Nat} : wipeE ρ (v :: vs) = (wipeE ρ vs).set v none := rfl
theorem len0 {α : Type} : ([] : List α).length = 0 := rfl
theorem lenS {α : Type} {a : α} {l : List α} : (a :: l).length = l.length + 1 := rfl
theorem ifT2 {p q : Prop} : (if True then p else q) = p := if_pos trivial
theorem ifF2 {p q : Prop} : (if False then p else q) = q := if_neg id
theorem notT : (!true) = false := rfl
theorem notF : (!false) = true := rfl
theorem satE : type_of% (And.intro @ifT (And.intro @ifF (And.intro @slots1 (And.intro @slots2 (And.intro @slots3 (And.intro @slots4 (And.intro @rep0 (And.intro @repS1 (And.intro @set0 (And.intro @setS (And.intro @wipe0 (And.intro @wipe1 (And.intro @len0 (And.intro @lenS (And.intro @ifT2 (And.intro @ifF2 (And.intro @notT @notF))))))))))))))))) :=
  (And.intro @ifT (And.intro @ifF (And.intro @slots1 (And.intro @slots2 (And.intro @slots3 (And.intro @slots4 (And.intro @rep0 (And.intro @repS1 (And.intro @set0 (And.intro @setS (And.intro @wipe0 (And.intro @wipe1 (And.intro @len0 (And.intro @lenS (And.intro @ifT2 (And.intro @ifF2 (And.intro @notT @notF)))))))))))))))))
end Mm

/-! Stores: heaps of draws ahead, a def's own objects behind. -/
namespace Mm
open PySem PySem.Spec PyProof.Rows L2
mutual
theorem belW_up {n : Nat} : ∀ {w : W}, belW 0 w = true → belW n w = true
  | .non, _ => rfl
  | .bl _, _ => rfl
  | .int _, _ => rfl
  | .str _, _ => rfl
  | .ty _, _ => rfl
  | .glo _, _ => rfl
  | .loc l, h => by unfold belW at h; exact absurd (of_decide_eq_true h) (Nat.not_lt_zero l)
  | .tup ws, h => by unfold belW at h ⊢; exact belWs_up h
  | .ktp ws, h => by unfold belW at h ⊢; exact belWs_up h
  | .lst ws, h => by unfold belW at h ⊢; exact belWs_up h
  | .arr ws, h => by unfold belW at h ⊢; exact belWs_up h
  | .dct _ ws, h => by unfold belW at h ⊢; exact belWs_up h
  | .dcT _ ws, h => by unfold belW at h ⊢; exact belWs_up h
  | .obj _ _ ws, h => by unfold belW at h ⊢; exact belWs_up h
  | .exn _ _ ws, h => by unfold belW at h ⊢; exact belWs_up h
theorem belWs_up {n : Nat} : ∀ {ws : List W}, belWs 0 ws = true → belWs n ws = true
  | [], _ => rfl
  | w :: ws, h => by
    unfold belWs at h ⊢
    obtain ⟨h1, h2⟩ := Bool.and_eq_true_iff.mp h
    exact Bool.and_eq_true_iff.mpr ⟨belW_up h1, belWs_up h2⟩
end
theorem belO_up {n : Nat} {o : O} (h : belO 0 o = true) : belO n o = true := by
  cases o <;> exact belWs_up h
theorem belWs_all {n : Nat} : ∀ {ws : List W}, belWs n ws = ws.all (belW n)
  | [] => rfl
  | w :: ws => by unfold belWs; rw [List.all_cons, belWs_all]
theorem belWs_mem {n : Nat} {ws : List W} (h : belWs n ws = true) {w : W} (m : w ∈ ws) : belW n w = true := by
  rw [belWs_all] at h
  exact List.all_eq_true.mp h w m
theorem belWs_of {n : Nat} {ws : List W} (h : ∀ w, w ∈ ws → belW n w = true) : belWs n ws = true := by
  rw [belWs_all]
  exact List.all_eq_true.mpr h
def HeapO (o : O) : Prop := ∃ a b c : Int, o = .lst [.int a, .int b, .int c]
theorem HeapO.bel {o : O} (h : HeapO o) : belO 0 o = true := by
  obtain ⟨a, b, c, rfl⟩ := h
  rfl
/-- n heaps of draws, then T -/
structure Gd (n : Nat) (T S : Sto) : Prop where
  len : S.length = n + T.length
  own : S.drop n = T
  hp : ∀ j o, j < n → S[j]? = some o → HeapO o
  cl : ∀ o, o ∈ T → belO 0 o = true
section
variable {n : Nat} {T U S : Sto}
theorem Gd.get (g : Gd n T S) (i : Nat) : S[n + i]? = T[i]? := by rw [← g.own, List.getElem?_drop]
theorem Gd.heap (g : Gd n T S) {j : Nat} (h : j < n) : ∃ a b c : Int, S[j]? = some (.lst [.int a, .int b, .int c]) := by
  have hl : j < S.length := by have := g.len; omega
  have e := List.getElem?_eq_getElem hl
  obtain ⟨a, b, c, q⟩ := g.hp j _ h e
  exact ⟨a, b, c, by rw [e, q]⟩
theorem Gd.setH (g : Gd n T S) {j : Nat} (h : j < n) (a b c : Int) : Gd n T (S.set j (.lst [.int a, .int b, .int c])) := by
  refine ⟨by rw [List.length_set]; exact g.len, ?_, fun i o hi e => ?_, g.cl⟩
  · rw [List.drop_set_of_lt h]
    exact g.own
  · by_cases z : j = i
    · subst z
      rw [List.getElem?_set_self (by have := g.len; omega)] at e
      cases e
      exact ⟨a, b, c, rfl⟩
    · rw [List.getElem?_set_ne z] at e
      exact g.hp i o hi e
theorem Gd.push (g : Gd n T S) {o : O} (h : belO 0 o = true) : Gd n (T ++ [o]) (S ++ [o]) := by
  refine ⟨by simp [g.len]; omega, ?_, fun i u hi e => ?_, fun u hu => ?_⟩
  · rw [List.drop_append_of_le_length (by have := g.len; omega), g.own]
  · rw [List.getElem?_append_left (by have := g.len; omega)] at e
    exact g.hp i u hi e
  · rcases List.mem_append.mp hu with z | z
    · exact g.cl u z
    · rw [List.mem_singleton.mp z]
      exact h
theorem Gd.set (g : Gd n T S) {i : Nat} {o : O} (h : belO 0 o = true) : Gd n (T.set i o) (S.set (n + i) o) := by
  refine ⟨by rw [List.length_set, List.length_set]; exact g.len, ?_, fun k u hk e => ?_, fun u hu => ?_⟩
  · rw [List.drop_set, if_neg (by omega), g.own, Nat.add_sub_cancel_left]
  · rw [List.getElem?_set_ne (by omega)] at e
    exact g.hp k u hk e
  · rcases List.mem_or_eq_of_mem_set hu with z | z
    · exact g.cl u z
    · rw [z]
      exact h
theorem Gd.bel (g : Gd n T S) : ∀ o, o ∈ S → belO 0 o = true := by
  intro o ho
  obtain ⟨i, hi⟩ := List.getElem?_of_mem ho
  by_cases h : i < n
  · exact (g.hp i o h hi).bel
  · refine g.cl o ?_
    rw [← g.own]
    exact List.mem_of_getElem? (i := i - n) (by rw [List.getElem?_drop, show n + (i - n) = i by omega]; exact hi)
theorem Gd.cut (g : Gd n (T ++ U) S) : Gd n T (S.take (n + T.length)) := by
  have hl := g.len
  rw [List.length_append] at hl
  refine ⟨by rw [List.length_take]; omega, ?_, fun i o hi e => ?_, fun o ho => g.cl o (List.mem_append_left _ ho)⟩
  · rw [List.drop_take, g.own, Nat.add_sub_cancel_left, List.take_left]
  · rw [List.getElem?_take_of_lt (by omega)] at e
    exact g.hp i o hi e
theorem Gd.same (g : Gd n T S) : S.take (n + T.length) = S := by rw [← g.len, List.take_length]
/-- leaving a def with a value that names no object -/
theorem fin_sat {m : Nat} {w : W} {Q : W → Sto → Prop} (g : Gd n (T ++ U) S) (hm : m = n + T.length) (hw : belW 0 w = true) (k : ∀ S', Gd n T S' → Q w S') : Sat (finW m w S) Q := by
  subst hm
  have gc := g.cut
  unfold finW
  rw [if_pos (by
    rw [List.all_eq_true]
    exact fun o ho => belO_up (gc.bel o ho)), if_pos (belW_up hw)]
  exact k _ gc
theorem fin_sat0 {m : Nat} {w : W} {Q : W → Sto → Prop} (g : Gd n T S) (hm : m = n + T.length) (hw : belW 0 w = true) (k : Q w S) : Sat (finW m w S) Q := by
  subst hm
  unfold finW
  rw [g.same, if_pos (by
    rw [List.all_eq_true]
    exact fun o ho => belO_up (g.bel o ho)), if_pos (belW_up hw)]
  exact k
/-- .. with a list of its own that holds plain values -/
def atomW : W → Bool
  | .non => true | .bl _ => true | .int _ => true | .str _ => true
  | _ => false
theorem frz_atoms {S : Sto} {n : Nat} : ∀ {k : Nat} {ws : List W}, (∀ w, w ∈ ws → atomW w = true) → ws.length < k → frzWs S n k ws = some ws
  | 0, ws, _, h => absurd h (Nat.not_lt_zero _)
  | k + 1, [], _, _ => by unfold frzWs; rfl
  | k + 1, w :: ws, h, hl => by
    have hl' : ws.length < k := by simpa using hl
    unfold frzWs
    rw [frz_atoms (fun u hu => h u (List.mem_cons_of_mem _ hu)) hl']
    have hw := h w List.mem_cons_self
    cases k with
    | zero => exact absurd hl' (Nat.not_lt_zero _)
    | succ k => cases w <;> first | (cases hw; done) | (unfold frzW; rfl)
theorem fin_list {m i : Nat} {ws : List W} {Q : W → Sto → Prop} (g : Gd n (T ++ U) S) (hm : m = n + T.length) (hi : U[i]? = some (.lst ws)) (hw : ∀ w, w ∈ ws → atomW w = true) (hl : ws.length < 900) (k : ∀ S', Gd n T S' → Q (.lst ws) S') : Sat (finW m (.loc (m + i)) S) Q := by
  subst hm
  have gc := g.cut
  unfold finW
  rw [if_pos (by
    rw [List.all_eq_true]
    exact fun o ho => belO_up (gc.bel o ho)), if_neg (by unfold belW; simp)]
  have e : S[n + T.length + i]? = some (.lst ws) := by
    rw [Nat.add_assoc, g.get, List.getElem?_append_right (by omega), Nat.add_sub_cancel_left]
    exact hi
  have f : frzW S (n + T.length) 1000 (.loc (n + T.length + i)) = some (.lst ws) := by
    unfold frzW
    rw [if_neg (by omega), e]
    show (frzWs S (n + T.length) 999 ws).map W.lst = some (W.lst ws)
    rw [frz_atoms hw (by omega)]
    rfl
  rw [f]
  exact k _ gc
end
end Mm

namespace Mm
open PySem PySem.Spec PyProof.Rows L2
/-- the store names no object beyond itself -/
def WS (S : Sto) : Prop := ∀ o, o ∈ S → belO S.length o = true
theorem Gd.ws {n : Nat} {T S : Sto} (g : Gd n T S) : WS S := fun o h => belO_up (g.bel o h)
theorem fin_wsL {S : Sto} {w : W} {Q : W → Sto → Prop} (g : WS S) (hw : belW S.length w = true) : Sat (finW S.length w S) Q = Q w S := by
  refine sat_eq ?_ Q
  unfold finW
  rw [List.take_length, if_pos (List.all_eq_true.mpr g), if_pos hw]
theorem fin_ws {S : Sto} {w : W} {Q : W → Sto → Prop} (g : WS S) (hw : belW 0 w = true) : Sat (finW S.length w S) Q = Q w S := by
  refine sat_eq ?_ Q
  unfold finW
  rw [List.take_length, if_pos (List.all_eq_true.mpr g), if_pos (belW_up hw)]
theorem bools_map {ws : List W} (p : W → Bool) : bools (ws.map fun w => .bl (p w)) = some (ws.map p) := by
  induction ws with
  | nil => rfl
  | cons w ws ih => simp only [List.map, bools, ih]; rfl
/-- a comprehension that leaves the store as it is -/
theorem lc_sat {ρ : Env} {S : Sto} {g : MG} {e : MV} {ws : List W} {R : List W → Sto → Prop} (f : W → W) (h : ∀ w, w ∈ ws → Sat (g w ρ S) fun ρ1 S1 => Sat (e ρ1 S1) fun y S2 => y = f w ∧ S2 = S) (hz : ws.length ≤ sizeLine) (k : R (ws.map f) S) :
    Sat (mLcLoop g mYes e ρ ws [] S) R := by
  rw [lc_map (f := f) ws [] S h (by simpa using hz)]
  exact k
theorem ex_all {ws : List W} {S : Sto} {Q : W → Sto → Prop} (p : W → Bool) (k : Q (.bl (ws.all p)) S) : ∃ bs, bools (ws.map fun w => .bl (p w)) = some bs ∧ Q (.bl (bs.all id)) S :=
  ⟨ws.map p, bools_map p, by rw [List.all_map]; exact k⟩
theorem ex_any {ws : List W} {S : Sto} {Q : W → Sto → Prop} (p : W → Bool) (k : Q (.bl (ws.any p)) S) : ∃ bs, bools (ws.map fun w => .bl (p w)) = some bs ∧ Q (.bl (bs.any id)) S :=
  ⟨ws.map p, bools_map p, by rw [List.any_map]; exact k⟩
/-! ### plain data, with texts of common signs -/
def isLet (c : Nat) : Bool := decide (97 ≤ c) && decide (c ≤ 122)
def isDig (c : Nat) : Bool := decide (48 ≤ c) && decide (c ≤ 57)
def isSgn (c : Nat) : Bool := isLet c || isDig c
def comS (x : Str) : Bool := decide (x.cps.toList.length ≤ 1000) && x.cps.toList.all fun c => decide (c < 128)
mutual
def datW : W → Bool
  | .non => true
  | .bl _ => true
  | .int _ => true
  | .str x => comS x
  | .tup ws => datWs ws
  | .lst ws => datWs ws
  | .dct ks ws => ks.isEmpty && ws.isEmpty
  | _ => false
def datWs : List W → Bool
  | [] => true
  | w :: ws => datW w && datWs ws
end
mutual
theorem datW_bel : ∀ {w : W}, datW w = true → belW 0 w = true
  | .non, _ => rfl
  | .bl _, _ => rfl
  | .int _, _ => rfl
  | .str _, _ => rfl
  | .ty _, h => by unfold datW at h; cases h
  | .glo _, h => by unfold datW at h; cases h
  | .loc l, h => by unfold datW at h; cases h
  | .arr ws, h => by unfold datW at h; cases h
  | .ktp ws, h => by unfold datW at h; cases h
  | .obj _ _ ws, h => by unfold datW at h; cases h
  | .exn _ _ ws, h => by unfold datW at h; cases h
  | .dcT _ ws, h => by unfold datW at h; cases h
  | .tup ws, h => by unfold datW at h; unfold belW; exact datWs_bel h
  | .lst ws, h => by unfold datW at h; unfold belW; exact datWs_bel h
  | .dct ks ws, h => by
    unfold datW at h
    have := (Bool.and_eq_true_iff.mp h).2
    rw [List.isEmpty_iff] at this
    subst this
    rfl
theorem datWs_bel : ∀ {ws : List W}, datWs ws = true → belWs 0 ws = true
  | [], _ => rfl
  | w :: ws, h => by
    unfold datWs at h
    unfold belWs
    obtain ⟨h1, h2⟩ := Bool.and_eq_true_iff.mp h
    exact Bool.and_eq_true_iff.mpr ⟨datW_bel h1, datWs_bel h2⟩
end
theorem datWs_all : ∀ {ws : List W}, datWs ws = ws.all datW
  | [] => rfl
  | w :: ws => by unfold datWs; rw [List.all_cons, datWs_all]
theorem datWs_mem {ws : List W} (h : datWs ws = true) {w : W} (m : w ∈ ws) : datW w = true := by
  rw [datWs_all] at h
  exact List.all_eq_true.mp h w m
theorem datWs_of {ws : List W} (h : ∀ w, w ∈ ws → datW w = true) : datWs ws = true := by
  rw [datWs_all]
  exact List.all_eq_true.mpr h
theorem low_com : ∀ c, c < 128 → Txt.islower ⟨#[c]⟩ = isLet c := by decide +kernel
theorem dig_com : ∀ c, c < 128 → Txt.isdigit ⟨#[c]⟩ = isDig c := by decide +kernel
theorem cps_letters : ("abcdefghijklmnopqrstuvwxyz" : Str).cps.toList = (List.range 26).map (97 + ·) := by decide +kernel
theorem cps_signs : ("abcdefghijklmnopqrstuvwxyz0123456789" : Str).cps.toList = (List.range 26).map (97 + ·) ++ (List.range 10).map (48 + ·) := by decide +kernel
theorem in_letters {c : Nat} : decide (c ∈ ("abcdefghijklmnopqrstuvwxyz" : Str).cps.toList) = isLet c := by
  rw [cps_letters]
  unfold isLet
  rw [← Bool.decide_and]
  refine decide_eq_decide.mpr ⟨fun h => ?_, fun h => ?_⟩
  · obtain ⟨i, h1, h2⟩ := List.mem_map.mp h
    have := List.mem_range.mp h1
    omega
  · exact List.mem_map.mpr ⟨c - 97, List.mem_range.mpr (by omega), by omega⟩
theorem in_signs {c : Nat} : decide (c ∈ ("abcdefghijklmnopqrstuvwxyz0123456789" : Str).cps.toList) = isSgn c := by
  rw [cps_signs]
  unfold isSgn isLet isDig
  rw [← Bool.decide_and, ← Bool.decide_and, ← Bool.decide_or]
  refine decide_eq_decide.mpr ⟨fun h => ?_, fun h => ?_⟩
  · rcases List.mem_append.mp h with h | h
    · obtain ⟨i, h1, h2⟩ := List.mem_map.mp h
      have := List.mem_range.mp h1
      omega
    · obtain ⟨i, h1, h2⟩ := List.mem_map.mp h
      have := List.mem_range.mp h1
      omega
  · rcases h with h | h
    · exact List.mem_append_left _ (List.mem_map.mpr ⟨c - 97, List.mem_range.mpr (by omega), by omega⟩)
    · exact List.mem_append_right _ (List.mem_map.mpr ⟨c - 48, List.mem_range.mpr (by omega), by omega⟩)
def nmL (cs : List Nat) : Bool := decide (1 ≤ cs.length) && (decide (cs.length ≤ 6) && ((match cs with | c :: _ => isLet c | [] => false) && cs.all isSgn))
def nmW : W → Bool
  | .str x => nmL x.cps.toList
  | _ => false
theorem comS_len {x : Str} (h : comS x = true) : x.length ≤ sizeLine := by
  have := of_decide_eq_true (Bool.and_eq_true_iff.mp h).1
  have e : x.length = x.cps.toList.length := by simp [Str.length]
  rw [e]
  exact Nat.le_trans this (by decide)
theorem Str_len {x : Str} : x.length = x.cps.toList.length := by simp [Str.length]
theorem inW_one {c : Nat} {z : Str} {S : Sto} : inW (.str ⟨#[c]⟩) (.str z) S = some (decide (c ∈ z.cps.toList)) := rfl

section
variable {ρ : Env} {S : Sto} {Q : W → Sto → Prop} {QL : List W → Sto → Prop} {QE : Env → Sto → Prop}
theorem q_star {gs : MGs} {a : W} {ws : List W} : Sat (mgStar 2 1 gs (.tup (a :: ws)) ρ S) QE = Sat (gs [a, .lst ws] ρ S) QE := by
  unfold mgStar
  simp [starV]
theorem q_zip {a b : MV} : Sat (mZipS (mCons a (mCons b mNil)) ρ S) QL = Sat (a ρ S) fun x S1 => Sat (b ρ S1) fun y S2 => ∃ xs, still x = some xs ∧ ∃ ys, still y = some ys ∧ xs.length = ys.length ∧ QL (pairs xs ys) S2 := by
  unfold mZipS; rw [sat_bind, sat_cons]; congr; funext x S1; rw [sat_cons]; congr; funext y S2; rw [sat_nil]
  simp only
  cases hx : still x with
  | none => simp [Sat]
  | some xs =>
    cases hy : still y with
    | none => simp [Sat]
    | some ys =>
      simp only [sat_ite, sat_ok, sat_stuck]
      by_cases h : xs.length = ys.length
      · simp [h]
      · simp [h]
def getK (kvs : List (Str × W)) (Q : W → Sto → Prop) (w : W) (S : Sto) : Prop := match w with
  | .str z => Q ((kvs.lookup z).getD .non) S
  | _ => False
theorem getK_str {kvs : List (Str × W)} {z : Str} : getK kvs Q (.str z) S = Q ((kvs.lookup z).getD .non) S := rfl
theorem q_get {kvs : List (Str × W)} {c : MV} : Sat (mGetK kvs c ρ S) Q = Sat (c ρ S) (getK kvs Q) := by
  unfold mGetK; rw [sat_bind]; congr; funext w S1; cases w <;> rfl
theorem q_item {kvs : List (Str × W)} {x y z : Str} : Sat (fItemK x kvs (.glo y) (.str z) S) Q = if y = x then ∃ v, kvs.lookup z = some v ∧ Q v S else False := by
  show Sat (if y = x then _ else _) Q = _
  rw [sat_ite]
  congr 1
  exact ex_o (fun e => by rw [e]; rfl) fun a e => by rw [e]; rfl
def callK (n : Nat) (fs : List (Str × MF)) (t : MW (List W)) (ρ : Env) (Q : W → Sto → Prop) (w : W) (S : Sto) : Prop := match w with
  | .glo x => ∃ m, fs.lookup x = some m ∧ Sat (t ρ S) fun ws S1 => if ws.length = n then Sat (m ws S1) Q else False
  | _ => False
theorem callK_glo {n : Nat} {fs : List (Str × MF)} {t : MW (List W)} {x : Str} : callK n fs t ρ Q (.glo x) S = ∃ m, fs.lookup x = some m ∧ Sat (t ρ S) fun ws S1 => if ws.length = n then Sat (m ws S1) Q else False := rfl
theorem q_callA {i n : Nat} {fs : List (Str × MF)} {t : MW (List W)} : Sat (mCallA i n fs t ρ S) Q = Sat (mVar i ρ S) (callK n fs t ρ Q) := by
  unfold mCallA; rw [sat_bind]; congr; funext w S1
  cases w with
  | glo x =>
    refine ex_o (fun e => by simp only [e]; rfl) fun m e => ?_
    simp only [e]
    rw [sat_bind]
    simp only [sat_ite, sat_stuck]
  | _ => rfl
theorem q_join {a : Str} {d : MV} : Sat (mM1 fJoin (mC (.str a)) d ρ S) Q = Sat (d ρ S) fun y S1 => Sat (fJoin (.str a) y S1) Q := by
  unfold mM1; rw [sat_bind, sat_c]; simp only; rw [sat_bind]
theorem q_joinL {a : Str} {ws : List W} : Sat (fJoin (.str a) (.lst ws) S) Q = ∃ ys, textsW ws = some ys ∧ if (ys.map (·.length)).sum + ys.length * a.length ≤ 16777216 then Q (.str (Txt.join a ys)) S else False := by
  unfold fJoin seqA seqL
  simp only
  exact ex_o (fun e => by simp only [e]; rfl) fun a e => by simp only [e]; rw [sat_ite]; rfl
theorem fin_bl {S : Sto} {b : Bool} {Q : W → Sto → Prop} (g : WS S) : Sat (finW S.length (.bl b) S) Q = Q (.bl b) S := fin_ws g rfl
theorem fin_int {S : Sto} {b : Int} {Q : W → Sto → Prop} (g : WS S) : Sat (finW S.length (.int b) S) Q = Q (.int b) S := fin_ws g rfl
theorem ex_eq {α : Type} {a : α} {P : α → Prop} : (∃ b, some a = some b ∧ P b) = P a := propext ⟨fun ⟨_, e, h⟩ => by cases e; exact h, fun h => ⟨a, rfl, h⟩⟩
end
theorem sats : type_of% (And.intro satS (And.intro satP (And.intro satI (And.intro satE (And.intro @q_star (And.intro @q_zip (And.intro @getK_str (And.intro @q_get (And.intro @q_item (And.intro @callK_glo (And.intro @q_callA (And.intro @q_join (And.intro @q_joinL (And.intro @inW_one @ex_eq)))))))))))))) := (And.intro satS (And.intro satP (And.intro satI (And.intro satE (And.intro @q_star (And.intro @q_zip (And.intro @getK_str (And.intro @q_get (And.intro @q_item (And.intro @callK_glo (And.intro @q_callA (And.intro @q_join (And.intro @q_joinL (And.intro @inW_one @ex_eq))))))))))))))
end Mm

/-! Reckoning with mirrors: dicts, objects, walks of any kind. -/
namespace Mm
open PySem PySem.Spec PyProof.Rows L2 Gc
section
variable {ρ : Env} {S : Sto} {Q : W → Sto → Prop} {QB : Bool → Sto → Prop} {QS : Fl × Env → Sto → Prop} {QL : List W → Sto → Prop} {QE : Env → Sto → Prop} {QU : Unit → Sto → Prop}
theorem s_no {α : Type} {R : α → Sto → Prop} : Sat (mNo ρ S) R = False := rfl
/-! ### ==, != -/
theorem y_int {k : Nat} {i : Int} : pyD S k (.int i) = some (.int i) := by unfold pyD; rfl
theorem y_bl {k : Nat} {b : Bool} : pyD S k (.bl b) = some (.bool b) := by unfold pyD; rfl
theorem y_non {k : Nat} : pyD S k .non = some .none := by unfold pyD; rfl
theorem y_str {k : Nat} {x : Str} (h : PyData.strOk x = true) : pyD S k (.str x) = some (.str x) := by unfold pyD; rw [if_pos h]
theorem e_int {i j : Int} : Sat (fEqD (.int i) (.int j) S) Q = Q (.bl (decide (i = j))) S := by
  unfold fEqD
  rw [y_int, y_int]
  simp only [PyData.eqv]
  rfl
theorem e_intN {i j : Int} : Sat (fNeD (.int i) (.int j) S) Q = Q (.bl (!decide (i = j))) S := by
  unfold fNeD
  rw [y_int, y_int]
  simp only [PyData.eqv]
  rfl
theorem e_bl {a b : Bool} : Sat (fEqD (.bl a) (.bl b) S) Q = Q (.bl (decide (a = b))) S := by
  unfold fEqD
  rw [y_bl, y_bl]
  simp only [PyData.eqv]
  cases a <;> cases b <;> rfl
theorem e_str {a b : Str} (ha : PyData.strOk a = true) (hb : PyData.strOk b = true) : Sat (fEqD (.str a) (.str b) S) Q = Q (.bl (decide (a = b))) S := by
  unfold fEqD
  rw [y_str ha, y_str hb]
  simp only [PyData.eqv]
  rfl
theorem e_strN {a b : Str} (ha : PyData.strOk a = true) (hb : PyData.strOk b = true) : Sat (fNeD (.str a) (.str b) S) Q = Q (.bl (!decide (a = b))) S := by
  unfold fNeD
  rw [y_str ha, y_str hb]
  simp only [PyData.eqv]
  rfl
theorem eqv_nil : ∀ ds : List PyData, PyData.eqvAll ds [] = ds.isEmpty
  | [] => by simp only [PyData.eqvAll]; rfl
  | _ :: _ => by simp only [PyData.eqvAll]; rfl
theorem pyDs_len {k : Nat} : ∀ {ws : List W} {ds : List PyData}, pyDs S k ws = some ds → ds.length = ws.length
  | [], ds, e => by unfold pyDs at e; cases e; rfl
  | w :: ws, ds, e => by
    unfold pyDs at e
    split at e
    · rename_i d ds' e1 e2
      cases e
      simp [pyDs_len e2]
    · cases e
theorem emp_len {α β : Type} {xs : List α} {ys : List β} (h : xs.length = ys.length) : xs.isEmpty = ys.isEmpty := by
  cases xs <;> cases ys <;> first | rfl | cases h
theorem e_lst0 {ws : List W} {ds : List PyData} (h : pyDs S 59 ws = some ds) : Sat (fEqD (.lst ws) (.lst []) S) Q = Q (.bl ws.isEmpty) S := by
  have e : pyD S 60 (.lst ws) = some (.list ds) := by unfold pyD; rw [h]; rfl
  have e0 : pyD S 60 (.lst []) = some (.list []) := by unfold pyD pyDs; rfl
  unfold fEqD
  rw [e, e0]
  simp only [PyData.eqv]
  show Q (.bl (PyData.eqvAll ds [])) S = _
  rw [eqv_nil, emp_len (pyDs_len h)]
theorem e_lst0N {ws : List W} {ds : List PyData} (h : pyDs S 59 ws = some ds) : Sat (fNeD (.lst ws) (.lst []) S) Q = Q (.bl (!ws.isEmpty)) S := by
  have e : pyD S 60 (.lst ws) = some (.list ds) := by unfold pyD; rw [h]; rfl
  have e0 : pyD S 60 (.lst []) = some (.list []) := by unfold pyD pyDs; rfl
  unfold fNeD
  rw [e, e0]
  simp only [PyData.eqv]
  show Q (.bl (!PyData.eqvAll ds [])) S = _
  rw [eqv_nil, emp_len (pyDs_len h)]
theorem e_tup0 {ws : List W} {ds : List PyData} (h : pyDs S 59 ws = some ds) : Sat (fEqD (.tup ws) (.tup []) S) Q = Q (.bl ws.isEmpty) S := by
  have e : pyD S 60 (.tup ws) = some (.tuple ds) := by unfold pyD; rw [h]; rfl
  have e0 : pyD S 60 (.tup []) = some (.tuple []) := by unfold pyD pyDs; rfl
  unfold fEqD
  rw [e, e0]
  simp only [PyData.eqv]
  show Q (.bl (PyData.eqvAll ds [])) S = _
  rw [eqv_nil, emp_len (pyDs_len h)]
theorem e_tup0N {ws : List W} {ds : List PyData} (h : pyDs S 59 ws = some ds) : Sat (fNeD (.tup ws) (.tup []) S) Q = Q (.bl (!ws.isEmpty)) S := by
  have e : pyD S 60 (.tup ws) = some (.tuple ds) := by unfold pyD; rw [h]; rfl
  have e0 : pyD S 60 (.tup []) = some (.tuple []) := by unfold pyD pyDs; rfl
  unfold fNeD
  rw [e, e0]
  simp only [PyData.eqv]
  show Q (.bl (!PyData.eqvAll ds [])) S = _
  rw [eqv_nil, emp_len (pyDs_len h)]
/-! ### walks -/
theorem sat_enum {c : MV} : Sat (mEnum (mCons c mNil) ρ S) QL = Sat (c ρ S) fun w S1 => ∃ ws, still w = some ws ∧ QL (numd 0 ws) S1 := by
  unfold mEnum
  rw [sat_bind, sat_cons]
  congr
  funext w S1
  rw [sat_nil]
  exact ex_o (fun e => by simp only [e]; rfl) fun a e => by simp only [e]; rfl
theorem st_tup {ws : List W} : still (.tup ws) = some ws := rfl
theorem st_lst {ws : List W} : still (.lst ws) = some ws := rfl
theorem it_tup {ws : List W} : itemsOf (.tup ws) = some ws := rfl
theorem it_lst {ws : List W} : itemsOf (.lst ws) = some ws := rfl
section
variable {α : Type} {RA : α → Sto → Prop} {g : MG} {t : MW Bool} {mp : α → MW α}
def gK (g : MG) (t : MW Bool) (mp : α → MW α) (ρ : Env) (ws : List W) (R : α → Sto → Prop) (acc : α) (S : Sto) : Prop := Sat (gLoop g t mp ρ ws acc S) R
theorem sat_g0 {acc : α} : Sat (gLoop g t mp ρ [] acc S) RA = RA acc S := rfl
theorem sat_g1 {acc : α} {w : W} {ws : List W} : Sat (gLoop g t mp ρ (w :: ws) acc S) RA = Sat (g w ρ S) fun ρ1 S1 => Sat (t ρ1 S1) fun b S2 => if b = true then Sat (mp acc ρ1 S2) (fun a S3 => Sat (gLoop g t mp ρ ws a S3) RA) else Sat (gLoop g t mp ρ ws acc S2) RA := by
  have e : Sat (gLoop g t mp ρ (w :: ws) acc S) RA = Sat (mThen (g w) (mBind t fun b => if b = true then mp acc else fun _ S => .ok acc S) ρ S) fun a S' => Sat (gLoop g t mp ρ ws a S') RA := by
    conv => lhs; unfold gLoop
    cases mThen (g w) (mBind t fun b => if b = true then mp acc else fun _ S => .ok acc S) ρ S <;> rfl
  rw [e, sat_then]
  congr
  funext ρ1 S1
  rw [sat_bind]
  congr
  funext b S2
  cases b <;> rfl
theorem sat_mIn {vs : List Nat} {ci : MW (List W)} {acc : α} : Sat (mIn vs ci g t mp acc ρ S) RA = Sat (ci ρ S) fun ws S1 => Sat (gLoop g t mp (wipeE ρ vs) ws acc S1) RA := by
  unfold mIn
  rw [sat_bind]
theorem sat_G {vs : List Nat} {ci : MW (List W)} {a0 : α} {fin : α → Sto → Res W} : Sat (mG vs ci g t mp a0 fin ρ S) Q = Sat (ci ρ S) fun ws S1 => Sat (gLoop g t mp (wipeE ρ vs) ws a0 S1) fun a S2 => Sat (fin a S2) Q := by
  unfold mG
  rw [sat_bind, sat_mIn]
/-- a walk by an invariant -/
theorem g_inv (I : List W → α → Sto → Prop) (h0 : ∀ acc S, I [] acc S → RA acc S)
    (h1 : ∀ w ws acc S, I (w :: ws) acc S → Sat (g w ρ S) fun ρ1 S1 => Sat (t ρ1 S1) fun b S2 => if b = true then Sat (mp acc ρ1 S2) (fun a S3 => I ws a S3) else I ws acc S2) : ∀ ws acc S, I ws acc S → Sat (gLoop g t mp ρ ws acc S) RA := by
  intro ws
  induction ws with
  | nil => exact fun acc S h => h0 acc S h
  | cons w ws ih =>
    intro acc S h
    rw [sat_g1]
    refine (h1 w ws acc S h).mono fun ρ1 S1 h2 => h2.mono fun b S2 h3 => ?_
    cases b with
    | true => rw [if_pos rfl] at h3 ⊢; exact h3.mono fun a S3 h4 => ih a S3 h4
    | false => rw [if_neg Bool.false_ne_true] at h3 ⊢; exact ih acc S2 h3
/-- a walk that changes nothing but what is gathered -/
theorem g_fold {ws : List W} {acc : α} (f : α → W → α) (h : ∀ w acc, w ∈ ws → Sat (g w ρ S) fun ρ1 S1 => Sat (t ρ1 S1) fun b S2 => S2 = S ∧ if b = true then Sat (mp acc ρ1 S2) (fun a S3 => a = f acc w ∧ S3 = S) else f acc w = acc) (k : RA (ws.foldl f acc) S) : Sat (gLoop g t mp ρ ws acc S) RA := by
  refine g_inv (I := fun us a S' => S' = S ∧ (∀ w, w ∈ us → w ∈ ws) ∧ us.foldl f a = ws.foldl f acc) ?_ ?_ ws acc S ⟨rfl, fun _ h => h, rfl⟩
  · rintro a S' ⟨rfl, _, e⟩
    have e' : a = ws.foldl f acc := e
    rw [e']
    exact k
  · rintro w us a S' ⟨rfl, hm, e⟩
    refine (h w a (hm w List.mem_cons_self)).mono fun ρ1 S1 h2 => h2.mono fun b S2 h3 => ?_
    obtain ⟨rfl, h3⟩ := h3
    cases b with
    | true =>
      rw [if_pos rfl] at h3 ⊢
      refine h3.mono fun a' S3 h4 => ?_
      obtain ⟨rfl, rfl⟩ := h4
      exact ⟨rfl, fun u hu => hm u (List.mem_cons_of_mem _ hu), e⟩
    | false =>
      rw [if_neg Bool.false_ne_true] at h3 ⊢
      refine ⟨rfl, fun u hu => hm u (List.mem_cons_of_mem _ hu), ?_⟩
      rw [← e]
      show us.foldl f a = us.foldl f (f a w)
      rw [h3]
/-- a walk over a list of the store that stays as it is -/
theorem gL_fold {l n : Nat} {ws : List W} {acc : α} (f : α → W → α) (hl : S[l]? = some (.lst ws)) (hn : ws.length < n) (h : ∀ w acc, w ∈ ws → Sat (g w ρ S) fun ρ1 S1 => Sat (t ρ1 S1) fun b S2 => S2 = S ∧ if b = true then Sat (mp acc ρ1 S2) (fun a S3 => a = f acc w ∧ S3 = S) else f acc w = acc) (k : RA (ws.foldl f acc) S) : Sat (gLoopL g t mp ρ l n 0 acc S) RA := by
  have key : ∀ (n i : Nat) (acc' : α), ws.length - i < n → (ws.drop i).foldl f acc' = ws.foldl f acc → Sat (gLoopL g t mp ρ l n i acc' S) RA := by
    intro n
    induction n with
    | zero => intro i _ h0; exact absurd h0 (Nat.not_lt_zero _)
    | succ n ih =>
      intro i acc' h0 e
      unfold gLoopL
      have ea : atL S l i = some ws[i]? := by unfold atL; rw [hl]
      rw [ea]
      cases q : ws[i]? with
      | none =>
        have hi := List.getElem?_eq_none_iff.mp q
        rw [List.drop_eq_nil_of_le hi] at e
        have e' : acc' = ws.foldl f acc := e
        show RA acc' S
        rw [e']
        exact k
      | some w =>
        have hi := (List.getElem?_eq_some_iff.mp q).1
        have hw := (List.getElem?_eq_some_iff.mp q).2
        have h2 := h w acc' (List.mem_of_getElem? q)
        rw [List.drop_eq_getElem_cons hi, hw] at e
        have e3 : Sat (mThen (g w) (mBind t fun b => if b = true then mp acc' else fun _ S => .ok acc' S) ρ S) fun a S' => a = f acc' w ∧ S' = S := by
          rw [sat_then]
          refine h2.mono fun ρ1 S1 h3 => ?_
          rw [sat_bind]
          refine h3.mono fun b S2 h4 => ?_
          obtain ⟨rfl, h4⟩ := h4
          cases b with
          | true => exact h4
          | false => rw [if_neg Bool.false_ne_true] at h4; exact ⟨h4.symm, rfl⟩
        simp only
        cases q2 : mThen (g w) (mBind t fun b => if b = true then mp acc' else fun _ S => .ok acc' S) ρ S with
        | ok a S' =>
          rw [q2] at e3
          obtain ⟨rfl, rfl⟩ := e3
          exact ih (i + 1) _ (by omega) e
        | stuck => rw [q2] at e3; exact e3.elim
        | err x S' => rw [q2] at e3; exact e3.elim
  exact key n 0 acc (by omega) rfl
end
theorem sat_GL {α : Type} {g : MG} {t : MW Bool} {mp : α → MW α} {n : Nat} {vs : List Nat} {c : MV} {a0 : α} {fin : α → Sto → Res W} : Sat (mGL n vs c g t mp a0 fin ρ S) Q = Sat (c ρ S) fun w S1 => ∃ l, w = .loc l ∧ Sat (gLoopL g t mp (wipeE ρ vs) l n 0 a0 S1) fun a S2 => Sat (fin a S2) Q := by
  unfold mGL mInL
  rw [sat_bind, sat_bind]
  congr
  funext w S1
  cases w with
  | loc l => exact propext ⟨fun h => ⟨l, rfl, h⟩, fun ⟨_, e, h⟩ => by cases e; exact h⟩
  | _ => exact propext ⟨False.elim, fun ⟨_, e, _⟩ => by cases e⟩
theorem sat_mpL {e : MV} {acc : List W} : Sat (mpL e acc ρ S) QL = Sat (e ρ S) fun y S1 => if acc.length < sizeLine then QL (acc ++ [y]) S1 else False := by
  unfold mpL
  rw [sat_bind]
  simp only [sat_ite, sat_ok, sat_stuck]
theorem sat_finL {acc : List W} : Sat (finL acc S) Q = Q (.lst acc) S := rfl
theorem sat_finLM {acc : List W} : Sat (finLM acc S) Q = Q (.loc S.length) (S ++ [.lst acc]) := rfl
theorem sat_finKd {acc : List Key × List W} : Sat (finKd acc S) Q = Q (.dct acc.1 acc.2) S := rfl
theorem sat_finT {acc : List (List Key) × List W} : Sat (finT acc S) Q = Q (.dcT acc.1 acc.2) S := rfl
theorem sat_finS {acc : List Str} : Sat (finS acc S) Q = if acc.length ≤ sizeLine then Q (.lst ((srtT acc).map W.str)) S else False := by
  unfold finS
  rw [sat_ite]
  rfl
theorem sat_mpS {e : MV} {acc : List Str} {R : List Str → Sto → Prop} : Sat (mpS e acc ρ S) R = Sat (e ρ S) fun y S1 => ∃ z, y = .str z ∧ if acc.length + 1 < scanBound then R (addT acc z) S1 else False := by
  unfold mpS
  rw [sat_bind]
  congr
  funext y S1
  cases y with
  | str z =>
    simp only
    rw [sat_ite]
    exact propext ⟨fun h => ⟨z, rfl, h⟩, fun ⟨_, e, h⟩ => by cases e; exact h⟩
  | _ => exact propext ⟨False.elim, fun ⟨_, e, _⟩ => by cases e⟩
theorem sat_mpK {k e : MV} {acc : List Key × List W} {R : List Key × List W → Sto → Prop} : Sat (mpK k e acc ρ S) R = Sat (k ρ S) fun y S1 => Sat (e ρ S1) fun z S2 => ∃ kk, keyW y = some kk ∧ if acc.1.length < sizeLine then R (putW acc.1 acc.2 kk z) S2 else False := by
  unfold mpK
  rw [sat_bind]
  congr
  funext y S1
  rw [sat_bind]
  congr
  funext z S2
  exact ex_o (fun e => by simp only [e]; rfl) fun a e => by simp only [e]; rw [sat_ite]; rfl
/-! ### dicts -/
theorem sat_dnewK : Sat (mDNewK ρ S) Q = Q (.loc S.length) (S ++ [.dct [] []]) := rfl
theorem sat_dnewT : Sat (mDNewT ρ S) Q = Q (.loc S.length) (S ++ [.dcT [] []]) := rfl
theorem sat_dget {d k : W} : Sat (fDGet d k S) Q = ∃ w, dGet S d k = some (some w) ∧ Q w S := by
  unfold fDGet
  cases h : dGet S d k with
  | none => simp [Sat]
  | some o => cases o <;> simp [Sat]
theorem sat_din {d k : W} : Sat (fDIn k d S) Q = ∃ o, dGet S d k = some o ∧ Q (.bl o.isSome) S := by
  unfold fDIn
  cases h : dGet S d k <;> simp [Sat]
theorem sat_dnotin {d k : W} : Sat (fDNotIn k d S) Q = ∃ o, dGet S d k = some o ∧ Q (.bl (!o.isSome)) S := by
  unfold fDNotIn
  cases h : dGet S d k <;> simp [Sat]
theorem sat_get2 {cd ck cx : MV} : Sat (mDGet2 cd ck cx ρ S) Q = Sat (cd ρ S) fun d S1 => (∃ q, dicO S1 d = some q) ∧ Sat (ck ρ S1) fun k S2 => Sat (cx ρ S2) fun x S3 => ∃ o, dGet S3 d k = some o ∧ Q (o.getD x) S3 := by
  unfold mDGet2
  rw [sat_bind]
  congr
  funext d S1
  cases h : dicO S1 d with
  | none => exact propext ⟨False.elim, fun ⟨⟨_, e⟩, _⟩ => by cases e⟩
  | some q =>
    simp only
    rw [sat_bind]
    refine propext ⟨fun z => ⟨⟨q, rfl⟩, ?_⟩, fun z => ?_⟩
    · refine z.mono fun k S2 z2 => ?_
      rw [sat_bind] at z2
      refine z2.mono fun x S3 z3 => ?_
      cases h3 : dGet S3 d k with
      | none => rw [h3] at z3; exact z3.elim
      | some o => rw [h3] at z3; exact ⟨o, rfl, z3⟩
    · refine z.2.mono fun k S2 z2 => ?_
      rw [sat_bind]
      refine z2.mono fun x S3 z3 => ?_
      obtain ⟨o, e, z4⟩ := z3
      rw [e]
      exact z4
theorem sat_setd {cd ck cx : MV} : Sat (mSetd cd ck cx ρ S) Q = Sat (cd ρ S) fun d S1 => (∃ q, dicO S1 d = some q) ∧ Sat (ck ρ S1) fun k S2 => Sat (cx ρ S2) fun x S3 => ∃ l, d = .loc l ∧ ∃ kk, keyW k = some kk ∧ ∃ ks ws, S3[l]? = some (.dct ks ws) ∧ ks.length < sizeLine ∧
    match look ks ws kk with
    | some w => Q w S3
    | none => Q x (S3.set l (.dct (ks ++ [kk]) (ws ++ [x]))) := by
  unfold mSetd
  rw [sat_bind]
  congr
  funext d S1
  cases h : dicO S1 d with
  | none => exact propext ⟨False.elim, fun ⟨⟨_, e⟩, _⟩ => by cases e⟩
  | some q =>
    simp only
    rw [sat_bind]
    have step : ∀ (k : W) (x : W) (S3 : Sto), Sat (match d, keyW k with
      | .loc l, some kk => (match S3[l]? with
        | some (.dct ks ws) => if ks.length < sizeLine then (match look ks ws kk with
          | some w => Res.ok w S3
          | none => .ok x (S3.set l (.dct (ks ++ [kk]) (ws ++ [x])))) else .stuck
        | _ => .stuck)
      | _, _ => .stuck) Q ↔ ∃ l, d = .loc l ∧ ∃ kk, keyW k = some kk ∧ ∃ ks ws, S3[l]? = some (.dct ks ws) ∧ ks.length < sizeLine ∧ match look ks ws kk with
        | some w => Q w S3
        | none => Q x (S3.set l (.dct (ks ++ [kk]) (ws ++ [x]))) := by
      intro k x S3
      constructor
      · intro z
        split at z
        · rename_i l kk hk
          split at z
          · rename_i ks ws hs
            by_cases hz : ks.length < sizeLine
            · rw [if_pos hz] at z
              refine ⟨l, rfl, kk, hk, ks, ws, hs, hz, ?_⟩
              cases hl : look ks ws kk with
              | some w => rw [hl] at z; exact z
              | none => rw [hl] at z; exact z
            · rw [if_neg hz] at z; exact z.elim
          · exact z.elim
        · exact z.elim
      · rintro ⟨l, rfl, kk, hk, ks, ws, hs, hz, z⟩
        rw [hk]
        simp only [hs]
        rw [if_pos hz]
        cases hl : look ks ws kk with
        | some w => rw [hl] at z; exact z
        | none => rw [hl] at z; exact z
    refine propext ⟨fun z => ⟨⟨q, rfl⟩, z.mono fun k S2 z2 => ?_⟩, fun z => z.2.mono fun k S2 z2 => ?_⟩
    · rw [sat_bind] at z2
      exact z2.mono fun x S3 z3 => (step k x S3).mp z3
    · rw [sat_bind]
      exact z2.mono fun x S3 z3 => (step k x S3).mpr z3
theorem sat_dputK {l : Nat} {k w : W} {ks : List Key} {ws : List W} {kk : Key} (h : S[l]? = some (.dct ks ws)) (hk : keyW k = some kk) (hz : ks.length < sizeLine) : Sat (fDPut (.loc l) k w S) QU = QU () (S.set l (.dct (putW ks ws kk w).1 (putW ks ws kk w).2)) := by
  unfold fDPut
  simp only [h, hk]
  rw [if_pos hz]
  rfl
theorem sat_dputT {l : Nat} {w : W} {us : List W} {ks : List (List Key)} {ws : List W} {kk : List Key} (h : S[l]? = some (.dcT ks ws)) (hk : keysW us = some kk) (hz : ks.length < sizeLine) : Sat (fDPut (.loc l) (.tup us) w S) QU = QU () (S.set l (.dcT (putW ks ws kk w).1 (putW ks ws kk w).2)) := by
  unfold fDPut
  simp only [h, hk]
  rw [if_pos hz]
  rfl
/-! ### objects -/
theorem sat_fld {Cs : List Str} {f : Str} {c : MV} : Sat (mFld Cs f c ρ S) Q = Sat (c ρ S) fun w S1 => ∃ C fs ws, insO S1 w = some (C, fs, ws) ∧ C ∈ Cs ∧ ∃ u, look fs ws f = some u ∧ Q u S1 := by
  unfold mFld
  rw [sat_bind]
  congr
  funext w S1
  cases h : insO S1 w with
  | none => exact propext ⟨False.elim, fun ⟨_, _, _, e, _⟩ => by cases e⟩
  | some p =>
    obtain ⟨C, fs, ws⟩ := p
    simp only
    rw [sat_ite]
    refine propext ⟨fun z => ?_, fun ⟨C', fs', ws', e, hC, u, hu, z⟩ => ?_⟩
    · by_cases hC : C ∈ Cs
      · rw [if_pos hC] at z
        cases hu : look fs ws f with
        | none => rw [hu] at z; exact z.elim
        | some u => rw [hu] at z; exact ⟨C, fs, ws, rfl, hC, u, hu, z⟩
      · rw [if_neg hC] at z; exact z.elim
    · cases e
      rw [if_pos hC, hu]
      exact z
/-! ### one of two -/
theorem sat_dis {α : Type} {c c' : MW α} {R : α → Sto → Prop} : Sat (mDis c c' ρ S) R = Sat (rDis (c ρ S) (c' ρ S)) R := rfl
theorem sat_gdisT {n : Nat} {gs gs' : MGs} {ws : List W} (h : ws.length = n) : cgDis (mgTup n gs) (mgUnl n gs') (.tup ws) ρ S = gs ws ρ S := by
  unfold cgDis mgTup mgUnl
  simp only
  rw [if_pos h]
  unfold seqL
  cases gs ws ρ S <;> rfl
theorem sat_gdisL {n : Nat} {gs gs' : MGs} {ws : List W} (h : ws.length = n) : cgDis (mgTup n gs) (mgUnl n gs') (.lst ws) ρ S = gs' ws ρ S := by
  unfold cgDis mgTup mgUnl seqL
  simp only
  rw [if_pos h]
  rfl
theorem sat_par3 {i j l : Nat} {a b c : MV} : Sat (mPar3 i j l (mCons a (mCons b (mCons c mNil))) ρ S) QS = Sat (a ρ S) fun u S1 => Sat (b ρ S1) fun v S2 => Sat (c ρ S2) fun w S3 => QS (.next, ((ρ.set i (some u)).set j (some v)).set l (some w)) S3 := by
  unfold mPar3
  rw [sat_bind, sat_cons]
  simp only [sat_cons, sat_nil]
  rfl
theorem sat_intB {b : Bool} : Sat (fInt [.bl b] S) Q = Q (.int (if b then 1 else 0)) S := rfl
theorem sat_sum {ws : List W} {ns : List Int} (h : intsW ws = some ns) : Sat (fSum [.lst ws] S) Q = Q (.int ns.sum) S := by
  unfold fSum seqL
  simp only [h]
  rfl
theorem sat_maxD {ws : List W} {ns : List Int} {d : W} (h : intsW ws = some ns) : Sat (fMaxD [.lst ws] [d] S) Q = Q (((maxL ns).map W.int).getD d) S := by
  unfold fMaxD seqL
  simp only [h]
  rfl
theorem sat_cbk {f : List W → List W → Sto → Res W} {t k : MW (List W)} : Sat (mCBK f t k ρ S) Q = Sat (t ρ S) fun ws S1 => Sat (k ρ S1) fun zs S2 => Sat (f ws zs S2) Q := by
  unfold mCBK
  rw [sat_bind]
  congr
  funext ws S1
  rw [sat_bind]
end
mutual
theorem belW_le {m n : Nat} (h : m ≤ n) : ∀ {w : W}, belW m w = true → belW n w = true
  | .non, _ => rfl
  | .bl _, _ => rfl
  | .int _, _ => rfl
  | .str _, _ => rfl
  | .ty _, _ => rfl
  | .glo _, _ => rfl
  | .loc l, z => by unfold belW at z ⊢; exact decide_eq_true (Nat.lt_of_lt_of_le (of_decide_eq_true z) h)
  | .tup ws, z => by unfold belW at z ⊢; exact belWs_le h z
  | .ktp ws, z => by unfold belW at z ⊢; exact belWs_le h z
  | .lst ws, z => by unfold belW at z ⊢; exact belWs_le h z
  | .arr ws, z => by unfold belW at z ⊢; exact belWs_le h z
  | .dct _ ws, z => by unfold belW at z ⊢; exact belWs_le h z
  | .dcT _ ws, z => by unfold belW at z ⊢; exact belWs_le h z
  | .obj _ _ ws, z => by unfold belW at z ⊢; exact belWs_le h z
  | .exn _ _ ws, z => by unfold belW at z ⊢; exact belWs_le h z
theorem belWs_le {m n : Nat} (h : m ≤ n) : ∀ {ws : List W}, belWs m ws = true → belWs n ws = true
  | [], _ => rfl
  | w :: ws, z => by
    unfold belWs at z ⊢
    obtain ⟨h1, h2⟩ := Bool.and_eq_true_iff.mp z
    exact Bool.and_eq_true_iff.mpr ⟨belW_le h h1, belWs_le h h2⟩
end
theorem belO_le {m n : Nat} (h : m ≤ n) {o : O} (z : belO m o = true) : belO n o = true := by
  cases o <;> exact belWs_le h z
theorem gd2T {ρ : Env} {S : Sto} {gs gs' : MGs} {a b : W} : cgDis (mgTup 2 gs) (mgUnl 2 gs') (.tup [a, b]) ρ S = gs [a, b] ρ S := sat_gdisT rfl
theorem gd3T {ρ : Env} {S : Sto} {gs gs' : MGs} {a b c : W} : cgDis (mgTup 3 gs) (mgUnl 3 gs') (.tup [a, b, c]) ρ S = gs [a, b, c] ρ S := sat_gdisT rfl
theorem gd4T {ρ : Env} {S : Sto} {gs gs' : MGs} {a b c d : W} : cgDis (mgTup 4 gs) (mgUnl 4 gs') (.tup [a, b, c, d]) ρ S = gs [a, b, c, d] ρ S := sat_gdisT rfl
theorem gd2L {ρ : Env} {S : Sto} {gs gs' : MGs} {a b : W} : cgDis (mgTup 2 gs) (mgUnl 2 gs') (.lst [a, b]) ρ S = gs' [a, b] ρ S := sat_gdisL rfl
theorem gd3L {ρ : Env} {S : Sto} {gs gs' : MGs} {a b c : W} : cgDis (mgTup 3 gs) (mgUnl 3 gs') (.lst [a, b, c]) ρ S = gs' [a, b, c] ρ S := sat_gdisL rfl
/-- all of them, for simp -/
theorem sat2 : type_of% (And.intro @gd2T (And.intro @gd3T (And.intro @gd4T (And.intro @gd2L (And.intro @gd3L (And.intro @s_no (And.intro @e_int (And.intro @e_intN (And.intro @e_bl (And.intro @sat_enum (And.intro @st_tup (And.intro @st_lst (And.intro @it_tup (And.intro @it_lst (And.intro @sat_g0 (And.intro @sat_mIn (And.intro @sat_G (And.intro @sat_GL (And.intro @sat_mpL (And.intro @sat_finL (And.intro @sat_finLM (And.intro @sat_finKd (And.intro @sat_finT (And.intro @sat_mpS (And.intro @sat_mpK (And.intro @sat_dnewK (And.intro @sat_dnewT (And.intro @sat_dget (And.intro @sat_din (And.intro @sat_dnotin (And.intro @sat_get2 (And.intro @sat_fld (And.intro @sat_par3 (And.intro @sat_intB @sat_cbk)))))))))))))))))))))))))))))))))) :=
  (And.intro @gd2T (And.intro @gd3T (And.intro @gd4T (And.intro @gd2L (And.intro @gd3L (And.intro @s_no (And.intro @e_int (And.intro @e_intN (And.intro @e_bl (And.intro @sat_enum (And.intro @st_tup (And.intro @st_lst (And.intro @it_tup (And.intro @it_lst (And.intro @sat_g0 (And.intro @sat_mIn (And.intro @sat_G (And.intro @sat_GL (And.intro @sat_mpL (And.intro @sat_finL (And.intro @sat_finLM (And.intro @sat_finKd (And.intro @sat_finT (And.intro @sat_mpS (And.intro @sat_mpK (And.intro @sat_dnewK (And.intro @sat_dnewT (And.intro @sat_dget (And.intro @sat_din (And.intro @sat_dnotin (And.intro @sat_get2 (And.intro @sat_fld (And.intro @sat_par3 (And.intro @sat_intB @sat_cbk))))))))))))))))))))))))))))))))))
end Mm

/-! Sat of the later mirrors. -/
namespace Mm
open PySem L2 Gc
section
variable {ρ : Env} {S : Sto} {Q : W → Sto → Prop}
theorem while_inv {t : MW Bool} {b : MS} {R : Fl × Env → Sto → Prop} (I : Nat → Env → Sto → Prop)
    (h : ∀ m ρ S, I m ρ S → Sat (t ρ S) fun k S' => if k = true then Sat (b ρ S') (fun p S2 => match p with
      | (.next, ρ2) => ∃ m', m' < m ∧ I m' ρ2 S2
      | (.cont, ρ2) => ∃ m', m' < m ∧ I m' ρ2 S2
      | (.brk, ρ2) => R (.next, ρ2) S2
      | (.ret u, ρ2) => R (.ret u, ρ2) S2) else R (.next, ρ) S') : ∀ n m ρ S, m < n → I m ρ S → Sat (mWhile t b n ρ S) R := by
  intro n
  induction n with
  | zero => intro m ρ S hm; exact absurd hm (Nat.not_lt_zero _)
  | succ n ih =>
    intro m ρ S hm hi
    have h1 := h m ρ S hi
    unfold mWhile
    cases e : t ρ S with
    | stuck => rw [e] at h1; exact h1.elim
    | err x S' => rw [e] at h1; exact h1.elim
    | ok k S' =>
      rw [e] at h1
      cases k with
      | false => exact h1
      | true =>
        have h2 : Sat (b ρ S') (fun p S2 => match p with
          | (.next, ρ2) => ∃ m', m' < m ∧ I m' ρ2 S2
          | (.cont, ρ2) => ∃ m', m' < m ∧ I m' ρ2 S2
          | (.brk, ρ2) => R (.next, ρ2) S2
          | (.ret u, ρ2) => R (.ret u, ρ2) S2) := h1
        simp only
        cases e2 : b ρ S' with
        | stuck => rw [e2] at h2; exact h2.elim
        | err x S2 => rw [e2] at h2; exact h2.elim
        | ok p S2 =>
          rw [e2] at h2
          obtain ⟨f, ρ2⟩ := p
          cases f with
          | next => obtain ⟨m', q1, q2⟩ := h2; exact ih m' ρ2 S2 (by omega) q2
          | cont => obtain ⟨m', q1, q2⟩ := h2; exact ih m' ρ2 S2 (by omega) q2
          | brk => exact h2
          | ret u => exact h2
theorem sat_augS {fg fo : W → W → Sto → Res W} {fs : W → W → W → Sto → Res Unit} {co ci c : MV} {R : Fl × Env → Sto → Prop} : Sat (mAugS fg fo fs co ci c ρ S) R = Sat (co ρ S) fun o S1 => Sat (ci ρ S1) fun i S2 => Sat (fg o i S2) fun x S3 => Sat (c ρ S3) fun y S4 => Sat (fo x y S4) fun z S5 => Sat (fs o i z S5) fun _ S6 => R (.next, ρ) S6 := by
  unfold mAugS
  rw [sat_bind]; congr; funext o S1
  rw [sat_bind]; congr; funext i S2
  rw [sat_bind]; congr; funext x S3
  rw [sat_bind]; congr; funext y S4
  rw [sat_bind]; congr; funext z S5
  cases fs o i z S5 <;> rfl
theorem sat_aug {j : Nat} {f : W → W → Sto → Res W} {c : MV} {R : Fl × Env → Sto → Prop} : Sat (mAug j f c ρ S) R = Sat (mVar j ρ S) fun x S1 => Sat (c ρ S1) fun y S2 => Sat (f x y S2) fun z S3 => R (.next, ρ.set j (some z)) S3 := by
  unfold mAug
  rw [sat_bind]; congr; funext o S1
  rw [sat_bind]; congr; funext i S2
  rw [sat_bind]; rfl
theorem sat_ixO {l : Nat} {k : Int} : Sat (fIxO (.loc l) (.int k) S) Q = ∃ ws, S[l]? = some (.lst ws) ∧ ∃ w, atI ws k = some w ∧ Q w S := by
  unfold fIxO seqL
  simp only
  cases h : S[l]? with
  | none => exact propext ⟨False.elim, fun ⟨_, e, _⟩ => by cases e⟩
  | some o =>
    cases o with
    | lst ws =>
      simp only
      cases q : atI ws k with
      | none => exact propext ⟨False.elim, fun ⟨_, e, _, e2, _⟩ => by cases e; rw [q] at e2; cases e2⟩
      | some w => exact propext ⟨fun z => ⟨ws, rfl, w, q, z⟩, fun ⟨_, e, _, e2, z⟩ => by cases e; rw [q] at e2; cases e2; exact z⟩
    | _ => exact propext ⟨False.elim, fun ⟨_, e, _⟩ => by cases e⟩
theorem sat_iadd {i j : Int} : Sat (fIAdd (.int i) (.int j) S) Q = Q (.int (i + j)) S := rfl
theorem sat_ite_st {p : Prop} [Decidable p] {w : W} {T : Sto} : Sat (if p then Res.ok w T else .stuck) Q = if p then Q w T else False := by
  by_cases h : p
  · rw [if_pos h, if_pos h]; rfl
  · rw [if_neg h, if_neg h]; rfl
theorem sat_repT {ws : List W} {k : Int} : Sat (fRepT (.tup ws) (.int k) S) Q = if ws ≠ [] ∧ 0 ≤ k ∧ k ≤ 1000 ∧ ws.length ≤ 1000 then Q (.tup (repW k ws)) S else False := sat_ite_st
theorem sat_repL {ws : List W} {k : Int} : Sat (fRepL (.lst ws) (.int k) S) Q = if 0 ≤ k ∧ k ≤ 1000 ∧ ws.length ≤ 1000 then Q (.lst (repW k ws)) S else False := sat_ite_st
theorem sat_repLM {ws : List W} {k : Int} : Sat (fRepLM (.lst ws) (.int k) S) Q = if 0 ≤ k ∧ k ≤ 1000 ∧ ws.length ≤ 1000 then Q (.loc S.length) (S ++ [.lst (repW k ws)]) else False := sat_ite_st
theorem p_listMT {ws : List W} : Sat (fListM [.tup ws] S) Q = Q (.loc S.length) (S ++ [.lst ws]) := rfl
theorem p_listML {ws : List W} : Sat (fListM [.lst ws] S) Q = Q (.loc S.length) (S ++ [.lst ws]) := rfl
theorem sat_callD {n : Nat} {m : MF} {ds : List W} {t : MW (List W)} : Sat (mCallD n m ds t ρ S) Q = Sat (t ρ S) fun ws S1 => if (ws ++ ds).length = n then Sat (m (ws ++ ds) S1) Q else False := by
  unfold mCallD
  rw [sat_bind]; congr; funext ws S1
  by_cases h : (ws ++ ds).length = n
  · rw [if_pos h, if_pos h]
  · rw [if_neg h, if_neg h]; rfl
theorem sat_count {c : MV} {t : MW (List W)} (ws : List W) (k : Int) (ns : List Int) (h : Sat (c ρ S) fun x S1 => seqL S1 x = some ws ∧ Sat (t ρ S1) fun us S2 => us = [.int k] ∧ seqL S2 x = some ws ∧ intsW ws = some ns ∧ Q (.int ((ns.count k : Nat) : Int)) S2) : Sat (mCount c t ρ S) Q := by
  unfold mCount
  rw [sat_bind]
  refine h.mono fun x S1 ⟨h1, h2⟩ => ?_
  rw [h1]
  simp only
  rw [sat_bind]
  refine h2.mono fun us S2 ⟨e1, e2, e3, e4⟩ => ?_
  subst e1
  simp only [e2, e3]
  exact e4
theorem sat_isB {a b : Bool} : Sat (fIsB (.bl a) (.bl b) S) Q = Q (.bl (decide (a = b))) S := rfl
theorem sat_notB {a b : Bool} : Sat (fNotB (.bl a) (.bl b) S) Q = Q (.bl (!decide (a = b))) S := rfl
end
theorem sat3 : type_of% (And.intro @sat_augS (And.intro @sat_aug (And.intro @sat_ixO (And.intro @sat_iadd (And.intro @sat_repT (And.intro @sat_repL (And.intro @sat_repLM (And.intro @p_listMT (And.intro @p_listML (And.intro @sat_callD (And.intro @sat_isB @sat_notB))))))))))) :=
  (And.intro @sat_augS (And.intro @sat_aug (And.intro @sat_ixO (And.intro @sat_iadd (And.intro @sat_repT (And.intro @sat_repL (And.intro @sat_repLM (And.intro @p_listMT (And.intro @p_listML (And.intro @sat_callD (And.intro @sat_isB @sat_notB)))))))))))
end Mm

/-! Sat of walks over dicts, item by item. -/
namespace Mm
open PySem L2 Gc
section
variable {ρ : Env} {S : Sto} {Q : W → Sto → Prop} {QL : List W → Sto → Prop} {α : Type}
theorem sat_items {c : MV} : Sat (mItems c ρ S) QL = Sat (c ρ S) fun w S1 => ∃ d, dicO S1 w = some d ∧ QL (pairsD d) (lockS S1 w) := by
  unfold mItems; rw [sat_bind]; congr; funext w S1
  cases dicO S1 w with
  | none => simp [Sat]
  | some d => simp [Sat]
theorem sat_keysD {c : MV} : Sat (mKeysD c ρ S) QL = Sat (c ρ S) fun w S1 => ∃ d, dicO S1 w = some d ∧ QL (keysD d) (lockS S1 w) := by
  unfold mKeysD; rw [sat_bind]; congr; funext w S1
  cases dicO S1 w with
  | none => simp [Sat]
  | some d => simp [Sat]
theorem sat_valsD {c : MV} : Sat (mValsD c ρ S) QL = Sat (c ρ S) fun w S1 => ∃ ks ws, dicO S1 w = some (.K ks ws) ∧ QL ((ks.zip ws).map fun p => p.2) (lockS S1 w) := by
  unfold mValsD; rw [sat_bind]; congr; funext w S1
  cases dicO S1 w with
  | none => simp [Sat]
  | some d =>
    cases d with
    | K ks ws => exact propext ⟨fun h => ⟨ks, ws, rfl, h⟩, fun ⟨_, _, e, h⟩ => by cases e; exact h⟩
    | T ks ws => exact propext ⟨False.elim, fun ⟨_, _, e, _⟩ => by cases e⟩
theorem sat_GJ {g : MG} {t : MW Bool} {mp : α → MW α} {n : Nat} {vs : List Nat} {c : MW Rdr} {a0 : α} {fin : α → Sto → Res W} : Sat (mGJ n vs c g t mp a0 fin ρ S) Q = Sat (c ρ S) fun rd S1 => Sat (gLoopJ g t mp (wipeE ρ vs) rd n 0 a0 S1) fun a S2 => Sat (fin a S2) Q := by
  unfold mGJ mInJ; rw [sat_bind, sat_bind]
theorem sat_zipJ {b : Bool} {x y : MV} {R : Rdr → Sto → Prop} : Sat (mZipJ b (mCons x (mCons y mNil)) ρ S) R = Sat (x ρ S) fun u S1 => Sat (y ρ S1) fun v S2 => ∃ k us, sqW S2 u = some (k, us) ∧ ∃ k' vs, sqW S2 v = some (k', vs) ∧ (b = true ∨ k = k') ∧ R (rdZip b u v) S2 := by
  unfold mZipJ; rw [sat_bind, sat_cons]; congr; funext u S1; rw [sat_cons]; congr; funext v S2; rw [sat_nil]
  simp only
  cases h1 : sqW S2 u with
  | none => exact propext ⟨False.elim, fun ⟨_, _, e, _⟩ => by cases e⟩
  | some p =>
    obtain ⟨k, us⟩ := p
    cases h2 : sqW S2 v with
    | none => exact propext ⟨False.elim, fun ⟨_, _, _, _, _, e, _⟩ => by cases e⟩
    | some p =>
      obtain ⟨k', vs⟩ := p
      simp only [sat_ite, sat_ok, sat_stuck]
      by_cases z : b = true ∨ k = k'
      · rw [if_pos z]
        exact propext ⟨fun h => ⟨k, us, rfl, k', vs, rfl, z, h⟩, fun ⟨_, _, e, _, _, e', _, h⟩ => h⟩
      · rw [if_neg z]
        refine propext ⟨False.elim, fun ⟨_, _, e, _, _, e', h, _⟩ => ?_⟩
        cases e; cases e'
        exact z h
theorem sat_enumJ {x : MV} {R : Rdr → Sto → Prop} : Sat (mEnumJ (mCons x mNil) ρ S) R = Sat (x ρ S) fun u S1 => ∃ p, sqW S1 u = some p ∧ R (rdEnum u) S1 := by
  unfold mEnumJ; rw [sat_bind, sat_cons]; congr; funext u S1; rw [sat_nil]
  simp only
  cases h1 : sqW S1 u with
  | none => exact propext ⟨False.elim, fun ⟨_, e, _⟩ => by cases e⟩
  | some p => exact propext ⟨fun h => ⟨p, rfl, h⟩, fun ⟨_, _, h⟩ => h⟩
theorem sat_get1 {cd ck : MV} : Sat (mDGet1 cd ck ρ S) Q = Sat (cd ρ S) fun d S1 => (∃ q, dicO S1 d = some q) ∧ Sat (ck ρ S1) fun k S2 => ∃ o, dGet S2 d k = some o ∧ Q (o.getD .non) S2 := by
  unfold mDGet1; rw [sat_bind]; congr; funext d S1
  cases h : dicO S1 d with
  | none => exact propext ⟨False.elim, fun ⟨⟨_, e⟩, _⟩ => by cases e⟩
  | some q =>
    simp only
    rw [sat_bind]
    refine propext ⟨fun z => ⟨⟨q, rfl⟩, z.mono fun k S2 y => ?_⟩, fun ⟨_, z⟩ => z.mono fun k S2 y => ?_⟩
    · cases e : dGet S2 d k with
      | none => simp only [e] at y; exact y.elim
      | some o => simp only [e] at y; exact ⟨o, rfl, y⟩
    · obtain ⟨o, e, y⟩ := y
      simp only [e]
      exact y
theorem sat_extend {c e : MV} : Sat (mExtend c (mCons e mNil) ρ S) Q = Sat (c ρ S) fun x S1 => ∃ l, x = .loc l ∧ (∃ vs, S1[l]? = some (.lst vs)) ∧ Sat (e ρ S1) fun w S2 => ∃ zs, seqO S2 w = some zs ∧ ∃ ws, S2[l]? = some (.lst ws) ∧ ws.length + zs.length ≤ sizeLine ∧ Q .non (S2.set l (.lst (ws ++ zs))) := by
  unfold mExtend; rw [sat_bind]; congr; funext x S1
  cases x with
  | loc l =>
    simp only
    cases h : S1[l]? with
    | none => exact propext ⟨False.elim, fun ⟨_, e, ⟨_, f⟩, _⟩ => by cases e; rw [h] at f; cases f⟩
    | some o =>
      cases o with
      | lst vs =>
        simp only
        rw [sat_bind, sat_cons]
        simp only [sat_nil]
        refine propext ⟨fun z => ⟨l, rfl, ⟨vs, h⟩, z.mono fun w S2 y => ?_⟩, fun ⟨l', e1, _, z⟩ => z.mono fun w S2 y => ?_⟩
        · cases h2 : S2[l]? with
          | none => simp only [h2] at y; exact y.elim
          | some o2 =>
            cases o2 with
            | lst ws =>
              cases h3 : seqO S2 w with
              | none => simp only [h2, h3] at y; exact y.elim
              | some zs =>
                simp only [h2, h3] at y
                by_cases hz : ws.length + zs.length ≤ sizeLine
                · rw [if_pos hz] at y; exact ⟨zs, rfl, ws, rfl, hz, y⟩
                · rw [if_neg hz] at y; exact y.elim
            | _ => simp only [h2] at y; exact y.elim
        · cases e1
          obtain ⟨zs, h3, ws, h2, hz, y⟩ := y
          simp only [h2, h3]
          rw [if_pos hz]
          exact y
      | _ => exact propext ⟨False.elim, fun ⟨_, e, ⟨_, f⟩, _⟩ => by cases e; rw [h] at f; cases f⟩
  | _ => exact propext ⟨False.elim, fun ⟨_, e, _⟩ => by cases e⟩
theorem seqO_lst {ws : List W} : seqO S (.lst ws) = some ws := rfl
theorem gJ_step {g : MG} {t : MW Bool} {mp : α → MW α} {rd : Rdr} {n i : Nat} {acc : α} {RA : α → Sto → Prop} {w : W} (h : rd S i = some (some w)) : Sat (gLoopJ g t mp ρ rd (n + 1) i acc S) RA = Sat (g w ρ S) fun ρ1 S1 => Sat (t ρ1 S1) fun b S2 => if b = true then Sat (mp acc ρ1 S2) (fun a S3 => Sat (gLoopJ g t mp ρ rd n (i + 1) a S3) RA) else Sat (gLoopJ g t mp ρ rd n (i + 1) acc S2) RA := by
  have u : gLoopJ g t mp ρ rd (n + 1) i acc S = (match mThen (g w) (mBind t fun b => if b = true then mp acc else fun _ S => .ok acc S) ρ S with
      | .ok acc' S' => gLoopJ g t mp ρ rd n (i + 1) acc' S'
      | _ => .stuck) := by
    conv => lhs; unfold gLoopJ
    simp only [h] <;> rfl
  rw [u]
  have e : Sat (mThen (g w) (mBind t fun b => if b = true then mp acc else fun _ S => .ok acc S) ρ S) (fun a S' => Sat (gLoopJ g t mp ρ rd n (i + 1) a S') RA) = Sat (g w ρ S) fun ρ1 S1 => Sat (t ρ1 S1) fun b S2 => if b = true then Sat (mp acc ρ1 S2) (fun a S3 => Sat (gLoopJ g t mp ρ rd n (i + 1) a S3) RA) else Sat (gLoopJ g t mp ρ rd n (i + 1) acc S2) RA := by
    rw [sat_then]; congr; funext ρ1 S1; rw [sat_bind]; congr; funext b S2
    cases b
    · rfl
    · rfl
  rw [← e]
  cases mThen (g w) (mBind t fun b => if b = true then mp acc else fun _ S => .ok acc S) ρ S <;> rfl
/-- a comprehension over what stands still meanwhile, which leaves the store as it is -/
theorem gJ_map {g : MG} {e : MV} {rd : Rdr} {ws : List W} {R : List W → Sto → Prop} (f : W → W) (hr : ∀ i, i ≤ ws.length → rd S i = some ws[i]?) (h : ∀ w, w ∈ ws → Sat (g w ρ S) fun ρ1 S1 => Sat (e ρ1 S1) fun y S2 => y = f w ∧ S2 = S) (hz : ws.length ≤ sizeLine) (k : R (ws.map f) S) :
    ∀ (n : Nat), ws.length < n → Sat (gLoopJ g mYes (mpL e) ρ rd n 0 [] S) R := by
  have aux : ∀ (d n i : Nat), i + d = ws.length → d < n → Sat (gLoopJ g mYes (mpL e) ρ rd n i ((ws.take i).map f) S) R := by
    intro d
    induction d with
    | zero =>
      intro n i hi hn
      cases n with
      | zero => exact absurd hn (Nat.lt_irrefl _)
      | succ n =>
        unfold gLoopJ
        rw [hr i (by omega), List.getElem?_eq_none (by omega)]
        show R _ S
        rw [List.take_of_length_le (by omega)]
        exact k
    | succ d ih =>
      intro n i hi hn
      cases n with
      | zero => exact absurd hn (Nat.not_lt_zero _)
      | succ n =>
        have hil : i < ws.length := by omega
        rw [gJ_step (w := ws[i]) (by rw [hr i (by omega), List.getElem?_eq_getElem hil])]
        refine (h ws[i] (List.getElem_mem hil)).mono fun ρ1 S1 h2 => ?_
        rw [sat_yes, if_pos rfl]
        unfold mpL
        rw [sat_bind]
        refine h2.mono fun y S2 ⟨e1, e2⟩ => ?_
        subst e1 e2
        rw [if_pos (by rw [List.length_map, List.length_take]; omega)]
        have et : (ws.take i).map f ++ [f ws[i]] = (ws.take (i + 1)).map f := by
          rw [List.take_succ_eq_append_getElem hil, List.map_append]; rfl
        show Sat (gLoopJ g mYes (mpL e) ρ rd n (i + 1) ((ws.take i).map f ++ [f ws[i]]) S2) R
        rw [et]
        exact ih n (i + 1) (by omega) (by omega)
  intro n hn
  have := aux ws.length n 0 (by omega) hn
  simpa using this
theorem pairs_zip : ∀ {xs ys : List W}, pairs xs ys = List.zipWith (fun a b => W.tup [a, b]) xs ys
  | [], _ => rfl
  | _ :: _, [] => rfl
  | x :: xs, y :: ys => by show _ :: pairs xs ys = _; rw [pairs_zip]; rfl
/-- what zip reads -/
theorem rd_zip_at {b : Bool} {u v : W} {k k' : Bool} {us vs : List W} (h1 : sqW S u = some (k, us)) (h2 : sqW S v = some (k', vs)) (hl : us.length = vs.length) : ∀ i, i ≤ (pairs us vs).length → rdZip b u v S i = some (pairs us vs)[i]? := by
  intro i hi
  rw [pairs_len hl] at hi
  unfold rdZip
  rw [h1, h2]
  simp only
  rw [pairs_zip, List.getElem?_zipWith]
  by_cases z : i < us.length
  · rw [List.getElem?_eq_getElem z, List.getElem?_eq_getElem (by omega)]
  · have e : us.length = i := by omega
    rw [List.getElem?_eq_none (by omega), List.getElem?_eq_none (by omega)]
    cases b with
    | true => simp only [if_true]; rw [if_pos ⟨e, by omega⟩]
    | false => rfl
end
/-! what names no object freezes as it is -/
mutual
def szW : W → Nat
  | .tup ws => 1 + szWs ws
  | .ktp ws => 1 + szWs ws
  | .lst ws => 1 + szWs ws
  | .arr ws => 1 + szWs ws
  | .dct _ ws => 1 + szWs ws
  | .dcT _ ws => 1 + szWs ws
  | .obj _ _ ws => 1 + szWs ws
  | .exn _ _ ws => 1 + szWs ws
  | _ => 1
def szWs : List W → Nat
  | [] => 0
  | w :: ws => 1 + max (szW w) (szWs ws)
end
mutual
theorem frz_id {S : Sto} {n : Nat} : ∀ {k : Nat} {w : W}, szW w ≤ k → belW 0 w = true → frzW S n k w = some w
  | 0, w, h, _ => by cases w <;> (unfold szW at h; omega)
  | k + 1, .non, h, _ => rfl
  | k + 1, .bl _, h, _ => rfl
  | k + 1, .int _, h, _ => rfl
  | k + 1, .str _, h, _ => rfl
  | k + 1, .ty _, h, _ => rfl
  | k + 1, .glo _, h, _ => rfl
  | k + 1, .loc l, h, b => by unfold belW at b; simp at b
  | k + 1, .tup ws, h, b => by unfold szW at h; unfold belW at b; unfold frzW; rw [frzs_id (by omega) b]; rfl
  | k + 1, .ktp ws, h, b => by unfold szW at h; unfold belW at b; unfold frzW; rw [frzs_id (by omega) b]; rfl
  | k + 1, .lst ws, h, b => by unfold szW at h; unfold belW at b; unfold frzW; rw [frzs_id (by omega) b]; rfl
  | k + 1, .arr ws, h, b => by unfold szW at h; unfold belW at b; unfold frzW; rw [frzs_id (by omega) b]; rfl
  | k + 1, .dct ks ws, h, b => by unfold szW at h; unfold belW at b; unfold frzW; rw [frzs_id (by omega) b]; rfl
  | k + 1, .dcT ks ws, h, b => by unfold szW at h; unfold belW at b; unfold frzW; rw [frzs_id (by omega) b]; rfl
  | k + 1, .obj C fs ws, h, b => by unfold szW at h; unfold belW at b; unfold frzW; rw [frzs_id (by omega) b]; rfl
  | k + 1, .exn C fs ws, h, b => by unfold szW at h; unfold belW at b; unfold frzW; rw [frzs_id (by omega) b]; rfl
theorem frzs_id {S : Sto} {n : Nat} : ∀ {k : Nat} {ws : List W}, szWs ws ≤ k → belWs 0 ws = true → frzWs S n k ws = some ws
  | k, [], h, _ => by cases k <;> rfl
  | 0, w :: ws, h, _ => by unfold szWs at h; omega
  | k + 1, w :: ws, h, b => by
    unfold szWs at h
    unfold belWs at b
    obtain ⟨b1, b2⟩ := Bool.and_eq_true_iff.mp b
    unfold frzWs
    rw [frz_id (by omega) b1, frzs_id (by omega) b2]
end
theorem szWs_le {m : Nat} : ∀ {ws : List W}, (∀ w, w ∈ ws → szW w ≤ m) → szWs ws ≤ ws.length + m
  | [], _ => Nat.zero_le _
  | w :: ws, h => by
    unfold szWs
    have h1 := h w List.mem_cons_self
    have h2 := szWs_le fun w hw => h w (List.mem_cons_of_mem _ hw)
    rw [List.length_cons]
    omega
/-- leaving with a new object of the store that names none -/
theorem fin_newL {S : Sto} {ws : List W} {T : Sto} {Q : W → Sto → Prop} (g : WS S) (hb : belWs 0 ws = true) (hz : szWs ws ≤ 999) (h : (S ++ T)[S.length]? = some (.lst ws)) : Sat (finW S.length (.loc S.length) (S ++ T)) Q = Q (.lst ws) S := by
  have e : frzW (S ++ T) S.length 1000 (.loc S.length) = some (.lst ws) := by
    unfold frzW
    rw [if_neg (Nat.lt_irrefl _), h]
    show (frzWs _ _ 999 ws).map W.lst = _
    rw [frzs_id hz hb]
    rfl
  refine sat_eq ?_ Q
  unfold finW
  rw [List.take_left' rfl, if_pos (List.all_eq_true.mpr g), if_neg (by unfold belW; simp), e]
theorem sat4 : type_of% (And.intro @sat_items (And.intro @sat_keysD (And.intro @sat_valsD (And.intro @sat_GJ (And.intro @sat_zipJ (And.intro @sat_enumJ (And.intro @sat_get1 (And.intro @sat_extend @seqO_lst)))))))) :=
  (And.intro @sat_items (And.intro @sat_keysD (And.intro @sat_valsD (And.intro @sat_GJ (And.intro @sat_zipJ (And.intro @sat_enumJ (And.intro @sat_get1 (And.intro @sat_extend @seqO_lst))))))))
end Mm

/-! Loops over lists of the store. -/
namespace Mm
open PySem L2 Gc
section
variable {ρ : Env} {S : Sto} {QS : Fl × Env → Sto → Prop}
theorem sat_forL {n : Nat} {c : MV} {g : MG} {b : MS} : Sat (mForL n c g b ρ S) QS = Sat (c ρ S) fun w S1 => ∃ l, w = .loc l ∧ Sat (mLoopL g b l n 0 ρ S1) QS := by
  unfold mForL; rw [sat_bind]; congr; funext w S1
  cases w with
  | loc l => exact propext ⟨fun h => ⟨l, rfl, h⟩, fun ⟨_, e, h⟩ => by cases e; exact h⟩
  | _ => exact propext ⟨False.elim, fun ⟨_, e, _⟩ => by cases e⟩
theorem sat_forJ {n : Nat} {c : MW Rdr} {g : MG} {b : MS} : Sat (mForJ n c g b ρ S) QS = Sat (c ρ S) fun rd S1 => Sat (mLoopJ g b rd n 0 ρ S1) QS := by
  unfold mForJ; rw [sat_bind]
theorem loopJ_inv {g : MG} {b : MS} {rd : Rdr} {ws : List W} (I : List W → Env → Sto → Prop) (hat : ∀ i ρ S, i ≤ ws.length → I (ws.drop i) ρ S → rd S i = some ws[i]?) (h0 : ∀ ρ S, I [] ρ S → QS (.next, ρ) S)
    (h1 : ∀ w us ρ S, I (w :: us) ρ S → Sat (g w ρ S) fun ρ1 S1 => Sat (b ρ1 S1) fun p S2 => match p with
      | (.next, ρ2) => I us ρ2 S2
      | (.cont, ρ2) => I us ρ2 S2
      | (.brk, ρ2) => QS (.next, ρ2) S2
      | (.ret u, ρ2) => QS (.ret u, ρ2) S2) : ∀ (n i : Nat) (ρ : Env) (S : Sto), i ≤ ws.length → ws.length - i < n → I (ws.drop i) ρ S → Sat (mLoopJ g b rd n i ρ S) QS := by
  intro n
  induction n with
  | zero => intro i ρ S _ h; exact absurd h (Nat.not_lt_zero _)
  | succ n ih =>
    intro i ρ S hi hn h
    have e := hat i ρ S hi h
    unfold mLoopJ
    rw [e]
    by_cases z : i < ws.length
    · rw [List.getElem?_eq_getElem z]
      simp only
      rw [List.drop_eq_getElem_cons z] at h
      have h2 := h1 ws[i] _ ρ S h
      rw [← sat_then] at h2
      cases q : mThen (g ws[i]) b ρ S with
      | stuck => rw [q] at h2; exact h2.elim
      | err x S' => rw [q] at h2; exact h2.elim
      | ok p S2 =>
        rw [q] at h2
        obtain ⟨f, ρ2⟩ := p
        cases f with
        | next => exact ih (i + 1) ρ2 S2 (by omega) (by omega) h2
        | cont => exact ih (i + 1) ρ2 S2 (by omega) (by omega) h2
        | brk => exact h2
        | ret u => exact h2
    · rw [List.getElem?_eq_none (by omega)]
      have : ws.drop i = [] := List.drop_eq_nil_of_le (by omega)
      rw [this] at h
      exact h0 ρ S h
theorem loopL_J {g : MG} {b : MS} {l : Nat} : ∀ (n i : Nat), mLoopL g b l n i = mLoopJ g b (fun S i => atL S l i) n i := by
  intro n
  induction n with
  | zero => intro i; rfl
  | succ n ih =>
    intro i
    funext ρ S
    unfold mLoopL mLoopJ
    simp only [ih] <;> rfl
/-- over a list of the store that stays as it is -/
theorem loopL_inv {g : MG} {b : MS} {l : Nat} {ws : List W} (I : List W → Env → Sto → Prop) (hat : ∀ us ρ S, I us ρ S → S[l]? = some (.lst ws)) (h0 : ∀ ρ S, I [] ρ S → QS (.next, ρ) S)
    (h1 : ∀ w us ρ S, I (w :: us) ρ S → Sat (g w ρ S) fun ρ1 S1 => Sat (b ρ1 S1) fun p S2 => match p with
      | (.next, ρ2) => I us ρ2 S2
      | (.cont, ρ2) => I us ρ2 S2
      | (.brk, ρ2) => QS (.next, ρ2) S2
      | (.ret u, ρ2) => QS (.ret u, ρ2) S2) (n : Nat) (ρ : Env) (S : Sto) (hn : ws.length < n) (h : I ws ρ S) : Sat (mLoopL g b l n 0 ρ S) QS := by
  rw [loopL_J]
  refine loopJ_inv (ws := ws) I (fun i ρ S _ h => ?_) h0 h1 n 0 ρ S (Nat.zero_le _) (by omega) h
  have := hat _ ρ S h
  unfold atL
  rw [this]
end
section
variable {ρ : Env} {S : Sto} {QL : List W → Sto → Prop}
theorem sat_rng2 {a b : MV} : Sat (mRng2 (mCons a (mCons b mNil)) ρ S) QL = Sat (a ρ S) fun x S1 => Sat (b ρ S1) fun y S2 => ∃ i j, x = .int i ∧ y = .int j ∧ (-(2 ^ 62) ≤ i ∧ i < 2 ^ 62 ∧ -(2 ^ 62) ≤ j ∧ j < 2 ^ 62) ∧ QL (rngW i j) S2 := by
  unfold mRng2; rw [sat_bind, sat_cons]; congr; funext x S1; rw [sat_cons]; congr; funext y S2; rw [sat_nil]
  cases x with
  | int i =>
    cases y with
    | int j =>
      simp only
      rw [sat_ite, sat_stuck, sat_ok]
      by_cases h : -(2 ^ 62) ≤ i ∧ i < 2 ^ 62 ∧ -(2 ^ 62) ≤ j ∧ j < 2 ^ 62
      · rw [if_pos h]
        exact propext ⟨fun z => ⟨i, j, rfl, rfl, h, z⟩, fun ⟨_, _, e, e', _, z⟩ => by cases e; cases e'; exact z⟩
      · rw [if_neg h]
        exact propext ⟨False.elim, fun ⟨_, _, e, e', a, z⟩ => by cases e; cases e'; exact h a⟩
    | _ => exact propext ⟨False.elim, fun ⟨_, _, _, e, _⟩ => by cases e⟩
  | _ => cases y <;> exact propext ⟨False.elim, fun ⟨_, _, e, _⟩ => by cases e⟩
end
theorem sat5 : type_of% (And.intro @sat_forL (And.intro @sat_forJ @sat_rng2)) := And.intro @sat_forL (And.intro @sat_forJ @sat_rng2)
end Mm

namespace Lw
open PySem Mm
def kv_PARTS : List (Str × W) := [("name", .glo "is_name"), ("names", .glo "are_names"), ("number", .glo "is_number"), ("value", .glo "is_value"), ("by", .glo "is_by"), ("lane", .glo "is_lane")]
def kv_FORMS : List (Str × W) := [("put", .ktp [.str "name", .str "number"]), ("copy", .ktp [.str "name", .str "name"]), ("reckon", .ktp [.str "name", .str "names", .str "name"]), ("look", .ktp [.str "name"]), ("show", .ktp [.str "name"]), ("wait", .ktp [.str "name", .str "value"]), ("set", .ktp [.str "name", .str "by"]), ("give", .ktp [.str "name", .str "lane"]), ("take", .ktp [.str "name"])]
def c__law_draw : MS := (mSeq (mAsg (mOp fAdd (mOp fIx (mVar 0) (mC (.int 2))) (mC (.int 1))) (mgSub fSetL (mVar 0) (mC (.int 2))))
  (mSeq (mIf (mTest (mOp fGt (mOp fIx (mVar 0) (mC (.int 0))) (mC (.int 0)))) (mSeq (mAsg (mCB fDivmod (mCons (mOp fIx (mVar 0) (mC (.int 0))) (mCons (mVar 1) mNil))) (mgTup 2 (mgCons (mgSub fSetL (mVar 0) (mC (.int 0))) (mgCons (mgName 3) mgNil))))
  (mRet (mVar 3))) mNext)
  (mSeq (mSet 2 (mOp fMod (mOp fIx (mVar 0) (mC (.int 1))) (mC (.int 1000000087))))
  (mSeq (mAsg (mOp fAdd (mOp fMul (mVar 2) (mOp fAdd (mOp fMod (mVar 2) (mC (.int 52021))) (mC (.int 31013)))) (mOp fMul (mC (.int 90001)) (mOp fIx (mVar 0) (mC (.int 2))))) (mgSub fSetL (mVar 0) (mC (.int 1))))
  (mRet (mOp fMod (mOp fDiv (mOp fMod (mOp fIx (mVar 0) (mC (.int 1))) (mC (.int 1000000087))) (mC (.int 32))) (mVar 1)))))))
def m__law_draw : MF := mDef 4 c__law_draw
def c__law_term_4 : MS := (mSeq (mSet 5 (mOp fAdd (mLst (mCons (mVar 4) mNil)) (mLc [6] (mIter (mVar 3)) (mgName 6) mYes (mOp fAdd (mSl (mVar 4) mNoPart (mPart (mC (.int 5)))) (mVar 6)))))
  (mRet (mOp fIx (mLc [7] (mIter (mVar 5)) (mgName 7) (mTest (mOp fNotIn (mVar 7) (mVar 1))) (mVar 7)) (mC (.int 0)))))
def c__law_term : MS := (mSeq (mSet 2 (mLst (mCons (mC (.str "put")) (mCons (mC (.str "copy")) (mCons (mC (.str "reckon")) (mCons (mC (.str "look")) (mCons (mC (.str "show")) (mCons (mC (.str "wait")) (mCons (mC (.str "set")) (mCons (mC (.str "give")) (mCons (mC (.str "take")) (mCons (mC (.str "room")) (mCons (mC (.str "lane")) (mCons (mC (.str "at")) (mCons (mC (.str "of")) (mCons (mC (.str "none")) mNil))))))))))))))))
  (mSeq (mSet 3 (mC (.str "abcdefghijklmnopqrstuvwxyz0123456789")))
  (mSeq (mSet 4 (mOp fIx (mOp fAdd (mVar 2) (mLst (mCons (mC (.str "ok")) (mCons (mC (.str "begin")) mNil)))) (mCall 2 m__law_draw (mCons (mVar 0) (mCons (mC (.int 16)) mNil)))))
  (mSeq (mIf (mTest (mOp fGt (mCall 2 m__law_draw (mCons (mVar 0) (mCons (mC (.int 4)) mNil))) (mC (.int 0)))) (mSeq (mSet 4 (mOp fIx (mVar 3) (mCall 2 m__law_draw (mCons (mVar 0) (mCons (mC (.int 26)) mNil)))))
  (mSet 4 (mOp fAdd (mVar 4) (mM1 fJoin (mC (.str "")) (mLc [8] (mRng1 (mCons (mCall 2 m__law_draw (mCons (mVar 0) (mCons (mC (.int 6)) mNil))) mNil)) (mgName 8) mYes (mOp fIx (mVar 3) (mCall 2 m__law_draw (mCons (mVar 0) (mCons (mC (.int 36)) mNil))))))))) mNext)
  c__law_term_4))))
def m__law_term : MF := mDef 9 c__law_term
def c__law_terms : MS := (mSeq (mSet 2 (mLstM mNil))
  (mSeq (mFor (mRng1 (mCons (mVar 1) mNil)) (mgName 3) (mDrop (mAppend (mVar 2) (mCons (mCall 2 m__law_term (mCons (mVar 0) (mCons (mVar 2) mNil))) mNil))))
  (mRet (mVar 2))))
def m__law_terms : MF := mDef 4 c__law_terms
def c__law_number : MS := (mSeq (mSet 1 (mCall 2 m__law_draw (mCons (mVar 0) (mCons (mOp fIx (mLst (mCons (mC (.int 10)) (mCons (mC (.int 1000)) (mCons (mC (.int 1000000)) mNil)))) (mCall 2 m__law_draw (mCons (mVar 0) (mCons (mC (.int 3)) mNil)))) mNil))))
  (mRet (mOp fIx (mLst (mCons (mVar 1) (mCons (mVar 1) (mCons (mOp fSub (mC (.int 0)) (mVar 1)) mNil)))) (mCall 2 m__law_draw (mCons (mVar 0) (mCons (mC (.int 3)) mNil))))))
def m__law_number : MF := mDef 2 c__law_number
def c__law_good : MS := (mSeq (mSet 1 (mCall 2 m__law_terms (mCons (mVar 0) (mCons (mC (.int 5)) mNil))))
  (mSeq (mSet 2 (mLst (mCons (mC (.int 0)) (mCons (mC (.int 999999)) (mCons (mUn fNeg (mC (.int 999999))) (mCons (mCall 1 m__law_number (mCons (mVar 0) mNil)) mNil))))))
  (mSeq (mSet 3 (mLstM (mCons (mTup (mCons (mC (.str "put")) (mCons (mOp fIx (mVar 1) (mC (.int 0))) (mCons (mOp fIx (mVar 2) (mCall 2 m__law_draw (mCons (mVar 0) (mCons (mC (.int 4)) mNil)))) mNil)))) (mCons (mTup (mCons (mC (.str "copy")) (mCons (mOp fIx (mVar 1) (mC (.int 0))) (mCons (mOp fIx (mVar 1) (mCall 2 m__law_draw (mCons (mVar 0) (mCons (mC (.int 2)) mNil)))) mNil)))) mNil))))
  (mSeq (mSet 4 (mCB fTuple (mCons (mLc [5] (mRng1 (mCons (mOp fAdd (mC (.int 1)) (mCall 2 m__law_draw (mCons (mVar 0) (mCons (mC (.int 3)) mNil)))) mNil)) (mgName 5) mYes (mOp fIx (mVar 1) (mCall 2 m__law_draw (mCons (mVar 0) (mCons (mC (.int 5)) mNil))))) mNil)))
  (mSeq (mDrop (mAppend (mVar 3) (mCons (mTup (mCons (mC (.str "reckon")) (mCons (mOp fIx (mVar 1) (mC (.int 0))) (mCons (mVar 4) (mCons (mOp fIx (mVar 1) (mC (.int 1))) mNil))))) mNil)))
  (mSeq (mSet 3 (mOp fAddM (mVar 3) (mLst (mCons (mTup (mCons (mC (.str "look")) (mCons (mOp fIx (mVar 1) (mC (.int 0))) mNil))) (mCons (mTup (mCons (mC (.str "show")) (mCons (mOp fIx (mVar 1) (mC (.int 0))) mNil))) (mCons (mTup (mCons (mC (.str "take")) (mCons (mOp fIx (mVar 1) (mC (.int 0))) mNil))) (mCons (mTup (mCons (mC (.str "give")) (mCons (mOp fIx (mVar 1) (mC (.int 0))) (mCons (mCall 2 m__law_draw (mCons (mVar 0) (mCons (mC (.int 6)) mNil))) mNil)))) mNil)))))))
  (mSeq (mDrop (mAppend (mVar 3) (mCons (mTup (mCons (mC (.str "wait")) (mCons (mOp fIx (mVar 1) (mC (.int 0))) (mCons (mOp fIx (mLst (mCons (mC (.int 1)) (mCons (mC (.int 9999)) (mCons (mOp fAdd (mC (.int 1)) (mCall 2 m__law_draw (mCons (mVar 0) (mCons (mC (.int 9999)) mNil)))) mNil)))) (mCall 2 m__law_draw (mCons (mVar 0) (mCons (mC (.int 3)) mNil)))) mNil)))) mNil)))
  (mSeq (mDrop (mAppend (mVar 3) (mCons (mTup (mCons (mC (.str "set")) (mCons (mOp fIx (mVar 1) (mC (.int 0))) (mCons (mOp fIx (mLst (mCons (mC (.int 1)) (mCons (mC (.int 99)) (mCons (mOp fAdd (mC (.int 1)) (mCall 2 m__law_draw (mCons (mVar 0) (mCons (mC (.int 99)) mNil)))) mNil)))) (mCall 2 m__law_draw (mCons (mVar 0) (mCons (mC (.int 3)) mNil)))) mNil)))) mNil)))
  (mRet (mOp fIx (mVar 3) (mCall 2 m__law_draw (mCons (mVar 0) (mCons (mC (.int 9)) mNil)))))))))))))
def m__law_good : MF := mDef 6 c__law_good
def c__law_named : MS := (mSeq (mIf (mOr (mNot (mTest (mCB fIsi (mCons (mVar 0) (mCons (mC (.ty "str")) mNil))))) (mOr (mTest (mOp fLt (mCB fLen (mCons (mVar 0) mNil)) (mC (.int 1)))) (mTest (mOp fGt (mCB fLen (mCons (mVar 0) mNil)) (mC (.int 6)))))) (mRet (mC (.bl false))) mNext)
  (mRet (mAndV (mM0 fIslower (mOp fIx (mVar 0) (mC (.int 0)))) (mCB fAll (mCons (mLc [1] (mIter (mVar 0)) (mgName 1) mYes (mOrV (mM0 fIslower (mVar 1)) (mM0 fIsdigit (mVar 1)))) mNil)))))
def m__law_named : MF := mDef 2 c__law_named
def c__law_in : MS := (mRet (mAndV (mCB fIsi (mCons (mVar 0) (mCons (mC (.ty "int")) mNil))) (mAndV (mNotV (mCB fIsi (mCons (mVar 0) (mCons (mC (.ty "bool")) mNil)))) (mChain fLe fLe (mVar 1) (mVar 0) (mVar 2)))))
def m__law_in : MF := mDef 3 c__law_in
def c__law_due : MS := (mSeq (mIf (mOr (mNot (mTest (mCB fIsi (mCons (mVar 0) (mCons (mC (.ty "tuple")) mNil))))) (mOr (mTest (mOp fLt (mCB fLen (mCons (mVar 0) mNil)) (mC (.int 2)))) (mOr (mNot (mTest (mCB fIsi (mCons (mOp fIx (mVar 0) (mC (.int 0))) (mCons (mC (.ty "str")) mNil))))) (mNot (mTest (mCall 1 m__law_named (mCons (mOp fIx (mVar 0) (mC (.int 1))) mNil))))))) (mRet (mC (.bl false))) mNext)
  (mSeq (mSet 1 (mSl (mVar 0) (mPart (mC (.int 2))) mNoPart))
  (mSeq (mIf (mTest (mOp fIn (mOp fIx (mVar 0) (mC (.int 0))) (mLst (mCons (mC (.str "look")) (mCons (mC (.str "show")) (mCons (mC (.str "take")) mNil)))))) (mRet (mOp fEq (mVar 1) (mTup mNil))) mNext)
  (mSeq (mIf (mTest (mOp fEq (mOp fIx (mVar 0) (mC (.int 0))) (mC (.str "reckon")))) (mSeq (mIf (mOr (mTest (mOp fNe (mCB fLen (mCons (mVar 1) mNil)) (mC (.int 2)))) (mOr (mNot (mTest (mCB fIsi (mCons (mOp fIx (mVar 1) (mC (.int 0))) (mCons (mC (.ty "tuple")) mNil))))) (mTest (mOp fNotIn (mCB fLen (mCons (mOp fIx (mVar 1) (mC (.int 0))) mNil)) (mLst (mCons (mC (.int 1)) (mCons (mC (.int 2)) (mCons (mC (.int 3)) mNil)))))))) (mRet (mC (.bl false))) mNext)
  (mRet (mAndV (mCB fAll (mCons (mLc [2] (mIter (mOp fIx (mVar 1) (mC (.int 0)))) (mgName 2) mYes (mCall 1 m__law_named (mCons (mVar 2) mNil))) mNil)) (mCall 1 m__law_named (mCons (mOp fIx (mVar 1) (mC (.int 1))) mNil))))) mNext)
  (mSeq (mIf (mTest (mOp fNe (mCB fLen (mCons (mVar 1) mNil)) (mC (.int 1)))) (mRet (mC (.bl false))) mNext)
  (mSeq (mIf (mTest (mOp fEq (mOp fIx (mVar 0) (mC (.int 0))) (mC (.str "copy")))) (mRet (mCall 1 m__law_named (mCons (mOp fIx (mVar 1) (mC (.int 0))) mNil))) mNext)
  (mSeq (mIf (mTest (mOp fEq (mOp fIx (mVar 0) (mC (.int 0))) (mC (.str "put")))) (mRet (mCall 3 m__law_in (mCons (mOp fIx (mVar 1) (mC (.int 0))) (mCons (mUn fNeg (mC (.int 999999))) (mCons (mC (.int 999999)) mNil))))) mNext)
  (mSeq (mIf (mTest (mOp fEq (mOp fIx (mVar 0) (mC (.int 0))) (mC (.str "wait")))) (mRet (mCall 3 m__law_in (mCons (mOp fIx (mVar 1) (mC (.int 0))) (mCons (mC (.int 1)) (mCons (mC (.int 9999)) mNil))))) mNext)
  (mRet (mOrV (mAndV (mOp fEq (mOp fIx (mVar 0) (mC (.int 0))) (mC (.str "set"))) (mCall 3 m__law_in (mCons (mOp fIx (mVar 1) (mC (.int 0))) (mCons (mC (.int 1)) (mCons (mC (.int 99)) mNil))))) (mAndV (mOp fEq (mOp fIx (mVar 0) (mC (.int 0))) (mC (.str "give"))) (mCall 3 m__law_in (mCons (mOp fIx (mVar 1) (mC (.int 0))) (mCons (mC (.int 0)) (mCons (mC (.int 5)) mNil)))))))))))))))
def m__law_due : MF := mDef 3 c__law_due
def c__law_told : MS := (mRet (mAndV (mCB fIsi (mCons (mVar 0) (mCons (mC (.ty "bool")) mNil))) (mOp fEq (mVar 0) (mVar 1))))
def m__law_told : MF := mDef 2 c__law_told
def c_is_name : MS := (mSeq (mIf (mOr (mNot (mTest (mCB fIsi (mCons (mVar 0) (mCons (mC (.ty "str")) mNil))))) (mOr (mNot (mTest (mChain fLe fLe (mC (.int 1)) (mCB fLen (mCons (mVar 0) mNil)) (mC (.int 6))))) (mTest (mOp fNotIn (mOp fIx (mVar 0) (mC (.int 0))) (mC (.str "abcdefghijklmnopqrstuvwxyz")))))) (mRet (mC (.bl false))) mNext)
  (mRet (mCB fAll (mCons (mLc [1] (mIter (mVar 0)) (mgName 1) mYes (mOp fIn (mVar 1) (mC (.str "abcdefghijklmnopqrstuvwxyz0123456789")))) mNil))))
def m_is_name : MF := mDef 2 c_is_name
def c_are_names : MS := (mSeq (mIf (mOr (mNot (mTest (mCB fIsi (mCons (mVar 0) (mCons (mC (.ty "tuple")) mNil))))) (mNot (mTest (mChain fLe fLe (mC (.int 1)) (mCB fLen (mCons (mVar 0) mNil)) (mC (.int 3)))))) (mRet (mC (.bl false))) mNext)
  (mRet (mCB fAll (mCons (mLc [1] (mIter (mVar 0)) (mgName 1) mYes (mCall 1 m_is_name (mCons (mVar 1) mNil))) mNil))))
def m_are_names : MF := mDef 2 c_are_names
def c_is_whole : MS := (mRet (mAndV (mCB fIsi (mCons (mVar 0) (mCons (mC (.ty "int")) mNil))) (mNotV (mCB fIsi (mCons (mVar 0) (mCons (mC (.ty "bool")) mNil))))))
def m_is_whole : MF := mDef 1 c_is_whole
def c_is_within : MS := (mRet (mAndV (mCall 1 m_is_whole (mCons (mVar 0) mNil)) (mChain fLe fLe (mVar 1) (mVar 0) (mVar 2))))
def m_is_within : MF := mDef 3 c_is_within
def c_is_number : MS := (mRet (mCall 3 m_is_within (mCons (mVar 0) (mCons (mUn fNeg (mC (.int 999999))) (mCons (mC (.int 999999)) mNil)))))
def m_is_number : MF := mDef 1 c_is_number
def c_is_value : MS := (mRet (mCall 3 m_is_within (mCons (mVar 0) (mCons (mC (.int 1)) (mCons (mC (.int 9999)) mNil)))))
def m_is_value : MF := mDef 1 c_is_value
def c_is_by : MS := (mRet (mCall 3 m_is_within (mCons (mVar 0) (mCons (mC (.int 1)) (mCons (mC (.int 99)) mNil)))))
def m_is_by : MF := mDef 1 c_is_by
def c_is_lane : MS := (mRet (mCall 3 m_is_within (mCons (mVar 0) (mCons (mC (.int 0)) (mCons (mOp fSub (mC (.int 6)) (mC (.int 1))) mNil)))))
def m_is_lane : MF := mDef 1 c_is_lane
def fs_is_part : List (Str × MF) := [("is_name", m_is_name), ("are_names", m_are_names), ("is_number", m_is_number), ("is_value", m_is_value), ("is_by", m_is_by), ("is_lane", m_is_lane)]
def c_is_part : MS := (mSeq (mSet 2 (mOp (fItemK "PARTS" kv_PARTS) (mC (.glo "PARTS")) (mVar 0)))
  (mRet (mCallA 2 1 fs_is_part (mCons (mVar 1) mNil))))
def m_is_part : MF := mDef 3 c_is_part
def c_is_command : MS := (mSeq (mIf (mOr (mNot (mTest (mCB fIsi (mCons (mVar 0) (mCons (mC (.ty "tuple")) mNil))))) (mOr (mTest (mOp fEq (mVar 0) (mTup mNil))) (mNot (mTest (mCB fIsi (mCons (mOp fIx (mVar 0) (mC (.int 0))) (mCons (mC (.ty "str")) mNil))))))) (mRet (mC (.bl false))) mNext)
  (mSeq (mAsg (mVar 0) (mgStar 2 1 (mgCons (mgName 2) (mgCons (mgName 3) mgNil))))
  (mSeq (mSet 1 (mGetK kv_FORMS (mVar 2)))
  (mSeq (mIf (mOr (mTest (mOp fIsN (mVar 1) (mC .non))) (mTest (mOp fNe (mCB fLen (mCons (mVar 1) mNil)) (mCB fLen (mCons (mVar 3) mNil))))) (mRet (mC (.bl false))) mNext)
  (mRet (mCB fAll (mCons (mLc [4, 5] (mZipS (mCons (mVar 1) (mCons (mVar 3) mNil))) (mgTup 2 (mgCons (mgName 4) (mgCons (mgName 5) mgNil))) mYes (mCall 2 m_is_part (mCons (mVar 4) (mCons (mVar 5) mNil)))) mNil)))))))
def m_is_command : MF := mDef 6 c_is_command
def c__law_odd_term : MS := (mSeq (mSet 2 (mLst (mCons (mC (.str "")) (mCons (mC (.str "A")) (mCons (mOp fAdd (mVar 1) (mC (.str "A"))) (mCons (mOp fAdd (mC (.str "1")) (mSl (mVar 1) mNoPart (mPart (mC (.int 5))))) (mCons (mOp fAdd (mC (.str "_")) (mSl (mVar 1) mNoPart (mPart (mC (.int 5))))) (mCons (mSl (mOp fMul (mVar 1) (mC (.int 7))) mNoPart (mPart (mC (.int 7)))) (mCons (mOp fAdd (mSl (mVar 1) mNoPart (mPart (mC (.int 5)))) (mC (.str " "))) (mCons (mOp fAdd (mC (.str " ")) (mSl (mVar 1) mNoPart (mPart (mC (.int 5))))) mNil))))))))))
  (mSeq (mSet 2 (mOp fAdd (mVar 2) (mLst (mCons (mC .non) (mCons (mC (.int 7)) (mCons (mLst (mCons (mVar 1) mNil)) (mCons (mTup (mCons (mVar 1) mNil)) (mCons (mOp fAdd (mSl (mVar 1) mNoPart (mPart (mC (.int 3)))) (mC (.str "-"))) (mCons (mC (.bl true)) (mCons (mC (.dct [] [])) (mCons (mTup (mCons (mLst mNil) mNil)) (mCons (mC (.str "9")) (mCons (mOp fAdd (mSl (mVar 1) mNoPart (mPart (mC (.int 5)))) (mC (.str "9"))) mNil)))))))))))))
  (mSeq (mSet 2 (mOp fAdd (mVar 2) (mLst (mCons (mSl (mOp fAdd (mVar 1) (mC (.str "00000"))) mNoPart (mPart (mC (.int 6)))) (mCons (mC (.int 0)) mNil)))))
  (mRet (mOp fIx (mVar 2) (mCall 2 m__law_draw (mCons (mVar 0) (mCons (mC (.int 20)) mNil))))))))
def m__law_odd_term : MF := mDef 3 c__law_odd_term
def c__law_bent : MS := (mSeq (mPar 3 4 (mCons (mCall 2 m__law_draw (mCons (mVar 0) (mCons (mCB fLen (mCons (mVar 1) mNil)) mNil))) (mCons (mCall 2 m__law_draw (mCons (mVar 0) (mCons (mC (.int 9)) mNil))) mNil)))
  (mSeq (mSet 2 (mLst (mCons (mUn fNeg (mC (.int 1000000))) (mCons (mC (.int 1000000)) (mCons (mC (.int 0)) (mCons (mC (.int 100)) (mCons (mC (.int 10000)) (mCons (mC (.int 6)) (mCons (mUn fNeg (mC (.int 1))) (mCons (mC (.bl true)) (mCons (mC (.bl false)) (mCons (mC .non) (mCons (mC (.str "5")) (mCons (mC (.str "x")) (mCons (mC (.str "set")) (mCons (mC (.str "look")) (mCons (mTup mNil) (mCons (mTup (mCons (mC (.str "a")) mNil)) (mCons (mLst (mCons (mC (.str "a")) mNil)) mNil)))))))))))))))))))
  (mSeq (mSet 2 (mOp fAdd (mVar 2) (mLst (mCons (mC (.dct [] [])) (mCons (mLst mNil) (mCons (mTup (mCons (mC (.str "a")) (mCons (mC (.str "b")) (mCons (mC (.str "c")) (mCons (mC (.str "d")) mNil))))) (mCons (mTup (mCons (mC (.str "a")) (mCons (mC (.int 5)) mNil))) (mCons (mTup (mCons (mC (.str "a")) (mCons (mC (.str "B")) mNil))) (mCons (mLst (mCons (mC (.str "a")) (mCons (mC (.str "b")) mNil))) (mCons (mC (.str "puts")) (mCons (mC (.str "Put")) (mCons (mTup (mCons (mC (.str "put")) mNil)) mNil))))))))))))
  (mSeq (mSet 2 (mOp fAdd (mVar 2) (mLst (mCons (mOp fPow (mC (.int 10)) (mC (.int 12))) (mCons (mTup (mCons (mC (.str "a")) (mCons (mC (.str "b")) mNil))) mNil)))))
  (mSeq (mIf (mTest (mOp fEq (mVar 4) (mC (.int 0)))) (mRet (mOp fAdd (mSl (mVar 1) mNoPart (mPart (mVar 3))) (mSl (mVar 1) (mPart (mOp fAdd (mVar 3) (mC (.int 1)))) mNoPart))) mNext)
  (mSeq (mIf (mTest (mOp fEq (mVar 4) (mC (.int 1)))) (mRet (mOp fAdd (mOp fAdd (mSl (mVar 1) mNoPart (mPart (mVar 3))) (mSl (mVar 1) (mPart (mVar 3)) (mPart (mOp fAdd (mVar 3) (mC (.int 1)))))) (mSl (mVar 1) (mPart (mVar 3)) mNoPart))) mNext)
  (mSeq (mIf (mTest (mOp fEq (mVar 4) (mC (.int 2)))) (mRet (mOp fIx (mLst (mCons (mCB fList (mCons (mVar 1) mNil)) (mCons (mTup (mCons (mVar 1) mNil)) (mCons (mOp fIx (mVar 1) (mC (.int 0))) (mCons (mC .non) (mCons (mC (.dct [] [])) (mCons (mRev (mVar 1)) (mCons (mTup mNil) (mCons (mC (.int 0)) mNil))))))))) (mCall 2 m__law_draw (mCons (mVar 0) (mCons (mC (.int 8)) mNil))))) mNext)
  (mSeq (mIf (mAnd (mTest (mOp fLt (mVar 4) (mC (.int 5)))) (mTest (mOp fGt (mVar 3) (mC (.int 0))))) (mRet (mOp fAdd (mOp fAdd (mSl (mVar 1) mNoPart (mPart (mVar 3))) (mTup (mCons (mCall 2 m__law_odd_term (mCons (mVar 0) (mCons (mOp fIx (mVar 1) (mC (.int 1))) mNil))) mNil))) (mSl (mVar 1) (mPart (mOp fAdd (mVar 3) (mC (.int 1)))) mNoPart))) mNext)
  (mRet (mOp fAdd (mOp fAdd (mSl (mVar 1) mNoPart (mPart (mVar 3))) (mTup (mCons (mOp fIx (mVar 2) (mCall 2 m__law_draw (mCons (mVar 0) (mCons (mC (.int 28)) mNil)))) mNil))) (mSl (mVar 1) (mPart (mOp fAdd (mVar 3) (mC (.int 1)))) mNoPart)))))))))))
def m__law_bent : MF := mDef 5 c__law_bent
def c__law_right : MS := (mSeq (mFor (mRng1 (mCons (mC (.int 4)) mNil)) (mgName 1) (mSeq (mSet 2 (mCall 1 m__law_good (mCons (mVar 0) mNil)))
  (mSeq (mIf (mOr (mNot (mTest (mCall 1 m__law_due (mCons (mVar 2) mNil)))) (mNot (mTest (mCall 2 m__law_told (mCons (mCall 1 m_is_command (mCons (mVar 2) mNil)) (mCons (mC (.bl true)) mNil)))))) (mRet (mC (.bl false))) mNext)
  (mSeq (mFor (mRng1 (mCons (mC (.int 6)) mNil)) (mgName 3) (mSeq (mSet 6 (mCall 2 m__law_bent (mCons (mVar 0) (mCons (mVar 2) mNil))))
  (mIf (mOr (mNot (mTest (mCall 2 m__law_told (mCons (mCall 1 m_is_command (mCons (mVar 6) mNil)) (mCons (mCall 1 m__law_due (mCons (mVar 6) mNil)) mNil))))) (mNot (mTest (mCall 2 m__law_told (mCons (mCall 1 m_is_command (mCons (mVar 2) mNil)) (mCons (mC (.bl true)) mNil)))))) (mRet (mC (.bl false))) mNext)))
  (mSeq (mSet 4 (mCall 2 m__law_odd_term (mCons (mVar 0) (mCons (mOp fIx (mVar 2) (mC (.int 1))) mNil))))
  (mFor (mIter (mLst (mCons (mOp fIx (mVar 2) (mC (.int 1))) (mCons (mVar 4) (mCons (mVar 2) (mCons (mSl (mVar 2) (mPart (mC (.int 1))) (mPart (mC (.int 2)))) mNil)))))) (mgName 5) (mIf (mNot (mTest (mCall 2 m__law_told (mCons (mCall 1 m_is_name (mCons (mVar 5) mNil)) (mCons (mCall 1 m__law_named (mCons (mVar 5) mNil)) mNil))))) (mRet (mC (.bl false))) mNext)))))))
  (mRet (mC (.bl true))))
def m__law_right : MF := mDef 7 c__law_right
def c__law_heap : MS := (mSeq (mIf (mOr (mTest (mOp fLt (mVar 0) (mC (.int 0)))) (mTest (mOp fGe (mVar 0) (mOp fPow (mC (.int 10)) (mC (.int 18)))))) (mRet (mLstM (mCons (mCB fAbs (mCons (mVar 0) mNil)) (mCons (mOp fAdd (mOp fMul (mOp fMod (mVar 0) (mC (.int 1000000087))) (mC (.int 7919))) (mC (.int 104729))) (mCons (mC (.int 0)) mNil))))) mNext)
  (mRet (mLstM (mCons (mC (.int 0)) (mCons (mOp fAdd (mOp fMul (mOp fMod (mVar 0) (mC (.int 1000000087))) (mC (.int 7919))) (mC (.int 104729))) (mCons (mC (.int 0)) mNil))))))
def m__law_heap : MF := mDefK 1 c__law_heap
def c__law_cell : MS := (mSeq (mIf (mTest (mOp fLt (mVar 1) (mCB fLen (mCons (mVar 0) mNil)))) (mRet (mOp fIx (mVar 0) (mVar 1))) mNext)
  (mSeq (mSet 2 (mOp fMod (mOp fMul (mC (.int 50021)) (mOp fAdd (mOp fAdd (mOp fMul (mVar 1) (mVar 1)) (mOp fMul (mC (.int 7)) (mVar 1))) (mC (.int 3)))) (mC (.int 1000000087))))
  (mSeq (mFor (mIter (mSl (mVar 0) mNoPart (mPart (mC (.int 4))))) (mgName 3) (mSet 2 (mOp fMod (mOp fAdd (mOp fMul (mVar 2) (mC (.int 60013))) (mVar 3)) (mC (.int 1000000087)))))
  (mRet (mVar 2)))))
def m__law_cell : MF := mDef 4 c__law_cell
def c_law : MS := (mRet (mCB fAll (mCons (mLc [1] (mRng1 (mCons (mCB fMax2 (mCons (mC (.int 3)) (mCons (mCB fMin2 (mCons (mCB fLen (mCons (mVar 0) mNil)) (mCons (mC (.int 12)) mNil))) mNil))) mNil)) (mgName 1) mYes (mCall 1 m__law_right (mCons (mCall 1 m__law_heap (mCons (mCall 2 m__law_cell (mCons (mVar 0) (mCons (mVar 1) mNil))) mNil)) mNil))) mNil)))
def m_law : MF := mDef 2 c_law
end Lw

namespace Lw
open PySem PySem.Spec PyProof.Rows L2 Mm Gc
def top (i : Nat) : Stmt := PySem.Challenge.pw_fencelanes_k01_names_and_commands.main.body.getD i (.Pass ⟨0, 0, 0, 0⟩)
abbrev s__law_draw : Stmt := top 24
abbrev N__law_draw : List Str := ["_law_heap_here", "_law_many", "_law_state", "_law_digit"]
theorem sc__law_draw : FnScope N__law_draw ["_law_heap_here", "_law_many"] (defScope s__law_draw) := ⟨rfl, rfl, rfl, by decide +kernel, rfl, by decide +kernel, by decide +kernel⟩
abbrev s__law_term : Stmt := top 25
abbrev N__law_term : List Str := ["_law_heap_here", "_law_known", "_law_menu", "_law_signs", "_law_found", "_law_spare", "_law_sign", "_law_term_here", "_law_k"]
theorem sc__law_term : FnScope N__law_term ["_law_heap_here", "_law_known"] (defScope s__law_term) := ⟨rfl, rfl, rfl, by decide +kernel, rfl, by decide +kernel, by decide +kernel⟩
abbrev s__law_terms : Stmt := top 26
abbrev N__law_terms : List Str := ["_law_heap_here", "_law_many", "_law_found", "_law_k"]
theorem sc__law_terms : FnScope N__law_terms ["_law_heap_here", "_law_many"] (defScope s__law_terms) := ⟨rfl, rfl, rfl, by decide +kernel, rfl, by decide +kernel, by decide +kernel⟩
abbrev s__law_number : Stmt := top 27
abbrev N__law_number : List Str := ["_law_heap_here", "_law_much"]
theorem sc__law_number : FnScope N__law_number ["_law_heap_here"] (defScope s__law_number) := ⟨rfl, rfl, rfl, by decide +kernel, rfl, by decide +kernel, by decide +kernel⟩
abbrev s__law_good : Stmt := top 32
abbrev N__law_good : List Str := ["_law_heap_here", "_law_terms_here", "_law_numbers", "_law_some", "_law_sources", "_law_k"]
theorem sc__law_good : FnScope N__law_good ["_law_heap_here"] (defScope s__law_good) := ⟨rfl, rfl, rfl, by decide +kernel, rfl, by decide +kernel, by decide +kernel⟩
abbrev s__law_named : Stmt := top 28
abbrev N__law_named : List Str := ["_law_thing", "_law_sign"]
theorem sc__law_named : FnScope N__law_named ["_law_thing"] (defScope s__law_named) := ⟨rfl, rfl, rfl, by decide +kernel, rfl, by decide +kernel, by decide +kernel⟩
abbrev s__law_in : Stmt := top 29
abbrev N__law_in : List Str := ["_law_thing", "_law_low", "_law_high"]
theorem sc__law_in : FnScope N__law_in ["_law_thing", "_law_low", "_law_high"] (defScope s__law_in) := ⟨rfl, rfl, rfl, by decide +kernel, rfl, by decide +kernel, by decide +kernel⟩
abbrev s__law_due : Stmt := top 30
abbrev N__law_due : List Str := ["_law_thing", "_law_rest", "_law_term_here"]
theorem sc__law_due : FnScope N__law_due ["_law_thing"] (defScope s__law_due) := ⟨rfl, rfl, rfl, by decide +kernel, rfl, by decide +kernel, by decide +kernel⟩
abbrev s__law_told : Stmt := top 34
abbrev N__law_told : List Str := ["_law_found", "_law_due_here"]
theorem sc__law_told : FnScope N__law_told ["_law_found", "_law_due_here"] (defScope s__law_told) := ⟨rfl, rfl, rfl, by decide +kernel, rfl, by decide +kernel, by decide +kernel⟩
abbrev s_is_name : Stmt := top 11
abbrev N_is_name : List Str := ["thing", "sign"]
theorem sc_is_name : FnScope N_is_name ["thing"] (defScope s_is_name) := ⟨rfl, rfl, rfl, by decide +kernel, rfl, by decide +kernel, by decide +kernel⟩
abbrev s_are_names : Stmt := top 12
abbrev N_are_names : List Str := ["thing", "part"]
theorem sc_are_names : FnScope N_are_names ["thing"] (defScope s_are_names) := ⟨rfl, rfl, rfl, by decide +kernel, rfl, by decide +kernel, by decide +kernel⟩
abbrev s_is_whole : Stmt := top 9
abbrev N_is_whole : List Str := ["thing"]
theorem sc_is_whole : FnScope N_is_whole ["thing"] (defScope s_is_whole) := ⟨rfl, rfl, rfl, by decide +kernel, rfl, by decide +kernel, by decide +kernel⟩
abbrev s_is_within : Stmt := top 10
abbrev N_is_within : List Str := ["thing", "low", "high"]
theorem sc_is_within : FnScope N_is_within ["thing", "low", "high"] (defScope s_is_within) := ⟨rfl, rfl, rfl, by decide +kernel, rfl, by decide +kernel, by decide +kernel⟩
abbrev s_is_number : Stmt := top 13
abbrev N_is_number : List Str := ["thing"]
theorem sc_is_number : FnScope N_is_number ["thing"] (defScope s_is_number) := ⟨rfl, rfl, rfl, by decide +kernel, rfl, by decide +kernel, by decide +kernel⟩
abbrev s_is_value : Stmt := top 14
abbrev N_is_value : List Str := ["thing"]
theorem sc_is_value : FnScope N_is_value ["thing"] (defScope s_is_value) := ⟨rfl, rfl, rfl, by decide +kernel, rfl, by decide +kernel, by decide +kernel⟩
abbrev s_is_by : Stmt := top 15
abbrev N_is_by : List Str := ["thing"]
theorem sc_is_by : FnScope N_is_by ["thing"] (defScope s_is_by) := ⟨rfl, rfl, rfl, by decide +kernel, rfl, by decide +kernel, by decide +kernel⟩
abbrev s_is_lane : Stmt := top 16
abbrev N_is_lane : List Str := ["thing"]
theorem sc_is_lane : FnScope N_is_lane ["thing"] (defScope s_is_lane) := ⟨rfl, rfl, rfl, by decide +kernel, rfl, by decide +kernel, by decide +kernel⟩
abbrev s_is_part : Stmt := top 19
abbrev N_is_part : List Str := ["kind", "part", "ask"]
theorem sc_is_part : FnScope N_is_part ["kind", "part"] (defScope s_is_part) := ⟨rfl, rfl, rfl, by decide +kernel, rfl, by decide +kernel, by decide +kernel⟩
abbrev s_is_command : Stmt := top 20
abbrev N_is_command : List Str := ["thing", "form", "word", "parts", "kind", "part"]
theorem sc_is_command : FnScope N_is_command ["thing"] (defScope s_is_command) := ⟨rfl, rfl, rfl, by decide +kernel, rfl, by decide +kernel, by decide +kernel⟩
abbrev s__law_odd_term : Stmt := top 31
abbrev N__law_odd_term : List Str := ["_law_heap_here", "_law_term_here", "_law_some"]
theorem sc__law_odd_term : FnScope N__law_odd_term ["_law_heap_here", "_law_term_here"] (defScope s__law_odd_term) := ⟨rfl, rfl, rfl, by decide +kernel, rfl, by decide +kernel, by decide +kernel⟩
abbrev s__law_bent : Stmt := top 33
abbrev N__law_bent : List Str := ["_law_heap_here", "_law_deed", "_law_odd", "_law_at", "_law_way"]
theorem sc__law_bent : FnScope N__law_bent ["_law_heap_here", "_law_deed"] (defScope s__law_bent) := ⟨rfl, rfl, rfl, by decide +kernel, rfl, by decide +kernel, by decide +kernel⟩
abbrev s__law_right : Stmt := top 35
abbrev N__law_right : List Str := ["_law_heap_here", "_law_turn", "_law_deed", "_law_more", "_law_odd", "_law_term_here", "_law_bent_here"]
theorem sc__law_right : FnScope N__law_right ["_law_heap_here"] (defScope s__law_right) := ⟨rfl, rfl, rfl, by decide +kernel, rfl, by decide +kernel, by decide +kernel⟩
abbrev s__law_heap : Stmt := top 23
abbrev N__law_heap : List Str := ["_law_cell_here"]
theorem sc__law_heap : FnScope N__law_heap ["_law_cell_here"] (defScope s__law_heap) := ⟨rfl, rfl, rfl, by decide +kernel, rfl, by decide +kernel, by decide +kernel⟩
abbrev s__law_cell : Stmt := top 22
abbrev N__law_cell : List Str := ["_law_script", "_law_k", "_law_mixed", "_law_cell_here"]
theorem sc__law_cell : FnScope N__law_cell ["_law_script", "_law_k"] (defScope s__law_cell) := ⟨rfl, rfl, rfl, by decide +kernel, rfl, by decide +kernel, by decide +kernel⟩
abbrev s_law : Stmt := top 36
abbrev N_law : List Str := ["_law_script", "_law_k"]
theorem sc_law : FnScope N_law ["_law_script"] (defScope s_law) := ⟨rfl, rfl, rfl, by decide +kernel, rfl, by decide +kernel, by decide +kernel⟩
def e__law_draw : He.DefD := ⟨("_law_draw", none), "_law_draw", "_law_draw", defArgs s__law_draw, defBody s__law_draw, defScope s__law_draw, [], []⟩
def e__law_term : He.DefD := ⟨("_law_term", none), "_law_term", "_law_term", defArgs s__law_term, defBody s__law_term, defScope s__law_term, [], []⟩
def e__law_terms : He.DefD := ⟨("_law_terms", none), "_law_terms", "_law_terms", defArgs s__law_terms, defBody s__law_terms, defScope s__law_terms, [], []⟩
def e__law_number : He.DefD := ⟨("_law_number", none), "_law_number", "_law_number", defArgs s__law_number, defBody s__law_number, defScope s__law_number, [], []⟩
def e__law_good : He.DefD := ⟨("_law_good", none), "_law_good", "_law_good", defArgs s__law_good, defBody s__law_good, defScope s__law_good, [], []⟩
def e__law_named : He.DefD := ⟨("_law_named", none), "_law_named", "_law_named", defArgs s__law_named, defBody s__law_named, defScope s__law_named, [], []⟩
def e__law_in : He.DefD := ⟨("_law_in", none), "_law_in", "_law_in", defArgs s__law_in, defBody s__law_in, defScope s__law_in, [], []⟩
def e__law_due : He.DefD := ⟨("_law_due", none), "_law_due", "_law_due", defArgs s__law_due, defBody s__law_due, defScope s__law_due, [], []⟩
def e__law_told : He.DefD := ⟨("_law_told", none), "_law_told", "_law_told", defArgs s__law_told, defBody s__law_told, defScope s__law_told, [], []⟩
def e_is_name : He.DefD := ⟨("is_name", none), "is_name", "is_name", defArgs s_is_name, defBody s_is_name, defScope s_is_name, [], []⟩
def e_are_names : He.DefD := ⟨("are_names", none), "are_names", "are_names", defArgs s_are_names, defBody s_are_names, defScope s_are_names, [], []⟩
def e_is_whole : He.DefD := ⟨("is_whole", none), "is_whole", "is_whole", defArgs s_is_whole, defBody s_is_whole, defScope s_is_whole, [], []⟩
def e_is_within : He.DefD := ⟨("is_within", none), "is_within", "is_within", defArgs s_is_within, defBody s_is_within, defScope s_is_within, [], []⟩
def e_is_number : He.DefD := ⟨("is_number", none), "is_number", "is_number", defArgs s_is_number, defBody s_is_number, defScope s_is_number, [], []⟩
def e_is_value : He.DefD := ⟨("is_value", none), "is_value", "is_value", defArgs s_is_value, defBody s_is_value, defScope s_is_value, [], []⟩
def e_is_by : He.DefD := ⟨("is_by", none), "is_by", "is_by", defArgs s_is_by, defBody s_is_by, defScope s_is_by, [], []⟩
def e_is_lane : He.DefD := ⟨("is_lane", none), "is_lane", "is_lane", defArgs s_is_lane, defBody s_is_lane, defScope s_is_lane, [], []⟩
def e_is_part : He.DefD := ⟨("is_part", none), "is_part", "is_part", defArgs s_is_part, defBody s_is_part, defScope s_is_part, [], []⟩
def e_is_command : He.DefD := ⟨("is_command", none), "is_command", "is_command", defArgs s_is_command, defBody s_is_command, defScope s_is_command, [], []⟩
def e__law_odd_term : He.DefD := ⟨("_law_odd_term", none), "_law_odd_term", "_law_odd_term", defArgs s__law_odd_term, defBody s__law_odd_term, defScope s__law_odd_term, [], []⟩
def e__law_bent : He.DefD := ⟨("_law_bent", none), "_law_bent", "_law_bent", defArgs s__law_bent, defBody s__law_bent, defScope s__law_bent, [], []⟩
def e__law_right : He.DefD := ⟨("_law_right", none), "_law_right", "_law_right", defArgs s__law_right, defBody s__law_right, defScope s__law_right, [], []⟩
def e__law_heap : He.DefD := ⟨("_law_heap", none), "_law_heap", "_law_heap", defArgs s__law_heap, defBody s__law_heap, defScope s__law_heap, [], []⟩
def e__law_cell : He.DefD := ⟨("_law_cell", none), "_law_cell", "_law_cell", defArgs s__law_cell, defBody s__law_cell, defScope s__law_cell, [], []⟩
def e_law : He.DefD := ⟨("law", none), "law", "law", defArgs s_law, defBody s_law, defScope s_law, [], []⟩
structure Txt (K : PySem.W.Frag) (mg : Str → Option Value) (w : World) : Prop where
  n_abs : mg "abs" = none
  n_all : mg "all" = none
  n_bool : mg "bool" = none
  n_divmod : mg "divmod" = none
  n_int : mg "int" = none
  n_isinstance : mg "isinstance" = none
  n_len : mg "len" = none
  n_list : mg "list" = none
  n_max : mg "max" = none
  n_min : mg "min" = none
  n_range : mg "range" = none
  n_str : mg "str" = none
  n_tuple : mg "tuple" = none
  n_zip : mg "zip" = none
  i_MOST_SIGNS : ∃ t, mg "MOST_SIGNS" = some (.int 6 t)
  i_MOST_LANES : ∃ t, mg "MOST_LANES" = some (.int 6 t)
  i_MOST_NUMBER : ∃ t, mg "MOST_NUMBER" = some (.int 999999 t)
  i_MOST_VALUE : ∃ t, mg "MOST_VALUE" = some (.int 9999 t)
  i_MOST_BY : ∃ t, mg "MOST_BY" = some (.int 99 t)
  i_MOST_FROMS : ∃ t, mg "MOST_FROMS" = some (.int 3 t)
  s_LETTERS : ∃ t, mg "LETTERS" = some (.str "abcdefghijklmnopqrstuvwxyz" t)
  s_SIGNS : ∃ t, mg "SIGNS" = some (.str "abcdefghijklmnopqrstuvwxyz0123456789" t)
  g__law_draw : mg "_law_draw" = some (.ref (He.ga K "_law_draw"))
  g__law_term : mg "_law_term" = some (.ref (He.ga K "_law_term"))
  g__law_terms : mg "_law_terms" = some (.ref (He.ga K "_law_terms"))
  g__law_number : mg "_law_number" = some (.ref (He.ga K "_law_number"))
  g__law_good : mg "_law_good" = some (.ref (He.ga K "_law_good"))
  g__law_named : mg "_law_named" = some (.ref (He.ga K "_law_named"))
  g__law_in : mg "_law_in" = some (.ref (He.ga K "_law_in"))
  g__law_due : mg "_law_due" = some (.ref (He.ga K "_law_due"))
  g__law_told : mg "_law_told" = some (.ref (He.ga K "_law_told"))
  g_is_name : mg "is_name" = some (.ref (He.ga K "is_name"))
  g_are_names : mg "are_names" = some (.ref (He.ga K "are_names"))
  g_is_whole : mg "is_whole" = some (.ref (He.ga K "is_whole"))
  g_is_within : mg "is_within" = some (.ref (He.ga K "is_within"))
  g_is_number : mg "is_number" = some (.ref (He.ga K "is_number"))
  g_is_value : mg "is_value" = some (.ref (He.ga K "is_value"))
  g_is_by : mg "is_by" = some (.ref (He.ga K "is_by"))
  g_is_lane : mg "is_lane" = some (.ref (He.ga K "is_lane"))
  g_is_part : mg "is_part" = some (.ref (He.ga K "is_part"))
  g_is_command : mg "is_command" = some (.ref (He.ga K "is_command"))
  g__law_odd_term : mg "_law_odd_term" = some (.ref (He.ga K "_law_odd_term"))
  g__law_bent : mg "_law_bent" = some (.ref (He.ga K "_law_bent"))
  g__law_right : mg "_law_right" = some (.ref (He.ga K "_law_right"))
  g__law_heap : mg "_law_heap" = some (.ref (He.ga K "_law_heap"))
  g__law_cell : mg "_law_cell" = some (.ref (He.ga K "_law_cell"))
  g_law : mg "law" = some (.ref (He.ga K "law"))
  g_PARTS : mg "PARTS" = some (.ref (He.ga K "PARTS"))
  g_FORMS : mg "FORMS" = some (.ref (He.ga K "FORMS"))
  d__law_draw : ∃ fd, FunD K "_law_draw" "_law_draw" (defArgs s__law_draw) (defBody s__law_draw) (defScope s__law_draw) [] [] (He.ga K "_law_draw") fd
  d__law_term : ∃ fd, FunD K "_law_term" "_law_term" (defArgs s__law_term) (defBody s__law_term) (defScope s__law_term) [] [] (He.ga K "_law_term") fd
  d__law_terms : ∃ fd, FunD K "_law_terms" "_law_terms" (defArgs s__law_terms) (defBody s__law_terms) (defScope s__law_terms) [] [] (He.ga K "_law_terms") fd
  d__law_number : ∃ fd, FunD K "_law_number" "_law_number" (defArgs s__law_number) (defBody s__law_number) (defScope s__law_number) [] [] (He.ga K "_law_number") fd
  d__law_good : ∃ fd, FunD K "_law_good" "_law_good" (defArgs s__law_good) (defBody s__law_good) (defScope s__law_good) [] [] (He.ga K "_law_good") fd
  d__law_named : ∃ fd, FunD K "_law_named" "_law_named" (defArgs s__law_named) (defBody s__law_named) (defScope s__law_named) [] [] (He.ga K "_law_named") fd
  d__law_in : ∃ fd, FunD K "_law_in" "_law_in" (defArgs s__law_in) (defBody s__law_in) (defScope s__law_in) [] [] (He.ga K "_law_in") fd
  d__law_due : ∃ fd, FunD K "_law_due" "_law_due" (defArgs s__law_due) (defBody s__law_due) (defScope s__law_due) [] [] (He.ga K "_law_due") fd
  d__law_told : ∃ fd, FunD K "_law_told" "_law_told" (defArgs s__law_told) (defBody s__law_told) (defScope s__law_told) [] [] (He.ga K "_law_told") fd
  d_is_name : ∃ fd, FunD K "is_name" "is_name" (defArgs s_is_name) (defBody s_is_name) (defScope s_is_name) [] [] (He.ga K "is_name") fd
  d_are_names : ∃ fd, FunD K "are_names" "are_names" (defArgs s_are_names) (defBody s_are_names) (defScope s_are_names) [] [] (He.ga K "are_names") fd
  d_is_whole : ∃ fd, FunD K "is_whole" "is_whole" (defArgs s_is_whole) (defBody s_is_whole) (defScope s_is_whole) [] [] (He.ga K "is_whole") fd
  d_is_within : ∃ fd, FunD K "is_within" "is_within" (defArgs s_is_within) (defBody s_is_within) (defScope s_is_within) [] [] (He.ga K "is_within") fd
  d_is_number : ∃ fd, FunD K "is_number" "is_number" (defArgs s_is_number) (defBody s_is_number) (defScope s_is_number) [] [] (He.ga K "is_number") fd
  d_is_value : ∃ fd, FunD K "is_value" "is_value" (defArgs s_is_value) (defBody s_is_value) (defScope s_is_value) [] [] (He.ga K "is_value") fd
  d_is_by : ∃ fd, FunD K "is_by" "is_by" (defArgs s_is_by) (defBody s_is_by) (defScope s_is_by) [] [] (He.ga K "is_by") fd
  d_is_lane : ∃ fd, FunD K "is_lane" "is_lane" (defArgs s_is_lane) (defBody s_is_lane) (defScope s_is_lane) [] [] (He.ga K "is_lane") fd
  d_is_part : ∃ fd, FunD K "is_part" "is_part" (defArgs s_is_part) (defBody s_is_part) (defScope s_is_part) [] [] (He.ga K "is_part") fd
  d_is_command : ∃ fd, FunD K "is_command" "is_command" (defArgs s_is_command) (defBody s_is_command) (defScope s_is_command) [] [] (He.ga K "is_command") fd
  d__law_odd_term : ∃ fd, FunD K "_law_odd_term" "_law_odd_term" (defArgs s__law_odd_term) (defBody s__law_odd_term) (defScope s__law_odd_term) [] [] (He.ga K "_law_odd_term") fd
  d__law_bent : ∃ fd, FunD K "_law_bent" "_law_bent" (defArgs s__law_bent) (defBody s__law_bent) (defScope s__law_bent) [] [] (He.ga K "_law_bent") fd
  d__law_right : ∃ fd, FunD K "_law_right" "_law_right" (defArgs s__law_right) (defBody s__law_right) (defScope s__law_right) [] [] (He.ga K "_law_right") fd
  d__law_heap : ∃ fd, FunD K "_law_heap" "_law_heap" (defArgs s__law_heap) (defBody s__law_heap) (defScope s__law_heap) [] [] (He.ga K "_law_heap") fd
  d__law_cell : ∃ fd, FunD K "_law_cell" "_law_cell" (defArgs s__law_cell) (defBody s__law_cell) (defScope s__law_cell) [] [] (He.ga K "_law_cell") fd
  d_law : ∃ fd, FunD K "law" "law" (defArgs s_law) (defBody s_law) (defScope s_law) [] [] (He.ga K "law") fd
  kd_PARTS : KDW K w "PARTS" kv_PARTS
  kd_FORMS : KDW K w "FORMS" kv_FORMS
theorem bb_abs : bootBuiltins "abs" = some (.builtin "abs") := by decide +kernel
theorem bb_all : bootBuiltins "all" = some (.builtin "all") := by decide +kernel
theorem bb_bool : bootBuiltins "bool" = some (.type "bool") := by decide +kernel
theorem bb_divmod : bootBuiltins "divmod" = some (.builtin "divmod") := by decide +kernel
theorem bb_int : bootBuiltins "int" = some (.type "int") := by decide +kernel
theorem bb_isinstance : bootBuiltins "isinstance" = some (.builtin "isinstance") := by decide +kernel
theorem bb_len : bootBuiltins "len" = some (.builtin "len") := by decide +kernel
theorem bb_list : bootBuiltins "list" = some (.type "list") := by decide +kernel
theorem bb_max : bootBuiltins "max" = some (.builtin "max") := by decide +kernel
theorem bb_min : bootBuiltins "min" = some (.builtin "min") := by decide +kernel
theorem bb_str : bootBuiltins "str" = some (.type "str") := by decide +kernel
theorem bb_tuple : bootBuiltins "tuple" = some (.type "tuple") := by decide +kernel
end Lw

namespace Lw
open PySem PySem.Spec PyProof.Rows L2 Mm Gc
theorem ok__law_draw {P : Program} {w : World} {K : PySem.W.Frag} {mg : Str → Option Value} {base : Heap} (T : Txt K mg w) : FM P w K mg base 1 "_law_draw" 2 m__law_draw := by
  obtain ⟨fd, F⟩ := T.d__law_draw
  refine (fm_of (N := N__law_draw) F T.g__law_draw sc__law_draw (FunD.bindsN F fun _ _ _ _ _ _ us hl => match us, hl with | [_, _], _ => rfl) fun cdv A outer s H E hr => ?_)
  exact (css_cons (cs_asg (ce_op op_addA sim_add (ce_ix ix_seq sim_ix (ce_var 0) ce_int (fun _ _ => rfl)) ce_int) (cg_sub set_list sim_setL (ce_var 0) ce_int))
    (css_cons (cs_if (ct_cmp op_gt sim_gt (ce_ix ix_seq sim_ix (ce_var 0) ce_int (fun _ _ => rfl)) ce_int (nomark _)) (css_cons (cs_asg (ce_callB call_divmod sim_divmod (by rfl) T.n_divmod bb_divmod (ca_cons (ce_ix ix_seq sim_ix (ce_var 0) ce_int (fun _ _ => rfl)) (ca_cons (ce_var 1) ca_nil))) (cg_tup rfl (cgs_cons (cg_sub set_list sim_setL (ce_var 0) ce_int) (cgs_cons (cg_name (i := 3) sc__law_draw.nd) cgs_nil))))
    (css_one (cs_ret (ce_var 3)))) css_nil)
    (css_cons (cs_set (i := 2) sc__law_draw.nd (ce_op op_mod sim_mod (ce_ix ix_seq sim_ix (ce_var 0) ce_int (fun _ _ => rfl)) ce_int))
    (css_cons (cs_asg (ce_op op_addA sim_add (ce_op op_mulA sim_mul (ce_var 2) (ce_op op_addA sim_add (ce_op op_mod sim_mod (ce_var 2) ce_int) ce_int)) (ce_op op_mulA sim_mul ce_int (ce_ix ix_seq sim_ix (ce_var 0) ce_int (fun _ _ => rfl)))) (cg_sub set_list sim_setL (ce_var 0) ce_int))
    (css_one (cs_ret (ce_op op_mod sim_mod (ce_op op_fdiv sim_div (ce_op op_mod sim_mod (ce_ix ix_seq sim_ix (ce_var 0) ce_int (fun _ _ => rfl)) ce_int) ce_int) (ce_var 1))))))))
theorem ok__law_term {P : Program} {w : World} {K : PySem.W.Frag} {mg : Str → Option Value} {base : Heap} (T : Txt K mg w) : FM P w K mg base 2 "_law_term" 2 m__law_term := by
  obtain ⟨fd, F⟩ := T.d__law_term
  refine (fm_of (N := N__law_term) F T.g__law_term sc__law_term (FunD.bindsN F fun _ _ _ _ _ _ us hl => match us, hl with | [_, _], _ => rfl) fun cdv A outer s H E hr => ?_)
  exact (css_cons (cs_set (i := 2) sc__law_term.nd (ce_lst (ca_cons ce_str (ca_cons ce_str (ca_cons ce_str (ca_cons ce_str (ca_cons ce_str (ca_cons ce_str (ca_cons ce_str (ca_cons ce_str (ca_cons ce_str (ca_cons ce_str (ca_cons ce_str (ca_cons ce_str (ca_cons ce_str (ca_cons ce_str ca_nil))))))))))))))))
    (css_cons (cs_set (i := 3) sc__law_term.nd ce_str)
    (css_cons (cs_set (i := 4) sc__law_term.nd (ce_ix ix_seq sim_ix (ce_op op_addA sim_add (ce_var 2) (ce_lst (ca_cons ce_str (ca_cons ce_str ca_nil)))) (ce_call (ok__law_draw T) (hr.mono (by decide)) (by rfl) (ca_cons (ce_var 0) (ca_cons ce_int ca_nil))) (fun _ _ => rfl)))
    (css_cons (cs_if (ct_cmp op_gt sim_gt (ce_call (ok__law_draw T) (hr.mono (by decide)) (by rfl) (ca_cons (ce_var 0) (ca_cons ce_int ca_nil))) ce_int (nomark _)) (css_cons (cs_set (i := 4) sc__law_term.nd (ce_ix ix_seq sim_ix (ce_var 3) (ce_call (ok__law_draw T) (hr.mono (by decide)) (by rfl) (ca_cons (ce_var 0) (ca_cons ce_int ca_nil))) (fun _ _ => rfl)))
    (css_one (cs_set (i := 4) sc__law_term.nd (ce_op op_addA sim_add (ce_var 4) (ce_join ce_str (ce_lc (own := [("_law_k", 8)]) rfl sc__law_term.nd (blkOk_by (own := [("_law_k", 8)]) (N := N__law_term) (sc := defScope s__law_term) (by decide +kernel)) (ci_range1 (by rfl) T.n_range (ca_cons (ce_call (ok__law_draw T) (hr.mono (by decide)) (by rfl) (ca_cons (ce_var 0) (ca_cons ce_int ca_nil))) ca_nil)) (fun _ _ _ _ _ => (cgw_name (i := 8) sc__law_term.nd)) (fun _ _ _ _ _ => cts_nil) (fun _ _ _ _ _ => (ce_ix ix_seq sim_ix (ce_var 3) (ce_call (ok__law_draw T) (hr.mono (by decide)) (by rfl) (ca_cons (ce_var 0) (ca_cons ce_int ca_nil))) (fun _ _ => rfl))))))))) css_nil)
    (css_cons (cs_set (i := 5) sc__law_term.nd (ce_op op_addA sim_add (ce_lst (ca_cons (ce_var 4) ca_nil)) (ce_lc (own := [("_law_sign", 6)]) rfl sc__law_term.nd (blkOk_by (own := [("_law_sign", 6)]) (N := N__law_term) (sc := defScope s__law_term) (by decide +kernel)) (ci_any (ce_var 3)) (fun _ _ _ _ _ => (cgw_name (i := 6) sc__law_term.nd)) (fun _ _ _ _ _ => cts_nil) (fun _ _ _ _ _ => (ce_op op_addA sim_add (ce_sl (ce_var 4) co_none (co_some ce_int)) (ce_var 6))))))
    (css_one (cs_ret (ce_ix ix_seq sim_ix (ce_lc (own := [("_law_term_here", 7)]) rfl sc__law_term.nd (blkOk_by (own := [("_law_term_here", 7)]) (N := N__law_term) (sc := defScope s__law_term) (by decide +kernel)) (ci_any (ce_var 5)) (fun _ _ _ _ _ => (cgw_name (i := 7) sc__law_term.nd)) (fun _ _ _ _ _ => (cts_one (ct_cmp op_notInA sim_notIn (ce_var 7) (ce_var 1) (by rfl)))) (fun _ _ _ _ _ => (ce_var 7))) ce_int (fun _ _ => rfl)))))))))
theorem ok__law_terms {P : Program} {w : World} {K : PySem.W.Frag} {mg : Str → Option Value} {base : Heap} (T : Txt K mg w) : FM P w K mg base 3 "_law_terms" 2 m__law_terms := by
  obtain ⟨fd, F⟩ := T.d__law_terms
  refine (fm_of (N := N__law_terms) F T.g__law_terms sc__law_terms (FunD.bindsN F fun _ _ _ _ _ _ us hl => match us, hl with | [_, _], _ => rfl) fun cdv A outer s H E hr => ?_)
  exact (css_cons (cs_set (i := 2) sc__law_terms.nd (ce_lstM ca_nil))
    (css_cons (cs_for PassesOwn.never rfl (ci_range1 (by rfl) T.n_range (ca_cons (ce_var 1) ca_nil)) (cg_name (i := 3) sc__law_terms.nd) (css_one (cs_expr (ce_append (ce_var 2) (ca_cons (ce_call (ok__law_term T) (hr.mono (by decide)) (by rfl) (ca_cons (ce_var 0) (ca_cons (ce_var 2) ca_nil))) ca_nil)))))
    (css_one (cs_ret (ce_var 2)))))
theorem ok__law_number {P : Program} {w : World} {K : PySem.W.Frag} {mg : Str → Option Value} {base : Heap} (T : Txt K mg w) : FM P w K mg base 2 "_law_number" 1 m__law_number := by
  obtain ⟨fd, F⟩ := T.d__law_number
  refine (fm_of (N := N__law_number) F T.g__law_number sc__law_number (FunD.bindsN F fun _ _ _ _ _ _ us hl => match us, hl with | [_], _ => rfl) fun cdv A outer s H E hr => ?_)
  exact (css_cons (cs_set (i := 1) sc__law_number.nd (ce_call (ok__law_draw T) (hr.mono (by decide)) (by rfl) (ca_cons (ce_var 0) (ca_cons (ce_ix ix_seq sim_ix (ce_lst (ca_cons ce_int (ca_cons ce_int (ca_cons ce_int ca_nil)))) (ce_call (ok__law_draw T) (hr.mono (by decide)) (by rfl) (ca_cons (ce_var 0) (ca_cons ce_int ca_nil))) (fun _ _ => rfl)) ca_nil))))
    (css_one (cs_ret (ce_ix ix_seq sim_ix (ce_lst (ca_cons (ce_var 1) (ca_cons (ce_var 1) (ca_cons (ce_op op_sub sim_sub ce_int (ce_var 1)) ca_nil)))) (ce_call (ok__law_draw T) (hr.mono (by decide)) (by rfl) (ca_cons (ce_var 0) (ca_cons ce_int ca_nil))) (fun _ _ => rfl)))))
theorem ok__law_good {P : Program} {w : World} {K : PySem.W.Frag} {mg : Str → Option Value} {base : Heap} (T : Txt K mg w) : FM P w K mg base 4 "_law_good" 1 m__law_good := by
  obtain ⟨fd, F⟩ := T.d__law_good
  refine (fm_of (N := N__law_good) F T.g__law_good sc__law_good (FunD.bindsN F fun _ _ _ _ _ _ us hl => match us, hl with | [_], _ => rfl) fun cdv A outer s H E hr => ?_)
  exact (css_cons (cs_set (i := 1) sc__law_good.nd (ce_call (ok__law_terms T) (hr.mono (by decide)) (by rfl) (ca_cons (ce_var 0) (ca_cons ce_int ca_nil))))
    (css_cons (cs_set (i := 2) sc__law_good.nd (ce_lst (ca_cons ce_int (ca_cons ce_int (ca_cons (ce_un un_neg sim_neg ce_int) (ca_cons (ce_call (ok__law_number T) (hr.mono (by decide)) (by rfl) (ca_cons (ce_var 0) ca_nil)) ca_nil))))))
    (css_cons (cs_set (i := 3) sc__law_good.nd (ce_lstM (ca_cons (ce_tup (ca_cons ce_str (ca_cons (ce_ix ix_seq sim_ix (ce_var 1) ce_int (fun _ _ => rfl)) (ca_cons (ce_ix ix_seq sim_ix (ce_var 2) (ce_call (ok__law_draw T) (hr.mono (by decide)) (by rfl) (ca_cons (ce_var 0) (ca_cons ce_int ca_nil))) (fun _ _ => rfl)) ca_nil)))) (ca_cons (ce_tup (ca_cons ce_str (ca_cons (ce_ix ix_seq sim_ix (ce_var 1) ce_int (fun _ _ => rfl)) (ca_cons (ce_ix ix_seq sim_ix (ce_var 1) (ce_call (ok__law_draw T) (hr.mono (by decide)) (by rfl) (ca_cons (ce_var 0) (ca_cons ce_int ca_nil))) (fun _ _ => rfl)) ca_nil)))) ca_nil))))
    (css_cons (cs_set (i := 4) sc__law_good.nd (ce_callTy call_tuple_of sim_tuple (by rfl) T.n_tuple bb_tuple (ca_cons (ce_lc (own := [("_law_k", 5)]) rfl sc__law_good.nd (blkOk_by (own := [("_law_k", 5)]) (N := N__law_good) (sc := defScope s__law_good) (by decide +kernel)) (ci_range1 (by rfl) T.n_range (ca_cons (ce_op op_addA sim_add ce_int (ce_call (ok__law_draw T) (hr.mono (by decide)) (by rfl) (ca_cons (ce_var 0) (ca_cons ce_int ca_nil)))) ca_nil)) (fun _ _ _ _ _ => (cgw_name (i := 5) sc__law_good.nd)) (fun _ _ _ _ _ => cts_nil) (fun _ _ _ _ _ => (ce_ix ix_seq sim_ix (ce_var 1) (ce_call (ok__law_draw T) (hr.mono (by decide)) (by rfl) (ca_cons (ce_var 0) (ca_cons ce_int ca_nil))) (fun _ _ => rfl)))) ca_nil)))
    (css_cons (cs_expr (ce_append (ce_var 3) (ca_cons (ce_tup (ca_cons ce_str (ca_cons (ce_ix ix_seq sim_ix (ce_var 1) ce_int (fun _ _ => rfl)) (ca_cons (ce_var 4) (ca_cons (ce_ix ix_seq sim_ix (ce_var 1) ce_int (fun _ _ => rfl)) ca_nil))))) ca_nil)))
    (css_cons (cs_set (i := 3) sc__law_good.nd (ce_op op_addA sim_addM (ce_var 3) (ce_lst (ca_cons (ce_tup (ca_cons ce_str (ca_cons (ce_ix ix_seq sim_ix (ce_var 1) ce_int (fun _ _ => rfl)) ca_nil))) (ca_cons (ce_tup (ca_cons ce_str (ca_cons (ce_ix ix_seq sim_ix (ce_var 1) ce_int (fun _ _ => rfl)) ca_nil))) (ca_cons (ce_tup (ca_cons ce_str (ca_cons (ce_ix ix_seq sim_ix (ce_var 1) ce_int (fun _ _ => rfl)) ca_nil))) (ca_cons (ce_tup (ca_cons ce_str (ca_cons (ce_ix ix_seq sim_ix (ce_var 1) ce_int (fun _ _ => rfl)) (ca_cons (ce_call (ok__law_draw T) (hr.mono (by decide)) (by rfl) (ca_cons (ce_var 0) (ca_cons ce_int ca_nil))) ca_nil)))) ca_nil)))))))
    (css_cons (cs_expr (ce_append (ce_var 3) (ca_cons (ce_tup (ca_cons ce_str (ca_cons (ce_ix ix_seq sim_ix (ce_var 1) ce_int (fun _ _ => rfl)) (ca_cons (ce_ix ix_seq sim_ix (ce_lst (ca_cons ce_int (ca_cons ce_int (ca_cons (ce_op op_addA sim_add ce_int (ce_call (ok__law_draw T) (hr.mono (by decide)) (by rfl) (ca_cons (ce_var 0) (ca_cons ce_int ca_nil)))) ca_nil)))) (ce_call (ok__law_draw T) (hr.mono (by decide)) (by rfl) (ca_cons (ce_var 0) (ca_cons ce_int ca_nil))) (fun _ _ => rfl)) ca_nil)))) ca_nil)))
    (css_cons (cs_expr (ce_append (ce_var 3) (ca_cons (ce_tup (ca_cons ce_str (ca_cons (ce_ix ix_seq sim_ix (ce_var 1) ce_int (fun _ _ => rfl)) (ca_cons (ce_ix ix_seq sim_ix (ce_lst (ca_cons ce_int (ca_cons ce_int (ca_cons (ce_op op_addA sim_add ce_int (ce_call (ok__law_draw T) (hr.mono (by decide)) (by rfl) (ca_cons (ce_var 0) (ca_cons ce_int ca_nil)))) ca_nil)))) (ce_call (ok__law_draw T) (hr.mono (by decide)) (by rfl) (ca_cons (ce_var 0) (ca_cons ce_int ca_nil))) (fun _ _ => rfl)) ca_nil)))) ca_nil)))
    (css_one (cs_ret (ce_ix ix_seq sim_ix (ce_var 3) (ce_call (ok__law_draw T) (hr.mono (by decide)) (by rfl) (ca_cons (ce_var 0) (ca_cons ce_int ca_nil))) (fun _ _ => rfl))))))))))))
theorem ok__law_named {P : Program} {w : World} {K : PySem.W.Frag} {mg : Str → Option Value} {base : Heap} (T : Txt K mg w) : FM P w K mg base 1 "_law_named" 1 m__law_named := by
  obtain ⟨fd, F⟩ := T.d__law_named
  refine (fm_of (N := N__law_named) F T.g__law_named sc__law_named (FunD.bindsN F fun _ _ _ _ _ _ us hl => match us, hl with | [_], _ => rfl) fun cdv A outer s H E hr => ?_)
  exact (css_cons (cs_if (cw_t (cw_or (ct_not (ct_val (ce_callB call_isi sim_isi (by rfl) T.n_isinstance bb_isinstance (ca_cons (ce_var 0) (ca_cons (ce_ty (by rfl) T.n_str bb_str) ca_nil))))) (cw_or (ct_cmp op_lt sim_lt (ce_callB call_len sim_len (by rfl) T.n_len bb_len (ca_cons (ce_var 0) ca_nil)) ce_int (nomark _)) (cw_or1 (ct_cmp op_gt sim_gt (ce_callB call_len sim_len (by rfl) T.n_len bb_len (ca_cons (ce_var 0) ca_nil)) ce_int (nomark _)))))) (css_one (cs_ret ce_bl)) css_nil)
    (css_one (cs_ret (ce_and (ce_islower (ce_ix ix_seq sim_ix (ce_var 0) ce_int (fun _ _ => rfl))) (ce_one (ce_callB (cr_all rfl) sim_all (by rfl) T.n_all bb_all (ca_cons (ce_lc (own := [("_law_sign", 1)]) rfl sc__law_named.nd (blkOk_by (own := [("_law_sign", 1)]) (N := N__law_named) (sc := defScope s__law_named) (by decide +kernel)) (ci_any (ce_var 0)) (fun _ _ _ _ _ => (cgw_name (i := 1) sc__law_named.nd)) (fun _ _ _ _ _ => cts_nil) (fun _ _ _ _ _ => (ce_or (ce_islower (ce_var 1)) (ce_one (ce_isdigit (ce_var 1)))))) ca_nil)))))))
theorem ok__law_in {P : Program} {w : World} {K : PySem.W.Frag} {mg : Str → Option Value} {base : Heap} (T : Txt K mg w) : FM P w K mg base 1 "_law_in" 3 m__law_in := by
  obtain ⟨fd, F⟩ := T.d__law_in
  refine (fm_of (N := N__law_in) F T.g__law_in sc__law_in (FunD.bindsN F fun _ _ _ _ _ _ us hl => match us, hl with | [_, _, _], _ => rfl) fun cdv A outer s H E hr => ?_)
  exact (css_one (cs_ret (ce_and (ce_callB call_isi sim_isi (by rfl) T.n_isinstance bb_isinstance (ca_cons (ce_var 0) (ca_cons (ce_ty (by rfl) T.n_int bb_int) ca_nil))) (ce_and (ce_not (ce_callB call_isi sim_isi (by rfl) T.n_isinstance bb_isinstance (ca_cons (ce_var 0) (ca_cons (ce_ty (by rfl) T.n_bool bb_bool) ca_nil)))) (ce_one (ce_chain op_le sim_le op_le sim_le (ce_var 1) (ce_var 0) (ce_var 2)))))))
theorem ok__law_due {P : Program} {w : World} {K : PySem.W.Frag} {mg : Str → Option Value} {base : Heap} (T : Txt K mg w) : FM P w K mg base 2 "_law_due" 1 m__law_due := by
  obtain ⟨fd, F⟩ := T.d__law_due
  refine (fm_of (N := N__law_due) F T.g__law_due sc__law_due (FunD.bindsN F fun _ _ _ _ _ _ us hl => match us, hl with | [_], _ => rfl) fun cdv A outer s H E hr => ?_)
  exact (css_cons (cs_if (cw_t (cw_or (ct_not (ct_val (ce_callB call_isi sim_isi (by rfl) T.n_isinstance bb_isinstance (ca_cons (ce_var 0) (ca_cons (ce_ty (by rfl) T.n_tuple bb_tuple) ca_nil))))) (cw_or (ct_cmp op_lt sim_lt (ce_callB call_len sim_len (by rfl) T.n_len bb_len (ca_cons (ce_var 0) ca_nil)) ce_int (nomark _)) (cw_or (ct_not (ct_val (ce_callB call_isi sim_isi (by rfl) T.n_isinstance bb_isinstance (ca_cons (ce_ix ix_seq sim_ix (ce_var 0) ce_int (fun _ _ => rfl)) (ca_cons (ce_ty (by rfl) T.n_str bb_str) ca_nil))))) (cw_or1 (ct_not (ct_val (ce_call (ok__law_named T) (hr.mono (by decide)) (by rfl) (ca_cons (ce_ix ix_seq sim_ix (ce_var 0) ce_int (fun _ _ => rfl)) ca_nil))))))))) (css_one (cs_ret ce_bl)) css_nil)
    (css_cons (cs_set (i := 1) sc__law_due.nd (ce_sl (ce_var 0) (co_some ce_int) co_none))
    (css_cons (cs_if (ct_cmp op_inA sim_in (ce_ix ix_seq sim_ix (ce_var 0) ce_int (fun _ _ => rfl)) (ce_lst (ca_cons ce_str (ca_cons ce_str (ca_cons ce_str ca_nil)))) (by rfl)) (css_one (cs_ret (ce_cmp (op_eqA hr.units0) sim_eq (ce_var 1) (ce_tup ca_nil) (nomark _)))) css_nil)
    (css_cons (cs_if (ct_cmp (op_eqA hr.units0) sim_eq (ce_ix ix_seq sim_ix (ce_var 0) ce_int (fun _ _ => rfl)) ce_str (nomark _)) (css_cons (cs_if (cw_t (cw_or (ct_cmp op_ne sim_ne (ce_callB call_len sim_len (by rfl) T.n_len bb_len (ca_cons (ce_var 1) ca_nil)) ce_int (nomark _)) (cw_or (ct_not (ct_val (ce_callB call_isi sim_isi (by rfl) T.n_isinstance bb_isinstance (ca_cons (ce_ix ix_seq sim_ix (ce_var 1) ce_int (fun _ _ => rfl)) (ca_cons (ce_ty (by rfl) T.n_tuple bb_tuple) ca_nil))))) (cw_or1 (ct_cmp op_notInA sim_notIn (ce_callB call_len sim_len (by rfl) T.n_len bb_len (ca_cons (ce_ix ix_seq sim_ix (ce_var 1) ce_int (fun _ _ => rfl)) ca_nil)) (ce_lst (ca_cons ce_int (ca_cons ce_int (ca_cons ce_int ca_nil)))) (by rfl)))))) (css_one (cs_ret ce_bl)) css_nil)
    (css_one (cs_ret (ce_and (ce_callB (cr_all rfl) sim_all (by rfl) T.n_all bb_all (ca_cons (ce_lc (own := [("_law_term_here", 2)]) rfl sc__law_due.nd (blkOk_by (own := [("_law_term_here", 2)]) (N := N__law_due) (sc := defScope s__law_due) (by decide +kernel)) (ci_any (ce_ix ix_seq sim_ix (ce_var 1) ce_int (fun _ _ => rfl))) (fun _ _ _ _ _ => (cgw_name (i := 2) sc__law_due.nd)) (fun _ _ _ _ _ => cts_nil) (fun _ _ _ _ _ => (ce_call (ok__law_named T) (hr.mono (by decide)) (by rfl) (ca_cons (ce_var 2) ca_nil)))) ca_nil)) (ce_one (ce_call (ok__law_named T) (hr.mono (by decide)) (by rfl) (ca_cons (ce_ix ix_seq sim_ix (ce_var 1) ce_int (fun _ _ => rfl)) ca_nil))))))) css_nil)
    (css_cons (cs_if (ct_cmp op_ne sim_ne (ce_callB call_len sim_len (by rfl) T.n_len bb_len (ca_cons (ce_var 1) ca_nil)) ce_int (nomark _)) (css_one (cs_ret ce_bl)) css_nil)
    (css_cons (cs_if (ct_cmp (op_eqA hr.units0) sim_eq (ce_ix ix_seq sim_ix (ce_var 0) ce_int (fun _ _ => rfl)) ce_str (nomark _)) (css_one (cs_ret (ce_call (ok__law_named T) (hr.mono (by decide)) (by rfl) (ca_cons (ce_ix ix_seq sim_ix (ce_var 1) ce_int (fun _ _ => rfl)) ca_nil)))) css_nil)
    (css_cons (cs_if (ct_cmp (op_eqA hr.units0) sim_eq (ce_ix ix_seq sim_ix (ce_var 0) ce_int (fun _ _ => rfl)) ce_str (nomark _)) (css_one (cs_ret (ce_call (ok__law_in T) (hr.mono (by decide)) (by rfl) (ca_cons (ce_ix ix_seq sim_ix (ce_var 1) ce_int (fun _ _ => rfl)) (ca_cons (ce_un un_neg sim_neg ce_int) (ca_cons ce_int ca_nil)))))) css_nil)
    (css_cons (cs_if (ct_cmp (op_eqA hr.units0) sim_eq (ce_ix ix_seq sim_ix (ce_var 0) ce_int (fun _ _ => rfl)) ce_str (nomark _)) (css_one (cs_ret (ce_call (ok__law_in T) (hr.mono (by decide)) (by rfl) (ca_cons (ce_ix ix_seq sim_ix (ce_var 1) ce_int (fun _ _ => rfl)) (ca_cons ce_int (ca_cons ce_int ca_nil)))))) css_nil)
    (css_one (cs_ret (ce_or (ce_and (ce_cmp (op_eqA hr.units0) sim_eq (ce_ix ix_seq sim_ix (ce_var 0) ce_int (fun _ _ => rfl)) ce_str (nomark _)) (ce_one (ce_call (ok__law_in T) (hr.mono (by decide)) (by rfl) (ca_cons (ce_ix ix_seq sim_ix (ce_var 1) ce_int (fun _ _ => rfl)) (ca_cons ce_int (ca_cons ce_int ca_nil)))))) (ce_one (ce_and (ce_cmp (op_eqA hr.units0) sim_eq (ce_ix ix_seq sim_ix (ce_var 0) ce_int (fun _ _ => rfl)) ce_str (nomark _)) (ce_one (ce_call (ok__law_in T) (hr.mono (by decide)) (by rfl) (ca_cons (ce_ix ix_seq sim_ix (ce_var 1) ce_int (fun _ _ => rfl)) (ca_cons ce_int (ca_cons ce_int ca_nil))))))))))))))))))
theorem ok__law_told {P : Program} {w : World} {K : PySem.W.Frag} {mg : Str → Option Value} {base : Heap} (T : Txt K mg w) : FM P w K mg base 1 "_law_told" 2 m__law_told := by
  obtain ⟨fd, F⟩ := T.d__law_told
  refine (fm_of (N := N__law_told) F T.g__law_told sc__law_told (FunD.bindsN F fun _ _ _ _ _ _ us hl => match us, hl with | [_, _], _ => rfl) fun cdv A outer s H E hr => ?_)
  exact (css_one (cs_ret (ce_and (ce_callB call_isi sim_isi (by rfl) T.n_isinstance bb_isinstance (ca_cons (ce_var 0) (ca_cons (ce_ty (by rfl) T.n_bool bb_bool) ca_nil))) (ce_one (ce_cmp (op_eqA hr.units0) sim_eq (ce_var 0) (ce_var 1) (nomark _))))))
theorem ok_is_name {P : Program} {w : World} {K : PySem.W.Frag} {mg : Str → Option Value} {base : Heap} (T : Txt K mg w) : FM P w K mg base 1 "is_name" 1 m_is_name := by
  obtain ⟨fd, F⟩ := T.d_is_name
  refine (fm_of (N := N_is_name) F T.g_is_name sc_is_name (FunD.bindsN F fun _ _ _ _ _ _ us hl => match us, hl with | [_], _ => rfl) fun cdv A outer s H E hr => ?_)
  exact (css_cons (cs_if (cw_t (cw_or (ct_not (ct_val (ce_callB call_isi sim_isi (by rfl) T.n_isinstance bb_isinstance (ca_cons (ce_var 0) (ca_cons (ce_ty (by rfl) T.n_str bb_str) ca_nil))))) (cw_or (ct_not (ct_chain op_le sim_le op_le sim_le ce_int (ce_callB call_len sim_len (by rfl) T.n_len bb_len (ca_cons (ce_var 0) ca_nil)) (ce_gint (by rfl) T.i_MOST_SIGNS))) (cw_or1 (ct_cmp op_notInA sim_notIn (ce_ix ix_seq sim_ix (ce_var 0) ce_int (fun _ _ => rfl)) (ce_gstr (by rfl) T.s_LETTERS) (by rfl)))))) (css_one (cs_ret ce_bl)) css_nil)
    (css_one (cs_ret (ce_callB (cr_all rfl) sim_all (by rfl) T.n_all bb_all (ca_cons (ce_lc (own := [("sign", 1)]) rfl sc_is_name.nd (blkOk_by (own := [("sign", 1)]) (N := N_is_name) (sc := defScope s_is_name) (by decide +kernel)) (ci_any (ce_var 0)) (fun _ _ _ _ _ => (cgw_name (i := 1) sc_is_name.nd)) (fun _ _ _ _ _ => cts_nil) (fun _ _ _ _ _ => (ce_cmp op_inA sim_in (ce_var 1) (ce_gstr (by rfl) T.s_SIGNS) (by rfl)))) ca_nil)))))
theorem ok_are_names {P : Program} {w : World} {K : PySem.W.Frag} {mg : Str → Option Value} {base : Heap} (T : Txt K mg w) : FM P w K mg base 2 "are_names" 1 m_are_names := by
  obtain ⟨fd, F⟩ := T.d_are_names
  refine (fm_of (N := N_are_names) F T.g_are_names sc_are_names (FunD.bindsN F fun _ _ _ _ _ _ us hl => match us, hl with | [_], _ => rfl) fun cdv A outer s H E hr => ?_)
  exact (css_cons (cs_if (cw_t (cw_or (ct_not (ct_val (ce_callB call_isi sim_isi (by rfl) T.n_isinstance bb_isinstance (ca_cons (ce_var 0) (ca_cons (ce_ty (by rfl) T.n_tuple bb_tuple) ca_nil))))) (cw_or1 (ct_not (ct_chain op_le sim_le op_le sim_le ce_int (ce_callB call_len sim_len (by rfl) T.n_len bb_len (ca_cons (ce_var 0) ca_nil)) (ce_gint (by rfl) T.i_MOST_FROMS)))))) (css_one (cs_ret ce_bl)) css_nil)
    (css_one (cs_ret (ce_callB (cr_all rfl) sim_all (by rfl) T.n_all bb_all (ca_cons (ce_lc (own := [("part", 1)]) rfl sc_are_names.nd (blkOk_by (own := [("part", 1)]) (N := N_are_names) (sc := defScope s_are_names) (by decide +kernel)) (ci_any (ce_var 0)) (fun _ _ _ _ _ => (cgw_name (i := 1) sc_are_names.nd)) (fun _ _ _ _ _ => cts_nil) (fun _ _ _ _ _ => (ce_call (ok_is_name T) (hr.mono (by decide)) (by rfl) (ca_cons (ce_var 1) ca_nil)))) ca_nil)))))
theorem ok_is_whole {P : Program} {w : World} {K : PySem.W.Frag} {mg : Str → Option Value} {base : Heap} (T : Txt K mg w) : FM P w K mg base 1 "is_whole" 1 m_is_whole := by
  obtain ⟨fd, F⟩ := T.d_is_whole
  refine (fm_of (N := N_is_whole) F T.g_is_whole sc_is_whole (FunD.bindsN F fun _ _ _ _ _ _ us hl => match us, hl with | [_], _ => rfl) fun cdv A outer s H E hr => ?_)
  exact (css_one (cs_ret (ce_and (ce_callB call_isi sim_isi (by rfl) T.n_isinstance bb_isinstance (ca_cons (ce_var 0) (ca_cons (ce_ty (by rfl) T.n_int bb_int) ca_nil))) (ce_one (ce_not (ce_callB call_isi sim_isi (by rfl) T.n_isinstance bb_isinstance (ca_cons (ce_var 0) (ca_cons (ce_ty (by rfl) T.n_bool bb_bool) ca_nil))))))))
theorem ok_is_within {P : Program} {w : World} {K : PySem.W.Frag} {mg : Str → Option Value} {base : Heap} (T : Txt K mg w) : FM P w K mg base 2 "is_within" 3 m_is_within := by
  obtain ⟨fd, F⟩ := T.d_is_within
  refine (fm_of (N := N_is_within) F T.g_is_within sc_is_within (FunD.bindsN F fun _ _ _ _ _ _ us hl => match us, hl with | [_, _, _], _ => rfl) fun cdv A outer s H E hr => ?_)
  exact (css_one (cs_ret (ce_and (ce_call (ok_is_whole T) (hr.mono (by decide)) (by rfl) (ca_cons (ce_var 0) ca_nil)) (ce_one (ce_chain op_le sim_le op_le sim_le (ce_var 1) (ce_var 0) (ce_var 2))))))
theorem ok_is_number {P : Program} {w : World} {K : PySem.W.Frag} {mg : Str → Option Value} {base : Heap} (T : Txt K mg w) : FM P w K mg base 3 "is_number" 1 m_is_number := by
  obtain ⟨fd, F⟩ := T.d_is_number
  refine (fm_of (N := N_is_number) F T.g_is_number sc_is_number (FunD.bindsN F fun _ _ _ _ _ _ us hl => match us, hl with | [_], _ => rfl) fun cdv A outer s H E hr => ?_)
  exact (css_one (cs_ret (ce_call (ok_is_within T) (hr.mono (by decide)) (by rfl) (ca_cons (ce_var 0) (ca_cons (ce_un un_neg sim_neg (ce_gint (by rfl) T.i_MOST_NUMBER)) (ca_cons (ce_gint (by rfl) T.i_MOST_NUMBER) ca_nil))))))
theorem ok_is_value {P : Program} {w : World} {K : PySem.W.Frag} {mg : Str → Option Value} {base : Heap} (T : Txt K mg w) : FM P w K mg base 3 "is_value" 1 m_is_value := by
  obtain ⟨fd, F⟩ := T.d_is_value
  refine (fm_of (N := N_is_value) F T.g_is_value sc_is_value (FunD.bindsN F fun _ _ _ _ _ _ us hl => match us, hl with | [_], _ => rfl) fun cdv A outer s H E hr => ?_)
  exact (css_one (cs_ret (ce_call (ok_is_within T) (hr.mono (by decide)) (by rfl) (ca_cons (ce_var 0) (ca_cons ce_int (ca_cons (ce_gint (by rfl) T.i_MOST_VALUE) ca_nil))))))
theorem ok_is_by {P : Program} {w : World} {K : PySem.W.Frag} {mg : Str → Option Value} {base : Heap} (T : Txt K mg w) : FM P w K mg base 3 "is_by" 1 m_is_by := by
  obtain ⟨fd, F⟩ := T.d_is_by
  refine (fm_of (N := N_is_by) F T.g_is_by sc_is_by (FunD.bindsN F fun _ _ _ _ _ _ us hl => match us, hl with | [_], _ => rfl) fun cdv A outer s H E hr => ?_)
  exact (css_one (cs_ret (ce_call (ok_is_within T) (hr.mono (by decide)) (by rfl) (ca_cons (ce_var 0) (ca_cons ce_int (ca_cons (ce_gint (by rfl) T.i_MOST_BY) ca_nil))))))
theorem ok_is_lane {P : Program} {w : World} {K : PySem.W.Frag} {mg : Str → Option Value} {base : Heap} (T : Txt K mg w) : FM P w K mg base 3 "is_lane" 1 m_is_lane := by
  obtain ⟨fd, F⟩ := T.d_is_lane
  refine (fm_of (N := N_is_lane) F T.g_is_lane sc_is_lane (FunD.bindsN F fun _ _ _ _ _ _ us hl => match us, hl with | [_], _ => rfl) fun cdv A outer s H E hr => ?_)
  exact (css_one (cs_ret (ce_call (ok_is_within T) (hr.mono (by decide)) (by rfl) (ca_cons (ce_var 0) (ca_cons ce_int (ca_cons (ce_op op_sub sim_sub (ce_gint (by rfl) T.i_MOST_LANES) ce_int) ca_nil))))))
theorem held_is_part_ {P : Program} {w : World} {K : PySem.W.Frag} {mg : Str → Option Value} {base : Heap} (T : Txt K mg w) : ∀ y m, fs_is_part.lookup y = some m → FM P w K mg base 3 y 1 m := by
  intro y m h
  have h2 := lookup_mem h
  simp only [fs_is_part, List.mem_cons, List.not_mem_nil, or_false, Prod.mk.injEq] at h2
  rcases h2 with ⟨rfl, rfl⟩ | ⟨rfl, rfl⟩ | ⟨rfl, rfl⟩ | ⟨rfl, rfl⟩ | ⟨rfl, rfl⟩ | ⟨rfl, rfl⟩
  · exact (ok_is_name T).mono (by decide)
  · exact (ok_are_names T).mono (by decide)
  · exact (ok_is_number T).mono (by decide)
  · exact (ok_is_value T).mono (by decide)
  · exact (ok_is_by T).mono (by decide)
  · exact (ok_is_lane T).mono (by decide)
theorem ok_is_part {P : Program} {w : World} {K : PySem.W.Frag} {mg : Str → Option Value} {base : Heap} (T : Txt K mg w) : FM P w K mg base 4 "is_part" 2 m_is_part := by
  obtain ⟨fd, F⟩ := T.d_is_part
  refine (fm_of (N := N_is_part) F T.g_is_part sc_is_part (FunD.bindsN F fun _ _ _ _ _ _ us hl => match us, hl with | [_, _], _ => rfl) fun cdv A outer s H E hr => ?_)
  exact (css_cons (cs_set (i := 2) sc_is_part.nd (ce_itemK T.kd_PARTS (ce_glo (by rfl) T.g_PARTS) (ce_var 0) (fun _ _ => rfl)))
    (css_one (cs_ret (ce_callA (i := 2) (held_is_part_ T) (hr.mono (by decide)) (ca_cons (ce_var 1) ca_nil)))))
theorem ok_is_command {P : Program} {w : World} {K : PySem.W.Frag} {mg : Str → Option Value} {base : Heap} (T : Txt K mg w) : FM P w K mg base 5 "is_command" 1 m_is_command := by
  obtain ⟨fd, F⟩ := T.d_is_command
  refine (fm_of (N := N_is_command) F T.g_is_command sc_is_command (FunD.bindsN F fun _ _ _ _ _ _ us hl => match us, hl with | [_], _ => rfl) fun cdv A outer s H E hr => ?_)
  exact (css_cons (cs_if (cw_t (cw_or (ct_not (ct_val (ce_callB call_isi sim_isi (by rfl) T.n_isinstance bb_isinstance (ca_cons (ce_var 0) (ca_cons (ce_ty (by rfl) T.n_tuple bb_tuple) ca_nil))))) (cw_or (ct_cmp (op_eqA hr.units0) sim_eq (ce_var 0) (ce_tup ca_nil) (nomark _)) (cw_or1 (ct_not (ct_val (ce_callB call_isi sim_isi (by rfl) T.n_isinstance bb_isinstance (ca_cons (ce_ix ix_seq sim_ix (ce_var 0) ce_int (fun _ _ => rfl)) (ca_cons (ce_ty (by rfl) T.n_str bb_str) ca_nil))))))))) (css_one (cs_ret ce_bl)) css_nil)
    (css_cons (cs_asg (ce_var 0) (cg_star rfl (cgs_cons (cg_name (i := 2) sc_is_command.nd) (cgs_star (cg_name (i := 3) sc_is_command.nd) cgs_nil))))
    (css_cons (cs_set (i := 1) sc_is_command.nd (ce_getK T.kd_FORMS (by rfl) T.g_FORMS (ce_var 2) ⟨rfl, rfl, rfl, rfl⟩))
    (css_cons (cs_if (cw_t (cw_or (ct_cmp op_isN sim_isN (ce_var 1) ce_non (nomark _)) (cw_or1 (ct_cmp op_ne sim_ne (ce_callB call_len sim_len (by rfl) T.n_len bb_len (ca_cons (ce_var 1) ca_nil)) (ce_callB call_len sim_len (by rfl) T.n_len bb_len (ca_cons (ce_var 3) ca_nil)) (nomark _))))) (css_one (cs_ret ce_bl)) css_nil)
    (css_one (cs_ret (ce_callB (cr_all rfl) sim_all (by rfl) T.n_all bb_all (ca_cons (ce_lc (own := [("kind", 4), ("part", 5)]) rfl sc_is_command.nd (blkOk_by (own := [("kind", 4), ("part", 5)]) (N := N_is_command) (sc := defScope s_is_command) (by decide +kernel)) (ci_zipS (by rfl) T.n_zip (ca_cons (ce_var 1) (ca_cons (ce_var 3) ca_nil))) (fun _ _ _ _ _ => (cgw_tup rfl (cgsw_cons (cgw_name (i := 4) sc_is_command.nd) (cgsw_cons (cgw_name (i := 5) sc_is_command.nd) cgsw_nil)))) (fun _ _ _ _ _ => cts_nil) (fun _ _ _ _ _ => (ce_call (ok_is_part T) (hr.mono (by decide)) (by rfl) (ca_cons (ce_var 4) (ca_cons (ce_var 5) ca_nil))))) ca_nil))))))))
theorem ok__law_odd_term {P : Program} {w : World} {K : PySem.W.Frag} {mg : Str → Option Value} {base : Heap} (T : Txt K mg w) : FM P w K mg base 2 "_law_odd_term" 2 m__law_odd_term := by
  obtain ⟨fd, F⟩ := T.d__law_odd_term
  refine (fm_of (N := N__law_odd_term) F T.g__law_odd_term sc__law_odd_term (FunD.bindsN F fun _ _ _ _ _ _ us hl => match us, hl with | [_, _], _ => rfl) fun cdv A outer s H E hr => ?_)
  exact (css_cons (cs_set (i := 2) sc__law_odd_term.nd (ce_lst (ca_cons ce_str (ca_cons ce_str (ca_cons (ce_op op_addA sim_add (ce_var 1) ce_str) (ca_cons (ce_op op_addA sim_add ce_str (ce_sl (ce_var 1) co_none (co_some ce_int))) (ca_cons (ce_op op_addA sim_add ce_str (ce_sl (ce_var 1) co_none (co_some ce_int))) (ca_cons (ce_sl (ce_op op_mulA sim_mul (ce_var 1) ce_int) co_none (co_some ce_int)) (ca_cons (ce_op op_addA sim_add (ce_sl (ce_var 1) co_none (co_some ce_int)) ce_str) (ca_cons (ce_op op_addA sim_add ce_str (ce_sl (ce_var 1) co_none (co_some ce_int))) ca_nil))))))))))
    (css_cons (cs_set (i := 2) sc__law_odd_term.nd (ce_op op_addA sim_add (ce_var 2) (ce_lst (ca_cons ce_non (ca_cons ce_int (ca_cons (ce_lst (ca_cons (ce_var 1) ca_nil)) (ca_cons (ce_tup (ca_cons (ce_var 1) ca_nil)) (ca_cons (ce_op op_addA sim_add (ce_sl (ce_var 1) co_none (co_some ce_int)) ce_str) (ca_cons ce_bl (ca_cons ce_dict0 (ca_cons (ce_tup (ca_cons (ce_lst ca_nil) ca_nil)) (ca_cons ce_str (ca_cons (ce_op op_addA sim_add (ce_sl (ce_var 1) co_none (co_some ce_int)) ce_str) ca_nil)))))))))))))
    (css_cons (cs_set (i := 2) sc__law_odd_term.nd (ce_op op_addA sim_add (ce_var 2) (ce_lst (ca_cons (ce_sl (ce_op op_addA sim_add (ce_var 1) ce_str) co_none (co_some ce_int)) (ca_cons ce_int ca_nil)))))
    (css_one (cs_ret (ce_ix ix_seq sim_ix (ce_var 2) (ce_call (ok__law_draw T) (hr.mono (by decide)) (by rfl) (ca_cons (ce_var 0) (ca_cons ce_int ca_nil))) (fun _ _ => rfl)))))))
theorem ok__law_bent {P : Program} {w : World} {K : PySem.W.Frag} {mg : Str → Option Value} {base : Heap} (T : Txt K mg w) : FM P w K mg base 3 "_law_bent" 2 m__law_bent := by
  obtain ⟨fd, F⟩ := T.d__law_bent
  refine (fm_of (N := N__law_bent) F T.g__law_bent sc__law_bent (FunD.bindsN F fun _ _ _ _ _ _ us hl => match us, hl with | [_, _], _ => rfl) fun cdv A outer s H E hr => ?_)
  exact (css_cons (cs_par (i := 3) (j := 4) rfl sc__law_bent.nd (ca_cons (ce_call (ok__law_draw T) (hr.mono (by decide)) (by rfl) (ca_cons (ce_var 0) (ca_cons (ce_callB call_len sim_len (by rfl) T.n_len bb_len (ca_cons (ce_var 1) ca_nil)) ca_nil))) (ca_cons (ce_call (ok__law_draw T) (hr.mono (by decide)) (by rfl) (ca_cons (ce_var 0) (ca_cons ce_int ca_nil))) ca_nil)))
    (css_cons (cs_set (i := 2) sc__law_bent.nd (ce_lst (ca_cons (ce_un un_neg sim_neg ce_int) (ca_cons ce_int (ca_cons ce_int (ca_cons ce_int (ca_cons ce_int (ca_cons ce_int (ca_cons (ce_un un_neg sim_neg ce_int) (ca_cons ce_bl (ca_cons ce_bl (ca_cons ce_non (ca_cons ce_str (ca_cons ce_str (ca_cons ce_str (ca_cons ce_str (ca_cons (ce_tup ca_nil) (ca_cons (ce_tup (ca_cons ce_str ca_nil)) (ca_cons (ce_lst (ca_cons ce_str ca_nil)) ca_nil)))))))))))))))))))
    (css_cons (cs_set (i := 2) sc__law_bent.nd (ce_op op_addA sim_add (ce_var 2) (ce_lst (ca_cons ce_dict0 (ca_cons (ce_lst ca_nil) (ca_cons (ce_tup (ca_cons ce_str (ca_cons ce_str (ca_cons ce_str (ca_cons ce_str ca_nil))))) (ca_cons (ce_tup (ca_cons ce_str (ca_cons ce_int ca_nil))) (ca_cons (ce_tup (ca_cons ce_str (ca_cons ce_str ca_nil))) (ca_cons (ce_lst (ca_cons ce_str (ca_cons ce_str ca_nil))) (ca_cons ce_str (ca_cons ce_str (ca_cons (ce_tup (ca_cons ce_str ca_nil)) ca_nil))))))))))))
    (css_cons (cs_set (i := 2) sc__law_bent.nd (ce_op op_addA sim_add (ce_var 2) (ce_lst (ca_cons (ce_op op_pow sim_pow ce_int ce_int) (ca_cons (ce_tup (ca_cons ce_str (ca_cons ce_str ca_nil))) ca_nil)))))
    (css_cons (cs_if (ct_cmp (op_eqA hr.units0) sim_eq (ce_var 4) ce_int (nomark _)) (css_one (cs_ret (ce_op op_addA sim_add (ce_sl (ce_var 1) co_none (co_some (ce_var 3))) (ce_sl (ce_var 1) (co_some (ce_op op_addA sim_add (ce_var 3) ce_int)) co_none)))) css_nil)
    (css_cons (cs_if (ct_cmp (op_eqA hr.units0) sim_eq (ce_var 4) ce_int (nomark _)) (css_one (cs_ret (ce_op op_addA sim_add (ce_op op_addA sim_add (ce_sl (ce_var 1) co_none (co_some (ce_var 3))) (ce_sl (ce_var 1) (co_some (ce_var 3)) (co_some (ce_op op_addA sim_add (ce_var 3) ce_int)))) (ce_sl (ce_var 1) (co_some (ce_var 3)) co_none)))) css_nil)
    (css_cons (cs_if (ct_cmp (op_eqA hr.units0) sim_eq (ce_var 4) ce_int (nomark _)) (css_one (cs_ret (ce_ix ix_seq sim_ix (ce_lst (ca_cons (ce_callTy call_list_of sim_list (by rfl) T.n_list bb_list (ca_cons (ce_var 1) ca_nil)) (ca_cons (ce_tup (ca_cons (ce_var 1) ca_nil)) (ca_cons (ce_ix ix_seq sim_ix (ce_var 1) ce_int (fun _ _ => rfl)) (ca_cons ce_non (ca_cons ce_dict0 (ca_cons (ce_rev (ce_var 1)) (ca_cons (ce_tup ca_nil) (ca_cons ce_int ca_nil))))))))) (ce_call (ok__law_draw T) (hr.mono (by decide)) (by rfl) (ca_cons (ce_var 0) (ca_cons ce_int ca_nil))) (fun _ _ => rfl)))) css_nil)
    (css_cons (cs_if (cw_t (cw_and (ct_cmp op_lt sim_lt (ce_var 4) ce_int (nomark _)) (cw_and1 (ct_cmp op_gt sim_gt (ce_var 3) ce_int (nomark _))))) (css_one (cs_ret (ce_op op_addA sim_add (ce_op op_addA sim_add (ce_sl (ce_var 1) co_none (co_some (ce_var 3))) (ce_tup (ca_cons (ce_call (ok__law_odd_term T) (hr.mono (by decide)) (by rfl) (ca_cons (ce_var 0) (ca_cons (ce_ix ix_seq sim_ix (ce_var 1) ce_int (fun _ _ => rfl)) ca_nil))) ca_nil))) (ce_sl (ce_var 1) (co_some (ce_op op_addA sim_add (ce_var 3) ce_int)) co_none)))) css_nil)
    (css_one (cs_ret (ce_op op_addA sim_add (ce_op op_addA sim_add (ce_sl (ce_var 1) co_none (co_some (ce_var 3))) (ce_tup (ca_cons (ce_ix ix_seq sim_ix (ce_var 2) (ce_call (ok__law_draw T) (hr.mono (by decide)) (by rfl) (ca_cons (ce_var 0) (ca_cons ce_int ca_nil))) (fun _ _ => rfl)) ca_nil))) (ce_sl (ce_var 1) (co_some (ce_op op_addA sim_add (ce_var 3) ce_int)) co_none))))))))))))
theorem ok__law_right {P : Program} {w : World} {K : PySem.W.Frag} {mg : Str → Option Value} {base : Heap} (T : Txt K mg w) : FM P w K mg base 6 "_law_right" 1 m__law_right := by
  obtain ⟨fd, F⟩ := T.d__law_right
  refine (fm_of (N := N__law_right) F T.g__law_right sc__law_right (FunD.bindsN F fun _ _ _ _ _ _ us hl => match us, hl with | [_], _ => rfl) fun cdv A outer s H E hr => ?_)
  exact (css_cons (cs_for PassesOwn.never rfl (ci_range1 (by rfl) T.n_range (ca_cons ce_int ca_nil)) (cg_name (i := 1) sc__law_right.nd) (css_cons (cs_set (i := 2) sc__law_right.nd (ce_call (ok__law_good T) (hr.mono (by decide)) (by rfl) (ca_cons (ce_var 0) ca_nil)))
    (css_cons (cs_if (cw_t (cw_or (ct_not (ct_val (ce_call (ok__law_due T) (hr.mono (by decide)) (by rfl) (ca_cons (ce_var 2) ca_nil)))) (cw_or1 (ct_not (ct_val (ce_call (ok__law_told T) (hr.mono (by decide)) (by rfl) (ca_cons (ce_call (ok_is_command T) (hr.mono (by decide)) (by rfl) (ca_cons (ce_var 2) ca_nil)) (ca_cons ce_bl ca_nil)))))))) (css_one (cs_ret ce_bl)) css_nil)
    (css_cons (cs_for PassesOwn.never rfl (ci_range1 (by rfl) T.n_range (ca_cons ce_int ca_nil)) (cg_name (i := 3) sc__law_right.nd) (css_cons (cs_set (i := 6) sc__law_right.nd (ce_call (ok__law_bent T) (hr.mono (by decide)) (by rfl) (ca_cons (ce_var 0) (ca_cons (ce_var 2) ca_nil))))
    (css_one (cs_if (cw_t (cw_or (ct_not (ct_val (ce_call (ok__law_told T) (hr.mono (by decide)) (by rfl) (ca_cons (ce_call (ok_is_command T) (hr.mono (by decide)) (by rfl) (ca_cons (ce_var 6) ca_nil)) (ca_cons (ce_call (ok__law_due T) (hr.mono (by decide)) (by rfl) (ca_cons (ce_var 6) ca_nil)) ca_nil))))) (cw_or1 (ct_not (ct_val (ce_call (ok__law_told T) (hr.mono (by decide)) (by rfl) (ca_cons (ce_call (ok_is_command T) (hr.mono (by decide)) (by rfl) (ca_cons (ce_var 2) ca_nil)) (ca_cons ce_bl ca_nil)))))))) (css_one (cs_ret ce_bl)) css_nil))))
    (css_cons (cs_set (i := 4) sc__law_right.nd (ce_call (ok__law_odd_term T) (hr.mono (by decide)) (by rfl) (ca_cons (ce_var 0) (ca_cons (ce_ix ix_seq sim_ix (ce_var 2) ce_int (fun _ _ => rfl)) ca_nil))))
    (css_one (cs_for PassesOwn.never rfl (ci_any (ce_lst (ca_cons (ce_ix ix_seq sim_ix (ce_var 2) ce_int (fun _ _ => rfl)) (ca_cons (ce_var 4) (ca_cons (ce_var 2) (ca_cons (ce_sl (ce_var 2) (co_some ce_int) (co_some ce_int)) ca_nil)))))) (cg_name (i := 5) sc__law_right.nd) (css_one (cs_if (ct_not (ct_val (ce_call (ok__law_told T) (hr.mono (by decide)) (by rfl) (ca_cons (ce_call (ok_is_name T) (hr.mono (by decide)) (by rfl) (ca_cons (ce_var 5) ca_nil)) (ca_cons (ce_call (ok__law_named T) (hr.mono (by decide)) (by rfl) (ca_cons (ce_var 5) ca_nil)) ca_nil))))) (css_one (cs_ret ce_bl)) css_nil)))))))))
    (css_one (cs_ret ce_bl)))
theorem ok__law_heap {P : Program} {w : World} {K : PySem.W.Frag} {mg : Str → Option Value} {base : Heap} (T : Txt K mg w) : FM P w K mg base 1 "_law_heap" 1 m__law_heap := by
  obtain ⟨fd, F⟩ := T.d__law_heap
  refine (fm_ofK (N := N__law_heap) F T.g__law_heap sc__law_heap (FunD.bindsN F fun _ _ _ _ _ _ us hl => match us, hl with | [_], _ => rfl) fun cdv A outer s H E hr => ?_)
  exact (css_cons (cs_if (cw_t (cw_or (ct_cmp op_lt sim_lt (ce_var 0) ce_int (nomark _)) (cw_or1 (ct_cmp op_ge sim_ge (ce_var 0) (ce_op op_pow sim_pow ce_int ce_int) (nomark _))))) (css_one (cs_ret (ce_lstM (ca_cons (ce_callB call_abs sim_abs (by rfl) T.n_abs bb_abs (ca_cons (ce_var 0) ca_nil)) (ca_cons (ce_op op_addA sim_add (ce_op op_mulA sim_mul (ce_op op_mod sim_mod (ce_var 0) ce_int) ce_int) ce_int) (ca_cons ce_int ca_nil)))))) css_nil)
    (css_one (cs_ret (ce_lstM (ca_cons ce_int (ca_cons (ce_op op_addA sim_add (ce_op op_mulA sim_mul (ce_op op_mod sim_mod (ce_var 0) ce_int) ce_int) ce_int) (ca_cons ce_int ca_nil)))))))
theorem ok__law_cell {P : Program} {w : World} {K : PySem.W.Frag} {mg : Str → Option Value} {base : Heap} (T : Txt K mg w) : FM P w K mg base 1 "_law_cell" 2 m__law_cell := by
  obtain ⟨fd, F⟩ := T.d__law_cell
  refine (fm_of (N := N__law_cell) F T.g__law_cell sc__law_cell (FunD.bindsN F fun _ _ _ _ _ _ us hl => match us, hl with | [_, _], _ => rfl) fun cdv A outer s H E hr => ?_)
  exact (css_cons (cs_if (ct_cmp op_lt sim_lt (ce_var 1) (ce_callB call_len sim_len (by rfl) T.n_len bb_len (ca_cons (ce_var 0) ca_nil)) (nomark _)) (css_one (cs_ret (ce_ix ix_seq sim_ix (ce_var 0) (ce_var 1) (fun _ _ => rfl)))) css_nil)
    (css_cons (cs_set (i := 2) sc__law_cell.nd (ce_op op_mod sim_mod (ce_op op_mulA sim_mul ce_int (ce_op op_addA sim_add (ce_op op_addA sim_add (ce_op op_mulA sim_mul (ce_var 1) (ce_var 1)) (ce_op op_mulA sim_mul ce_int (ce_var 1))) ce_int)) ce_int))
    (css_cons (cs_for PassesOwn.never rfl (ci_any (ce_sl (ce_var 0) co_none (co_some ce_int))) (cg_name (i := 3) sc__law_cell.nd) (css_one (cs_set (i := 2) sc__law_cell.nd (ce_op op_mod sim_mod (ce_op op_addA sim_add (ce_op op_mulA sim_mul (ce_var 2) ce_int) (ce_var 3)) ce_int))))
    (css_one (cs_ret (ce_var 2))))))
theorem ok_law {P : Program} {w : World} {K : PySem.W.Frag} {mg : Str → Option Value} {base : Heap} (T : Txt K mg w) : FM P w K mg base 7 "law" 1 m_law := by
  obtain ⟨fd, F⟩ := T.d_law
  refine (fm_of (N := N_law) F T.g_law sc_law (FunD.bindsN F fun _ _ _ _ _ _ us hl => match us, hl with | [_], _ => rfl) fun cdv A outer s H E hr => ?_)
  exact (css_one (cs_ret (ce_callB (cr_all rfl) sim_all (by rfl) T.n_all bb_all (ca_cons (ce_lc (own := [("_law_k", 1)]) rfl sc_law.nd (blkOk_by (own := [("_law_k", 1)]) (N := N_law) (sc := defScope s_law) (by decide +kernel)) (ci_range1 (by rfl) T.n_range (ca_cons (ce_callB (call_max2 rfl) sim_max2 (by rfl) T.n_max bb_max (ca_cons ce_int (ca_cons (ce_callB (call_min2 rfl) sim_min2 (by rfl) T.n_min bb_min (ca_cons (ce_callB call_len sim_len (by rfl) T.n_len bb_len (ca_cons (ce_var 0) ca_nil)) (ca_cons ce_int ca_nil))) ca_nil))) ca_nil)) (fun _ _ _ _ _ => (cgw_name (i := 1) sc_law.nd)) (fun _ _ _ _ _ => cts_nil) (fun _ _ _ _ _ => (ce_call (ok__law_right T) (hr.mono (by decide)) (by rfl) (ca_cons (ce_call (ok__law_heap T) (hr.mono (by decide)) (by rfl) (ca_cons (ce_call (ok__law_cell T) (hr.mono (by decide)) (by rfl) (ca_cons (ce_var 0) (ca_cons (ce_var 1) ca_nil))) ca_nil)) ca_nil)))) ca_nil))))
theorem fn_law {P : Program} {w : World} {K : PySem.W.Frag} {mg : Str → Option Value} {base : Heap} {fd : FuncData} (T : Txt K mg w) (F : FunD K "law" "law" (defArgs s_law) (defBody s_law) (defScope s_law) [] [] (He.ga K "law") fd) : FnOk P w K mg base CX0 7 (He.ga K "law") fd ["_law_script"] (sp0 K 1 m_law) := by
  refine fnd_of (N := N_law) F sc_law fun cdv A outer s H E hr => ?_
  exact (css_one (cs_ret (ce_callB (cr_all rfl) sim_all (by rfl) T.n_all bb_all (ca_cons (ce_lc (own := [("_law_k", 1)]) rfl sc_law.nd (blkOk_by (own := [("_law_k", 1)]) (N := N_law) (sc := defScope s_law) (by decide +kernel)) (ci_range1 (by rfl) T.n_range (ca_cons (ce_callB (call_max2 rfl) sim_max2 (by rfl) T.n_max bb_max (ca_cons ce_int (ca_cons (ce_callB (call_min2 rfl) sim_min2 (by rfl) T.n_min bb_min (ca_cons (ce_callB call_len sim_len (by rfl) T.n_len bb_len (ca_cons (ce_var 0) ca_nil)) (ca_cons ce_int ca_nil))) ca_nil))) ca_nil)) (fun _ _ _ _ _ => (cgw_name (i := 1) sc_law.nd)) (fun _ _ _ _ _ => cts_nil) (fun _ _ _ _ _ => (ce_call (ok__law_right T) (hr.mono (by decide)) (by rfl) (ca_cons (ce_call (ok__law_heap T) (hr.mono (by decide)) (by rfl) (ca_cons (ce_call (ok__law_cell T) (hr.mono (by decide)) (by rfl) (ca_cons (ce_var 0) (ca_cons (ce_var 1) ca_nil))) ca_nil)) ca_nil)))) ca_nil))))
end Lw

namespace Lw
open PySem PySem.Spec PyProof.Rows L2 Mm Gc
def fn : List He.DefD := ([e__law_draw, e__law_term, e__law_terms, e__law_number, e__law_good, e__law_named, e__law_in, e__law_due, e__law_told, e_is_name, e_are_names, e_is_whole, e_is_within, e_is_number, e_is_value, e_is_by] : List He.DefD) ++ ([e_is_lane, e_is_part, e_is_command, e__law_odd_term, e__law_bent, e__law_right, e__law_heap, e__law_cell, e_law] : List He.DefD)
def fa : List He.Fa := ([.glo "_law_draw", .glo "_law_term", .glo "_law_terms", .glo "_law_number", .glo "_law_good", .glo "_law_named", .glo "_law_in", .glo "_law_due", .glo "_law_told", .glo "is_name", .glo "are_names", .glo "is_whole", .glo "is_within", .glo "is_number", .glo "is_value", .glo "is_by"] : List He.Fa) ++ ([.glo "is_lane", .glo "is_part", .glo "is_command", .glo "_law_odd_term", .glo "_law_bent", .glo "_law_right", .glo "_law_heap", .glo "_law_cell", .glo "law", .glo "PARTS", .glo "FORMS", .free "abs", .free "all", .free "bool", .free "divmod", .free "int"] : List He.Fa) ++ ([.free "isinstance", .free "len", .free "list", .free "max", .free "min", .free "range", .free "str", .free "tuple", .free "zip", .int "MOST_SIGNS" 6, .int "MOST_LANES" 6, .int "MOST_NUMBER" 999999, .int "MOST_VALUE" 9999, .int "MOST_BY" 99, .int "MOST_FROMS" 3, .str "LETTERS" "abcdefghijklmnopqrstuvwxyz"] : List He.Fa) ++ ([.str "SIGNS" "abcdefghijklmnopqrstuvwxyz0123456789"] : List He.Fa)
def ts : List He.Tab := [(fun K => He.ga K "PARTS", kv_PARTS.map (·.1)), (fun K => He.ga K "FORMS", kv_FORMS.map (·.1))]
def ex (K : PySem.W.Frag) : Bool := kdwB K "PARTS" kv_PARTS && (kdwB K "FORMS" kv_FORMS)
def loose : List PySem.Str := (["is_whole", "is_within", "is_name", "are_names", "is_number", "is_value", "is_by", "is_lane", "is_part", "is_command", "_law_cell", "_law_heap", "_law_draw", "_law_term", "_law_terms", "_law_number"] : List PySem.Str) ++ (["_law_named", "_law_in", "_law_due", "_law_odd_term", "_law_good", "_law_bent", "_law_told", "_law_right", "PARTS", "FORMS", "MOST_SIGNS", "MOST_LANES", "MOST_NUMBER", "MOST_VALUE", "MOST_BY", "MOST_FROMS"] : List PySem.Str) ++ (["LETTERS", "SIGNS"] : List PySem.Str)
abbrev R : PySem.W.OpenRow := PySem.W.OpenLaw.row PySem.Challenge.rw_fencelanes_k01_names_and_commands
abbrev hk : PySem.W.Hook := He.hookX 4 fa fn ts [] ex
def ob (s : PySem.W.SharedT) : He.AlX := He.obsX 4 fa fn ts [] ex (HandSHeadRun.getT s)
theorem ob_eq (s : PySem.W.SharedT) : ob s = hk.obs s.abs := He.obsX_eq (HandSHeadRun.getT_eq s)
theorem runF (w : World) : HandSHeadRun.RunEq R (PySem.W.view R.prog [36]) hk ob 9000 loose (w.withFollow "special-get-raises" false) := by
  intro os
  kernel_rfl
theorem runT (w : World) : HandSHeadRun.RunEq R (PySem.W.view R.prog [36]) hk ob 9000 loose (w.withFollow "special-get-raises" true) := by
  intro os
  kernel_rfl
theorem run (w : World) : HandSHeadRun.RunEq R (PySem.W.view R.prog [36]) hk ob 9000 loose w :=
  PySem.W.byRow2 "special-get-raises" (P := fun w => HandSHeadRun.RunEq R (PySem.W.view R.prog [36]) hk ob 9000 loose w) runF runT w
theorem txt_of {K : PySem.W.Frag} {mg : Str → Option Value} {w : World} {h : Heap} (X : K.In h) (G : h.Ns mainGlobals mg) (c : He.SaysX fa fn ts [] ex w h K) : Txt K mg w where
  n_abs := He.free_ok X G (c.t.d.fact 27 (f := .free "abs") rfl)
  n_all := He.free_ok X G (c.t.d.fact 28 (f := .free "all") rfl)
  n_bool := He.free_ok X G (c.t.d.fact 29 (f := .free "bool") rfl)
  n_divmod := He.free_ok X G (c.t.d.fact 30 (f := .free "divmod") rfl)
  n_int := He.free_ok X G (c.t.d.fact 31 (f := .free "int") rfl)
  n_isinstance := He.free_ok X G (c.t.d.fact 32 (f := .free "isinstance") rfl)
  n_len := He.free_ok X G (c.t.d.fact 33 (f := .free "len") rfl)
  n_list := He.free_ok X G (c.t.d.fact 34 (f := .free "list") rfl)
  n_max := He.free_ok X G (c.t.d.fact 35 (f := .free "max") rfl)
  n_min := He.free_ok X G (c.t.d.fact 36 (f := .free "min") rfl)
  n_range := He.free_ok X G (c.t.d.fact 37 (f := .free "range") rfl)
  n_str := He.free_ok X G (c.t.d.fact 38 (f := .free "str") rfl)
  n_tuple := He.free_ok X G (c.t.d.fact 39 (f := .free "tuple") rfl)
  n_zip := He.free_ok X G (c.t.d.fact 40 (f := .free "zip") rfl)
  i_MOST_SIGNS := He.int_ok X G (c.t.d.fact 41 (f := .int "MOST_SIGNS" 6) rfl)
  i_MOST_LANES := He.int_ok X G (c.t.d.fact 42 (f := .int "MOST_LANES" 6) rfl)
  i_MOST_NUMBER := He.int_ok X G (c.t.d.fact 43 (f := .int "MOST_NUMBER" 999999) rfl)
  i_MOST_VALUE := He.int_ok X G (c.t.d.fact 44 (f := .int "MOST_VALUE" 9999) rfl)
  i_MOST_BY := He.int_ok X G (c.t.d.fact 45 (f := .int "MOST_BY" 99) rfl)
  i_MOST_FROMS := He.int_ok X G (c.t.d.fact 46 (f := .int "MOST_FROMS" 3) rfl)
  s_LETTERS := He.str_ok X G (c.t.d.fact 47 (f := .str "LETTERS" "abcdefghijklmnopqrstuvwxyz") rfl)
  s_SIGNS := He.str_ok X G (c.t.d.fact 48 (f := .str "SIGNS" "abcdefghijklmnopqrstuvwxyz0123456789") rfl)
  g__law_draw := He.glo_ok X G (c.t.d.fact 0 (f := .glo "_law_draw") rfl)
  g__law_term := He.glo_ok X G (c.t.d.fact 1 (f := .glo "_law_term") rfl)
  g__law_terms := He.glo_ok X G (c.t.d.fact 2 (f := .glo "_law_terms") rfl)
  g__law_number := He.glo_ok X G (c.t.d.fact 3 (f := .glo "_law_number") rfl)
  g__law_good := He.glo_ok X G (c.t.d.fact 4 (f := .glo "_law_good") rfl)
  g__law_named := He.glo_ok X G (c.t.d.fact 5 (f := .glo "_law_named") rfl)
  g__law_in := He.glo_ok X G (c.t.d.fact 6 (f := .glo "_law_in") rfl)
  g__law_due := He.glo_ok X G (c.t.d.fact 7 (f := .glo "_law_due") rfl)
  g__law_told := He.glo_ok X G (c.t.d.fact 8 (f := .glo "_law_told") rfl)
  g_is_name := He.glo_ok X G (c.t.d.fact 9 (f := .glo "is_name") rfl)
  g_are_names := He.glo_ok X G (c.t.d.fact 10 (f := .glo "are_names") rfl)
  g_is_whole := He.glo_ok X G (c.t.d.fact 11 (f := .glo "is_whole") rfl)
  g_is_within := He.glo_ok X G (c.t.d.fact 12 (f := .glo "is_within") rfl)
  g_is_number := He.glo_ok X G (c.t.d.fact 13 (f := .glo "is_number") rfl)
  g_is_value := He.glo_ok X G (c.t.d.fact 14 (f := .glo "is_value") rfl)
  g_is_by := He.glo_ok X G (c.t.d.fact 15 (f := .glo "is_by") rfl)
  g_is_lane := He.glo_ok X G (c.t.d.fact 16 (f := .glo "is_lane") rfl)
  g_is_part := He.glo_ok X G (c.t.d.fact 17 (f := .glo "is_part") rfl)
  g_is_command := He.glo_ok X G (c.t.d.fact 18 (f := .glo "is_command") rfl)
  g__law_odd_term := He.glo_ok X G (c.t.d.fact 19 (f := .glo "_law_odd_term") rfl)
  g__law_bent := He.glo_ok X G (c.t.d.fact 20 (f := .glo "_law_bent") rfl)
  g__law_right := He.glo_ok X G (c.t.d.fact 21 (f := .glo "_law_right") rfl)
  g__law_heap := He.glo_ok X G (c.t.d.fact 22 (f := .glo "_law_heap") rfl)
  g__law_cell := He.glo_ok X G (c.t.d.fact 23 (f := .glo "_law_cell") rfl)
  g_law := He.glo_ok X G (c.t.d.fact 24 (f := .glo "law") rfl)
  g_PARTS := He.glo_ok X G (c.t.d.fact 25 (f := .glo "PARTS") rfl)
  g_FORMS := He.glo_ok X G (c.t.d.fact 26 (f := .glo "FORMS") rfl)
  d__law_draw := c.t.d.def_ 0 (d := e__law_draw) rfl
  d__law_term := c.t.d.def_ 1 (d := e__law_term) rfl
  d__law_terms := c.t.d.def_ 2 (d := e__law_terms) rfl
  d__law_number := c.t.d.def_ 3 (d := e__law_number) rfl
  d__law_good := c.t.d.def_ 4 (d := e__law_good) rfl
  d__law_named := c.t.d.def_ 5 (d := e__law_named) rfl
  d__law_in := c.t.d.def_ 6 (d := e__law_in) rfl
  d__law_due := c.t.d.def_ 7 (d := e__law_due) rfl
  d__law_told := c.t.d.def_ 8 (d := e__law_told) rfl
  d_is_name := c.t.d.def_ 9 (d := e_is_name) rfl
  d_are_names := c.t.d.def_ 10 (d := e_are_names) rfl
  d_is_whole := c.t.d.def_ 11 (d := e_is_whole) rfl
  d_is_within := c.t.d.def_ 12 (d := e_is_within) rfl
  d_is_number := c.t.d.def_ 13 (d := e_is_number) rfl
  d_is_value := c.t.d.def_ 14 (d := e_is_value) rfl
  d_is_by := c.t.d.def_ 15 (d := e_is_by) rfl
  d_is_lane := c.t.d.def_ 16 (d := e_is_lane) rfl
  d_is_part := c.t.d.def_ 17 (d := e_is_part) rfl
  d_is_command := c.t.d.def_ 18 (d := e_is_command) rfl
  d__law_odd_term := c.t.d.def_ 19 (d := e__law_odd_term) rfl
  d__law_bent := c.t.d.def_ 20 (d := e__law_bent) rfl
  d__law_right := c.t.d.def_ 21 (d := e__law_right) rfl
  d__law_heap := c.t.d.def_ 22 (d := e__law_heap) rfl
  d__law_cell := c.t.d.def_ 23 (d := e__law_cell) rfl
  d_law := c.t.d.def_ 24 (d := e_law) rfl
  kd_PARTS := kdw_of (tab_key c.t 0 (t := (fun K => He.ga K "PARTS", kv_PARTS.map (·.1))) rfl) (Bool.and_eq_true_iff.mp c.more).1
  kd_FORMS := kdw_of (tab_key c.t 1 (t := (fun K => He.ga K "FORMS", kv_FORMS.map (·.1))) rfl) (Bool.and_eq_true_iff.mp c.more).2
end Lw

namespace Lw
open PySem Mm L2
theorem ix3a {a b c : W} : ixN [a, b, c].length 0 = some 0 := rfl
theorem ix3b {a b c : W} : ixN [a, b, c].length 1 = some 1 := rfl
theorem ix3c {a b c : W} : ixN [a, b, c].length 2 = some 2 := rfl
theorem draw_sat {n j : Nat} {T S : Sto} {many : Int} {Q : W → Sto → Prop} (g : Gd n T S) (hj : j < n) (h1 : 0 < many) (h2 : many < 1073741824) (k : ∀ r S', Gd n T S' → 0 ≤ r → r < many → Q (.int r) S') : Sat (m__law_draw [.loc j, .int many] S) Q := by
  obtain ⟨a, b, c, e⟩ := g.heap hj
  have hl : j < S.length := by have := g.len; omega
  simp only [m__law_draw, c__law_draw, satS, satP, satE]
  simp only [e, Option.some.injEq, O.lst.injEq, exists_eq_left', satS, satP, ix3a, ix3b, ix3c, List.getElem?_set_self hl, List.getElem?_set_self, List.length_set, hl, List.set_set, List.set_cons_zero, List.set_cons_succ]
  by_cases ha : 0 < a
  · rw [if_pos (decide_eq_true ha), if_pos ⟨h1, h2⟩, if_pos (show [W.int (a / many), W.int (a % many)].length = 2 from rfl)]
    have g' := g.setH hj (a / many) b (c + 1)
    exact fin_sat0 g' (by rw [g.len]) rfl (k _ _ g' (Int.emod_nonneg _ (by omega)) (Int.emod_lt_of_pos _ h1))
  · rw [if_neg (by simpa using ha), if_pos (by decide), if_pos (by decide), if_pos (by left; omega), if_pos (by left; decide), if_pos (by decide), if_pos (by decide), if_pos h1]
    have g' := g.setH hj a (b % 1000000087 * (b % 1000000087 % 52021 + 31013) + 90001 * (c + 1)) (c + 1)
    exact fin_sat0 g' (by rw [g.len]) rfl (k _ _ g' (Int.emod_nonneg _ (by omega)) (Int.emod_lt_of_pos _ h1))
def sgnW : W → Bool
  | .str x => (match x.cps.toList with
    | [c] => isSgn c
    | _ => false)
  | _ => false
theorem all_sgn {cs : List Nat} : (cs.map fun c => W.str ⟨#[c]⟩).all sgnW = cs.all isSgn := by
  rw [List.all_map]
  rfl
theorem is_name_ok {w : W} {S : Sto} (g : WS S) (h : datW w = true) : m_is_name [w] S = .ok (.bl (nmW w)) S := by
  refine sat_to ?_
  cases w with
  | str x =>
    have hz := comS_len (x := x) h
    simp only [m_is_name, c_is_name, sats, if_pos hz, fin_bl g, in_letters, itemsOf, nmW, nmL]
    rw [Str_len]
    rw [Str_len] at hz
    cases q : x.cps.toList with
    | nil => simp
    | cons c cs =>
      rw [q] at hz
      simp only [at0, Option.some.injEq, exists_eq_left']
      by_cases h6 : (c :: cs).length ≤ 6
      · cases hc : isLet c with
        | false => simp [h6]
        | true =>
          have h6' : ((c :: cs).length : Int) ≤ 6 := by omega
          simp only [h6, h6', decide_true, notT, notF, ifT, ifF]
          rw [if_pos (by simp; omega)]
          refine lc_sat (fun w => .bl (sgnW w)) (fun w hw => ?_) (by rw [List.length_map]; exact hz) ?_
          · obtain ⟨d, _, rfl⟩ := List.mem_map.mp hw
            simp only [sats, in_signs, sgnW, and_self]
          · refine ⟨_, bools_map sgnW, ?_⟩
            rw [List.all_map, fin_bl g]
            exact ⟨by rw [show (id ∘ sgnW) = sgnW from rfl, all_sgn]; simp, rfl⟩
      · have h6' : ¬((c :: cs).length : Int) ≤ 6 := by omega
        simp only [h6, h6', decide_false, notT, notF, ifT, ifF]
        simp
  | non => simp only [m_is_name, c_is_name, sats, fin_bl g, nmW, and_self]
  | bl b => simp only [m_is_name, c_is_name, sats, fin_bl g, nmW, and_self]
  | int i => simp only [m_is_name, c_is_name, sats, fin_bl g, nmW, and_self]
  | tup ws => simp only [m_is_name, c_is_name, sats, fin_bl g, nmW, and_self]
  | lst ws => simp only [m_is_name, c_is_name, sats, fin_bl g, nmW, and_self]
  | dct ks ws => simp only [m_is_name, c_is_name, sats, fin_bl g, nmW, and_self]
  | _ => unfold datW at h; cases h

/-! ### the package's questions -/
def whW : W → Bool
  | .int _ => true
  | _ => false
def inR (lo hi : Int) : W → Bool
  | .int i => decide (lo ≤ i) && decide (i ≤ hi)
  | _ => false
theorem sat_whole {w : W} {S : Sto} {Q : W → Sto → Prop} (g : WS S) (h : datW w = true) : Sat (m_is_whole [w] S) Q = Q (.bl (whW w)) S := by
  refine sat_eq (sat_to ?_) Q
  cases w with
  | non => simp only [m_is_whole, c_is_whole, sats, fin_bl g, whW, and_self]
  | bl b => simp only [m_is_whole, c_is_whole, sats, fin_bl g, whW, and_self]
  | int i => simp only [m_is_whole, c_is_whole, sats, fin_bl g, whW, and_self]
  | str x => simp only [m_is_whole, c_is_whole, sats, fin_bl g, whW, and_self]
  | tup ws => simp only [m_is_whole, c_is_whole, sats, fin_bl g, whW, and_self]
  | lst ws => simp only [m_is_whole, c_is_whole, sats, fin_bl g, whW, and_self]
  | dct ks ws => simp only [m_is_whole, c_is_whole, sats, fin_bl g, whW, and_self]
  | _ => unfold datW at h; cases h
theorem sat_within {w : W} {lo hi : Int} {S : Sto} {Q : W → Sto → Prop} (g : WS S) (h : datW w = true) : Sat (m_is_within [w, .int lo, .int hi] S) Q = Q (.bl (inR lo hi w)) S := by
  refine sat_eq (sat_to ?_) Q
  simp only [m_is_within, c_is_within, sats, sat_whole g h]
  cases w with
  | int i =>
    simp only [whW, sats, inR]
    by_cases z : lo ≤ i
    · simp only [z, decide_true, sats, fin_bl g, Bool.true_and, and_self]
    · simp only [z, decide_false, sats, fin_bl g, Bool.false_and, Bool.false_eq_true, and_self]
  | _ => simp only [whW, sats, inR, fin_bl g, Bool.false_eq_true, and_self]
theorem sat_in {w : W} {lo hi : Int} {S : Sto} {Q : W → Sto → Prop} (g : WS S) (h : datW w = true) : Sat (m__law_in [w, .int lo, .int hi] S) Q = Q (.bl (inR lo hi w)) S := by
  refine sat_eq (sat_to ?_) Q
  cases w with
  | int i =>
    simp only [m__law_in, c__law_in, sats, inR]
    by_cases z : lo ≤ i
    · simp only [z, decide_true, sats, fin_bl g, Bool.true_and, and_self]
    · simp only [z, decide_false, sats, fin_bl g, Bool.false_and, Bool.false_eq_true, and_self]
  | non => simp only [m__law_in, c__law_in, sats, inR, fin_bl g, and_self]
  | bl b => simp only [m__law_in, c__law_in, sats, inR, fin_bl g, and_self]
  | str x => simp only [m__law_in, c__law_in, sats, inR, fin_bl g, and_self]
  | tup ws => simp only [m__law_in, c__law_in, sats, inR, fin_bl g, and_self]
  | lst ws => simp only [m__law_in, c__law_in, sats, inR, fin_bl g, and_self]
  | dct ks ws => simp only [m__law_in, c__law_in, sats, inR, fin_bl g, and_self]
  | _ => unfold datW at h; cases h
theorem sat_name {w : W} {S : Sto} {Q : W → Sto → Prop} (g : WS S) (h : datW w = true) : Sat (m_is_name [w] S) Q = Q (.bl (nmW w)) S := sat_eq (is_name_ok g h) Q
def nmsW : W → Bool
  | .tup ws => decide (1 ≤ ws.length) && (decide (ws.length ≤ 3) && ws.all nmW)
  | _ => false
theorem sat_names {w : W} {S : Sto} {Q : W → Sto → Prop} (g : WS S) (h : datW w = true) : Sat (m_are_names [w] S) Q = Q (.bl (nmsW w)) S := by
  refine sat_eq (sat_to ?_) Q
  cases w with
  | tup ws =>
    simp only [m_are_names, c_are_names, sats, fin_bl g, itemsOf, nmsW]
    by_cases h1 : 1 ≤ ws.length
    · by_cases h3 : ws.length ≤ 3
      · have h1' : (1 : Int) ≤ ws.length := by omega
        have h3' : (ws.length : Int) ≤ 3 := by omega
        simp only [h1, h3, h1', h3', decide_true, sats]
        refine lc_sat (fun w => .bl (nmW w)) (fun w hw => ?_) (Nat.le_trans h3 (by decide)) ?_
        · simp only [sats, sat_name g (datWs_mem h hw), and_self]
        · refine ⟨_, bools_map nmW, ?_⟩
          rw [List.all_map, fin_bl g]
          exact ⟨by rw [show (id ∘ nmW) = nmW from rfl]; simp, rfl⟩
      · have h3' : ¬(ws.length : Int) ≤ 3 := by omega
        have h1' : (1 : Int) ≤ ws.length := by omega
        simp [h1, h3, h1', h3', sats]
    · have h1' : ¬(1 : Int) ≤ ws.length := by omega
      simp [h1, h1', sats]
  | non => simp only [m_are_names, c_are_names, sats, nmsW, fin_bl g, and_self]
  | bl b => simp only [m_are_names, c_are_names, sats, nmsW, fin_bl g, and_self]
  | int b => simp only [m_are_names, c_are_names, sats, nmsW, fin_bl g, and_self]
  | str x => simp only [m_are_names, c_are_names, sats, nmsW, fin_bl g, and_self]
  | lst ws => simp only [m_are_names, c_are_names, sats, nmsW, fin_bl g, and_self]
  | dct ks ws => simp only [m_are_names, c_are_names, sats, nmsW, fin_bl g, and_self]
  | _ => unfold datW at h; cases h
theorem sat_number {w : W} {S : Sto} {Q : W → Sto → Prop} (g : WS S) (h : datW w = true) : Sat (m_is_number [w] S) Q = Q (.bl (inR (-999999) 999999 w)) S := by
  simp only [m_is_number, c_is_number, sats, sat_within g h, fin_bl g]
theorem sat_value {w : W} {S : Sto} {Q : W → Sto → Prop} (g : WS S) (h : datW w = true) : Sat (m_is_value [w] S) Q = Q (.bl (inR 1 9999 w)) S := by
  simp only [m_is_value, c_is_value, sats, sat_within g h, fin_bl g]
theorem sat_by {w : W} {S : Sto} {Q : W → Sto → Prop} (g : WS S) (h : datW w = true) : Sat (m_is_by [w] S) Q = Q (.bl (inR 1 99 w)) S := by
  simp only [m_is_by, c_is_by, sats, sat_within g h, fin_bl g]
theorem sat_lane {w : W} {S : Sto} {Q : W → Sto → Prop} (g : WS S) (h : datW w = true) : Sat (m_is_lane [w] S) Q = Q (.bl (inR 0 5 w)) S := by
  simp only [m_is_lane, c_is_lane, sats, sat_within g h, fin_bl g, Int.reduceSub]
end Lw

namespace Lw
open PySem Mm L2
theorem lkp_name : kv_PARTS.lookup ("name" : Str) = some (.glo "is_name") := by rfl
theorem lkf_name : fs_is_part.lookup ("is_name" : Str) = some m_is_name := by rfl
theorem sat_part_name {w : W} {S : Sto} {Q : W → Sto → Prop} (g : WS S) (h : datW w = true) : Sat (m_is_part [.str "name", w] S) Q = Q (.bl (nmW w)) S := by
  simp only [m_is_part, c_is_part, sats, lkp_name, lkf_name, sat_name g h, fin_bl g]
theorem lkp_names : kv_PARTS.lookup ("names" : Str) = some (.glo "are_names") := by rfl
theorem lkf_names : fs_is_part.lookup ("are_names" : Str) = some m_are_names := by rfl
theorem sat_part_names {w : W} {S : Sto} {Q : W → Sto → Prop} (g : WS S) (h : datW w = true) : Sat (m_is_part [.str "names", w] S) Q = Q (.bl (nmsW w)) S := by
  simp only [m_is_part, c_is_part, sats, lkp_names, lkf_names, sat_names g h, fin_bl g]
theorem lkp_number : kv_PARTS.lookup ("number" : Str) = some (.glo "is_number") := by rfl
theorem lkf_number : fs_is_part.lookup ("is_number" : Str) = some m_is_number := by rfl
theorem sat_part_number {w : W} {S : Sto} {Q : W → Sto → Prop} (g : WS S) (h : datW w = true) : Sat (m_is_part [.str "number", w] S) Q = Q (.bl (inR (-999999) 999999 w)) S := by
  simp only [m_is_part, c_is_part, sats, lkp_number, lkf_number, sat_number g h, fin_bl g]
theorem lkp_value : kv_PARTS.lookup ("value" : Str) = some (.glo "is_value") := by rfl
theorem lkf_value : fs_is_part.lookup ("is_value" : Str) = some m_is_value := by rfl
theorem sat_part_value {w : W} {S : Sto} {Q : W → Sto → Prop} (g : WS S) (h : datW w = true) : Sat (m_is_part [.str "value", w] S) Q = Q (.bl (inR 1 9999 w)) S := by
  simp only [m_is_part, c_is_part, sats, lkp_value, lkf_value, sat_value g h, fin_bl g]
theorem lkp_by : kv_PARTS.lookup ("by" : Str) = some (.glo "is_by") := by rfl
theorem lkf_by : fs_is_part.lookup ("is_by" : Str) = some m_is_by := by rfl
theorem sat_part_by {w : W} {S : Sto} {Q : W → Sto → Prop} (g : WS S) (h : datW w = true) : Sat (m_is_part [.str "by", w] S) Q = Q (.bl (inR 1 99 w)) S := by
  simp only [m_is_part, c_is_part, sats, lkp_by, lkf_by, sat_by g h, fin_bl g]
theorem lkp_lane : kv_PARTS.lookup ("lane" : Str) = some (.glo "is_lane") := by rfl
theorem lkf_lane : fs_is_part.lookup ("is_lane" : Str) = some m_is_lane := by rfl
theorem sat_part_lane {w : W} {S : Sto} {Q : W → Sto → Prop} (g : WS S) (h : datW w = true) : Sat (m_is_part [.str "lane", w] S) Q = Q (.bl (inR 0 5 w)) S := by
  simp only [m_is_part, c_is_part, sats, lkp_lane, lkf_lane, sat_lane g h, fin_bl g]
/-- what is a command -/
def cmdW : W → Bool
  | .tup (.str x :: ws) =>
    if x = "put" then (match ws with
      | [a, b] => nmW a && (inR (-999999) 999999 b)
      | _ => false)
    else if x = "copy" then (match ws with
      | [a, b] => nmW a && (nmW b)
      | _ => false)
    else if x = "reckon" then (match ws with
      | [a, b, c] => nmW a && (nmsW b && (nmW c))
      | _ => false)
    else if x = "look" then (match ws with
      | [a] => nmW a
      | _ => false)
    else if x = "show" then (match ws with
      | [a] => nmW a
      | _ => false)
    else if x = "wait" then (match ws with
      | [a, b] => nmW a && (inR 1 9999 b)
      | _ => false)
    else if x = "set" then (match ws with
      | [a, b] => nmW a && (inR 1 99 b)
      | _ => false)
    else if x = "give" then (match ws with
      | [a, b] => nmW a && (inR 0 5 b)
      | _ => false)
    else if x = "take" then (match ws with
      | [a] => nmW a
      | _ => false)
    else false
  | _ => false
theorem lk_put : kv_FORMS.lookup ("put" : Str) = some (.ktp [.str "name", .str "number"]) := by rfl
theorem lk_copy : kv_FORMS.lookup ("copy" : Str) = some (.ktp [.str "name", .str "name"]) := by rfl
theorem lk_reckon : kv_FORMS.lookup ("reckon" : Str) = some (.ktp [.str "name", .str "names", .str "name"]) := by rfl
theorem lk_look : kv_FORMS.lookup ("look" : Str) = some (.ktp [.str "name"]) := by rfl
theorem lk_show : kv_FORMS.lookup ("show" : Str) = some (.ktp [.str "name"]) := by rfl
theorem lk_wait : kv_FORMS.lookup ("wait" : Str) = some (.ktp [.str "name", .str "value"]) := by rfl
theorem lk_set : kv_FORMS.lookup ("set" : Str) = some (.ktp [.str "name", .str "by"]) := by rfl
theorem lk_give : kv_FORMS.lookup ("give" : Str) = some (.ktp [.str "name", .str "lane"]) := by rfl
theorem lk_take : kv_FORMS.lookup ("take" : Str) = some (.ktp [.str "name"]) := by rfl
theorem lk_none {x : Str} (h0 : ¬x = ("put" : Str)) (h1 : ¬x = ("copy" : Str)) (h2 : ¬x = ("reckon" : Str)) (h3 : ¬x = ("look" : Str)) (h4 : ¬x = ("show" : Str)) (h5 : ¬x = ("wait" : Str)) (h6 : ¬x = ("set" : Str)) (h7 : ¬x = ("give" : Str)) (h8 : ¬x = ("take" : Str)) : kv_FORMS.lookup x = none := by
  simp only [kv_FORMS, List.lookup, beq_eq_false_iff_ne.mpr h0, beq_eq_false_iff_ne.mpr h1, beq_eq_false_iff_ne.mpr h2, beq_eq_false_iff_ne.mpr h3, beq_eq_false_iff_ne.mpr h4, beq_eq_false_iff_ne.mpr h5, beq_eq_false_iff_ne.mpr h6, beq_eq_false_iff_ne.mpr h7, beq_eq_false_iff_ne.mpr h8]
end Lw

namespace Lw
open PySem Mm L2
theorem ne_put_copy : (("put" : Str) = "copy") = False := eq_false (by decide +kernel)
theorem ne_put_reckon : (("put" : Str) = "reckon") = False := eq_false (by decide +kernel)
theorem ne_put_look : (("put" : Str) = "look") = False := eq_false (by decide +kernel)
theorem ne_put_show : (("put" : Str) = "show") = False := eq_false (by decide +kernel)
theorem ne_put_wait : (("put" : Str) = "wait") = False := eq_false (by decide +kernel)
theorem ne_put_set : (("put" : Str) = "set") = False := eq_false (by decide +kernel)
theorem ne_put_give : (("put" : Str) = "give") = False := eq_false (by decide +kernel)
theorem ne_put_take : (("put" : Str) = "take") = False := eq_false (by decide +kernel)
theorem ne_copy_put : (("copy" : Str) = "put") = False := eq_false (by decide +kernel)
theorem ne_copy_reckon : (("copy" : Str) = "reckon") = False := eq_false (by decide +kernel)
theorem ne_copy_look : (("copy" : Str) = "look") = False := eq_false (by decide +kernel)
theorem ne_copy_show : (("copy" : Str) = "show") = False := eq_false (by decide +kernel)
theorem ne_copy_wait : (("copy" : Str) = "wait") = False := eq_false (by decide +kernel)
theorem ne_copy_set : (("copy" : Str) = "set") = False := eq_false (by decide +kernel)
theorem ne_copy_give : (("copy" : Str) = "give") = False := eq_false (by decide +kernel)
theorem ne_copy_take : (("copy" : Str) = "take") = False := eq_false (by decide +kernel)
theorem ne_reckon_put : (("reckon" : Str) = "put") = False := eq_false (by decide +kernel)
theorem ne_reckon_copy : (("reckon" : Str) = "copy") = False := eq_false (by decide +kernel)
theorem ne_reckon_look : (("reckon" : Str) = "look") = False := eq_false (by decide +kernel)
theorem ne_reckon_show : (("reckon" : Str) = "show") = False := eq_false (by decide +kernel)
theorem ne_reckon_wait : (("reckon" : Str) = "wait") = False := eq_false (by decide +kernel)
theorem ne_reckon_set : (("reckon" : Str) = "set") = False := eq_false (by decide +kernel)
theorem ne_reckon_give : (("reckon" : Str) = "give") = False := eq_false (by decide +kernel)
theorem ne_reckon_take : (("reckon" : Str) = "take") = False := eq_false (by decide +kernel)
theorem ne_look_put : (("look" : Str) = "put") = False := eq_false (by decide +kernel)
theorem ne_look_copy : (("look" : Str) = "copy") = False := eq_false (by decide +kernel)
theorem ne_look_reckon : (("look" : Str) = "reckon") = False := eq_false (by decide +kernel)
theorem ne_look_show : (("look" : Str) = "show") = False := eq_false (by decide +kernel)
theorem ne_look_wait : (("look" : Str) = "wait") = False := eq_false (by decide +kernel)
theorem ne_look_set : (("look" : Str) = "set") = False := eq_false (by decide +kernel)
theorem ne_look_give : (("look" : Str) = "give") = False := eq_false (by decide +kernel)
theorem ne_look_take : (("look" : Str) = "take") = False := eq_false (by decide +kernel)
theorem ne_show_put : (("show" : Str) = "put") = False := eq_false (by decide +kernel)
theorem ne_show_copy : (("show" : Str) = "copy") = False := eq_false (by decide +kernel)
theorem ne_show_reckon : (("show" : Str) = "reckon") = False := eq_false (by decide +kernel)
theorem ne_show_look : (("show" : Str) = "look") = False := eq_false (by decide +kernel)
theorem ne_show_wait : (("show" : Str) = "wait") = False := eq_false (by decide +kernel)
theorem ne_show_set : (("show" : Str) = "set") = False := eq_false (by decide +kernel)
theorem ne_show_give : (("show" : Str) = "give") = False := eq_false (by decide +kernel)
theorem ne_show_take : (("show" : Str) = "take") = False := eq_false (by decide +kernel)
theorem ne_wait_put : (("wait" : Str) = "put") = False := eq_false (by decide +kernel)
theorem ne_wait_copy : (("wait" : Str) = "copy") = False := eq_false (by decide +kernel)
theorem ne_wait_reckon : (("wait" : Str) = "reckon") = False := eq_false (by decide +kernel)
theorem ne_wait_look : (("wait" : Str) = "look") = False := eq_false (by decide +kernel)
theorem ne_wait_show : (("wait" : Str) = "show") = False := eq_false (by decide +kernel)
theorem ne_wait_set : (("wait" : Str) = "set") = False := eq_false (by decide +kernel)
theorem ne_wait_give : (("wait" : Str) = "give") = False := eq_false (by decide +kernel)
theorem ne_wait_take : (("wait" : Str) = "take") = False := eq_false (by decide +kernel)
theorem ne_set_put : (("set" : Str) = "put") = False := eq_false (by decide +kernel)
theorem ne_set_copy : (("set" : Str) = "copy") = False := eq_false (by decide +kernel)
theorem ne_set_reckon : (("set" : Str) = "reckon") = False := eq_false (by decide +kernel)
theorem ne_set_look : (("set" : Str) = "look") = False := eq_false (by decide +kernel)
theorem ne_set_show : (("set" : Str) = "show") = False := eq_false (by decide +kernel)
theorem ne_set_wait : (("set" : Str) = "wait") = False := eq_false (by decide +kernel)
theorem ne_set_give : (("set" : Str) = "give") = False := eq_false (by decide +kernel)
theorem ne_set_take : (("set" : Str) = "take") = False := eq_false (by decide +kernel)
theorem ne_give_put : (("give" : Str) = "put") = False := eq_false (by decide +kernel)
theorem ne_give_copy : (("give" : Str) = "copy") = False := eq_false (by decide +kernel)
theorem ne_give_reckon : (("give" : Str) = "reckon") = False := eq_false (by decide +kernel)
theorem ne_give_look : (("give" : Str) = "look") = False := eq_false (by decide +kernel)
theorem ne_give_show : (("give" : Str) = "show") = False := eq_false (by decide +kernel)
theorem ne_give_wait : (("give" : Str) = "wait") = False := eq_false (by decide +kernel)
theorem ne_give_set : (("give" : Str) = "set") = False := eq_false (by decide +kernel)
theorem ne_give_take : (("give" : Str) = "take") = False := eq_false (by decide +kernel)
theorem ne_take_put : (("take" : Str) = "put") = False := eq_false (by decide +kernel)
theorem ne_take_copy : (("take" : Str) = "copy") = False := eq_false (by decide +kernel)
theorem ne_take_reckon : (("take" : Str) = "reckon") = False := eq_false (by decide +kernel)
theorem ne_take_look : (("take" : Str) = "look") = False := eq_false (by decide +kernel)
theorem ne_take_show : (("take" : Str) = "show") = False := eq_false (by decide +kernel)
theorem ne_take_wait : (("take" : Str) = "wait") = False := eq_false (by decide +kernel)
theorem ne_take_set : (("take" : Str) = "set") = False := eq_false (by decide +kernel)
theorem ne_take_give : (("take" : Str) = "give") = False := eq_false (by decide +kernel)
theorem keysNe : type_of% (And.intro @ne_put_copy (And.intro @ne_put_reckon (And.intro @ne_put_look (And.intro @ne_put_show (And.intro @ne_put_wait (And.intro @ne_put_set (And.intro @ne_put_give (And.intro @ne_put_take (And.intro @ne_copy_put (And.intro @ne_copy_reckon (And.intro @ne_copy_look (And.intro @ne_copy_show (And.intro @ne_copy_wait (And.intro @ne_copy_set (And.intro @ne_copy_give (And.intro @ne_copy_take (And.intro @ne_reckon_put (And.intro @ne_reckon_copy (And.intro @ne_reckon_look (And.intro @ne_reckon_show (And.intro @ne_reckon_wait (And.intro @ne_reckon_set (And.intro @ne_reckon_give (And.intro @ne_reckon_take (And.intro @ne_look_put (And.intro @ne_look_copy (And.intro @ne_look_reckon (And.intro @ne_look_show (And.intro @ne_look_wait (And.intro @ne_look_set (And.intro @ne_look_give (And.intro @ne_look_take (And.intro @ne_show_put (And.intro @ne_show_copy (And.intro @ne_show_reckon (And.intro @ne_show_look (And.intro @ne_show_wait (And.intro @ne_show_set (And.intro @ne_show_give (And.intro @ne_show_take (And.intro @ne_wait_put (And.intro @ne_wait_copy (And.intro @ne_wait_reckon (And.intro @ne_wait_look (And.intro @ne_wait_show (And.intro @ne_wait_set (And.intro @ne_wait_give (And.intro @ne_wait_take (And.intro @ne_set_put (And.intro @ne_set_copy (And.intro @ne_set_reckon (And.intro @ne_set_look (And.intro @ne_set_show (And.intro @ne_set_wait (And.intro @ne_set_give (And.intro @ne_set_take (And.intro @ne_give_put (And.intro @ne_give_copy (And.intro @ne_give_reckon (And.intro @ne_give_look (And.intro @ne_give_show (And.intro @ne_give_wait (And.intro @ne_give_set (And.intro @ne_give_take (And.intro @ne_take_put (And.intro @ne_take_copy (And.intro @ne_take_reckon (And.intro @ne_take_look (And.intro @ne_take_show (And.intro @ne_take_wait (And.intro @ne_take_set @ne_take_give))))))))))))))))))))))))))))))))))))))))))))))))))))))))))))))))))))))) :=
  (And.intro @ne_put_copy (And.intro @ne_put_reckon (And.intro @ne_put_look (And.intro @ne_put_show (And.intro @ne_put_wait (And.intro @ne_put_set (And.intro @ne_put_give (And.intro @ne_put_take (And.intro @ne_copy_put (And.intro @ne_copy_reckon (And.intro @ne_copy_look (And.intro @ne_copy_show (And.intro @ne_copy_wait (And.intro @ne_copy_set (And.intro @ne_copy_give (And.intro @ne_copy_take (And.intro @ne_reckon_put (And.intro @ne_reckon_copy (And.intro @ne_reckon_look (And.intro @ne_reckon_show (And.intro @ne_reckon_wait (And.intro @ne_reckon_set (And.intro @ne_reckon_give (And.intro @ne_reckon_take (And.intro @ne_look_put (And.intro @ne_look_copy (And.intro @ne_look_reckon (And.intro @ne_look_show (And.intro @ne_look_wait (And.intro @ne_look_set (And.intro @ne_look_give (And.intro @ne_look_take (And.intro @ne_show_put (And.intro @ne_show_copy (And.intro @ne_show_reckon (And.intro @ne_show_look (And.intro @ne_show_wait (And.intro @ne_show_set (And.intro @ne_show_give (And.intro @ne_show_take (And.intro @ne_wait_put (And.intro @ne_wait_copy (And.intro @ne_wait_reckon (And.intro @ne_wait_look (And.intro @ne_wait_show (And.intro @ne_wait_set (And.intro @ne_wait_give (And.intro @ne_wait_take (And.intro @ne_set_put (And.intro @ne_set_copy (And.intro @ne_set_reckon (And.intro @ne_set_look (And.intro @ne_set_show (And.intro @ne_set_wait (And.intro @ne_set_give (And.intro @ne_set_take (And.intro @ne_give_put (And.intro @ne_give_copy (And.intro @ne_give_reckon (And.intro @ne_give_look (And.intro @ne_give_show (And.intro @ne_give_wait (And.intro @ne_give_set (And.intro @ne_give_take (And.intro @ne_take_put (And.intro @ne_take_copy (And.intro @ne_take_reckon (And.intro @ne_take_look (And.intro @ne_take_show (And.intro @ne_take_wait (And.intro @ne_take_set @ne_take_give)))))))))))))))))))))))))))))))))))))))))))))))))))))))))))))))))))))))
theorem cmd_put {ws : List W} {S : Sto} (g : WS S) (h : datWs ws = true) : Sat (m_is_command [.tup (.str "put" :: ws)] S) fun b T => b = .bl (cmdW (.tup (.str "put" :: ws))) ∧ T = S := by
  simp only [m_is_command, c_is_command, sats, List.isEmpty_cons, Bool.false_eq_true, lk_put, Option.getD_some, fin_bl g, still]
  rcases ws with _ | ⟨a, _ | ⟨b, _ | ⟨c, _ | ⟨d, ws⟩⟩⟩⟩
  · simp [sats, fin_bl g, cmdW, keysNe]
  · simp [sats, fin_bl g, cmdW, keysNe]
  · simp only [datWs, Bool.and_eq_true] at h
    simp [sats, fin_bl g, cmdW, keysNe, pairs, sat_lcloop1, sat_turn, lcK, sat_part_name g h.1, sat_part_number g h.2.1, sizeLine, bools]
  · simp [sats, fin_bl g, cmdW, keysNe]
  · simp [sats, fin_bl g, cmdW, keysNe]
    omega
theorem cmd_copy {ws : List W} {S : Sto} (g : WS S) (h : datWs ws = true) : Sat (m_is_command [.tup (.str "copy" :: ws)] S) fun b T => b = .bl (cmdW (.tup (.str "copy" :: ws))) ∧ T = S := by
  simp only [m_is_command, c_is_command, sats, List.isEmpty_cons, Bool.false_eq_true, lk_copy, Option.getD_some, fin_bl g, still]
  rcases ws with _ | ⟨a, _ | ⟨b, _ | ⟨c, _ | ⟨d, ws⟩⟩⟩⟩
  · simp [sats, fin_bl g, cmdW, keysNe]
  · simp [sats, fin_bl g, cmdW, keysNe]
  · simp only [datWs, Bool.and_eq_true] at h
    simp [sats, fin_bl g, cmdW, keysNe, pairs, sat_lcloop1, sat_turn, lcK, sat_part_name g h.1, sat_part_name g h.2.1, sizeLine, bools]
  · simp [sats, fin_bl g, cmdW, keysNe]
  · simp [sats, fin_bl g, cmdW, keysNe]
    omega
theorem cmd_reckon {ws : List W} {S : Sto} (g : WS S) (h : datWs ws = true) : Sat (m_is_command [.tup (.str "reckon" :: ws)] S) fun b T => b = .bl (cmdW (.tup (.str "reckon" :: ws))) ∧ T = S := by
  simp only [m_is_command, c_is_command, sats, List.isEmpty_cons, Bool.false_eq_true, lk_reckon, Option.getD_some, fin_bl g, still]
  rcases ws with _ | ⟨a, _ | ⟨b, _ | ⟨c, _ | ⟨d, ws⟩⟩⟩⟩
  · simp [sats, fin_bl g, cmdW, keysNe]
  · simp [sats, fin_bl g, cmdW, keysNe]
  · simp [sats, fin_bl g, cmdW, keysNe]
  · simp only [datWs, Bool.and_eq_true] at h
    simp [sats, fin_bl g, cmdW, keysNe, pairs, sat_lcloop1, sat_turn, lcK, sat_part_name g h.1, sat_part_names g h.2.1, sat_part_name g h.2.2.1, sizeLine, bools]
  · simp [sats, fin_bl g, cmdW, keysNe]
    omega
theorem cmd_look {ws : List W} {S : Sto} (g : WS S) (h : datWs ws = true) : Sat (m_is_command [.tup (.str "look" :: ws)] S) fun b T => b = .bl (cmdW (.tup (.str "look" :: ws))) ∧ T = S := by
  simp only [m_is_command, c_is_command, sats, List.isEmpty_cons, Bool.false_eq_true, lk_look, Option.getD_some, fin_bl g, still]
  rcases ws with _ | ⟨a, _ | ⟨b, _ | ⟨c, _ | ⟨d, ws⟩⟩⟩⟩
  · simp [sats, fin_bl g, cmdW, keysNe]
  · simp only [datWs, Bool.and_eq_true] at h
    simp [sats, fin_bl g, cmdW, keysNe, pairs, sat_lcloop1, sat_turn, lcK, sat_part_name g h.1, sizeLine, bools]
  · simp [sats, fin_bl g, cmdW, keysNe]
  · simp [sats, fin_bl g, cmdW, keysNe]
  · simp [sats, fin_bl g, cmdW, keysNe]
    omega
theorem cmd_show {ws : List W} {S : Sto} (g : WS S) (h : datWs ws = true) : Sat (m_is_command [.tup (.str "show" :: ws)] S) fun b T => b = .bl (cmdW (.tup (.str "show" :: ws))) ∧ T = S := by
  simp only [m_is_command, c_is_command, sats, List.isEmpty_cons, Bool.false_eq_true, lk_show, Option.getD_some, fin_bl g, still]
  rcases ws with _ | ⟨a, _ | ⟨b, _ | ⟨c, _ | ⟨d, ws⟩⟩⟩⟩
  · simp [sats, fin_bl g, cmdW, keysNe]
  · simp only [datWs, Bool.and_eq_true] at h
    simp [sats, fin_bl g, cmdW, keysNe, pairs, sat_lcloop1, sat_turn, lcK, sat_part_name g h.1, sizeLine, bools]
  · simp [sats, fin_bl g, cmdW, keysNe]
  · simp [sats, fin_bl g, cmdW, keysNe]
  · simp [sats, fin_bl g, cmdW, keysNe]
    omega
theorem cmd_wait {ws : List W} {S : Sto} (g : WS S) (h : datWs ws = true) : Sat (m_is_command [.tup (.str "wait" :: ws)] S) fun b T => b = .bl (cmdW (.tup (.str "wait" :: ws))) ∧ T = S := by
  simp only [m_is_command, c_is_command, sats, List.isEmpty_cons, Bool.false_eq_true, lk_wait, Option.getD_some, fin_bl g, still]
  rcases ws with _ | ⟨a, _ | ⟨b, _ | ⟨c, _ | ⟨d, ws⟩⟩⟩⟩
  · simp [sats, fin_bl g, cmdW, keysNe]
  · simp [sats, fin_bl g, cmdW, keysNe]
  · simp only [datWs, Bool.and_eq_true] at h
    simp [sats, fin_bl g, cmdW, keysNe, pairs, sat_lcloop1, sat_turn, lcK, sat_part_name g h.1, sat_part_value g h.2.1, sizeLine, bools]
  · simp [sats, fin_bl g, cmdW, keysNe]
  · simp [sats, fin_bl g, cmdW, keysNe]
    omega
theorem cmd_set {ws : List W} {S : Sto} (g : WS S) (h : datWs ws = true) : Sat (m_is_command [.tup (.str "set" :: ws)] S) fun b T => b = .bl (cmdW (.tup (.str "set" :: ws))) ∧ T = S := by
  simp only [m_is_command, c_is_command, sats, List.isEmpty_cons, Bool.false_eq_true, lk_set, Option.getD_some, fin_bl g, still]
  rcases ws with _ | ⟨a, _ | ⟨b, _ | ⟨c, _ | ⟨d, ws⟩⟩⟩⟩
  · simp [sats, fin_bl g, cmdW, keysNe]
  · simp [sats, fin_bl g, cmdW, keysNe]
  · simp only [datWs, Bool.and_eq_true] at h
    simp [sats, fin_bl g, cmdW, keysNe, pairs, sat_lcloop1, sat_turn, lcK, sat_part_name g h.1, sat_part_by g h.2.1, sizeLine, bools]
  · simp [sats, fin_bl g, cmdW, keysNe]
  · simp [sats, fin_bl g, cmdW, keysNe]
    omega
theorem cmd_give {ws : List W} {S : Sto} (g : WS S) (h : datWs ws = true) : Sat (m_is_command [.tup (.str "give" :: ws)] S) fun b T => b = .bl (cmdW (.tup (.str "give" :: ws))) ∧ T = S := by
  simp only [m_is_command, c_is_command, sats, List.isEmpty_cons, Bool.false_eq_true, lk_give, Option.getD_some, fin_bl g, still]
  rcases ws with _ | ⟨a, _ | ⟨b, _ | ⟨c, _ | ⟨d, ws⟩⟩⟩⟩
  · simp [sats, fin_bl g, cmdW, keysNe]
  · simp [sats, fin_bl g, cmdW, keysNe]
  · simp only [datWs, Bool.and_eq_true] at h
    simp [sats, fin_bl g, cmdW, keysNe, pairs, sat_lcloop1, sat_turn, lcK, sat_part_name g h.1, sat_part_lane g h.2.1, sizeLine, bools]
  · simp [sats, fin_bl g, cmdW, keysNe]
  · simp [sats, fin_bl g, cmdW, keysNe]
    omega
theorem cmd_take {ws : List W} {S : Sto} (g : WS S) (h : datWs ws = true) : Sat (m_is_command [.tup (.str "take" :: ws)] S) fun b T => b = .bl (cmdW (.tup (.str "take" :: ws))) ∧ T = S := by
  simp only [m_is_command, c_is_command, sats, List.isEmpty_cons, Bool.false_eq_true, lk_take, Option.getD_some, fin_bl g, still]
  rcases ws with _ | ⟨a, _ | ⟨b, _ | ⟨c, _ | ⟨d, ws⟩⟩⟩⟩
  · simp [sats, fin_bl g, cmdW, keysNe]
  · simp only [datWs, Bool.and_eq_true] at h
    simp [sats, fin_bl g, cmdW, keysNe, pairs, sat_lcloop1, sat_turn, lcK, sat_part_name g h.1, sizeLine, bools]
  · simp [sats, fin_bl g, cmdW, keysNe]
  · simp [sats, fin_bl g, cmdW, keysNe]
  · simp [sats, fin_bl g, cmdW, keysNe]
    omega
theorem sat_command {w : W} {S : Sto} {Q : W → Sto → Prop} (g : WS S) (h : datW w = true) : Sat (m_is_command [w] S) Q = Q (.bl (cmdW w)) S := by
  refine sat_eq (sat_to ?_) Q
  cases w with
  | tup us =>
    rcases us with _ | ⟨a, ws⟩
    · simp [m_is_command, c_is_command, sats, fin_bl g, cmdW]
    · have hd : datW a = true ∧ datWs ws = true := by simpa [datW, datWs] using h
      cases a with
      | str x =>
        by_cases h0 : x = ("put" : Str)
        · subst h0; exact cmd_put g hd.2
        by_cases h1 : x = ("copy" : Str)
        · subst h1; exact cmd_copy g hd.2
        by_cases h2 : x = ("reckon" : Str)
        · subst h2; exact cmd_reckon g hd.2
        by_cases h3 : x = ("look" : Str)
        · subst h3; exact cmd_look g hd.2
        by_cases h4 : x = ("show" : Str)
        · subst h4; exact cmd_show g hd.2
        by_cases h5 : x = ("wait" : Str)
        · subst h5; exact cmd_wait g hd.2
        by_cases h6 : x = ("set" : Str)
        · subst h6; exact cmd_set g hd.2
        by_cases h7 : x = ("give" : Str)
        · subst h7; exact cmd_give g hd.2
        by_cases h8 : x = ("take" : Str)
        · subst h8; exact cmd_take g hd.2
        simp only [m_is_command, c_is_command, sats, List.isEmpty_cons, Bool.false_eq_true, lk_none h0 h1 h2 h3 h4 h5 h6 h7 h8, Option.getD_none, fin_bl g, still, cmdW]
        simp [h0, h1, h2, h3, h4, h5, h6, h7, h8]
      | non => simp [m_is_command, c_is_command, sats, fin_bl g, cmdW]
      | bl x => simp [m_is_command, c_is_command, sats, fin_bl g, cmdW]
      | int x => simp [m_is_command, c_is_command, sats, fin_bl g, cmdW]
      | tup x => simp [m_is_command, c_is_command, sats, fin_bl g, cmdW]
      | lst x => simp [m_is_command, c_is_command, sats, fin_bl g, cmdW]
      | dct x y => simp [m_is_command, c_is_command, sats, fin_bl g, cmdW]
      | _ => have := hd.1; unfold datW at this; cases this
  | non => simp [m_is_command, c_is_command, sats, fin_bl g, cmdW]
  | bl x => simp [m_is_command, c_is_command, sats, fin_bl g, cmdW]
  | int x => simp [m_is_command, c_is_command, sats, fin_bl g, cmdW]
  | str x => simp [m_is_command, c_is_command, sats, fin_bl g, cmdW]
  | lst x => simp [m_is_command, c_is_command, sats, fin_bl g, cmdW]
  | dct x y => simp [m_is_command, c_is_command, sats, fin_bl g, cmdW]
  | _ => unfold datW at h; cases h
end Lw

namespace Lw
open PySem Mm L2
theorem cut2 {a b : W} {ws : List W} : cutW (a :: b :: ws) (some 2) none = ws := by
  unfold cutW HT.sIx
  simp
theorem sat_named {w : W} {S : Sto} {Q : W → Sto → Prop} (g : WS S) (h : datW w = true) : Sat (m__law_named [w] S) Q = Q (.bl (nmW w)) S := by
  refine sat_eq (sat_to ?_) Q
  cases w with
  | str x =>
    have hz := comS_len (x := x) h
    have hc : ∀ c, c ∈ x.cps.toList → c < 128 := fun c hc => of_decide_eq_true (List.all_eq_true.mp (Bool.and_eq_true_iff.mp h).2 c hc)
    simp only [m__law_named, c__law_named, sats, if_pos hz, fin_bl g, itemsOf, nmW, nmL]
    rw [Str_len]
    rw [Str_len] at hz
    cases q : x.cps.toList with
    | nil => simp
    | cons c cs =>
      rw [q] at hz hc
      simp only [at0, ex_eq]
      have h1 : ¬((c :: cs).length : Int) < 1 := by simp; omega
      by_cases h6 : (c :: cs).length ≤ 6
      · have h6' : ¬(6 : Int) < (c :: cs).length := by omega
        rw [low_com c (hc c List.mem_cons_self)]
        cases hl : isLet c with
        | false => simp [h6, h6', h1, sats, fin_bl g]
        | true =>
          simp only [h1, h6, h6', decide_true, decide_false, ifT, ifF, Bool.false_eq_true, ifF2, ex_eq, sat_andV, sat_m0, sat_c, sat_lc, p_lower, andK_bl]
          refine lc_sat (fun w => .bl (sgnW w)) (fun w hw => ?_) (by rw [List.length_map]; exact hz) ?_
          · obtain ⟨d, hd, rfl⟩ := List.mem_map.mp hw
            simp only [sats, sgnW, low_com d (hc d hd), dig_com d (hc d hd), isSgn]
            cases isLet d <;> simp [sats]
          · refine ⟨_, bools_map sgnW, ?_⟩
            rw [List.all_map, fin_bl g]
            exact ⟨by rw [show (id ∘ sgnW) = sgnW from rfl, all_sgn]; simp, rfl⟩
      · have h6' : (6 : Int) < (c :: cs).length := by omega
        simp only [h1, h6, h6', decide_true, decide_false, ifT, ifF, fin_bl g]
        simp
  | non => simp only [m__law_named, c__law_named, sats, fin_bl g, nmW, and_self]
  | bl b => simp only [m__law_named, c__law_named, sats, fin_bl g, nmW, and_self]
  | int i => simp only [m__law_named, c__law_named, sats, fin_bl g, nmW, and_self]
  | tup ws => simp only [m__law_named, c__law_named, sats, fin_bl g, nmW, and_self]
  | lst ws => simp only [m__law_named, c__law_named, sats, fin_bl g, nmW, and_self]
  | dct ks ws => simp only [m__law_named, c__law_named, sats, fin_bl g, nmW, and_self]
  | _ => unfold datW at h; cases h
theorem sat_told {a b : Bool} {S : Sto} {Q : W → Sto → Prop} (g : WS S) : Sat (m__law_told [.bl a, .bl b] S) Q = Q (.bl (decide (a = b))) S := by
  simp only [m__law_told, c__law_told, sats, fin_bl g]
theorem in3 {x : Str} {S : Sto} : inW (.str x) (.lst [.str "look", .str "show", .str "take"]) S = some (decide (("look" : Str) = x) || (decide (("show" : Str) = x) || decide (("take" : Str) = x))) := by
  show some _ = some _
  simp only [List.any, eqF, Bool.or_false]
  rfl
theorem in123 {i : Int} {S : Sto} : inW (.int i) (.lst [.int 1, .int 2, .int 3]) S = some (decide ((1 : Int) = i) || (decide ((2 : Int) = i) || decide ((3 : Int) = i))) := by
  show some _ = some _
  simp only [List.any, eqF, Bool.or_false]
  rfl
def dueTail : W → Prop := fun _ => True
theorem cmd_bad {x : Str} {a : W} {ws : List W} (hn : nmW a = false) : cmdW (.tup (.str x :: a :: ws)) = false := by
  unfold cmdW
  rcases ws with _ | ⟨b, _ | ⟨c, _ | ⟨d, ws⟩⟩⟩ <;> simp [hn]
theorem dec_eq {p : Prop} [Decidable p] (h : p = True) : decide p = true := decide_eq_true (h ▸ trivial)
theorem due_put {a : W} {ws : List W} {S : Sto} (g : WS S) (ha : datW a = true) (h : datWs ws = true) (hn : nmW a = true) : Sat (m__law_due [.tup (.str "put" :: a :: ws)] S) fun b T => b = .bl (cmdW (.tup (.str "put" :: a :: ws))) ∧ T = S := by
  have e1 : ¬(((ws.length + 1 + 1 : Nat)) : Int) < 2 := by omega
  simp only [m__law_due, c__law_due, sizeLine, sats, sat_named g ha, fin_bl g, cut2, in3, hn, e1, decide_false, keysNe, decide_true, Bool.or_true, Bool.or_false, Bool.true_or, Bool.false_or, in123]
  rcases ws with _ | ⟨b, _ | ⟨c, _ | ⟨d, ws⟩⟩⟩
  · simp [sats, fin_bl g, cmdW, keysNe, hn]
  · simp only [datWs, Bool.and_eq_true] at h
    simp [sats, fin_bl g, cmdW, keysNe, hn, sat_in g h.1, sat_named g h.1]
  · simp [sats, fin_bl g, cmdW, keysNe, hn]
  · simp [sats, fin_bl g, cmdW, keysNe, hn]
    try omega
theorem due_copy {a : W} {ws : List W} {S : Sto} (g : WS S) (ha : datW a = true) (h : datWs ws = true) (hn : nmW a = true) : Sat (m__law_due [.tup (.str "copy" :: a :: ws)] S) fun b T => b = .bl (cmdW (.tup (.str "copy" :: a :: ws))) ∧ T = S := by
  have e1 : ¬(((ws.length + 1 + 1 : Nat)) : Int) < 2 := by omega
  simp only [m__law_due, c__law_due, sizeLine, sats, sat_named g ha, fin_bl g, cut2, in3, hn, e1, decide_false, keysNe, decide_true, Bool.or_true, Bool.or_false, Bool.true_or, Bool.false_or, in123]
  rcases ws with _ | ⟨b, _ | ⟨c, _ | ⟨d, ws⟩⟩⟩
  · simp [sats, fin_bl g, cmdW, keysNe, hn]
  · simp only [datWs, Bool.and_eq_true] at h
    simp [sats, fin_bl g, cmdW, keysNe, hn, sat_in g h.1, sat_named g h.1]
  · simp [sats, fin_bl g, cmdW, keysNe, hn]
  · simp [sats, fin_bl g, cmdW, keysNe, hn]
    try omega
theorem due_reckon {a : W} {ws : List W} {S : Sto} (g : WS S) (ha : datW a = true) (h : datWs ws = true) (hn : nmW a = true) : Sat (m__law_due [.tup (.str "reckon" :: a :: ws)] S) fun b T => b = .bl (cmdW (.tup (.str "reckon" :: a :: ws))) ∧ T = S := by
  have e1 : ¬(((ws.length + 1 + 1 : Nat)) : Int) < 2 := by omega
  simp only [m__law_due, c__law_due, sizeLine, sats, sat_named g ha, fin_bl g, cut2, in3, hn, e1, decide_false, keysNe, decide_true, Bool.or_true, Bool.or_false, Bool.true_or, Bool.false_or, in123]
  rcases ws with _ | ⟨b, _ | ⟨c, _ | ⟨d, ws⟩⟩⟩
  · simp [sats, fin_bl g, cmdW, keysNe, hn]
  · simp [sats, fin_bl g, cmdW, keysNe, hn]
  · simp only [datWs, Bool.and_eq_true] at h
    cases b with
    | tup us =>
      have hu : datWs us = true := by simpa [datW] using h.1
      simp only [sats, fin_bl g, cmdW, keysNe, hn, in123, itemsOf, nmsW]
      by_cases h3 : 1 ≤ us.length ∧ us.length ≤ 3
      · have e3 : (decide ((1 : Int) = us.length) || (decide ((2 : Int) = us.length) || decide ((3 : Int) = us.length))) = true := by simp; omega
        simp only [e3, sats]
        refine lc_sat (fun w => .bl (nmW w)) (fun w hw => ?_) (Nat.le_trans h3.2 (by decide)) ?_
        · simp only [sats, sat_named g (datWs_mem hu hw), and_self]
        · refine ⟨_, bools_map nmW, ?_⟩
          rw [List.all_map, show (id ∘ nmW) = nmW from rfl]
          cases hq : us.all nmW with
          | false => simp [sats, fin_bl g, hq]
          | true => simp [sats, fin_bl g, hq, sat_named g h.2.1, h3]
      · have e3 : (decide ((1 : Int) = us.length) || (decide ((2 : Int) = us.length) || decide ((3 : Int) = us.length))) = false := by simp; omega
        have e4 : (decide (1 ≤ us.length) && (decide (us.length ≤ 3) && us.all nmW)) = false := by
          cases hq : us.all nmW <;> simp <;> omega
        simp [e3, sats, fin_bl g, e4]
    | non => simp [sats, fin_bl g, cmdW, keysNe, hn, nmsW]
    | bl x => simp [sats, fin_bl g, cmdW, keysNe, hn, nmsW]
    | int x => simp [sats, fin_bl g, cmdW, keysNe, hn, nmsW]
    | str x => simp [sats, fin_bl g, cmdW, keysNe, hn, nmsW]
    | lst x => simp [sats, fin_bl g, cmdW, keysNe, hn, nmsW]
    | dct x y => simp [sats, fin_bl g, cmdW, keysNe, hn, nmsW]
    | _ => have := h.1; unfold datW at this; cases this
  · simp [sats, fin_bl g, cmdW, keysNe, hn]
    try omega
theorem due_look {a : W} {ws : List W} {S : Sto} (g : WS S) (ha : datW a = true) (h : datWs ws = true) (hn : nmW a = true) : Sat (m__law_due [.tup (.str "look" :: a :: ws)] S) fun b T => b = .bl (cmdW (.tup (.str "look" :: a :: ws))) ∧ T = S := by
  have e1 : ¬(((ws.length + 1 + 1 : Nat)) : Int) < 2 := by omega
  simp only [m__law_due, c__law_due, sizeLine, sats, sat_named g ha, fin_bl g, cut2, in3, hn, e1, decide_false, keysNe, decide_true, Bool.or_true, Bool.or_false, Bool.true_or, Bool.false_or, in123]
  rcases ws with _ | ⟨b, _ | ⟨c, _ | ⟨d, ws⟩⟩⟩
  · simp [sats, fin_bl g, cmdW, keysNe, hn]
  · simp [sats, fin_bl g, cmdW, keysNe, hn]
  · simp [sats, fin_bl g, cmdW, keysNe, hn]
  · simp [sats, fin_bl g, cmdW, keysNe, hn]
    try omega
theorem due_show {a : W} {ws : List W} {S : Sto} (g : WS S) (ha : datW a = true) (h : datWs ws = true) (hn : nmW a = true) : Sat (m__law_due [.tup (.str "show" :: a :: ws)] S) fun b T => b = .bl (cmdW (.tup (.str "show" :: a :: ws))) ∧ T = S := by
  have e1 : ¬(((ws.length + 1 + 1 : Nat)) : Int) < 2 := by omega
  simp only [m__law_due, c__law_due, sizeLine, sats, sat_named g ha, fin_bl g, cut2, in3, hn, e1, decide_false, keysNe, decide_true, Bool.or_true, Bool.or_false, Bool.true_or, Bool.false_or, in123]
  rcases ws with _ | ⟨b, _ | ⟨c, _ | ⟨d, ws⟩⟩⟩
  · simp [sats, fin_bl g, cmdW, keysNe, hn]
  · simp [sats, fin_bl g, cmdW, keysNe, hn]
  · simp [sats, fin_bl g, cmdW, keysNe, hn]
  · simp [sats, fin_bl g, cmdW, keysNe, hn]
    try omega
theorem due_wait {a : W} {ws : List W} {S : Sto} (g : WS S) (ha : datW a = true) (h : datWs ws = true) (hn : nmW a = true) : Sat (m__law_due [.tup (.str "wait" :: a :: ws)] S) fun b T => b = .bl (cmdW (.tup (.str "wait" :: a :: ws))) ∧ T = S := by
  have e1 : ¬(((ws.length + 1 + 1 : Nat)) : Int) < 2 := by omega
  simp only [m__law_due, c__law_due, sizeLine, sats, sat_named g ha, fin_bl g, cut2, in3, hn, e1, decide_false, keysNe, decide_true, Bool.or_true, Bool.or_false, Bool.true_or, Bool.false_or, in123]
  rcases ws with _ | ⟨b, _ | ⟨c, _ | ⟨d, ws⟩⟩⟩
  · simp [sats, fin_bl g, cmdW, keysNe, hn]
  · simp only [datWs, Bool.and_eq_true] at h
    simp [sats, fin_bl g, cmdW, keysNe, hn, sat_in g h.1, sat_named g h.1]
  · simp [sats, fin_bl g, cmdW, keysNe, hn]
  · simp [sats, fin_bl g, cmdW, keysNe, hn]
    try omega
theorem due_set {a : W} {ws : List W} {S : Sto} (g : WS S) (ha : datW a = true) (h : datWs ws = true) (hn : nmW a = true) : Sat (m__law_due [.tup (.str "set" :: a :: ws)] S) fun b T => b = .bl (cmdW (.tup (.str "set" :: a :: ws))) ∧ T = S := by
  have e1 : ¬(((ws.length + 1 + 1 : Nat)) : Int) < 2 := by omega
  simp only [m__law_due, c__law_due, sizeLine, sats, sat_named g ha, fin_bl g, cut2, in3, hn, e1, decide_false, keysNe, decide_true, Bool.or_true, Bool.or_false, Bool.true_or, Bool.false_or, in123]
  rcases ws with _ | ⟨b, _ | ⟨c, _ | ⟨d, ws⟩⟩⟩
  · simp [sats, fin_bl g, cmdW, keysNe, hn]
  · simp only [datWs, Bool.and_eq_true] at h
    cases hi : inR 1 99 b <;> simp [sats, fin_bl g, cmdW, keysNe, hn, sat_in g h.1, sat_named g h.1, hi]
  · simp [sats, fin_bl g, cmdW, keysNe, hn]
  · simp [sats, fin_bl g, cmdW, keysNe, hn]
    try omega
theorem due_give {a : W} {ws : List W} {S : Sto} (g : WS S) (ha : datW a = true) (h : datWs ws = true) (hn : nmW a = true) : Sat (m__law_due [.tup (.str "give" :: a :: ws)] S) fun b T => b = .bl (cmdW (.tup (.str "give" :: a :: ws))) ∧ T = S := by
  have e1 : ¬(((ws.length + 1 + 1 : Nat)) : Int) < 2 := by omega
  simp only [m__law_due, c__law_due, sizeLine, sats, sat_named g ha, fin_bl g, cut2, in3, hn, e1, decide_false, keysNe, decide_true, Bool.or_true, Bool.or_false, Bool.true_or, Bool.false_or, in123]
  rcases ws with _ | ⟨b, _ | ⟨c, _ | ⟨d, ws⟩⟩⟩
  · simp [sats, fin_bl g, cmdW, keysNe, hn]
  · simp only [datWs, Bool.and_eq_true] at h
    simp [sats, fin_bl g, cmdW, keysNe, hn, sat_in g h.1, sat_named g h.1]
  · simp [sats, fin_bl g, cmdW, keysNe, hn]
  · simp [sats, fin_bl g, cmdW, keysNe, hn]
    try omega
theorem due_take {a : W} {ws : List W} {S : Sto} (g : WS S) (ha : datW a = true) (h : datWs ws = true) (hn : nmW a = true) : Sat (m__law_due [.tup (.str "take" :: a :: ws)] S) fun b T => b = .bl (cmdW (.tup (.str "take" :: a :: ws))) ∧ T = S := by
  have e1 : ¬(((ws.length + 1 + 1 : Nat)) : Int) < 2 := by omega
  simp only [m__law_due, c__law_due, sizeLine, sats, sat_named g ha, fin_bl g, cut2, in3, hn, e1, decide_false, keysNe, decide_true, Bool.or_true, Bool.or_false, Bool.true_or, Bool.false_or, in123]
  rcases ws with _ | ⟨b, _ | ⟨c, _ | ⟨d, ws⟩⟩⟩
  · simp [sats, fin_bl g, cmdW, keysNe, hn]
  · simp [sats, fin_bl g, cmdW, keysNe, hn]
  · simp [sats, fin_bl g, cmdW, keysNe, hn]
  · simp [sats, fin_bl g, cmdW, keysNe, hn]
    try omega
theorem sat_due {w : W} {S : Sto} {Q : W → Sto → Prop} (g : WS S) (h : datW w = true) : Sat (m__law_due [w] S) Q = Q (.bl (cmdW w)) S := by
  refine sat_eq (sat_to ?_) Q
  cases w with
  | tup us =>
    rcases us with _ | ⟨a, _ | ⟨b, ws⟩⟩
    · simp [m__law_due, c__law_due, sizeLine, sats, fin_bl g, cmdW]
    · cases a with
      | str x => simp [m__law_due, c__law_due, sizeLine, sats, fin_bl g, cmdW]
      | _ => simp [m__law_due, c__law_due, sizeLine, sats, fin_bl g, cmdW]
    · have hd : datW a = true ∧ datW b = true ∧ datWs ws = true := by simpa [datW, datWs, Bool.and_assoc] using h
      have e1 : ¬(((ws.length + 1 + 1 : Nat)) : Int) < 2 := by omega
      cases a with
      | str x =>
        cases hn : nmW b with
        | false =>
          rw [cmd_bad hn]
          simp only [m__law_due, c__law_due, sizeLine, sats, sat_named g hd.2.1, fin_bl g, hn, e1, decide_false, and_self]
        | true =>
          by_cases h0 : x = ("put" : Str)
          · subst h0; exact due_put g hd.2.1 hd.2.2 hn
          by_cases h1 : x = ("copy" : Str)
          · subst h1; exact due_copy g hd.2.1 hd.2.2 hn
          by_cases h2 : x = ("reckon" : Str)
          · subst h2; exact due_reckon g hd.2.1 hd.2.2 hn
          by_cases h3 : x = ("look" : Str)
          · subst h3; exact due_look g hd.2.1 hd.2.2 hn
          by_cases h4 : x = ("show" : Str)
          · subst h4; exact due_show g hd.2.1 hd.2.2 hn
          by_cases h5 : x = ("wait" : Str)
          · subst h5; exact due_wait g hd.2.1 hd.2.2 hn
          by_cases h6 : x = ("set" : Str)
          · subst h6; exact due_set g hd.2.1 hd.2.2 hn
          by_cases h7 : x = ("give" : Str)
          · subst h7; exact due_give g hd.2.1 hd.2.2 hn
          by_cases h8 : x = ("take" : Str)
          · subst h8; exact due_take g hd.2.1 hd.2.2 hn
          simp only [m__law_due, c__law_due, sizeLine, sats, sat_named g hd.2.1, fin_bl g, cut2, in3, hn, e1, decide_false, h0, h1, h2, h3, h4, h5, h6, h7, h8, Ne.symm h3, Ne.symm h4, Ne.symm h8, Bool.or_false, Bool.false_or, cmdW]
          rw [if_pos (by decide)]
          split <;> exact ⟨rfl, trivial⟩
      | non => simp only [m__law_due, c__law_due, sizeLine, sats, fin_bl g, e1, decide_false, cmdW, and_self]
      | bl x => simp only [m__law_due, c__law_due, sizeLine, sats, fin_bl g, e1, decide_false, cmdW, and_self]
      | int x => simp only [m__law_due, c__law_due, sizeLine, sats, fin_bl g, e1, decide_false, cmdW, and_self]
      | tup x => simp only [m__law_due, c__law_due, sizeLine, sats, fin_bl g, e1, decide_false, cmdW, and_self]
      | lst x => simp only [m__law_due, c__law_due, sizeLine, sats, fin_bl g, e1, decide_false, cmdW, and_self]
      | dct x y => simp only [m__law_due, c__law_due, sizeLine, sats, fin_bl g, e1, decide_false, cmdW, and_self]
      | _ => have := hd.1; unfold datW at this; cases this
  | non => simp [m__law_due, c__law_due, sizeLine, sats, fin_bl g, cmdW]
  | bl x => simp [m__law_due, c__law_due, sizeLine, sats, fin_bl g, cmdW]
  | int x => simp [m__law_due, c__law_due, sizeLine, sats, fin_bl g, cmdW]
  | str x => simp [m__law_due, c__law_due, sizeLine, sats, fin_bl g, cmdW]
  | lst x => simp [m__law_due, c__law_due, sizeLine, sats, fin_bl g, cmdW]
  | dct x y => simp [m__law_due, c__law_due, sizeLine, sats, fin_bl g, cmdW]
  | _ => unfold datW at h; cases h
end Lw

namespace Lw
open PySem Mm L2
abbrev cs (x : Str) : List Nat := x.cps.toList
theorem cs_app (x y : Str) : cs (x ++ y) = cs x ++ cs y := by
  show (x.cps ++ y.cps).toList = _
  simp
abbrev SIG : Str := "abcdefghijklmnopqrstuvwxyz0123456789"
theorem signs_at : ∀ r, r < 36 → (cs SIG)[r]? = some (if r < 26 then 97 + r else 22 + r) := by decide +kernel
theorem sig_at {r : Int} (h0 : 0 ≤ r) (h : r < 36) : ∃ c, atI (cs SIG) r = some c ∧ isSgn c = true ∧ (r < 26 → isLet c = true) := by
  have e := signs_at r.toNat (by omega)
  refine ⟨if r.toNat < 26 then 97 + r.toNat else 22 + r.toNat, ?_, ?_, ?_⟩
  · unfold atI ixN
    rw [if_pos h0, if_pos (by rw [show (cs SIG).length = 36 by decide +kernel]; omega)]
    exact e
  · unfold isSgn isLet isDig
    split <;> simp <;> omega
  · intro h2
    rw [if_pos (by omega)]
    unfold isLet
    simp
    omega
theorem sgnW_of {w : W} (h : sgnW w = true) : ∃ c, w = .str ⟨#[c]⟩ ∧ isSgn c = true := by
  unfold sgnW at h
  split at h
  · rename_i x
    split at h
    · rename_i c q
      refine ⟨c, ?_, h⟩
      have : x = ⟨#[c]⟩ := by
        cases x with
        | mk a =>
          have : a = #[c] := by
            apply Array.toList_inj.mp
            exact q
          rw [this]
      rw [this]
    · cases h
  · cases h
/-- a list of single signs, joined -/
theorem join_sgn : ∀ {ws : List W}, (∀ w, w ∈ ws → sgnW w = true) → ∃ ts, textsW ws = some ts ∧ ts.length = ws.length ∧ (ts.map (·.length)).sum = ws.length ∧ (cs (Txt.join "" ts)).length = ws.length ∧ (cs (Txt.join "" ts)).all isSgn = true
  | [], _ => ⟨[], rfl, rfl, rfl, rfl, rfl⟩
  | [w], h => by
    obtain ⟨c, rfl, hc⟩ := sgnW_of (h w List.mem_cons_self)
    exact ⟨[⟨#[c]⟩], rfl, rfl, rfl, rfl, by show (isSgn c && true) = true; rw [hc]; rfl⟩
  | w :: u :: ws, h => by
    obtain ⟨c, rfl, hc⟩ := sgnW_of (h w List.mem_cons_self)
    obtain ⟨ts, h1, h2, h3, h4, h5⟩ := join_sgn (ws := u :: ws) fun v hv => h v (List.mem_cons_of_mem _ hv)
    refine ⟨⟨#[c]⟩ :: ts, ?_, by simp [h2], ?_, ?_, ?_⟩
    · show (textsW (u :: ws)).map (_ :: ·) = _
      rw [h1]
      rfl
    · simp only [List.map_cons, List.sum_cons, h3]
      show 1 + _ = _
      simp
      omega
    all_goals
      cases ts with
      | nil => simp at h2
      | cons t ts =>
        have e : cs (Txt.join "" (⟨#[c]⟩ :: t :: ts)) = [c] ++ cs (Txt.join "" (t :: ts)) := by
          rw [show Txt.join "" (⟨#[c]⟩ :: t :: ts) = Str.join "" (⟨#[c]⟩ :: t :: ts) from StrLaws.glued_eq_join _ _, show Txt.join "" (t :: ts) = Str.join "" (t :: ts) from StrLaws.glued_eq_join _ _]
          show cs (⟨#[c]⟩ ++ ("" : Str) ++ Str.join "" (t :: ts)) = _
          rw [cs_app, cs_app]
          rfl
        rw [e]
        first
          | (rw [List.length_append, h4]; simp; omega)
          | (rw [List.all_append, h5, Bool.and_true]; show (isSgn c && true) = true; rw [hc]; rfl)

/-! names -/
theorem nmL_iff {l : List Nat} : nmL l = true ↔ ∃ c r, l = c :: r ∧ r.length ≤ 5 ∧ isLet c = true ∧ r.all isSgn = true := by
  unfold nmL
  cases l with
  | nil => simp
  | cons c r =>
    simp only [List.length_cons, List.all_cons, Bool.and_eq_true, decide_eq_true_eq]
    constructor
    · rintro ⟨_, h1, h2, _, h3⟩
      exact ⟨c, r, rfl, by omega, h2, h3⟩
    · rintro ⟨_, _, e, h1, h2, h3⟩
      cases e
      exact ⟨by omega, by omega, h2, by unfold isSgn; rw [h2]; rfl, h3⟩
theorem sgn_com {c : Nat} (h : isSgn c = true) : c < 128 := by
  unfold isSgn isLet isDig at h
  simp at h
  omega
theorem nmW_of {w : W} (h : nmW w = true) : ∃ x, w = .str x ∧ nmL (cs x) = true := by
  cases w with
  | str x => exact ⟨x, rfl, h⟩
  | _ => cases h
theorem nmL_len {x : Str} (h : nmL (cs x) = true) : 1 ≤ x.length ∧ x.length ≤ 6 := by
  rw [Str_len]
  unfold nmL at h
  simp at h
  exact ⟨by have := h.1; omega, h.2.1⟩
theorem nmL_sgn {x : Str} (h : nmL (cs x) = true) : (cs x).all isSgn = true := by
  unfold nmL at h
  simp only [Bool.and_eq_true] at h
  exact h.2.2.2
theorem com_of {x : Str} (h : (cs x).length ≤ 1000) (h2 : (cs x).all isSgn = true) : comS x = true :=
  Bool.and_eq_true_iff.mpr ⟨decide_eq_true h, List.all_eq_true.mpr fun c hc => decide_eq_true (sgn_com (List.all_eq_true.mp h2 c hc))⟩
theorem nmW_dat {w : W} (h : nmW w = true) : datW w = true := by
  obtain ⟨x, rfl, hx⟩ := nmW_of h
  exact com_of (by have := (nmL_len hx).2; rw [Str_len] at this; exact Nat.le_trans this (by decide)) (nmL_sgn hx)
theorem nmW_flat {w : W} (h : nmW w = true) : flatW w = true := by
  obtain ⟨x, rfl, hx⟩ := nmW_of h
  rfl
theorem cs_cut5 (x : Str) : cs (cutS x none (some 5)) = (cs x).take 5 := by
  unfold cutS HT.sIx
  simp only [List.drop_zero, Nat.sub_zero]
  rw [if_neg (by decide), Str_len]
  show List.take (min 5 _) _ = _
  exact List.take_eq_take_min.symm
theorem nm_spare {x : Str} {c : Nat} (h : nmL (cs x) = true) (hc : isSgn c = true) : nmL (cs (cutS x none (some 5) ++ ⟨#[c]⟩)) = true := by
  obtain ⟨d, r, e, h1, h2, h3⟩ := nmL_iff.mp h
  refine nmL_iff.mpr ⟨d, r.take 4 ++ [c], ?_, ?_, h2, ?_⟩
  · rw [cs_app, cs_cut5, e]
    rfl
  · simp
    omega
  · rw [List.all_append]
    refine Bool.and_eq_true_iff.mpr ⟨?_, ?_⟩
    · exact List.all_eq_true.mpr fun u hu => List.all_eq_true.mp h3 u (List.mem_of_mem_take hu)
    · show (isSgn c && true) = true
      rw [hc]
      rfl
/-- a comprehension with a test -/
theorem lc_filter {ρ : Mm.Env} {g : MG} {t : MW Bool} {e : MV} {p : W → Bool} : ∀ (ws acc : List W) (S : Sto), (∀ w, w ∈ ws → Sat (g w ρ S) fun ρ1 S1 => Sat (t ρ1 S1) fun b S2 => b = p w ∧ S2 = S ∧ (b = true → Sat (e ρ1 S2) fun y S3 => y = w ∧ S3 = S)) → acc.length + ws.length ≤ sizeLine → mLcLoop g t e ρ ws acc S = .ok (acc ++ ws.filter p) S
  | [], acc, S, _, _ => by simp [mLcLoop]
  | w :: ws, acc, S, h, hz => by
    have hz' : acc.length + (ws.length + 1) ≤ sizeLine := by simpa using hz
    refine sat_to ?_
    rw [sat_lcloop1, sat_turn]
    refine (h w List.mem_cons_self).mono fun ρ1 S1 h2 => h2.mono fun b S2 ⟨e1, e2, h3⟩ => ?_
    subst e1
    subst e2
    cases hp : p w with
    | false =>
      rw [ifF]
      show Sat (mLcLoop g t e ρ ws acc S2) _
      rw [lc_filter ws acc S2 (fun u hu => h u (List.mem_cons_of_mem _ hu)) (by omega), List.filter_cons, hp]
      exact ⟨by simp, rfl⟩
    | true =>
      rw [ifT]
      refine (h3 hp).mono fun y S3 ⟨e1, e2⟩ => ?_
      subst e1
      subst e2
      show if acc.length < sizeLine then _ else False
      rw [if_pos (by omega), lc_filter ws (acc ++ [y]) S3 (fun u hu => h u (List.mem_cons_of_mem _ hu)) (by simp; omega), List.filter_cons, hp]
      exact ⟨by simp, rfl⟩

/-- more unlike things than the list holds: one is not in it -/
theorem pigeon : ∀ {xs : List Str} {ys : List Str}, xs.Nodup → (∀ x, x ∈ xs → x ∈ ys) → xs.length ≤ ys.length
  | [], _, _, _ => Nat.zero_le _
  | x :: xs, ys, nd, h => by
    have h1 := h x List.mem_cons_self
    have h2 := pigeon (xs := xs) (ys := ys.erase x) (List.nodup_cons.mp nd).2 fun z hz => (List.mem_erase_of_ne (fun (e : z = x) => (List.nodup_cons.mp nd).1 (show x ∈ xs by rw [← e]; exact hz))).mpr (h z (List.mem_cons_of_mem _ hz))
    rw [List.length_erase_of_mem h1] at h2
    have := List.length_pos_of_mem h1
    simp
    omega
def strW : W → Str
  | .str x => x
  | _ => ""
def spares (x : Str) : List Str := (cs SIG).map fun c => cutS x none (some 5) ++ ⟨#[c]⟩
theorem spares_nd (x : Str) : (spares x).Nodup := by
  unfold spares
  refine List.Pairwise.map _ (fun a b hab h => hab ?_) (show (cs SIG).Nodup by decide +kernel)
  have := congrArg cs h
  rw [cs_app, cs_app] at this
  have := List.append_cancel_left this
  simpa using this
theorem any_mem {ks : List W} {x : Str} (hk : ∀ w, w ∈ ks → nmW w = true) : (ks.any fun y => eqF y (.str x)) = true ↔ x ∈ ks.map strW := by
  rw [List.any_eq_true, List.mem_map]
  constructor
  · rintro ⟨w, hw, e⟩
    obtain ⟨z, rfl, _⟩ := nmW_of (hk w hw)
    have : z = x := by simpa [eqF] using e
    exact ⟨_, hw, this⟩
  · rintro ⟨w, hw, e⟩
    obtain ⟨z, rfl, _⟩ := nmW_of (hk w hw)
    exact ⟨_, hw, by have : z = x := e; simp [eqF, this]⟩
theorem in_loc {S : Sto} {l : Nat} {ks : List W} {w : W} (e : S[l]? = some (.lst ks)) (hw : nmW w = true) (hk : ∀ w, w ∈ ks → nmW w = true) : inW w (.loc l) S = some (ks.any fun y => eqF y w) := by
  obtain ⟨x, rfl, _⟩ := nmW_of hw
  unfold inW
  simp only
  have : seqA S (.loc l) = some ks := by
    unfold seqA seqL
    simp only [e]
  rw [this]
  simp only
  rw [if_pos ⟨rfl, List.all_eq_true.mpr fun u hu => nmW_flat (hk u hu)⟩]
theorem tail_sat {n i m : Nat} {T S : Sto} {ks : List W} {a b : W} {x : Str} {Q : W → Sto → Prop} (g : Gd n T S) (hm : m = n + T.length) (hT : T[i]? = some (.lst ks)) (hk : ∀ w, w ∈ ks → nmW w = true) (hl : ks.length < 36) (hx : nmL (cs x) = true)
    (k : ∀ w, nmW w = true → (ks.any fun y => eqF y w) = false → Q w S) : Sat (c__law_term_4 [some a, some (.loc (n + i)), some b, some (.str SIG), some (.str x), none, none, none, none] S) (finK m Q) := by
  have hz : x.length ≤ 2 ^ 24 := Nat.le_trans (nmL_len hx).2 (by decide)
  simp only [c__law_term_4, sats, sizeLine, itemsOf]
  refine lc_sat (fun w => .str (cutS x none (some 5) ++ strW w)) (fun w hw => ?_) (by rw [List.length_map]; decide +kernel) ?_
  · obtain ⟨c, hc, rfl⟩ := List.mem_map.mp hw
    simp only [sats, sizeLine, if_pos hz]
    rw [if_pos ?_]
    · exact ⟨rfl, trivial⟩
    · rw [Str_len]
      show (cs (cutS x none (some 5))).length + 1 ≤ _
      rw [cs_cut5]
      simp
      omega
  rw [List.map_map]
  have e1 : ((cs SIG).map ((fun w => W.str (cutS x none (some 5) ++ strW w)) ∘ fun c => W.str ⟨#[c]⟩)) = (spares x).map W.str := by
    unfold spares
    rw [List.map_map]
    rfl
  rw [e1]
  have hs : ∀ w, w ∈ W.str x :: (spares x).map W.str → nmW w = true := by
    intro w hw
    rcases List.mem_cons.mp hw with rfl | hw
    · exact hx
    · obtain ⟨y, hy, rfl⟩ := List.mem_map.mp hw
      obtain ⟨c, hc, rfl⟩ := List.mem_map.mp hy
      have hc' : isSgn c = true := by
        rw [← in_signs]
        exact decide_eq_true hc
      exact nm_spare hx hc'
  have hlen : (spares x).length = 36 := by unfold spares; rw [List.length_map]; decide +kernel
  rw [if_pos (by rw [List.length_map, hlen]; decide)]
  simp only [List.cons_append, List.nil_append]
  have e2 : S[n + i]? = some (.lst ks) := (g.get i).trans hT
  rw [lc_filter (p := fun w => !(ks.any fun y => eqF y w)) _ [] S (fun w hw => ?_) (by simp [hlen, sizeLine])]
  · have hne : ((W.str x :: (spares x).map W.str).filter fun w => !(ks.any fun y => eqF y w)) ≠ [] := by
      intro h0
      have all : ∀ z, z ∈ spares x → z ∈ ks.map strW := by
        intro z hz
        have := (List.filter_eq_nil_iff.mp h0) (W.str z) (List.mem_cons_of_mem _ (List.mem_map_of_mem hz))
        refine (any_mem hk).mp ?_
        simpa using this
      have := pigeon (spares_nd x) all
      rw [hlen, List.length_map] at this
      omega
    cases hf : (W.str x :: (spares x).map W.str).filter fun w => !(ks.any fun y => eqF y w) with
    | nil => exact absurd hf hne
    | cons w rest =>
      have hw : w ∈ (W.str x :: (spares x).map W.str).filter fun w => !(ks.any fun y => eqF y w) := by rw [hf]; exact List.mem_cons_self
      obtain ⟨hw1, hw2⟩ := List.mem_filter.mp hw
      have hn := hs w hw1
      rw [sat_ok]
      simp only [List.nil_append, sats]
      refine fin_sat0 g hm (datW_bel (nmW_dat hn)) (k w hn (by simpa using hw2))
  · simp only [sats, in_loc e2 (hs w hw) hk]
    exact ⟨trivial, trivial, fun _ => ⟨trivial, trivial⟩⟩
end Lw

namespace Lw
open PySem Mm L2
abbrev MENU : List W := [.str "put", .str "copy", .str "reckon", .str "look", .str "show", .str "wait", .str "set", .str "give", .str "take", .str "room", .str "lane", .str "at", .str "of", .str "none", .str "ok", .str "begin"]
theorem menu_nm : MENU.all nmW = true := by decide +kernel
theorem term_sat {n j i : Nat} {T S : Sto} {ks : List W} {Q : W → Sto → Prop} (g : Gd n T S) (hj : j < n) (hT : T[i]? = some (.lst ks)) (hk : ∀ w, w ∈ ks → nmW w = true) (hl : ks.length < 36)
    (k : ∀ w S', Gd n T S' → nmW w = true → (ks.any fun y => eqF y w) = false → Q w S') : Sat (m__law_term [.loc j, .loc (n + i)] S) Q := by
  have hm : S.length = n + T.length := g.len
  simp only [m__law_term, c__law_term, sats, sizeLine, hm]
  refine draw_sat g hj (by decide) (by decide) fun r S1 g1 h0 h1 => ?_
  simp only [sats, List.cons_append, List.nil_append]
  obtain ⟨w, hw, e⟩ := at_in (xs := MENU) h0 h1
  refine ⟨w, e, ?_⟩
  have hw2 : nmW w = true := List.all_eq_true.mp menu_nm w hw
  obtain ⟨x, rfl, hx⟩ := nmW_of hw2
  refine draw_sat g1 hj (by decide) (by decide) fun r2 S2 g2 h02 h12 => ?_
  simp only [sats]
  by_cases h3 : 0 < r2
  · rw [if_pos (decide_eq_true h3)]
    refine draw_sat g2 hj (by decide) (by decide) fun r3 S3 g3 h03 h13 => ?_
    simp only [sats]
    rw [if_pos (by decide +kernel)]
    obtain ⟨c, ec, hc1, hc2⟩ := sig_at h03 (by omega)
    refine ⟨c, ec, ?_⟩
    refine draw_sat g3 hj (by decide) (by decide) fun r4 S4 g4 h04 h14 => ?_
    refine ⟨r4, rfl, by omega, by omega, ?_⟩
    refine lc_inv (I := fun ws acc S' => Gd n T S' ∧ acc.length + ws.length = r4.toNat ∧ ∀ w, w ∈ acc → sgnW w = true) ?_ ?_ _ _ _ ⟨g4, by simp [rngW], fun _ h => by cases h⟩
    · rintro acc S' ⟨g', hl', hacc⟩
      simp only [List.length_nil, Nat.add_zero] at hl'
      obtain ⟨ts, t1, t2, t3, t4, t5⟩ := join_sgn hacc
      refine ⟨ts, t1, ?_⟩
      rw [if_pos (by rw [t3, t2, hl', show (Str.ofString "").length = 0 from rfl]; omega)]
      have hlen : (Txt.join (Str.ofString "") ts).length = acc.length := by rw [Str_len]; exact t4
      rw [if_pos (by rw [hlen]; exact Nat.le_trans (show 1 + acc.length ≤ 7 by omega) (by decide))]
      refine tail_sat g' rfl hT hk hl ?_ (fun w => k w _ g')
      refine nmL_iff.mpr ⟨c, cs (Txt.join "" ts), ?_, ?_, hc2 (by omega), t5⟩
      · rw [cs_app]; rfl
      · rw [t4]; omega
    · rintro w ws acc S' ⟨g', hl', hacc⟩
      simp only [sats]
      refine draw_sat g' hj (by decide) (by decide) fun r5 S5 g5 h05 h15 => ?_
      simp only [sats]
      rw [if_pos (by decide +kernel)]
      obtain ⟨d, ed, hd1, hd2⟩ := sig_at h05 (by omega)
      refine ⟨d, ed, ?_, g5, ?_, ?_⟩
      · simp only [List.length_cons] at hl'
        show _ < 2 ^ 24
        omega
      · simp only [List.length_cons] at hl'
        simp
        omega
      · intro u hu
        rcases List.mem_append.mp hu with hu | hu
        · exact hacc u hu
        · rw [List.mem_singleton.mp hu]
          exact hd1
  · rw [if_neg (by simpa using h3)]
    exact tail_sat g2 rfl hT hk hl hx (fun w => k w _ g2)

/-- the list that is being filled: at the store's end -/
theorem set_last {T : Sto} {o o' : O} : (T ++ [o]).set T.length o' = T ++ [o'] := by simp
theorem get_last {T : Sto} {o : O} : (T ++ [o])[T.length]? = some o := by simp
theorem terms_sat {n j : Nat} {T S : Sto} {many : Int} {Q : W → Sto → Prop} (g : Gd n T S) (hj : j < n) (h0 : 0 ≤ many) (h1 : many ≤ 36)
    (k : ∀ ws S', Gd n T S' → ws.length = many.toNat → (∀ w, w ∈ ws → nmW w = true) → (ws.map strW).Nodup → Q (.lst ws) S') : Sat (m__law_terms [.loc j, .int many] S) Q := by
  have hm : S.length = n + T.length := g.len
  simp only [m__law_terms, c__law_terms, sats, sizeLine, hm]
  refine ⟨many, rfl, by omega, by omega, ?_⟩
  refine loop_inv (I := fun ws ρ S' => ∃ ks o, ρ = [some (.loc j), some (.int many), some (.loc (n + T.length)), o] ∧ Gd n (T ++ [.lst ks]) S' ∧ ks.length + ws.length = many.toNat ∧ (∀ w, w ∈ ks → nmW w = true) ∧ (ks.map strW).Nodup) ?_ ?_ _ _ _ ⟨[], none, rfl, g.push rfl, by simp [rngW], fun _ h => by (cases h), List.nodup_nil⟩
  · rintro ρ S' ⟨ks, o, rfl, g', hl', hk, nd⟩
    simp only [List.length_nil, Nat.add_zero] at hl'
    simp only [sats]
    exact fin_list (i := 0) g' rfl rfl (fun w hw => by obtain ⟨x, rfl, _⟩ := nmW_of (hk w hw); rfl) (by omega) fun S'' g'' => k ks S'' g'' hl' hk nd
  · rintro w ws ρ S' ⟨ks, o, rfl, g', hl', hk, nd⟩
    simp only [List.length_cons] at hl'
    have e1 : ∀ S'', Gd n (T ++ [.lst ks]) S'' → S''[n + T.length]? = some (.lst ks) := fun S'' g'' => (g''.get _).trans get_last
    simp only [sats]
    refine ⟨_, rfl, ⟨ks, e1 _ g'⟩, ?_⟩
    refine term_sat g' hj get_last hk (by omega) fun u S2 g2 hu hn => ?_
    refine ⟨ks, e1 _ g2, by show _ < 2 ^ 24; omega, ?_⟩
    refine ⟨ks ++ [u], _, rfl, ?_, by simp; omega, ?_, ?_⟩
    · have := g2.set (i := T.length) (o := .lst (ks ++ [u])) (belWs_of fun v hv => ?_)
      · rw [set_last] at this
        exact this
      · rcases List.mem_append.mp hv with hv | hv
        · exact datW_bel (nmW_dat (hk v hv))
        · rw [List.mem_singleton.mp hv]
          exact datW_bel (nmW_dat hu)
    · intro v hv
      rcases List.mem_append.mp hv with hv | hv
      · exact hk v hv
      · rw [List.mem_singleton.mp hv]
        exact hu
    · obtain ⟨x, rfl, _⟩ := nmW_of hu
      rw [List.map_append]
      refine List.nodup_append.mpr ⟨nd, by simp, ?_⟩
      intro a ha b hb e
      have hb' : b = x := by simpa [strW] using hb
      subst hb'
      subst e
      have := (any_mem hk).mpr ha
      rw [hn] at this
      cases this
theorem number_sat {n j : Nat} {T S : Sto} {Q : W → Sto → Prop} (g : Gd n T S) (hj : j < n) (k : ∀ r S', Gd n T S' → -999999 ≤ r → r ≤ 999999 → Q (.int r) S') : Sat (m__law_number [.loc j] S) Q := by
  have hm : S.length = n + T.length := g.len
  simp only [m__law_number, c__law_number, sats, sizeLine, hm]
  refine draw_sat g hj (by decide) (by decide) fun r S1 g1 h0 h1 => ?_
  simp only [sats]
  obtain ⟨w, hw, e⟩ := at_in (xs := [W.int 10, .int 1000, .int 1000000]) h0 h1
  refine ⟨w, e, ?_⟩
  have hw2 : ∃ m : Int, w = .int m ∧ 0 < m ∧ m ≤ 1000000 := by
    simp only [List.mem_cons, List.not_mem_nil, or_false] at hw
    rcases hw with rfl | rfl | rfl <;> exact ⟨_, rfl, by decide, by decide⟩
  obtain ⟨m, rfl, hm0, hm1⟩ := hw2
  refine draw_sat g1 hj hm0 (by omega) fun r2 S2 g2 h02 h12 => ?_
  simp only [sats]
  refine draw_sat g2 hj (by decide) (by decide) fun r3 S3 g3 h03 h13 => ?_
  simp only [sats]
  obtain ⟨w, hw, e⟩ := at_in (xs := [W.int r2, .int r2, .int (0 - r2)]) h03 h13
  refine ⟨w, e, ?_⟩
  simp only [List.mem_cons, List.not_mem_nil, or_false] at hw
  rcases hw with rfl | rfl | rfl <;> exact fin_sat0 g3 rfl rfl (k _ _ g3 (by omega) (by omega))
end Lw

namespace Lw
open PySem Mm L2
def comN (m : Nat) (x : Str) : Prop := (cs x).length ≤ m ∧ ∀ c, c ∈ cs x → c < 128
theorem comN.dat {m : Nat} {x : Str} (h : comN m x) (hm : m ≤ 1000) : datW (.str x) = true :=
  Bool.and_eq_true_iff.mpr ⟨decide_eq_true (Nat.le_trans h.1 hm), List.all_eq_true.mpr fun c hc => decide_eq_true (h.2 c hc)⟩
theorem comN.app {m n : Nat} {x y : Str} (h : comN m x) (h2 : comN n y) : comN (m + n) (x ++ y) := by
  unfold comN
  rw [cs_app]
  refine ⟨by rw [List.length_append]; exact Nat.add_le_add h.1 h2.1, fun c hc => ?_⟩
  rcases List.mem_append.mp hc with hc | hc
  · exact h.2 c hc
  · exact h2.2 c hc
theorem comN.cut {m : Nat} {x : Str} (h : comN m x) (lo hi : Option Int) : comN m (cutS x lo hi) := by
  unfold comN cutS
  refine ⟨Nat.le_trans ?_ h.1, fun c hc => h.2 c (List.mem_of_mem_drop (List.mem_of_mem_take hc))⟩
  show (List.take _ (List.drop _ (cs x))).length ≤ (cs x).length
  rw [List.length_take, List.length_drop]
  omega
theorem comN.nm {x : Str} (h : nmL (cs x) = true) : comN 6 x := by
  refine ⟨by have := (nmL_len h).2; rw [Str_len] at this; exact this, fun c hc => sgn_com (List.all_eq_true.mp (nmL_sgn h) c hc)⟩
theorem rep_cs (x : Str) : ∀ n, cs (repS x n) = (List.replicate n (cs x)).flatten
  | n => by
    unfold repS cs
    simp only
    have : ∀ (l : List (Array Nat)) (a : Array Nat), (l.foldl (· ++ ·) a).toList = a.toList ++ (l.map Array.toList).flatten := by
      intro l
      induction l with
      | nil => intro a; simp
      | cons b l ih => intro a; rw [List.foldl_cons, ih]; simp
    rw [this]
    simp
theorem comN.rep {m : Nat} {x : Str} (h : comN m x) (n : Nat) : comN (n * m) (repS x n) := by
  unfold comN
  rw [rep_cs]
  refine ⟨?_, fun c hc => ?_⟩
  · rw [List.length_flatten, List.map_replicate, List.sum_replicate_nat]
    exact Nat.mul_le_mul_left _ h.1
  · obtain ⟨l, hl, hc⟩ := List.mem_flatten.mp hc
    rw [(List.mem_replicate.mp hl).2] at hc
    exact h.2 c hc
theorem comN.lit {x : Str} (h : (decide ((cs x).length ≤ 10) && (cs x).all fun c => decide (c < 128)) = true) : comN 10 x :=
  ⟨of_decide_eq_true (Bool.and_eq_true_iff.mp h).1, fun c hc => of_decide_eq_true (List.all_eq_true.mp (Bool.and_eq_true_iff.mp h).2 c hc)⟩
theorem comN.len {m : Nat} {x : Str} (h : comN m x) : x.length ≤ m := by rw [Str_len]; exact h.1
theorem ifp {c p q : Prop} [Decidable c] (h : c) (k : p) : if c then p else q := by rw [if_pos h]; exact k
theorem odd_sat {n j : Nat} {T S : Sto} {x : Str} {Q : W → Sto → Prop} (g : Gd n T S) (hj : j < n) (hx : nmL (cs x) = true) (k : ∀ w S', Gd n T S' → datW w = true → Q w S') : Sat (m__law_odd_term [.loc j, .str x] S) Q := by
  have hm : S.length = n + T.length := g.len
  have hc := comN.nm hx
  have l1 := nmL_len hx
  have l5 := (hc.cut none (some 5)).len
  have l3 := (hc.cut none (some 3)).len
  have hA : comN 10 "A" := comN.lit (by decide +kernel)
  have h1 : comN 10 "1" := comN.lit (by decide +kernel)
  have h_ : comN 10 "_" := comN.lit (by decide +kernel)
  have hS : comN 10 " " := comN.lit (by decide +kernel)
  have hD : comN 10 "-" := comN.lit (by decide +kernel)
  have h9 : comN 10 "9" := comN.lit (by decide +kernel)
  have h0 : comN 10 "00000" := comN.lit (by decide +kernel)
  have lA := hA.len
  have l1' := h1.len
  have l_ := h_.len
  have lS := hS.len
  have lD := hD.len
  have l9 := h9.len
  have l0 := h0.len
  have l7 := (hc.rep 7).len
  have l00 := (hc.app h0).len
  simp only [m__law_odd_term, c__law_odd_term, sats, sizeLine, hm, if_pos (show x.length ≤ 2 ^ 24 by omega), show (7 : Int).toNat = 7 from rfl]
  simp only [List.cons_append, List.nil_append, lenS, len0]
  repeat refine ifp (by omega) ?_
  refine draw_sat g hj (by decide) (by decide) fun r S1 g1 h0' h1' => ?_
  simp only [sats]
  obtain ⟨w, hw, e⟩ := at_in (xs := [W.str "", .str "A", .str (x ++ "A"), .str ("1" ++ cutS x none (some 5)), .str ("_" ++ cutS x none (some 5)), .str (cutS (repS x 7) none (some 7)), .str (cutS x none (some 5) ++ " "), .str (" " ++ cutS x none (some 5)), .non, .int 7, .lst [.str x], .tup [.str x], .str (cutS x none (some 3) ++ "-"), .bl true, .dct [] [], .tup [.lst []], .str "9", .str (cutS x none (some 5) ++ "9"), .str (cutS (x ++ "00000") none (some 6)), .int 0]) h0' h1'
  refine ⟨w, e, ?_⟩
  have hd : datW w = true := by
    simp only [List.mem_cons, List.not_mem_nil, or_false] at hw
    have dx := hc.dat (by decide)
    rcases hw with rfl | rfl | rfl | rfl | rfl | rfl | rfl | rfl | rfl | rfl | rfl | rfl | rfl | rfl | rfl | rfl | rfl | rfl | rfl | rfl
    · decide +kernel
    · exact hA.dat (by decide)
    · exact (hc.app hA).dat (by decide)
    · exact (h1.app (hc.cut _ _)).dat (by decide)
    · exact (h_.app (hc.cut _ _)).dat (by decide)
    · exact ((hc.rep 7).cut _ _).dat (by decide)
    · exact ((hc.cut _ _).app hS).dat (by decide)
    · exact (hS.app (hc.cut _ _)).dat (by decide)
    · rfl
    · rfl
    · simp only [datW, datWs] at dx ⊢; rw [dx]; rfl
    · simp only [datW, datWs] at dx ⊢; rw [dx]; rfl
    · exact ((hc.cut _ _).app hD).dat (by decide)
    · rfl
    · rfl
    · rfl
    · exact h9.dat (by decide)
    · exact ((hc.cut _ _).app h9).dat (by decide)
    · exact ((hc.app h0).cut _ _).dat (by decide)
    · rfl
  exact fin_sat0 g1 rfl (datW_bel hd) (k w S1 g1 hd)
end Lw

namespace Lw
open PySem Mm L2
def okC (w : W) : Prop := datW w = true ∧ cmdW w = true
theorem okC.bel {w : W} (h : okC w) : belW 0 w = true := datW_bel h.1
theorem bel_ok {ks : List W} (h : ∀ w, w ∈ ks → okC w) : belO 0 (.lst ks) = true := belWs_of fun w hw => (h w hw).bel
theorem inR_of {lo hi : Int} {w : W} (h : inR lo hi w = true) : datW w = true := by
  cases w with
  | int i => rfl
  | _ => cases h
theorem app_all {p : W → Prop} {xs ys : List W} (h : ∀ w, w ∈ xs → p w) (h2 : ∀ w, w ∈ ys → p w) : ∀ w, w ∈ xs ++ ys → p w := fun w hw => (List.mem_append.mp hw).elim (h w) (h2 w)
theorem one_all {p : W → Prop} {x : W} (h : p x) : ∀ w, w ∈ [x] → p w := fun w hw => by rw [List.mem_singleton.mp hw]; exact h
theorem dat_tup {ws : List W} (h : ∀ w, w ∈ ws → datW w = true) : datW (.tup ws) = true := by unfold datW; exact datWs_of h
theorem dat_key {x : Str} (h : comS x = true) : datW (.str x) = true := by unfold datW; exact h
theorem good_sat {n j : Nat} {T S : Sto} {Q : W → Sto → Prop} (g : Gd n T S) (hj : j < n) (k : ∀ w S', Gd n T S' → datW w = true → cmdW w = true → Q w S') : Sat (m__law_good [.loc j] S) Q := by
  have hm : S.length = n + T.length := g.len
  simp only [m__law_good, c__law_good, sats, sizeLine, hm]
  refine terms_sat g hj (by decide) (by decide) fun ws S1 g1 hl hw nd => ?_
  obtain ⟨a, b, c, d, e, rfl⟩ : ∃ a b c d e, ws = [a, b, c, d, e] := by
    rcases ws with _ | ⟨a, _ | ⟨b, _ | ⟨c, _ | ⟨d, _ | ⟨e, _ | ⟨f, ws⟩⟩⟩⟩⟩⟩ <;> simp at hl
    exact ⟨a, b, c, d, e, rfl⟩
  have ha : nmW a = true := hw a (by simp)
  have hb : nmW b = true := hw b (by simp)
  refine number_sat g1 hj fun r S2 g2 r0 r1 => ?_
  simp only [sats]
  refine draw_sat g2 hj (by decide) (by decide) fun i1 S3 g3 i10 i11 => ?_
  simp only [sats]
  obtain ⟨nw, hnw, enw⟩ := at_in (xs := [W.int 0, .int 999999, .int (-999999), .int r]) i10 i11
  refine ⟨nw, enw, ?_⟩
  have hn2 : inR (-999999) 999999 nw = true := by
    simp only [List.mem_cons, List.not_mem_nil, or_false] at hnw
    rcases hnw with rfl | rfl | rfl | rfl <;> simp [inR] <;> omega
  refine draw_sat g3 hj (by decide) (by decide) fun i2 S4 g4 i20 i21 => ?_
  simp only [sats]
  obtain ⟨cw, hcw, ecw⟩ := at_in (xs := [a, b, c, d, e]) i20 (by simp; omega)
  refine ⟨cw, ecw, ?_⟩
  have hcw2 := hw cw hcw
  refine ifp (by decide) (ifp (by decide) ?_)
  have okput : okC (.tup [.str "put", a, nw]) := by
    refine ⟨dat_tup fun w hw => ?_, by simp [cmdW, ha, hn2]⟩
    simp only [List.mem_cons, List.not_mem_nil, or_false] at hw
    rcases hw with rfl | rfl | rfl
    · decide +kernel
    · exact nmW_dat ha
    · exact inR_of hn2
  have okcopy : okC (.tup [.str "copy", a, cw]) := by
    refine ⟨dat_tup fun w hw => ?_, by simp [cmdW, keysNe, ha, hcw2]⟩
    simp only [List.mem_cons, List.not_mem_nil, or_false] at hw
    rcases hw with rfl | rfl | rfl
    · decide +kernel
    · exact nmW_dat ha
    · exact nmW_dat hcw2
  have ok1 : ∀ key : Str, comS key = true → cmdW (.tup [.str key, a]) = true → okC (.tup [.str key, a]) := by
    intro key hk hc
    refine ⟨dat_tup fun w hw => ?_, hc⟩
    simp only [List.mem_cons, List.not_mem_nil, or_false] at hw
    rcases hw with rfl | rfl
    · exact dat_key hk
    · exact nmW_dat ha
  have ok2 : ∀ (key : Str) (i : Int), comS key = true → cmdW (.tup [.str key, a, .int i]) = true → okC (.tup [.str key, a, .int i]) := by
    intro key i hk hc
    refine ⟨dat_tup fun w hw => ?_, hc⟩
    simp only [List.mem_cons, List.not_mem_nil, or_false] at hw
    rcases hw with rfl | rfl | rfl
    · exact dat_key hk
    · exact nmW_dat ha
    · rfl
  have okA : ∀ w, w ∈ [W.tup [.str "put", a, nw], .tup [.str "copy", a, cw]] → okC w := by
    intro w hw
    simp only [List.mem_cons, List.not_mem_nil, or_false] at hw
    rcases hw with rfl | rfl
    · exact okput
    · exact okcopy
  have l4 : S4.length = n + T.length := g4.len
  have g5 := g4.push (bel_ok okA)
  rw [l4]
  generalize hA : [W.tup [.str "put", a, nw], .tup [.str "copy", a, cw]] = A at okA g5
  have hAl : A.length = 2 := by rw [← hA]; rfl
  refine draw_sat g5 hj (by decide) (by decide) fun i3 S6 g6 i30 i31 => ?_
  simp only [sats]
  refine ⟨1 + i3, rfl, by omega, by omega, ?_⟩
  refine lc_inv (I := fun ws acc S' => Gd n (T ++ [.lst A]) S' ∧ acc.length + ws.length = (1 + i3).toNat ∧ ∀ w, w ∈ acc → nmW w = true) ?_ ?_ _ _ _ ⟨g6, by simp [rngW], fun _ h => by cases h⟩
  rotate_left
  · rintro w ws acc S' ⟨g', hl', hacc⟩
    simp only [sats]
    refine draw_sat g' hj (by decide) (by decide) fun i4 S7 g7 i40 i41 => ?_
    simp only [sats]
    obtain ⟨u, hu, eu⟩ := at_in (xs := [a, b, c, d, e]) i40 (by simp; omega)
    simp only [List.length_cons] at hl'
    refine ⟨u, eu, by show _ < 2 ^ 24; omega, g7, by simp; omega, app_all hacc (one_all (hw u hu))⟩
  rintro ys S7 ⟨g7, hl7, hys⟩
  simp only [List.length_nil, Nat.add_zero] at hl7
  have oreck : okC (.tup [.str "reckon", a, .tup ys, b]) := by
    refine ⟨dat_tup fun w hw => ?_, ?_⟩
    · simp only [List.mem_cons, List.not_mem_nil, or_false] at hw
      rcases hw with rfl | rfl | rfl | rfl
      · decide +kernel
      · exact nmW_dat ha
      · exact dat_tup fun w hw => nmW_dat (hys w hw)
      · exact nmW_dat hb
    · have h1 : 1 ≤ ys.length := by omega
      have h3 : ys.length ≤ 3 := by omega
      have hall : ys.all nmW = true := List.all_eq_true.mpr hys
      simp only [cmdW, keysNe, ifF2, ifT2, nmsW, ha, hb, hall, h1, h3]
      simp
  refine ⟨_, rfl, ⟨A, (g7.get _).trans get_last⟩, ifp (by decide) ⟨A, (g7.get _).trans get_last, by rw [hAl]; decide, ?_⟩⟩
  refine ifp (by decide) (ifp (by decide) (ifp (by decide) ?_))
  have okB := app_all okA (one_all oreck)
  have g8 := g7.set (i := T.length) (o := .lst (A ++ [.tup [.str "reckon", a, .tup ys, b]])) (bel_ok okB)
  rw [set_last] at g8
  refine draw_sat g8 hj (by decide) (by decide) fun i5 S9 g9 i50 i51 => ?_
  refine ifp (by decide) (ifp (by decide) ⟨_, (g9.get _).trans get_last, by rw [List.length_append, hAl, lenS, len0]; decide, ?_⟩)
  have okL : ∀ w, w ∈ [W.tup [W.str "look", a], .tup [.str "show", a], .tup [.str "take", a], .tup [.str "give", a, .int i5]] → okC w := by
    intro w hw
    simp only [List.mem_cons, List.not_mem_nil, or_false] at hw
    rcases hw with rfl | rfl | rfl | rfl
    · exact ok1 "look" (by decide +kernel) (by simp [cmdW, keysNe, ha])
    · exact ok1 "show" (by decide +kernel) (by simp [cmdW, keysNe, ha])
    · exact ok1 "take" (by decide +kernel) (by simp [cmdW, keysNe, ha])
    · exact ok2 "give" i5 (by decide +kernel) (by simp [cmdW, keysNe, ha, inR]; omega)
  have okC7 := app_all okB okL
  have g10 := g9.push (bel_ok okC7)
  generalize hB : (A ++ [W.tup [.str "reckon", a, .tup ys, b]]) = B at *
  have hBl : B.length = 3 := by rw [← hB, List.length_append, hAl]; rfl
  generalize hC : (B ++ [W.tup [W.str "look", a], .tup [.str "show", a], .tup [.str "take", a], .tup [.str "give", a, .int i5]]) = C at *
  have hCl : C.length = 7 := by rw [← hC, List.length_append, hBl]; rfl
  have l9 : S9.length = n + (T ++ [O.lst B]).length := g9.len
  rw [l9]
  have gl : ∀ {K S'}, Gd n (T ++ [O.lst B] ++ [O.lst K]) S' → S'[n + (T ++ [O.lst B]).length]? = some (.lst K) := fun g' => (g'.get _).trans get_last
  refine ⟨_, rfl, ⟨C, gl g10⟩, ?_⟩
  refine draw_sat g10 hj (by decide) (by decide) fun i6 S11 g11 i60 i61 => ?_
  simp only [sats]
  refine ifp (by decide) ?_
  refine draw_sat g11 hj (by decide) (by decide) fun i7 S12 g12 i70 i71 => ?_
  simp only [sats]
  obtain ⟨w, hw', ew⟩ := at_in (xs := [W.int 1, .int 9999, .int (1 + i6)]) i70 i71
  have okW : okC (.tup [.str "wait", a, w]) := by
    simp only [List.mem_cons, List.not_mem_nil, or_false] at hw'
    rcases hw' with rfl | rfl | rfl <;> exact ok2 "wait" _ (by decide +kernel) (by simp [cmdW, keysNe, ha, inR]; try omega)
  have okC8 := app_all okC7 (one_all okW)
  have g13 := g12.set (i := (T ++ [O.lst B]).length) (o := .lst (C ++ [.tup [.str "wait", a, w]])) (bel_ok okC8)
  rw [set_last] at g13
  generalize hD : (C ++ [W.tup [.str "wait", a, w]]) = D at okC8 g13
  have hDl : D.length = 8 := by rw [← hD, List.length_append, hCl]; rfl
  refine ⟨w, ew, ifp (by decide) ⟨C, gl g12, by rw [hCl]; decide, ?_⟩⟩
  rw [show (C ++ [W.tup [W.str (Str.ofString "wait"), a, w]]) = D from hD]
  refine ⟨_, rfl, ⟨D, gl g13⟩, ?_⟩
  refine draw_sat g13 hj (by decide) (by decide) fun i8 S14 g14 i80 i81 => ?_
  simp only [sats]
  refine ifp (by decide) ?_
  refine draw_sat g14 hj (by decide) (by decide) fun i9 S15 g15 i90 i91 => ?_
  simp only [sats]
  obtain ⟨v, hv', ev⟩ := at_in (xs := [W.int 1, .int 99, .int (1 + i8)]) i90 i91
  have okS : okC (.tup [.str "set", a, v]) := by
    simp only [List.mem_cons, List.not_mem_nil, or_false] at hv'
    rcases hv' with rfl | rfl | rfl <;> exact ok2 "set" _ (by decide +kernel) (by simp [cmdW, keysNe, ha, inR]; try omega)
  have okC9 := app_all okC8 (one_all okS)
  have g16 := g15.set (i := (T ++ [O.lst B]).length) (o := .lst (D ++ [.tup [.str "set", a, v]])) (bel_ok okC9)
  rw [set_last] at g16
  generalize hE : (D ++ [W.tup [.str "set", a, v]]) = F at okC9 g16
  have hEl : F.length = 9 := by rw [← hE, List.length_append, hDl]; rfl
  refine ⟨v, ev, ifp (by decide) ⟨D, gl g15, by rw [hDl]; decide, ?_⟩⟩
  rw [show (D ++ [W.tup [W.str (Str.ofString "set"), a, v]]) = F from hE]
  refine draw_sat g16 hj (by decide) (by decide) fun i10' S17 g17 i100 i101 => ?_
  simp only [sats]
  obtain ⟨u, hu, eu⟩ := at_in (xs := F) i100 (by rw [hEl]; exact i101)
  refine ⟨F, gl g17, u, eu, ?_⟩
  have hok := okC9 u hu
  rw [List.append_assoc] at g17
  exact fin_sat g17 rfl hok.bel fun S' g' => k u S' g' hok.1 hok.2
end Lw

namespace Lw
open PySem Mm L2
theorem cmd_shape {w : W} (h : cmdW w = true) : ∃ x a ws, w = .tup (.str x :: a :: ws) ∧ nmW a = true ∧ ws.length ≤ 2 := by
  unfold cmdW at h
  split at h
  · rename_i x ws
    rcases ws with _ | ⟨a, _ | ⟨b, _ | ⟨c, _ | ⟨d, ws⟩⟩⟩⟩
    · exfalso
      simp at h
    · refine ⟨x, a, [], rfl, ?_, by simp⟩
      cases hn : nmW a with
      | true => rfl
      | false => simp [hn] at h
    · refine ⟨x, a, [b], rfl, ?_, by simp⟩
      cases hn : nmW a with
      | true => rfl
      | false => simp [hn] at h
    · refine ⟨x, a, [b, c], rfl, ?_, by simp⟩
      cases hn : nmW a with
      | true => rfl
      | false => simp [hn] at h
    · exfalso
      simp at h
  · cases h
theorem dat_cut {ws : List W} (h : datWs ws = true) (lo hi : Option Int) : datWs (cutW ws lo hi) = true := datWs_of fun w hw => datWs_mem h (List.mem_of_mem_drop (List.mem_of_mem_take hw))
theorem dat_app {ws us : List W} (h : datWs ws = true) (h2 : datWs us = true) : datWs (ws ++ us) = true := datWs_of fun w hw => (List.mem_append.mp hw).elim (datWs_mem h) (datWs_mem h2)
theorem len_cut {ws : List W} {lo hi : Option Int} : (cutW ws lo hi).length ≤ ws.length := by
  unfold cutW
  rw [List.length_take, List.length_drop]
  omega
theorem dat_one {w : W} (h : datW w = true) : datWs [w] = true := by unfold datWs; rw [h]; rfl
abbrev ODD : List W := [.int (-1000000), .int 1000000, .int 0, .int 100, .int 10000, .int 6, .int (-1), .bl true, .bl false, .non, .str "5", .str "x", .str "set", .str "look", .tup [], .tup [.str "a"], .lst [.str "a"],
  .dct [] [], .lst [], .tup [.str "a", .str "b", .str "c", .str "d"], .tup [.str "a", .int 5], .tup [.str "a", .str "B"], .lst [.str "a", .str "b"], .str "puts", .str "Put", .tup [.str "put"], .int (10 ^ 12), .tup [.str "a", .str "b"]]
theorem odd_dat : datWs ODD = true := by decide +kernel
theorem bent_sat {n j : Nat} {T S : Sto} {w : W} {Q : W → Sto → Prop} (g : Gd n T S) (hj : j < n) (hd : datW w = true) (hc : cmdW w = true) (k : ∀ w S', Gd n T S' → datW w = true → Q w S') : Sat (m__law_bent [.loc j, w] S) Q := by
  have hm : S.length = n + T.length := g.len
  obtain ⟨x, a, us, rfl, ha, hl⟩ := cmd_shape hc
  have hds : datWs (.str x :: a :: us) = true := by unfold datW at hd; exact hd
  have hws : (W.str x :: a :: us).length ≤ 4 := by simp; omega
  have hw0 : 2 ≤ (W.str x :: a :: us).length := by simp
  have fin : ∀ {S' : Sto} {w : W}, Gd n T S' → datW w = true → Sat (finW (n + T.length) w S') Q := fun g' h => fin_sat0 g' rfl (datW_bel h) (k _ _ g' h)
  have lc : ∀ {lo hi : Option Int}, (cutW (W.str x :: a :: us) lo hi).length ≤ 4 := fun {lo hi} => Nat.le_trans len_cut hws
  have dc : ∀ {lo hi : Option Int}, datWs (cutW (W.str x :: a :: us) lo hi) = true := fun {lo hi} => dat_cut hds lo hi
  have dt : ∀ {ws : List W}, datWs ws = true → datW (.tup ws) = true := fun h => by unfold datW; exact h
  have sz4 : (4 : Nat) + 4 + 4 ≤ 2 ^ 24 := by decide
  simp only [m__law_bent, c__law_bent, satS, satP, satI, satE, hm, sizeLine]
  refine draw_sat g hj (by omega) (by omega) fun at' S1 g1 a0 a1 => ?_
  refine draw_sat g1 hj (by decide) (by decide) fun way S2 g2 w0 w1 => ?_
  simp only [sats, List.cons_append, List.nil_append]
  repeat refine ifp (by decide) ?_
  by_cases b0 : way = 0
  · refine ifp (decide_eq_true b0) ?_
    refine ifp ?_ (fin g2 (dt (dat_app dc dc)))
    exact Nat.le_trans (Nat.add_le_add lc lc) (by decide)
  rw [if_neg (by simpa using b0)]
  by_cases b1 : way = 1
  · refine ifp (decide_eq_true b1) ?_
    refine ifp ?_ (ifp ?_ (fin g2 (dt (dat_app (dat_app dc dc) dc))))
    · exact Nat.le_trans (Nat.add_le_add lc lc) (by decide)
    · rw [List.length_append]
      exact Nat.le_trans (Nat.add_le_add (Nat.add_le_add lc lc) lc) (by decide)
  rw [if_neg (by simpa using b1)]
  by_cases b2 : way = 2
  · refine ifp (decide_eq_true b2) ?_
    repeat refine ifp (by decide) ?_
    refine draw_sat g2 hj (by decide) (by decide) fun r S3 g3 r0 r1 => ?_
    simp only [sats]
    obtain ⟨u, hu, eu⟩ := at_in (xs := [W.lst (.str x :: a :: us), .tup [.tup (.str x :: a :: us)], .str x, .non, .dct [] [], .tup (W.str x :: a :: us).reverse, .tup [], .int 0]) r0 r1
    refine ⟨u, eu, fin g3 ?_⟩
    simp only [List.mem_cons, List.not_mem_nil, or_false] at hu
    rcases hu with rfl | rfl | rfl | rfl | rfl | rfl | rfl | rfl
    · unfold datW; exact hds
    · exact dt (dat_one hd)
    · exact datWs_mem hds List.mem_cons_self
    · rfl
    · rfl
    · exact dt (datWs_of fun v hv => datWs_mem hds (List.mem_reverse.mp hv))
    · rfl
    · rfl
  rw [if_neg (by simpa using b2)]
  have last : ∀ {v : W} {S' : Sto}, Gd n T S' → datW v = true → (if (0 + 1 : Nat) ≤ 2 ^ 24 then (if (cutW (W.str x :: a :: us) none (some at')).length + (0 + 1) ≤ 2 ^ 24 then (if (cutW (W.str x :: a :: us) none (some at') ++ [v]).length + (cutW (W.str x :: a :: us) (some (at' + 1)) none).length ≤ 2 ^ 24 then Sat (finW (n + T.length) (.tup (cutW (W.str x :: a :: us) none (some at') ++ [v] ++ cutW (W.str x :: a :: us) (some (at' + 1)) none)) S') Q else False) else False) else False) := by
    intro v S' g' hv
    refine ifp (by decide) (ifp ?_ (ifp ?_ (fin g' (dt (dat_app (dat_app dc (dat_one hv)) dc)))))
    · exact Nat.le_trans (Nat.add_le_add lc (Nat.le_refl _)) (by decide)
    · rw [List.length_append]
      exact Nat.le_trans (Nat.add_le_add (Nat.add_le_add lc (Nat.le_refl _)) lc) (by simp only [lenS, len0]; decide)
  have other : Sat (m__law_draw [W.loc j, W.int 28] S2) fun y S3 => Sat (fIx (.lst ODD) y S3) fun v S' => (if (0 + 1 : Nat) ≤ 2 ^ 24 then (if (cutW (W.str x :: a :: us) none (some at')).length + (0 + 1) ≤ 2 ^ 24 then (if (cutW (W.str x :: a :: us) none (some at') ++ [v]).length + (cutW (W.str x :: a :: us) (some (at' + 1)) none).length ≤ 2 ^ 24 then Sat (finW (n + T.length) (.tup (cutW (W.str x :: a :: us) none (some at') ++ [v] ++ cutW (W.str x :: a :: us) (some (at' + 1)) none)) S') Q else False) else False) else False) := by
    refine draw_sat g2 hj (by decide) (by decide) fun r S3 g3 r0 r1 => ?_
    rw [p_ixL]
    obtain ⟨u, hu, eu⟩ := at_in (xs := ODD) r0 r1
    exact ⟨u, eu, last g3 (datWs_mem odd_dat hu)⟩
  obtain ⟨y, rfl, hy⟩ := nmW_of ha
  by_cases b3 : way < 5
  · rw [if_pos (decide_eq_true b3)]
    by_cases b4 : 0 < at'
    · rw [if_pos (decide_eq_true b4)]
      exact odd_sat g2 hj hy fun v S3 g3 hv => last g3 hv
    · rw [if_neg (by simpa using b4)]
      exact other
  · rw [if_neg (by simpa using b3)]
    exact other
end Lw

namespace Lw
open PySem Mm L2
theorem right_sat {n j : Nat} {T S : Sto} {Q : W → Sto → Prop} (g : Gd n T S) (hj : j < n) (k : ∀ S', Gd n T S' → Q (.bl true) S') : Sat (m__law_right [.loc j] S) Q := by
  have hm : S.length = n + T.length := g.len
  simp only [m__law_right, c__law_right, sats, hm]
  refine ⟨4, rfl, by decide, by decide, ?_⟩
  refine loop_inv (I := fun ws ρ S' => ∃ o1 o2 o3 o4 o5 o6, ρ = [some (.loc j), o1, o2, o3, o4, o5, o6] ∧ Gd n T S') ?_ ?_ _ _ _ ⟨_, _, _, _, _, _, rfl, g⟩
  · rintro ρ S' ⟨o1, o2, o3, o4, o5, o6, rfl, g'⟩
    simp only [sats]
    exact fin_sat0 g' rfl rfl (k _ g')
  rintro _ ws ρ S' ⟨o1, o2, o3, o4, o5, o6, rfl, g'⟩
  simp only [sats]
  refine good_sat g' hj fun deed S1 g1 hd hc => ?_
  simp only [sat_due g1.ws hd, sat_command g1.ws hd, sats, hc, sat_told g1.ws, decide_true]
  refine ⟨6, rfl, by decide, by decide, ?_⟩
  refine loop_inv (I := fun ws ρ S' => ∃ o1 o3 o4 o5 o6, ρ = [some (.loc j), o1, some deed, o3, o4, o5, o6] ∧ Gd n T S') ?_ ?_ _ _ _ ⟨_, _, _, _, _, rfl, g1⟩
  rotate_left
  · rintro _ ws ρ S' ⟨o1, o3, o4, o5, o6, rfl, g'⟩
    simp only [sats]
    refine bent_sat g' hj hd hc fun b S2 g2 hb => ?_
    simp only [sats, sat_due g2.ws hb, sat_command g2.ws hb, sat_command g2.ws hd, hc, sat_told g2.ws, decide_true]
    exact ⟨_, _, _, _, _, rfl, g2⟩
  rintro ρ S2 ⟨o1, o3, o4, o5, o6, rfl, g2⟩
  obtain ⟨x, a, us, rfl, ha, hl⟩ := cmd_shape hc
  obtain ⟨y, rfl, hy⟩ := nmW_of ha
  simp only [sats]
  refine odd_sat g2 hj hy fun od S3 g3 hod => ?_
  simp only [sats, itemsOf]
  refine ifp (by decide) ?_
  have hs : datWs [W.str y, od, .tup (.str x :: .str y :: us), .tup (cutW (.str x :: .str y :: us) (some 1) (some 2))] = true := by
    refine datWs_of fun w hw => ?_
    simp only [List.mem_cons, List.not_mem_nil, or_false] at hw
    have hds : datWs (.str x :: .str y :: us) = true := by unfold datW at hd; exact hd
    rcases hw with rfl | rfl | rfl | rfl
    · exact nmW_dat ha
    · exact hod
    · exact hd
    · unfold datW; exact dat_cut hds _ _
  refine loop_inv (I := fun ws ρ S' => ∃ o1 o3 o5 o6, ρ = [some (.loc j), o1, some (.tup (.str x :: .str y :: us)), o3, some od, o5, o6] ∧ Gd n T S' ∧ ∀ w, w ∈ ws → datW w = true) ?_ ?_ _ _ _ ⟨_, _, _, _, rfl, g3, fun w hw => datWs_mem hs hw⟩
  · rintro ρ S4 ⟨o1, o3, o5, o6, rfl, g4, _⟩
    exact ⟨_, _, _, _, _, _, rfl, g4⟩
  · rintro w ws ρ S4 ⟨o1, o3, o5, o6, rfl, g4, hw⟩
    simp only [sats, sat_name g4.ws (hw w List.mem_cons_self), sat_named g4.ws (hw w List.mem_cons_self), sat_told g4.ws, decide_true]
    exact ⟨_, _, _, _, rfl, g4, fun u hu => hw u (List.mem_cons_of_mem _ hu)⟩
theorem heap_sat {n : Nat} {S : Sto} {i : Int} {Q : W → Sto → Prop} (g : Gd n [] S) (k : ∀ S', Gd (n + 1) [] S' → Q (.loc n) S') : Sat (m__law_heap [.int i] S) Q := by
  have hn : S.length = n := g.len
  have gp : ∀ a b c : Int, Gd (n + 1) [] (S ++ [.lst [.int a, .int b, .int c]]) := by
    intro a b c
    refine ⟨by simp [hn], List.drop_eq_nil_of_le (by simp [hn]), fun l o hl e => ?_, fun o ho => by cases ho⟩
    by_cases z : l < n
    · rw [List.getElem?_append_left (by omega)] at e
      exact g.hp l o z e
    · have : l = S.length := by omega
      subst this
      rw [List.getElem?_append_right (Nat.le_refl _), Nat.sub_self] at e
      cases e
      exact ⟨a, b, c, rfl⟩
  have b1 : -(2 ^ 64) < (7919 : Int) ∧ (7919 : Int) < 2 ^ 64 := by decide
  simp only [m__law_heap, c__law_heap, sats, hn, sizeLine]
  have e0 : ∀ (a : Int), (if (0 : Int) < 1000000087 then if -(2 ^ 64) < i % 1000000087 ∧ i % 1000000087 < 2 ^ 64 ∨ -(2 ^ 64) < (7919 : Int) ∧ (7919 : Int) < 2 ^ 64 then if 0 + 1 + 1 + 1 ≤ 2 ^ 24 then Q (.loc n) (S ++ [.lst [.int a, .int (i % 1000000087 * 7919 + 104729), .int 0]]) else False else False else False) := fun a => ifp (by decide) (ifp (.inr b1) (ifp (by decide) (k _ (gp _ _ _))))
  by_cases h1 : i < 0
  · rw [if_pos (decide_eq_true h1)]
    exact e0 _
  · rw [if_neg (by simpa using h1)]
    refine ifp (by decide) ?_
    by_cases h2 : (10 : Int) ^ Int.toNat 18 ≤ i
    · rw [if_pos (decide_eq_true h2)]
      exact e0 _
    · rw [if_neg (by rw [decide_eq_true_eq]; exact h2)]
      exact e0 _
theorem cell_ok {is : List Int} {r : Int} {S : Sto} (g : WS S) (h0 : 0 ≤ r) (h2 : r < 12) : ∃ v : Int, m__law_cell [.arr (is.map W.int), .int r] S = .ok (.int v) S := by
  suffices h : Sat (m__law_cell [.arr (is.map W.int), .int r] S) fun w S' => ∃ v : Int, w = .int v ∧ S' = S by
    cases e : m__law_cell [.arr (is.map W.int), .int r] S with
    | ok w S' =>
      rw [e] at h
      obtain ⟨v, rfl, rfl⟩ := h
      exact ⟨v, rfl⟩
    | stuck => rw [e] at h; exact h.elim
    | err x S' => rw [e] at h; exact h.elim
  simp only [m__law_cell, c__law_cell, sats]
  by_cases h1 : r < ((is.map W.int).length : Nat)
  · rw [if_pos (decide_eq_true h1)]
    obtain ⟨w, hw, e⟩ := at_in h0 h1
    obtain ⟨v, _, rfl⟩ := List.mem_map.mp hw
    refine ⟨_, e, ?_⟩
    rw [fin_int g]
    exact ⟨v, rfl, rfl⟩
  · rw [if_neg (by rw [decide_eq_true_eq]; exact h1)]
    refine ifp (by omega) (ifp (by omega) (ifp (.inl (by decide)) (ifp (by decide) ⟨_, rfl, ?_⟩)))
    refine loop_inv (I := fun ws ρ S' => ∃ v o, ρ = [some (.arr (is.map W.int)), some (.int r), some (.int v), o] ∧ S' = S ∧ ∀ w, w ∈ ws → ∃ i, w = .int i) ?_ ?_ _ _ _ ⟨_, _, rfl, rfl, fun w hw => ?_⟩
    · rintro ρ S' ⟨v, o, rfl, rfl, _⟩
      simp only [sats]
      rw [fin_int g]
      exact ⟨v, rfl, rfl⟩
    · rintro w ws ρ S' ⟨v, o, rfl, rfl, hw⟩
      obtain ⟨i, rfl⟩ := hw w List.mem_cons_self
      simp only [sats]
      refine ifp (.inr (by decide)) (ifp (by decide) ?_)
      exact ⟨_, _, rfl, trivial, fun u hu => hw u (List.mem_cons_of_mem _ hu)⟩
    · have := List.mem_of_mem_drop (List.mem_of_mem_take hw)
      obtain ⟨v, _, rfl⟩ := List.mem_map.mp this
      exact ⟨v, rfl⟩
theorem bools_true : ∀ {acc : List W}, (∀ w, w ∈ acc → w = .bl true) → bools acc = some (acc.map fun _ => true)
  | [], _ => rfl
  | w :: ws, h => by
    rw [h w List.mem_cons_self]
    show (bools ws).map _ = _
    rw [bools_true fun u hu => h u (List.mem_cons_of_mem _ hu)]
    rfl
def turns (L : Int) : Int := if (if 12 < L then 12 else L) > 3 then (if 12 < L then 12 else L) else 3
theorem turns_bd (L : Int) : 3 ≤ turns L ∧ turns L ≤ 12 := by
  unfold turns
  split
  · split <;> omega
  · omega
theorem law_sat {is : List Int} : Sat (m_law [.arr (is.map W.int)] []) fun w S' => w = .bl true := by
  simp only [m_law, c_law, sats]
  refine ⟨turns ((is.map W.int).length : Nat), rfl, ?_⟩
  have hb := turns_bd ((is.map W.int).length : Nat)
  generalize turns ((is.map W.int).length : Nat) = m at hb
  refine ⟨by omega, by omega, ?_⟩
  refine lc_inv (I := fun ws acc S' => (∃ n, Gd n [] S') ∧ acc.length + ws.length ≤ 12 ∧ (∀ w, w ∈ acc → w = .bl true) ∧ ∀ w, w ∈ ws → ∃ r, w = .int r ∧ 0 ≤ r ∧ r < 12) ?_ ?_ _ _ _ ⟨⟨0, ⟨rfl, rfl, fun j o h => absurd h (Nat.not_lt_zero _), fun o h => by cases h⟩⟩, ?_, fun _ h => by (cases h), fun w hw => ?_⟩
  · rintro acc S' ⟨_, _, hacc, _⟩
    refine ⟨_, bools_true hacc, ?_⟩
    unfold finW
    simp [belW, Sat]
  · rintro w ws acc S' ⟨⟨n, g⟩, hl, hacc, hws⟩
    obtain ⟨r, rfl, r0, r1⟩ := hws w List.mem_cons_self
    obtain ⟨v, ev⟩ := cell_ok (is := is) g.ws r0 r1
    simp only [sats, sat_eq ev]
    refine heap_sat g fun S1 g1 => right_sat g1 (Nat.lt_succ_self n) fun S2 g2 => ?_
    simp only [List.length_cons] at hl
    refine ⟨by show _ < 2 ^ 24; omega, ⟨_, g2⟩, by simp; omega, ?_, fun u hu => hws u (List.mem_cons_of_mem _ hu)⟩
    intro u hu
    rcases List.mem_append.mp hu with hu | hu
    · exact hacc u hu
    · exact List.mem_singleton.mp hu
  · simp only [rngW, List.length_nil, Nat.zero_add, List.length_map, List.length_range]
    omega
  · obtain ⟨i, hi, rfl⟩ := List.mem_map.mp hw
    have := List.mem_range.mp hi
    exact ⟨_, rfl, by omega, by omega⟩
end Lw

namespace Lw
open PySem Mm L2
theorem law_ans {ns : List Int} : ∃ S', m_law [.arr (ns.map W.int)] [] = .ok (.bl true) S' := by
  have h := law_sat (is := ns)
  cases e : m_law [.arr (ns.map W.int)] [] with
  | ok w S' =>
    rw [e] at h
    have h' : w = .bl true := h
    rw [h']
    exact ⟨S', rfl⟩
  | stuck => rw [e] at h; exact h.elim
  | err x S' => rw [e] at h; exact h.elim
end Lw

open PySem PySem.W PySem.Calls PyProof.Rows
theorem PySem.Challenge.cw_fencelanes_k01_names_and_commands_holds : PySem.Challenge.rw_fencelanes_k01_names_and_commands.Holds := by
  w_on; o_law
  refine HandSHeadRun.head_any (r := OpenLaw.row PySem.Challenge.rw_fencelanes_k01_names_and_commands) (q := view (OpenLaw.row PySem.Challenge.rw_fencelanes_k01_names_and_commands).prog [36]) (H := Lw.hk) (ob := Lw.ob) (M := 9000) (loose := Lw.loose) (d := HandSHeadRun.topDef (OpenLaw.row PySem.Challenge.rw_fencelanes_k01_names_and_commands).prog 36) (kwd := []) Lw.ob_eq
    (by kernel_rfl) (fun s => by kernel_rfl) Lw.run (by kernel_rfl) (by kernel_rfl) (by kernel_rfl) (by rfl) (by first | assumption | decide +kernel) (by decide +kernel) ⟨rfl, rfl, rfl, rfl, rfl, by decide +kernel⟩ ?hw ?hc
  case hw => w_witness2
  case hc =>
    refine L2.walk_ofE (l := PySem.Challenge.rw_fencelanes_k01_names_and_commands) (n := 63) (k := 7) (x := "_law_script") (CX := L2.CX0) rfl (by decide) (by kernel_rfl) ⟨rfl, by decide, by decide⟩ ?F (fun _ _ _ _ z => z)
    intro w mg fa h Y G hmg0
    obtain ⟨K, KX, c⟩ := Y
    have T := Lw.txt_of KX G c
    have hmg : mg ("law" : PySem.Str) = some (.ref fa) := by
      have e : (HandSHeadRun.topDef (OpenLaw.row PySem.Challenge.rw_fencelanes_k01_names_and_commands).prog 36).name = ("law" : PySem.Str) := by kernel_rfl
      rw [← e]
      exact hmg0
    have e := hmg.symm.trans T.g_law
    cases e
    obtain ⟨fd, F⟩ := T.d_law
    have b := L2.FunD.bindsA (ps := ["_law_script"]) F fun _ _ _ _ _ _ us hl => match us, hl with | [_], _ => rfl
    exact ⟨K, fd, Mm.sp0 K 1 Lw.m_law, KX, fun s v => b s [v] rfl, fun H a ns hl hO hS => Mm.sp_start hO hS Lw.law_ans _, fun base _ _ => Lw.fn_law T F⟩

